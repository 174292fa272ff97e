import PyProof.Rows.All
import Wide.All
import OpenK.AllK
import Wide.FinOn
import HandS.ForMost
import HandS.Exc
import HandS.TryOnly
import HandS.ExcOwn
import HandS.WordsExc
import HandS.Codes
import HandS.Conv
import HandS.TupAny
import HandS.TupMul
import HandS.Zip
import HandS.Rev
import HandS.Style
import HandS.SetFor
import HandS.IsInst
import HandS.Wide
import HandS.Flow
import HandS.SortKw
import HandS.RevRange
import HandS.Lambda
import HandS.EndTab
import HandS.Walk
import KE.GoesEnum
import HandS.ExcIs
import KE.DataMinMax
import HandS.SortInts
import HandS.SortRule
import HandS.Flt
import PyProof.ZipIter
import KE.KItemsList
import HandS.ExcValue
import HandS.Text
import HandS.StrMore
import HandS.StrSplit
import KE.KTupSum
import HandS.WideBits
import HandS.Deep
import HandS.Dict
import HandS.Strs
import PyProof.Rows.RowBridgeK
import KE.GoesMore
import HandS.Nested
import KE.SortKeyHeap
import HandS.Iter
import HandS.TupSets
import PySem.Challenge.RW_dipkin_k14_whole_all_small_trees
set_option Elab.async false
set_option linter.all false
set_option maxRecDepth 100000
set_option maxHeartbeats 1000000
/-! A layer of words over plain data: each name of a def holds a plain value. -/
namespace GL
open PySem L2
abbrev Sg := List (Option V)

/-- how a value stands for plain data, in a heap -/
structure Rl (α : Type) where
  is : Hp → V → α → Prop
  mono : ∀ {H H' : Hp} {v : V} {a : α}, Same H H' → is H v a → is H' v a

def All2 {α : Type} (p : V → α → Prop) : List V → List α → Prop
  | [], [] => True
  | x :: xs, a :: l => p x a ∧ All2 p xs l
  | _, _ => False
theorem All2.imp {α : Type} {p q : V → α → Prop} (h : ∀ v a, p v a → q v a) : ∀ {xs : List V} {l : List α}, All2 p xs l → All2 q xs l
  | [], [], _ => trivial
  | _ :: _, _ :: _, ⟨a, b⟩ => ⟨h _ _ a, All2.imp h b⟩
theorem All2.len {α : Type} {p : V → α → Prop} : ∀ {xs : List V} {l : List α}, All2 p xs l → xs.length = l.length
  | [], [], _ => rfl
  | _ :: _, _ :: _, ⟨_, b⟩ => by rw [List.length_cons, List.length_cons, All2.len b]
theorem All2.get {α : Type} {p : V → α → Prop} : ∀ {xs : List V} {l : List α} {i : Nat} {a : α}, All2 p xs l → l[i]? = some a → ∃ v, xs[i]? = some v ∧ p v a
  | [], [], _, _, _, e => by simp at e
  | x :: _, b :: _, 0, a, ⟨h, _⟩, e => by simp at e; subst e; exact ⟨x, rfl, h⟩
  | _ :: _, _ :: _, i + 1, a, ⟨_, t⟩, e => by
    obtain ⟨v, h1, h2⟩ := All2.get (i := i) (a := a) t (by simpa using e)
    exact ⟨v, by simpa using h1, h2⟩
theorem All2.app {α : Type} {p : V → α → Prop} : ∀ {xs ys : List V} {l m : List α}, All2 p xs l → All2 p ys m → All2 p (xs ++ ys) (l ++ m)
  | [], _, [], _, _, h => h
  | _ :: _, _, _ :: _, _, ⟨a, b⟩, h => ⟨a, All2.app b h⟩
theorem All2.set {α : Type} {p : V → α → Prop} {v : V} {a : α} (h : p v a) : ∀ {xs : List V} {l : List α} (i : Nat), All2 p xs l → All2 p (xs.set i v) (l.set i a)
  | [], [], _, _ => trivial
  | _ :: _, _ :: _, 0, ⟨_, b⟩ => ⟨h, b⟩
  | _ :: _, _ :: _, i + 1, ⟨x, b⟩ => ⟨x, All2.set h i b⟩
theorem All2.take {α : Type} {p : V → α → Prop} : ∀ {xs : List V} {l : List α} (n : Nat), All2 p xs l → All2 p (xs.take n) (l.take n)
  | [], [], n, _ => by simp [All2]
  | _ :: _, _ :: _, 0, _ => trivial
  | _ :: _, _ :: _, n + 1, ⟨a, b⟩ => ⟨a, All2.take n b⟩
theorem All2.drop {α : Type} {p : V → α → Prop} : ∀ {xs : List V} {l : List α} (n : Nat), All2 p xs l → All2 p (xs.drop n) (l.drop n)
  | [], [], n, _ => by simp [All2]
  | _ :: _, _ :: _, 0, h => h
  | _ :: _, _ :: _, n + 1, ⟨_, b⟩ => All2.drop n b
theorem All2.ins {α : Type} {p : V → α → Prop} {v : V} {a : α} (h : p v a) : ∀ {xs : List V} {l : List α} (i : Nat), All2 p xs l → All2 p (xs.take i ++ v :: xs.drop i) (l.take i ++ a :: l.drop i) :=
  fun i t => (t.take i).app ⟨h, t.drop i⟩
theorem All2.erase {α : Type} {p : V → α → Prop} : ∀ {xs : List V} {l : List α} (n : Nat), All2 p xs l → All2 p (xs.eraseIdx n) (l.eraseIdx n)
  | [], [], n, _ => trivial
  | _ :: _, _ :: _, 0, ⟨_, b⟩ => b
  | _ :: _, _ :: _, n + 1, ⟨a, b⟩ => ⟨a, All2.erase n b⟩
theorem All2.dropLast {α : Type} {p : V → α → Prop} {xs : List V} {l : List α} (h : All2 p xs l) : All2 p xs.dropLast l.dropLast := by
  rw [List.dropLast_eq_take, List.dropLast_eq_take, h.len]
  exact h.take _
/-- flat items: the values are a map -/
theorem All2.map_eq {α : Type} {p : V → α → Prop} {f : α → V} (h : ∀ v a, p v a → v = f a) : ∀ {xs : List V} {l : List α}, All2 p xs l → xs = l.map f
  | [], [], _ => rfl
  | x :: xs, a :: l, ⟨q, b⟩ => by rw [List.map_cons, h _ _ q, All2.map_eq h b]
/-! ### kinds of data -/
def rInt : Rl Int := ⟨fun _ v i => v = .int i, fun _ h => h⟩
def rBool : Rl Bool := ⟨fun _ v b => v = .bl b, fun _ h => h⟩
def rStr : Rl Str := ⟨fun _ v b => v = .str b, fun _ h => h⟩
def rNone : Rl Unit := ⟨fun _ v _ => v = .non, fun _ h => h⟩
def rOpt {α : Type} (R : Rl α) : Rl (Option α) := ⟨fun H v o => match o with | none => v = .non | some a => R.is H v a ∧ v ≠ .non, fun {H H' v o} s h => by
  cases o with
  | none => exact h
  | some a => exact ⟨R.mono s h.1, h.2⟩⟩
def rList {α : Type} (R : Rl α) : Rl (List α) := ⟨fun H v l => ∃ p xs, v = .ref p ∧ H p = some (.lst xs) ∧ All2 (R.is H) xs l,
  fun s ⟨p, xs, e, h, t⟩ => ⟨p, xs, e, s _ _ h, t.imp fun _ _ => R.mono s⟩⟩
theorem rd_mono {H H' : Hp} {p : Addr} {u : HO} (s : ∀ q o, H q = some o → H' q = some o) (h : Rd H p u) : Rd H' p u := h.imp (s _ _) fun ⟨o, h⟩ => ⟨o, s _ _ h⟩
def rTup {α : Type} (R : Rl α) : Rl (List α) := ⟨fun H v l => ∃ p xs, v = .ref p ∧ Rd H p (.tup xs) ∧ All2 (R.is H) xs l,
  fun s ⟨p, xs, e, h, t⟩ => ⟨p, xs, e, rd_mono s h, t.imp fun _ _ => R.mono s⟩⟩
/-- a list or a tuple -/
def rSeq {α : Type} (R : Rl α) : Rl (List α) := ⟨fun H v l => ∃ p xs, v = .ref p ∧ (H p = some (.lst xs) ∨ Rd H p (.tup xs)) ∧ All2 (R.is H) xs l,
  fun s ⟨p, xs, e, h, t⟩ => ⟨p, xs, e, h.imp (s _ _) (rd_mono s), t.imp fun _ _ => R.mono s⟩⟩
def rPair {α β : Type} (R : Rl α) (S : Rl β) : Rl (α × β) := ⟨fun H v l => ∃ p x y, v = .ref p ∧ H p = some (.tup [x, y]) ∧ R.is H x l.1 ∧ S.is H y l.2,
  fun s ⟨p, x, y, e, h, t, u⟩ => ⟨p, x, y, e, s _ _ h, R.mono s t, S.mono s u⟩⟩
def rTrip {α β γ : Type} (R : Rl α) (S : Rl β) (T : Rl γ) : Rl (α × β × γ) := ⟨fun H v l => ∃ p x y z, v = .ref p ∧ Rd H p (.tup [x, y, z]) ∧ R.is H x l.1 ∧ S.is H y l.2.1 ∧ T.is H z l.2.2,
  fun s ⟨p, x, y, z, e, h, t, u, w⟩ => ⟨p, x, y, z, e, rd_mono s h, R.mono s t, S.mono s u, T.mono s w⟩⟩
/-- the heap does not matter -/
def Flat {α : Type} (R : Rl α) : Prop := ∀ H H' v a, R.is H v a → R.is H' v a
theorem fl_int : Flat rInt := fun _ _ _ _ h => h
theorem fl_bool : Flat rBool := fun _ _ _ _ h => h
theorem fl_str : Flat rStr := fun _ _ _ _ h => h
/-! ### the world of a running def -/
/-- tables of code objects, each with the name that its code objects bear -/
structure Tbs where
  l : List (Addr × Str)
  u : ∀ P q q', (P, q) ∈ l → (P, q') ∈ l → q = q'
def Tbs.nil : Tbs := ⟨[], fun _ _ _ h => nomatch h⟩
def Tbs.ads (T : Tbs) : List Addr := T.l.map Prod.fst
structure Cn where
  H0 : Hp
  vs0 : List Addr
  PI : HO → Prop
  F : Hp
  /-- a table of code objects that grows, the name that those bear; the ones known at the entry -/
  tb : Tbs
  kn : Hp
def Cn.isT (C : Cn) (p : Addr) : Prop := ∃ q, (p, q) ∈ C.tb.l
/-- each code object that the table tells is known, by its name -/
def Cods (q : Str) (G : Hp) (ps : Array Value) : Prop := TriplesOk ps.toList ∧ ∀ (pos : Pos) (cv : Value), codeAmong pos ps.toList = some cv → ∃ c, cv = .ref c ∧ G c = some (LamX.CodeO c q)
theorem Cods.mono {q : Str} {G G' : Hp} {ps : Array Value} (s : Same G G') (h : Cods q G ps) : Cods q G' ps := ⟨h.1, fun pos cv e => by
  obtain ⟨c, e1, e2⟩ := h.2 pos cv e
  exact ⟨c, e1, s _ _ e2⟩⟩
structure Wd where
  H : Hp
  G : Hp
  vs : List Addr
inductive Lv where
  | g | m | h
  deriving DecidableEq
open Classical in
def hid (H : Hp) (vs : List Addr) : Hp := fun p => if p ∈ vs then none else H p
theorem hid_in {H : Hp} {vs : List Addr} {p : Addr} (h : p ∈ vs) : hid H vs p = none := by unfold hid; rw [if_pos h]
theorem hid_out {H : Hp} {vs : List Addr} {p : Addr} (h : p ∉ vs) : hid H vs p = H p := by unfold hid; rw [if_neg h]
theorem hid_some {H : Hp} {vs : List Addr} {p : Addr} {o : HO} (h : hid H vs p = some o) : p ∉ vs ∧ H p = some o := by
  by_cases q : p ∈ vs
  · rw [hid_in q] at h; cases h
  · rw [hid_out q] at h; exact ⟨q, h⟩
theorem hid_nil {H : Hp} : hid H [] = H := by
  funext p
  exact hid_out (by simp)
def jn (B G : Hp) : Hp := fun p => match B p with | some o => some o | none => G p
theorem jn_l {B G : Hp} : Same B (jn B G) := fun p o h => by unfold jn; rw [h]
theorem jn_some {B G : Hp} {p : Addr} {o : HO} (h : jn B G p = some o) : B p = some o ∨ (B p = none ∧ G p = some o) := by
  unfold jn at h
  cases q : B p with
  | some u => rw [q] at h; exact .inl h
  | none => rw [q] at h; exact .inr ⟨rfl, h⟩
theorem jn_r {B G : Hp} {p : Addr} (h : B p = none) : jn B G p = G p := by unfold jn; rw [h]
def Mw (C : Cn) (W : Wd) : Hp := jn (hid C.H0 C.vs0) W.G
def Hm (W : Wd) : Hp := hid W.H W.vs
def wl (C : Cn) (W : Wd) : Lv → Hp
  | .g => W.G
  | .m => Mw C W
  | .h => Hm W
structure Bok (C : Cn) (W : Wd) : Prop where
  base : ∀ p o, C.H0 p = some o → p ∉ C.vs0 → W.H p = some o
  vol : ∀ p ∈ W.vs, ∃ o, W.H p = some o ∧ (¬ C.isT p → C.PI o)
  vsub : ∀ p ∈ C.vs0, p ∈ W.vs
  vnew : ∀ p ∈ W.vs, p ∉ C.vs0 → C.H0 p = none
  v0 : ∀ p ∈ C.vs0, C.H0 p ≠ none
  gv : ∀ p ∈ W.vs, W.G p = none
  g : ∀ p o, W.G p = some o → W.H p = some o
  gn : ∀ p o, W.G p = some o → C.H0 p = none
  fl : Same C.F W.G
  tab : ∀ P q, (P, q) ∈ C.tb.l → P ∈ W.vs ∧ ∃ ps, W.H P = some (.tbl ps) ∧ Cods q (jn C.kn W.G) ps
  knb : Same C.kn (hid C.H0 C.vs0)
structure Stp (W W' : Wd) : Prop where
  vs : W'.vs = W.vs
  g : Same W.G W'.G
  h : Same (Hm W) (Hm W')
  new : ∀ p o, W'.G p = some o → W.G p = some o ∨ W.H p = none
theorem Stp.refl (W : Wd) : Stp W W := ⟨rfl, Same.refl _, Same.refl _, fun _ _ h => .inl h⟩
theorem Bok.back {C : Cn} {W W' : Wd} (b : Bok C W) (b' : Bok C W') (s : Stp W W') {p : Addr} (h : W'.H p = none) : W.H p = none := by
  cases q : W.H p with
  | none => rfl
  | some o =>
    by_cases hv : p ∈ W.vs
    · obtain ⟨u, hu, _⟩ := b'.vol p (by rw [s.vs]; exact hv)
      rw [h] at hu; cases hu
    · have e : Hm W p = some o := (hid_out hv).trans q
      have e' := (hid_some (s.h _ _ e)).2
      rw [h] at e'; cases e'
theorem Stp.trans {C : Cn} {W W1 W2 : Wd} (b : Bok C W) (b1 : Bok C W1) (s : Stp W W1) (t : Stp W1 W2) : Stp W W2 :=
  ⟨t.vs.trans s.vs, s.g.trans t.g, s.h.trans t.h, fun p o h => by
    rcases t.new p o h with h | h
    · exact s.new p o h
    · exact .inr (b.back b1 s h)⟩
theorem Bok.gm {C : Cn} {W : Wd} (b : Bok C W) : Same W.G (Mw C W) := fun p o h => by
  unfold Mw
  rw [jn_r ?_]
  · exact h
  · by_cases hv : p ∈ C.vs0
    · exact hid_in hv
    · rw [hid_out hv]; exact b.gn _ _ h
theorem Bok.novs {C : Cn} {W : Wd} (b : Bok C W) {p : Addr} {o : HO} (h : W.G p = some o) : p ∉ W.vs := fun q => by
  rw [b.gv p q] at h; cases h
theorem Bok.mh {C : Cn} {W : Wd} (b : Bok C W) : Same (Mw C W) (Hm W) := fun p o h => by
  rcases jn_some h with h | ⟨_, h⟩
  · obtain ⟨h1, h2⟩ := hid_some h
    have hn : p ∉ W.vs := fun q => by
      have := b.vnew p q h1
      rw [h2] at this; cases this
    unfold Hm
    rw [hid_out hn]
    exact b.base p o h2 h1
  · unfold Hm
    rw [hid_out (b.novs h)]
    exact b.g _ _ h
theorem Bok.up {C : Cn} {W : Wd} (b : Bok C W) : ∀ ℓ : Lv, Same (wl C W ℓ) (Hm W)
  | .g => b.gm.trans b.mh
  | .m => b.mh
  | .h => Same.refl _
theorem Stp.lv {C : Cn} {W W' : Wd} (b : Bok C W) (s : Stp W W') : ∀ ℓ : Lv, Same (wl C W ℓ) (wl C W' ℓ)
  | .g => s.g
  | .m => fun p o h => by
    rcases jn_some h with h | ⟨n, h⟩
    · exact jn_l _ _ h
    · show jn _ _ p = some o
      rw [jn_r n]
      exact s.g _ _ h
  | .h => s.h
theorem Bok.hm {C : Cn} {W : Wd} {p : Addr} {o : HO} (h : Hm W p = some o) : W.H p = some o := (hid_some h).2
theorem Bok.h0 {C : Cn} {W : Wd} (b : Bok C W) {p : Addr} (h : W.H p = none) : C.H0 p = none := by
  cases q : C.H0 p with
  | none => rfl
  | some o =>
    by_cases hv : p ∈ C.vs0
    · obtain ⟨u, hu, _⟩ := b.vol p (b.vsub p hv)
      rw [h] at hu; cases hu
    · rw [b.base p o q hv] at h; cases h
theorem Bok.nvs {C : Cn} {W : Wd} (b : Bok C W) {p : Addr} (h : W.H p = none) : p ∉ W.vs := fun q => by
  obtain ⟨u, hu, _⟩ := b.vol p q
  rw [h] at hu; cases hu
theorem Bok.g0 {C : Cn} {W : Wd} (b : Bok C W) {p : Addr} (h : W.H p = none) : W.G p = none := by
  cases q : W.G p with
  | none => rfl
  | some o => rw [b.g _ _ q] at h; cases h
/-- a new object, not tracked as ours -/
def Wd.lay (W : Wd) (p : Addr) (o : HO) : Wd := ⟨upd W.H p o, W.G, W.vs⟩
/-- .. put among what never changes -/
def Wd.put (W : Wd) (p : Addr) (o : HO) : Wd := ⟨upd W.H p o, upd W.G p o, W.vs⟩
theorem jn_mono {B G G' : Hp} (s : Same G G') : Same (jn B G) (jn B G') := fun p o h => by
  rcases jn_some h with h | ⟨n, h⟩
  · exact jn_l _ _ h
  · rw [jn_r n]; exact s _ _ h
theorem same_upd {G : Hp} {p : Addr} {o : HO} (h : G p = none) : Same G (upd G p o) := fun q u e => by
  rw [upd_ne (ne_of_none e h)]; exact e
theorem Bok.lay {C : Cn} {W : Wd} (b : Bok C W) {p : Addr} {o : HO} (h : C.H0 p = none) (hv : p ∉ W.vs) (hg : W.G p = none) : Bok C (W.lay p o) where
  base := fun q u e n => by
    have ne : q ≠ p := ne_of_none e h
    show upd W.H p o q = _
    rw [upd_ne ne]; exact b.base q u e n
  vol := fun q hq => by
    have ne : q ≠ p := fun z => hv (z ▸ hq)
    show ∃ u, upd W.H p o q = some u ∧ _
    rw [upd_ne ne]; exact b.vol q hq
  vsub := b.vsub
  vnew := b.vnew
  v0 := b.v0
  gv := b.gv
  g := fun q u e => by
    have ne : q ≠ p := ne_of_none e hg
    show upd W.H p o q = _
    rw [upd_ne ne]; exact b.g q u e
  gn := b.gn
  fl := b.fl
  tab := fun P q e => by
    obtain ⟨h1, ps, h2, h3⟩ := b.tab P q e
    refine ⟨h1, ps, ?_, h3⟩
    have ne : P ≠ p := fun z => hv (z ▸ h1)
    show upd W.H p o P = _
    rw [upd_ne ne]; exact h2
  knb := b.knb
theorem Bok.put {C : Cn} {W : Wd} (b : Bok C W) {p : Addr} {o : HO} (h : C.H0 p = none) (hv : p ∉ W.vs) (hg : W.G p = none) : Bok C (W.put p o) where
  base := (b.lay h hv hg).base
  vol := (b.lay h hv hg).vol
  vsub := b.vsub
  vnew := b.vnew
  v0 := b.v0
  gv := fun q hq => by
    have ne : q ≠ p := fun z => hv (z ▸ hq)
    show upd W.G p o q = none
    rw [upd_ne ne]; exact b.gv q hq
  g := fun q u e => by
    by_cases z : q = p
    · subst z
      have e' : upd W.G q o q = some u := e
      show upd W.H q o q = some u
      rw [upd_same] at e' ⊢; exact e'
    · have e' : upd W.G p o q = some u := e
      rw [upd_ne z] at e'
      exact (b.lay h hv hg).g q u e'
  gn := fun q u e => by
    by_cases z : q = p
    · rw [z]; exact h
    · have e' : upd W.G p o q = some u := e
      rw [upd_ne z] at e'
      exact b.gn q u e'
  fl := fun q u e => by
    have e' := b.fl q u e
    show upd W.G p o q = _
    rw [upd_ne (ne_of_none e' hg)]; exact e'
  tab := fun P q e => by
    obtain ⟨h1, ps, h2, h3⟩ := (b.lay (o := o) h hv hg).tab P q e
    exact ⟨h1, ps, h2, h3.mono (jn_mono (same_upd hg))⟩
  knb := b.knb
theorem Stp.lay {C : Cn} {W : Wd} (b : Bok C W) {p : Addr} {o : HO} (h : W.H p = none) : Stp W (W.lay p o) :=
  ⟨rfl, Same.refl _, fun q u e => by
    obtain ⟨e1, e2⟩ := hid_some e
    show hid (upd W.H p o) W.vs q = _
    rw [hid_out e1, upd_ne (ne_of_none e2 h)]; exact e2, fun _ _ e => .inl e⟩
theorem Stp.put {C : Cn} {W : Wd} (b : Bok C W) {p : Addr} {o : HO} (h : W.H p = none) : Stp W (W.put p o) :=
  ⟨rfl, fun q u e => by
    show upd W.G p o q = _
    rw [upd_ne (ne_of_none e (b.g0 h))]; exact e, (Stp.lay b h).h, fun q u e => by
    by_cases z : q = p
    · subst z; exact .inr h
    · have e' : upd W.G p o q = some u := e
      rw [upd_ne z] at e'
      exact .inl e'⟩
/-- what stands there already (not ours) is put among what never changes -/
def Wd.frz (W : Wd) (p : Addr) (o : HO) : Wd := ⟨W.H, upd W.G p o, W.vs⟩
theorem Bok.frz {C : Cn} {W : Wd} (b : Bok C W) {p : Addr} {o : HO} (h : C.H0 p = none) (hv : p ∉ W.vs) (hp : W.H p = some o) (hg : W.G p = none) : Bok C (W.frz p o) where
  base := b.base
  vol := b.vol
  vsub := b.vsub
  vnew := b.vnew
  v0 := b.v0
  gv := fun q hq => by
    have ne : q ≠ p := fun z => hv (z ▸ hq)
    show upd W.G p o q = none
    rw [upd_ne ne]; exact b.gv q hq
  g := fun q u e => by
    by_cases z : q = p
    · subst z
      have e' : upd W.G q o q = some u := e
      rw [upd_same] at e'
      show W.H q = _
      rw [hp]; exact e'
    · have e' : upd W.G p o q = some u := e
      rw [upd_ne z] at e'
      exact b.g q u e'
  gn := fun q u e => by
    by_cases z : q = p
    · rw [z]; exact h
    · have e' : upd W.G p o q = some u := e
      rw [upd_ne z] at e'
      exact b.gn q u e'
  fl := fun q u e => by
    have e' := b.fl q u e
    show upd W.G p o q = _
    rw [upd_ne (ne_of_none e' hg)]; exact e'
  tab := fun P q e => by
    obtain ⟨h1, ps, h2, h3⟩ := b.tab P q e
    exact ⟨h1, ps, h2, h3.mono (jn_mono (same_upd hg))⟩
  knb := b.knb

/-! ### what the names hold -/
/-- an object of ours, of any make, over the addresses ps: K what is known, A the heap itself -/
structure Ob (α : Type) where
  is : Hp → Hp → V → List Addr → α → Prop
  mono : ∀ {K K' A A' : Hp} {v : V} {ps : List Addr} {a : α}, Same K K' → (∀ p ∈ ps, A' p = A p) → is K A v ps a → is K' A' v ps a
inductive Ent : Type 1 where
  | no : Ent
  | val {α : Type} (ℓ : Lv) (R : Rl α) (a : α) : Ent
  | own {α : Type} (p : Addr) (ℓ : Lv) (R : Rl α) (l : List α) : Ent
  | vol (p : Addr) : Ent
  | raw (v : V) : Ent
  | ob {α : Type} (v : V) (ps : List Addr) (ℓ : Lv) (S : Ob α) (a : α) : Ent
def Ent.ads : Ent → List Addr
  | .own p _ _ _ => [p]
  | .ob _ ps _ _ _ => ps
  | _ => []
/-- p is an address of ours, held at the name i -/
def adAt (Γ : List Ent) (i : Nat) (p : Addr) : Prop := ∃ e, Γ[i]? = some e ∧ p ∈ e.ads
theorem adAt.own {Γ : List Ent} {i : Nat} {α : Type} {p : Addr} {ℓ : Lv} {R : Rl α} {l : List α} (h : Γ[i]? = some (.own p ℓ R l)) : adAt Γ i p := ⟨_, h, List.mem_singleton.mpr rfl⟩
theorem adAt.ob {Γ : List Ent} {i : Nat} {α : Type} {v : V} {ps : List Addr} {q : Addr} {ℓ : Lv} {S : Ob α} {l : α} (h : Γ[i]? = some (.ob v ps ℓ S l)) (hq : q ∈ ps) : adAt Γ i q := ⟨_, h, hq⟩
def EntOk (C : Cn) (W : Wd) (x : Option V) : Ent → Prop
  | .no => True
  | .val ℓ R a => ℓ ≠ .h ∧ ∃ v, x = some v ∧ R.is (wl C W ℓ) v a
  | .own p ℓ R l => ℓ ≠ .h ∧ x = some (.ref p) ∧ p ∉ W.vs ∧ C.H0 p = none ∧ W.G p = none ∧ ∃ xs, W.H p = some (.lst xs) ∧ All2 (R.is (wl C W ℓ)) xs l
  | .vol p => x = some (.ref p) ∧ p ∈ W.vs ∧ ¬ C.isT p
  | .raw v => x = some v
  | .ob v ps ℓ S a => ℓ ≠ .h ∧ x = some v ∧ (∀ p ∈ ps, p ∉ W.vs ∧ C.H0 p = none ∧ W.G p = none ∧ W.H p ≠ none) ∧ S.is (wl C W ℓ) W.H v ps a
structure World (C : Cn) (σ : Sg) (W : Wd) (Γ : List Ent) : Prop where
  b : Bok C W
  len : σ.length = Γ.length
  ent : ∀ (i : Nat) (e : Ent), Γ[i]? = some e → ∃ x, σ[i]? = some x ∧ EntOk C W x e
  dis : ∀ (i j : Nat) (p q : Addr), i ≠ j → adAt Γ i p → adAt Γ j q → p ≠ q
/-- what is ours and not yet known stays so -/
theorem Stp.ours {W W' : Wd} (s : Stp W W') {p : Addr} (hv : p ∉ W.vs) (hg : W.G p = none) (hn : W.H p ≠ none) : W'.H p = W.H p ∧ W'.G p = none := by
  cases e : W.H p with
  | none => exact absurd e hn
  | some o =>
    have e1 : Hm W p = some o := (hid_out hv).trans e
    refine ⟨(hid_some (s.h _ _ e1)).2, ?_⟩
    cases q : W'.G p with
    | none => rfl
    | some u =>
      rcases s.new p u q with z | z
      · rw [hg] at z; cases z
      · rw [e] at z; cases z
theorem EntOk.stp {C : Cn} {W W' : Wd} {x : Option V} (b : Bok C W) (b' : Bok C W') (s : Stp W W') : ∀ {e : Ent}, EntOk C W x e → EntOk C W' x e
  | .no, _ => trivial
  | .val ℓ R a, ⟨n, v, e, h⟩ => ⟨n, v, e, R.mono (s.lv b ℓ) h⟩
  | .own p ℓ R l, ⟨n, e, hv, h0, hg, xs, hx, t⟩ => by
    have e1 : Hm W p = some (.lst xs) := (hid_out hv).trans hx
    refine ⟨n, e, by rw [s.vs]; exact hv, h0, ?_, xs, (hid_some (s.h _ _ e1)).2, t.imp fun _ _ => R.mono (s.lv b ℓ)⟩
    cases q : W'.G p with
    | none => rfl
    | some o =>
      rcases s.new p o q with z | z
      · rw [hg] at z; cases z
      · rw [hx] at z; cases z
  | .vol p, ⟨e, h⟩ => ⟨e, by rw [s.vs]; exact h⟩
  | .raw v, h => h
  | .ob v ps ℓ S a, ⟨n, e, hp, r⟩ => ⟨n, e, fun p m => by
      obtain ⟨h1, h2, h3, h4⟩ := hp p m
      obtain ⟨k1, k2⟩ := s.ours h1 h3 h4
      exact ⟨by rw [s.vs]; exact h1, h2, k2, by rw [k1]; exact h4⟩, S.mono (s.lv b ℓ) (fun p m => (s.ours (hp p m).1 (hp p m).2.2.1 (hp p m).2.2.2).1) r⟩
theorem World.stp {C : Cn} {σ : Sg} {W W' : Wd} {Γ : List Ent} (w : World C σ W Γ) (b' : Bok C W') (s : Stp W W') : World C σ W' Γ :=
  ⟨b', w.len, fun i e h => by
    obtain ⟨x, h1, h2⟩ := w.ent i e h
    exact ⟨x, h1, h2.stp w.b b' s⟩, w.dis⟩
theorem World.get {C : Cn} {σ : Sg} {W : Wd} {Γ : List Ent} (w : World C σ W Γ) {i : Nat} {e : Ent} (h : Γ[i]? = some e) : ∃ x, σ[i]? = some x ∧ EntOk C W x e := w.ent i e h
theorem World.lt {C : Cn} {σ : Sg} {W : Wd} {Γ : List Ent} (w : World C σ W Γ) {i : Nat} {e : Ent} (h : Γ[i]? = some e) : i < σ.length := by
  rw [w.len]
  exact (List.getElem?_eq_some_iff.mp h).1
theorem World.set {C : Cn} {σ : Sg} {W : Wd} {Γ : List Ent} (w : World C σ W Γ) (i : Nat) {x : Option V} {e : Ent} (h : EntOk C W x e) (hd : ∀ p, p ∈ e.ads → ∀ j q, j ≠ i → adAt Γ j q → p ≠ q) : World C (σ.set i x) W (Γ.set i e) := by
  refine ⟨w.b, by rw [List.length_set, List.length_set, w.len], fun j u hj => ?_, fun j k p q hjk hp hq => ?_⟩
  · by_cases z : i = j
    · subst z
      by_cases hl : i < Γ.length
      · rw [List.getElem?_set_self hl] at hj
        cases hj
        exact ⟨x, List.getElem?_set_self (by rw [w.len]; exact hl), h⟩
      · rw [List.getElem?_eq_none (by rw [List.length_set]; omega)] at hj
        cases hj
    · rw [List.getElem?_set_ne z] at hj
      obtain ⟨y, h1, h2⟩ := w.ent j u hj
      exact ⟨y, by rw [List.getElem?_set_ne z]; exact h1, h2⟩
  · have key : ∀ (j : Nat) (p : Addr), adAt (Γ.set i e) j p → (i = j ∧ p ∈ e.ads) ∨ (i ≠ j ∧ adAt Γ j p) := fun j p ⟨u, hu, hm⟩ => by
      by_cases z : i = j
      · subst z
        by_cases hl : i < Γ.length
        · rw [List.getElem?_set_self hl] at hu
          cases hu
          exact .inl ⟨rfl, hm⟩
        · rw [List.getElem?_eq_none (by rw [List.length_set]; omega)] at hu
          cases hu
      · rw [List.getElem?_set_ne z] at hu
        exact .inr ⟨z, u, hu, hm⟩
    rcases key j p hp with ⟨zj, mj⟩ | ⟨zj, aj⟩
    · rcases key k q hq with ⟨zk, _⟩ | ⟨zk, ak⟩
      · exact absurd (zj.symm.trans zk) hjk
      · exact hd p mj k q (Ne.symm zk) ak
    · rcases key k q hq with ⟨zk, mk⟩ | ⟨zk, ak⟩
      · exact Ne.symm (hd q mk j p (Ne.symm zj) aj)
      · exact w.dis j k p q hjk aj ak
/-- own addresses stand in the heap -/
theorem World.adH {C : Cn} {σ : Sg} {W : Wd} {Γ : List Ent} (w : World C σ W Γ) {j : Nat} {q : Addr} (h : adAt Γ j q) : W.H q ≠ none ∧ W.G q = none := by
  obtain ⟨u, e, hm⟩ := h
  obtain ⟨x, h1, h2⟩ := w.ent j u e
  cases u with
  | own p ℓ R l =>
    cases List.mem_singleton.mp hm
    obtain ⟨_, _, _, _, hg, xs, hx, _⟩ := h2
    exact ⟨(by rw [hx]; intro z; cases z), hg⟩
  | ob v ps ℓ S a => exact ⟨(h2.2.2.1 q hm).2.2.2, (h2.2.2.1 q hm).2.2.1⟩
  | no => cases hm
  | val _ _ _ => cases hm
  | vol _ => cases hm
  | raw _ => cases hm
end GL


set_option Elab.async false
set_option linter.all false
set_option maxRecDepth 100000
set_option maxHeartbeats 1000000
namespace GL
open PySem L2
/-! ### what an expression comes to -/
section
variable (C : Cn)
def EvP {α : Type} (te : TE) (Γ : List Ent) (ℓ : Lv) (R : Rl α) (P : α → Prop) : Prop :=
  ∀ σ W, World C σ W Γ → ∀ Q : VK, (∀ v W' a, Stp W W' → Bok C W' → R.is (wl C W' ℓ) v a → P a → Q v W'.H) → te σ W.H Q
abbrev Ev {α : Type} (te : TE) (Γ : List Ent) (ℓ : Lv) (R : Rl α) (a : α) : Prop := EvP C te Γ ℓ R (fun x => x = a)
inductive Kd where
  | l | t | e
def seqAt (k : Kd) (H : Hp) (p : Addr) (xs : List V) : Prop := match k with
  | .l => H p = some (.lst xs)
  | .t => Rd H p (.tup xs)
  | .e => H p = some (.lst xs) ∨ Rd H p (.tup xs)
/-- a list or tuple to be read; c: where it stands, ℓ: where its items stand -/
def EvS {α : Type} (te : TE) (Γ : List Ent) (k : Kd) (c ℓ : Lv) (R : Rl α) (P : List α → Prop) : Prop :=
  ∀ σ W, World C σ W Γ → ∀ Q : VK, (∀ p W' xs l, Stp W W' → Bok C W' → seqAt k (wl C W' c) p xs → All2 (R.is (wl C W' ℓ)) xs l → P l → Q (.ref p) W'.H) → te σ W.H Q
/-- a new list -/
def EvN {α : Type} (te : TE) (Γ : List Ent) (ℓ : Lv) (R : Rl α) (P : List α → Prop) : Prop :=
  ∀ σ W, World C σ W Γ → ∀ Q : VK, (∀ p W' xs l, Stp W W' → Bok C W' → W.H p = none → W'.H p = some (.lst xs) → W'.G p = none → All2 (R.is (wl C W' ℓ)) xs l → P l → Q (.ref p) W'.H) → te σ W.H Q
/-- a test -/
def EvB (tt : TT) (Γ : List Ent) (P : Bool → Prop) : Prop :=
  ∀ σ W, World C σ W Γ → ∀ Q : Bool → Hp → Prop, (∀ b W', Stp W W' → Bok C W' → P b → Q b W'.H) → tt σ W.H Q
abbrev EvC (tt : TT) (Γ : List Ent) (T : Prop) : Prop := EvB C tt Γ (fun b => b = true ↔ T)
/-- arguments -/
inductive Tel : Type 1 where
  | nil : Tel
  | cons {α : Type} (ℓ : Lv) (R : Rl α) (P : α → Prop) (t : Tel) : Tel
  | vol (p : Addr) (t : Tel) : Tel
def Tel.ok (C : Cn) (W : Wd) : Tel → List V → Prop
  | .nil, vs => vs = []
  | .cons ℓ R P t, vs => ∃ v r a, vs = v :: r ∧ R.is (wl C W ℓ) v a ∧ P a ∧ t.ok C W r
  | .vol p t, vs => ∃ r, vs = .ref p :: r ∧ p ∈ W.vs ∧ t.ok C W r
def EvA (ta : TA) (Γ : List Ent) (T : Tel) : Prop :=
  ∀ σ W, World C σ W Γ → ∀ Q : List V → Hp → Prop, (∀ vs W', Stp W W' → Bok C W' → T.ok C W' vs → Q vs W'.H) → ta σ W.H Q
end
section
variable {C : Cn} {Γ : List Ent} {α β γ δ : Type} {R : Rl α} {S : Rl β} {T : Rl γ} {U : Rl δ} {P : α → Prop} {P' : β → Prop} {P3 : γ → Prop} {ta tb tc te : TE} {ℓ ℓ' c c' : Lv} {K : PySem.W.Frag}
theorem Tel.stp {W W' : Wd} (b : Bok C W) (s : Stp W W') : ∀ {t : Tel} {vs : List V}, t.ok C W vs → t.ok C W' vs
  | .nil, _, h => h
  | .cons ℓ R P t, _, ⟨v, r, a, e, h, p, q⟩ => ⟨v, r, a, e, R.mono (s.lv b ℓ) h, p, Tel.stp b s q⟩
  | .vol p t, _, ⟨r, e, h, q⟩ => ⟨r, e, by rw [s.vs]; exact h, Tel.stp b s q⟩
theorem EvP.imp {P2 : α → Prop} (h : EvP C te Γ ℓ R P) (i : ∀ a, P a → P2 a) : EvP C te Γ ℓ R P2 := fun σ W w Q q => h σ W w Q fun v W' a s b r p => q v W' a s b r (i a p)
theorem EvP.toh (h : EvP C te Γ ℓ R P) : EvP C te Γ .h R P := fun σ W w Q q => h σ W w Q fun v W' a s b r p => q v W' a s b (R.mono (b.up ℓ) r) p
theorem EvP.fl (f : Flat R) (h : EvP C te Γ ℓ R P) : EvP C te Γ ℓ' R P := fun σ W w Q q => h σ W w Q fun v W' a s b r p => q v W' a s b (f _ _ _ _ r) p
theorem Ev.eq {a a' : α} (h : Ev C te Γ ℓ R a) (e : a = a') : Ev C te Γ ℓ R a' := h.imp fun x hx => hx.trans e
theorem EvS.imp {k : Kd} {P P2 : List α → Prop} (h : EvS C te Γ k c ℓ R P) (i : ∀ a, P a → P2 a) : EvS C te Γ k c ℓ R P2 := fun σ W w Q q => h σ W w Q fun p W' xs l s b e r z => q p W' xs l s b e r (i l z)
theorem EvN.imp {P P2 : List α → Prop} (h : EvN C te Γ ℓ R P) (i : ∀ a, P a → P2 a) : EvN C te Γ ℓ R P2 := fun σ W w Q q => h σ W w Q fun p W' xs l s b n hH hG r z => q p W' xs l s b n hH hG r (i l z)
theorem EvB.imp {tt : TT} {P P2 : Bool → Prop} (h : EvB C tt Γ P) (i : ∀ b, P b → P2 b) : EvB C tt Γ P2 := fun σ W w Q q => h σ W w Q fun b W' s bk p => q b W' s bk (i b p)
theorem seqAt.mono {k : Kd} {H H' : Hp} {p : Addr} {xs : List V} (s : Same H H') (h : seqAt k H p xs) : seqAt k H' p xs := by
  cases k with
  | l => exact s _ _ h
  | t => exact rd_mono s h
  | e => exact h.imp (s _ _) (rd_mono s)
theorem EvS.toh {k : Kd} {P : List α → Prop} (h : EvS C te Γ k c ℓ R P) : EvS C te Γ k .h .h R P := fun σ W w Q q => h σ W w Q fun p W' xs l s b e r z => q p W' xs l s b (e.mono (b.up c)) (r.imp fun _ _ => R.mono (b.up ℓ)) z
theorem EvS.fl {k : Kd} {P : List α → Prop} (f : Flat R) (h : EvS C te Γ k c ℓ R P) : EvS C te Γ k c ℓ' R P := fun σ W w Q q => h σ W w Q fun p W' xs l s b e r z => q p W' xs l s b e (r.imp fun _ _ => f _ _ _ _) z
theorem es_list {P : List α → Prop} (h : EvP C te Γ ℓ (rList R) P) : EvS C te Γ .l ℓ ℓ R P := fun σ W w Q q => h σ W w Q fun v W' a s b ⟨p, xs, e, h1, h2⟩ z => by subst e; exact q p W' xs a s b h1 h2 z
theorem es_tup {P : List α → Prop} (h : EvP C te Γ ℓ (rTup R) P) : EvS C te Γ .t ℓ ℓ R P := fun σ W w Q q => h σ W w Q fun v W' a s b ⟨p, xs, e, h1, h2⟩ z => by subst e; exact q p W' xs a s b h1 h2 z
theorem es_seq {P : List α → Prop} (h : EvP C te Γ ℓ (rSeq R) P) : EvS C te Γ .e ℓ ℓ R P := fun σ W w Q q => h σ W w Q fun v W' a s b ⟨p, xs, e, h1, h2⟩ z => by subst e; exact q p W' xs a s b h1 h2 z
/-- read as a row of any kind -/
theorem ev_seqL {P : List α → Prop} (h : EvP C te Γ ℓ (rList R) P) : EvP C te Γ ℓ (rSeq R) P := fun σ W w Q q => h σ W w Q fun v W' a s b ⟨p, xs, e, h1, h2⟩ z => q v W' a s b ⟨p, xs, e, .inl h1, h2⟩ z
theorem ev_seqT {P : List α → Prop} (h : EvP C te Γ ℓ (rTup R) P) : EvP C te Γ ℓ (rSeq R) P := fun σ W w Q q => h σ W w Q fun v W' a s b ⟨p, xs, e, h1, h2⟩ z => q v W' a s b ⟨p, xs, e, .inr h1, h2⟩ z
/-! names and constants -/
theorem ev_var {i : Nat} {a : α} (h : Γ[i]? = some (.val ℓ R a)) : Ev C (tVar i) Γ ℓ R a := fun σ W w Q q => by
  obtain ⟨x, h1, _, v, h2, h3⟩ := w.get h
  subst h2
  exact ⟨v, h1, q v W a (Stp.refl W) w.b h3 rfl⟩
theorem es_own {i : Nat} {p : Addr} {l : List α} (h : Γ[i]? = some (.own p ℓ R l)) : EvS C (tVar i) Γ .l .h ℓ R (fun x => x = l) := fun σ W w Q q => by
  obtain ⟨x, h1, _, h2, hv, _, _, xs, h3, h4⟩ := w.get h
  subst h2
  exact ⟨_, h1, q p W xs l (Stp.refl W) w.b ((hid_out hv).trans h3) h4 rfl⟩
/-- a row of ours as an argument -/
theorem ev_own {i : Nat} {p : Addr} {l : List α} (h : Γ[i]? = some (.own p ℓ R l)) : Ev C (tVar i) Γ .h (rList R) l := fun σ W w Q q => by
  obtain ⟨x, h1, _, h2, hv, _, _, xs, h3, h4⟩ := w.get h
  subst h2
  exact ⟨_, h1, q _ W l (Stp.refl W) w.b ⟨p, xs, rfl, (hid_out hv).trans h3, h4.imp fun _ _ => R.mono (w.b.up ℓ)⟩ rfl⟩
theorem ev_int {i : Int} : Ev C (tC (.int i)) Γ ℓ rInt i := fun σ W w Q q => q _ W i (Stp.refl W) w.b rfl rfl
theorem ev_bl {i : Bool} : Ev C (tC (.bl i)) Γ ℓ rBool i := fun σ W w Q q => q _ W i (Stp.refl W) w.b rfl rfl
theorem ev_str {i : Str} : Ev C (tC (.str i)) Γ ℓ rStr i := fun σ W w Q q => q _ W i (Stp.refl W) w.b rfl rfl
theorem ev_non {α : Type} {R : Rl α} : Ev C (tC .non) Γ ℓ (rOpt R) none := fun σ W w Q q => q _ W none (Stp.refl W) w.b rfl rfl
/-! two operands -/
theorem evp_bin {r : R2} {P3 : γ → Prop} (ha : EvP C ta Γ .h R P) (hb : EvP C tb Γ .h S P')
    (hr : ∀ σ W x y a b (Q : VK), World C σ W Γ → R.is (Hm W) x a → S.is (Hm W) y b → P a → P' b → (∀ v W' z, Stp W W' → Bok C W' → T.is (wl C W' ℓ) v z → P3 z → Q v W'.H) → r x y W.H Q) : EvP C (tOp r ta tb) Γ ℓ T P3 := fun σ W w Q q =>
  ha σ W w _ fun x W1 a s1 b1 r1 p1 => hb σ W1 (w.stp b1 s1) _ fun y W2 b s2 b2 r2 p2 =>
    hr σ W2 x y a b Q ((w.stp b1 s1).stp b2 s2) (R.mono (s2.lv b1 .h) r1) r2 p1 p2 fun v W' z s3 b3 r3 p3 =>
      q v W' z ((s1.trans w.b b1 s2).trans w.b b2 s3) b3 r3 p3
theorem evp_I {g : Int → Int → V} {cd : Int → Int → Prop} {P P' : Int → Prop} {T : Rl γ} {f : Int → Int → γ} {P3 : γ → Prop} (ha : EvP C ta Γ .h rInt P) (hb : EvP C tb Γ .h rInt P') (hc : ∀ i j, P i → P' j → cd i j) (hg : ∀ H i j, T.is H (g i j) (f i j)) (hp : ∀ i j, P i → P' j → P3 (f i j)) :
    EvP C (tOp (rI cd g) ta tb) Γ ℓ T P3 := evp_bin ha hb fun σ W x y a b Q w r1 r2 p1 p2 q => ⟨a, b, r1, r2, hc a b p1 p2, q _ W _ (Stp.refl W) w.b (hg _ a b) (hp a b p1 p2)⟩
theorem evp_I0 {g : Int → Int → V} {P P' : Int → Prop} {T : Rl γ} {f : Int → Int → γ} {P3 : γ → Prop} (ha : EvP C ta Γ .h rInt P) (hb : EvP C tb Γ .h rInt P') (hg : ∀ H i j, T.is H (g i j) (f i j)) (hp : ∀ i j, P i → P' j → P3 (f i j)) :
    EvP C (tOp (rI0 g) ta tb) Γ ℓ T P3 := evp_bin ha hb fun σ W x y a b Q w r1 r2 p1 p2 q => ⟨a, b, r1, r2, q _ W _ (Stp.refl W) w.b (hg _ a b) (hp a b p1 p2)⟩
section
variable {i j : Int} {Pi Pj : Int → Prop}
theorem ev_add (ha : Ev C ta Γ .h rInt i) (hb : Ev C tb Γ .h rInt j) : Ev C (tOp (rI0 fun i j => .int (i + j)) ta tb) Γ ℓ rInt (i + j) := evp_I0 (f := fun i j => i + j) ha hb (fun _ _ _ => rfl) fun _ _ p q => by rw [p, q]
theorem ev_sub (ha : Ev C ta Γ .h rInt i) (hb : Ev C tb Γ .h rInt j) : Ev C (tOp (rI0 fun i j => .int (i - j)) ta tb) Γ ℓ rInt (i - j) := evp_I0 (f := fun i j => i - j) ha hb (fun _ _ _ => rfl) fun _ _ p q => by rw [p, q]
theorem ev_mul (ha : Ev C ta Γ .h rInt i) (hb : Ev C tb Γ .h rInt j) (hc : CMul i j) : Ev C (tOp (rI CMul fun i j => .int (i * j)) ta tb) Γ ℓ rInt (i * j) := evp_I (f := fun i j => i * j) ha hb (fun _ _ p q => by rw [p, q]; exact hc) (fun _ _ _ => rfl) fun _ _ p q => by rw [p, q]
theorem ev_fdiv (ha : Ev C ta Γ .h rInt i) (hb : Ev C tb Γ .h rInt j) (hc : CDiv i j) : Ev C (tOp (rI CDiv fun i j => .int (i / j)) ta tb) Γ ℓ rInt (i / j) := evp_I (f := fun i j => i / j) ha hb (fun _ _ p q => by rw [p, q]; exact hc) (fun _ _ _ => rfl) fun _ _ p q => by rw [p, q]
theorem ev_mod (ha : Ev C ta Γ .h rInt i) (hb : Ev C tb Γ .h rInt j) (hc : 0 < j) : Ev C (tOp (rI (fun _ j => 0 < j) fun i j => .int (i % j)) ta tb) Γ ℓ rInt (i % j) := evp_I (f := fun i j => i % j) ha hb (fun _ _ p q => by rw [q]; exact hc) (fun _ _ _ => rfl) fun _ _ p q => by rw [p, q]
theorem ev_pow (ha : Ev C ta Γ .h rInt i) (hb : Ev C tb Γ .h rInt j) (hc : CPow i j) : Ev C (tOp (rI CPow fun i j => .int (i ^ j.toNat)) ta tb) Γ ℓ rInt (i ^ j.toNat) := evp_I (f := fun i j => i ^ j.toNat) ha hb (fun _ _ p q => by rw [p, q]; exact hc) (fun _ _ _ => rfl) fun _ _ p q => by rw [p, q]
theorem evp_add (ha : EvP C ta Γ .h rInt Pi) (hb : EvP C tb Γ .h rInt Pj) : EvP C (tOp (rI0 fun i j => .int (i + j)) ta tb) Γ ℓ rInt (fun z => ∃ x y, Pi x ∧ Pj y ∧ z = x + y) := evp_I0 (f := fun i j => i + j) ha hb (fun _ _ _ => rfl) fun x y p q => ⟨x, y, p, q, rfl⟩
/-! comparisons of ints, as values -/
theorem ev_lt (ha : Ev C ta Γ .h rInt i) (hb : Ev C tb Γ .h rInt j) : Ev C (tOp (rI0 fun i j => .bl (decide (i < j))) ta tb) Γ ℓ rBool (decide (i < j)) := evp_I0 (f := fun i j => decide (i < j)) ha hb (fun _ _ _ => rfl) fun _ _ p q => by rw [p, q]
theorem ev_le (ha : Ev C ta Γ .h rInt i) (hb : Ev C tb Γ .h rInt j) : Ev C (tOp (rI0 fun i j => .bl (decide (i ≤ j))) ta tb) Γ ℓ rBool (decide (i ≤ j)) := evp_I0 (f := fun i j => decide (i ≤ j)) ha hb (fun _ _ _ => rfl) fun _ _ p q => by rw [p, q]
theorem ev_gt (ha : Ev C ta Γ .h rInt i) (hb : Ev C tb Γ .h rInt j) : Ev C (tOp (rI0 fun i j => .bl (decide (j < i))) ta tb) Γ ℓ rBool (decide (j < i)) := evp_I0 (f := fun i j => decide (j < i)) ha hb (fun _ _ _ => rfl) fun _ _ p q => by rw [p, q]
theorem ev_ge (ha : Ev C ta Γ .h rInt i) (hb : Ev C tb Γ .h rInt j) : Ev C (tOp (rI0 fun i j => .bl (decide (j ≤ i))) ta tb) Γ ℓ rBool (decide (j ≤ i)) := evp_I0 (f := fun i j => decide (j ≤ i)) ha hb (fun _ _ _ => rfl) fun _ _ p q => by rw [p, q]
theorem evp_eqI (ha : EvP C ta Γ .h rInt Pi) (hb : EvP C tb Γ .h rInt Pj) : EvP C (tOp rEq ta tb) Γ ℓ rBool (fun z => ∃ x y, Pi x ∧ Pj y ∧ z = decide (x = y)) := evp_bin ha hb fun σ W x y a b Q w r1 r2 p1 p2 q => by
  cases (show x = .int a from r1)
  cases (show y = .int b from r2)
  refine ⟨rfl, q _ W (decide (a = b)) (Stp.refl W) w.b ?_ ⟨a, b, p1, p2, rfl⟩⟩
  show V.bl _ = V.bl _
  congr 1
  exact decide_eq_decide.mpr ⟨fun h => V.int.inj h, fun h => by rw [h]⟩
theorem evp_neI (ha : EvP C ta Γ .h rInt Pi) (hb : EvP C tb Γ .h rInt Pj) : EvP C (tOp rNe ta tb) Γ ℓ rBool (fun z => ∃ x y, Pi x ∧ Pj y ∧ z = !decide (x = y)) := evp_bin ha hb fun σ W x y a b Q w r1 r2 p1 p2 q => by
  cases (show x = .int a from r1)
  cases (show y = .int b from r2)
  refine ⟨rfl, q _ W (!decide (a = b)) (Stp.refl W) w.b ?_ ⟨a, b, p1, p2, rfl⟩⟩
  show V.bl _ = V.bl _
  congr 2
  exact decide_eq_decide.mpr ⟨fun h => V.int.inj h, fun h => by rw [h]⟩
theorem ev_eqI (ha : Ev C ta Γ .h rInt i) (hb : Ev C tb Γ .h rInt j) : Ev C (tOp rEq ta tb) Γ ℓ rBool (decide (i = j)) := (evp_eqI ha hb).imp fun _ ⟨_, _, p, q, e⟩ => by rw [e, p, q]
theorem ev_neI (ha : Ev C ta Γ .h rInt i) (hb : Ev C tb Γ .h rInt j) : Ev C (tOp rNe ta tb) Γ ℓ rBool (!decide (i = j)) := (evp_neI ha hb).imp fun _ ⟨_, _, p, q, e⟩ => by rw [e, p, q]
theorem ev_neg (ha : Ev C ta Γ .h rInt i) : Ev C (tUn (rU fun i => .int (-i)) ta) Γ ℓ rInt (-i) := fun σ W w Q q => ha σ W w _ fun x W1 a s b r p => ⟨a, r, q _ W1 _ s b rfl (by rw [p])⟩
end
/-! None -/
theorem ev_isN {o : Option α} (ha : Ev C ta Γ ℓ (rOpt R) o) : Ev C (tOp (fun x y H Q => y = .non ∧ Q (.bl (decide (x = .non))) H) ta (tC .non)) Γ ℓ' rBool o.isNone := fun σ W w Q q => ha σ W w _ fun x W1 a s b r p => ⟨rfl, q _ W1 _ s b (by
  subst p
  show V.bl _ = V.bl _
  congr 1
  cases a with
  | none => cases (show x = .non from r); rfl
  | some a => exact decide_eq_false r.2) rfl⟩
theorem ev_notN {o : Option α} (ha : Ev C ta Γ ℓ (rOpt R) o) : Ev C (tOp (fun x y H Q => y = .non ∧ Q (.bl (!decide (x = .non))) H) ta (tC .non)) Γ ℓ' rBool o.isSome := fun σ W w Q q => ha σ W w _ fun x W1 a s b r p => ⟨rfl, q _ W1 _ s b (by
  subst p
  show V.bl _ = V.bl _
  congr 1
  cases a with
  | none => cases (show x = .non from r); rfl
  | some a => rw [decide_eq_false r.2]; rfl) rfl⟩
/-! tests -/
theorem eb_tst {P : Bool → Prop} (h : EvP C te Γ .h rBool P) : EvB C (tTest te) Γ P := fun σ W w Q q => h σ W w _ fun x W1 a s b r p => ⟨a, r, q a W1 s b p⟩
theorem eb_val {P : Bool → Prop} (h : EvP C te Γ .h rBool P) : EvB C (tB te) Γ P := fun σ W w Q q => h σ W w _ fun x W1 a s b r p => ⟨a, r, q a W1 s b p⟩
theorem ec_tst {p : Prop} [Decidable p] (h : Ev C te Γ .h rBool (decide p)) : EvC C (tTest te) Γ p := (eb_tst h).imp fun b e => by rw [e]; exact decide_eq_true_iff
theorem ec_tstN {p : Prop} [Decidable p] (h : Ev C te Γ .h rBool (!decide p)) : EvC C (tTest te) Γ (¬ p) := (eb_tst h).imp fun b e => by rw [e]; simp
theorem ec_valB {c : Bool} (h : Ev C te Γ .h rBool c) : EvC C (tB te) Γ (c = true) := (eb_val h).imp fun b e => by rw [e]
theorem ec_and {t u : TT} {p q : Prop} (h1 : EvC C t Γ p) (h2 : p → EvC C u Γ q) : EvC C (tAnd t u) Γ (p ∧ q) := fun σ W w Q k => h1 σ W w _ fun b W1 s1 b1 e1 => by
  cases b with
  | true =>
    have hp : p := e1.mp rfl
    show u σ W1.H Q
    exact h2 hp σ W1 (w.stp b1 s1) Q fun c W2 s2 b2 e2 => k c W2 (s1.trans w.b b1 s2) b2 ⟨(fun h => ⟨hp, e2.mp h⟩), fun h => e2.mpr h.2⟩
  | false =>
    show Q false W1.H
    exact k false W1 s1 b1 ⟨(fun h => by cases h), fun h => e1.mpr h.1⟩
theorem ec_or {t u : TT} {p q : Prop} (h1 : EvC C t Γ p) (h2 : ¬ p → EvC C u Γ q) : EvC C (tOr t u) Γ (p ∨ q) := fun σ W w Q k => h1 σ W w _ fun b W1 s1 b1 e1 => by
  cases b with
  | true =>
    show Q true W1.H
    exact k true W1 s1 b1 ⟨fun _ => .inl (e1.mp rfl), fun _ => rfl⟩
  | false =>
    have hp : ¬ p := fun h => by have := e1.mpr h; cases this
    show u σ W1.H Q
    exact h2 hp σ W1 (w.stp b1 s1) Q fun c W2 s2 b2 e2 => k c W2 (s1.trans w.b b1 s2) b2 ⟨fun h => .inr (e2.mp h), fun h => e2.mpr (h.resolve_left hp)⟩
theorem ec_not {t : TT} {p : Prop} (h1 : EvC C t Γ p) : EvC C (tNot t) Γ (¬ p) := fun σ W w Q k => h1 σ W w _ fun b W1 s1 b1 e1 => k _ W1 s1 b1 (by
  cases b with
  | true => exact ⟨(fun h => by cases h), fun h => absurd (e1.mp rfl) h⟩
  | false => exact ⟨(fun _ h => by have := e1.mpr h; cases this), fun _ => rfl⟩)
theorem eb_or {t u : TT} {P P2 : Bool → Prop} (h1 : EvB C t Γ P) (h2 : P false → EvB C u Γ P2) : EvB C (tOr t u) Γ (fun b => (P true ∧ b = true) ∨ (P false ∧ P2 b)) := fun σ W w Q k => h1 σ W w _ fun b W1 s1 b1 e1 => by
  cases b with
  | true => exact k true W1 s1 b1 (.inl ⟨e1, rfl⟩)
  | false => exact h2 e1 σ W1 (w.stp b1 s1) Q fun c W2 s2 b2 e2 => k c W2 (s1.trans w.b b1 s2) b2 (.inr ⟨e1, e2⟩)
theorem eb_and {t u : TT} {P P2 : Bool → Prop} (h1 : EvB C t Γ P) (h2 : P true → EvB C u Γ P2) : EvB C (tAnd t u) Γ (fun b => (P false ∧ b = false) ∨ (P true ∧ P2 b)) := fun σ W w Q k => h1 σ W w _ fun b W1 s1 b1 e1 => by
  cases b with
  | false => exact k false W1 s1 b1 (.inl ⟨e1, rfl⟩)
  | true => exact h2 e1 σ W1 (w.stp b1 s1) Q fun c W2 s2 b2 e2 => k c W2 (s1.trans w.b b1 s2) b2 (.inr ⟨e1, e2⟩)
/-! and, or, not as values; the conditional expression -/
theorem ev_andV {a b : Bool} (h1 : Ev C ta Γ .h rBool a) (h2 : a = true → Ev C tb Γ .h rBool b) : Ev C (tAndV ta tb) Γ c rBool (a && b) := fun σ W w Q q => h1 σ W w _ fun x W1 a' s1 b1 r p => ⟨a', r, by
  subst p
  cases a' with
  | true => exact h2 rfl σ W1 (w.stp b1 s1) Q fun y W2 z s2 b2 r2 p2 => q y W2 z (s1.trans w.b b1 s2) b2 r2 (by rw [p2]; rfl)
  | false => exact q _ W1 false s1 b1 rfl rfl⟩
/-! arguments, displays -/
theorem World.adne {σ : Sg} {W : Wd} (w : World C σ W Γ) {p : Addr} (h : W.H p = none) (j : Nat) (q : Addr) (e : adAt Γ j q) : p ≠ q := fun z => by
  subst z
  exact (w.adH e).1 h
/-- a new list from a heap where it is laid -/
theorem fresh_go {σ : Sg} {W : Wd} {Q : VK} {xs : List V} {l : List α} {P : List α → Prop} (w : World C σ W Γ) {W1 : Wd} (s1 : Stp W W1) (b1 : Bok C W1)
    (q : ∀ p W' xs l, Stp W W' → Bok C W' → W.H p = none → W'.H p = some (.lst xs) → W'.G p = none → All2 (R.is (wl C W' ℓ)) xs l → P l → Q (.ref p) W'.H)
    (r : All2 (R.is (wl C W1 ℓ)) xs l) (hp : P l) : ∀ p, W1.H p = none → Q (.ref p) (upd W1.H p (.lst xs)) := fun p n => by
  have n0 := w.b.back b1 s1 n
  have sl := Stp.lay b1 (o := .lst xs) n
  exact q p (W1.lay p (.lst xs)) xs l (s1.trans w.b b1 sl) (b1.lay (b1.h0 n) (b1.nvs n) (b1.g0 n)) n0 upd_same (b1.g0 n) (r.imp fun _ _ => R.mono (sl.lv b1 ℓ)) hp
/-- what stands newly is put among what never changes -/
theorem frz_stp {W W' : Wd} {p : Addr} {o : HO} (s : Stp W W') (n : W.H p = none) (hG : W'.G p = none) : Stp W (W'.frz p o) :=
  ⟨s.vs, s.g.trans fun a u e => by
    show upd W'.G p _ a = _
    rw [upd_ne (ne_of_none e hG)]; exact e, s.h, fun a u e => by
    by_cases y : a = p
    · subst y
      exact .inr n
    · have e' : upd W'.G p o a = some u := e
      rw [upd_ne y] at e'
      exact s.new a u e'⟩
theorem frz_lv {W : Wd} {p : Addr} {o : HO} (b : Bok C W) (hG : W.G p = none) : ∀ ℓ : Lv, Same (wl C W ℓ) (wl C (W.frz p o) ℓ)
  | .g => fun a u e => by
    show upd W.G p _ a = _
    rw [upd_ne (ne_of_none e hG)]; exact e
  | .m => fun a u h => by
    rcases jn_some h with h | ⟨n, h⟩
    · exact jn_l _ _ h
    · show jn _ _ a = some u
      rw [jn_r n]
      show upd W.G p _ a = _
      rw [upd_ne (ne_of_none h hG)]; exact h
  | .h => Same.refl _
theorem frz_at {W : Wd} {p : Addr} {o : HO} (b : Bok C W) (h0 : C.H0 p = none) (hv : p ∉ W.vs) (hH : W.H p = some o) : ∀ ℓ : Lv, wl C (W.frz p o) ℓ p = some o
  | .g => upd_same
  | .m => by
    show jn _ _ p = some o
    rw [jn_r ?_]
    · exact upd_same
    · by_cases z : p ∈ C.vs0
      · exact hid_in z
      · rw [hid_out z]; exact h0
  | .h => (hid_out hv).trans hH
theorem ev_new {P : List α → Prop} (h : EvN C te Γ ℓ R P) : EvP C te Γ ℓ (rList R) P := fun σ W w Q q => h σ W w Q fun p W' xs l s b n hH hG r z => by
  have h0 := w.b.h0 n
  have hv : p ∉ W'.vs := by rw [s.vs]; exact w.b.nvs n
  have bf := b.frz (o := .lst xs) h0 hv hH hG
  exact q _ (W'.frz p (.lst xs)) l (frz_stp s n hG) bf ⟨p, xs, rfl, frz_at b h0 hv hH ℓ, r.imp fun _ _ => R.mono (frz_lv b hG ℓ)⟩ z
/-- a new tuple -/
theorem tup_go {σ : Sg} {W W1 : Wd} {Q : VK} {xs : List V} (w : World C σ W Γ) (s1 : Stp W W1) (b1 : Bok C W1)
    (q : ∀ p W', Stp W W' → Bok C W' → (∀ ℓ, Same (wl C W1 ℓ) (wl C W' ℓ)) → (∀ ℓ, wl C W' ℓ p = some (.tup xs)) → Q (.ref p) W'.H) : ∀ p, W1.H p = none → Q (.ref p) (upd W1.H p (.tup xs)) := fun p n => by
  have n0 := w.b.back b1 s1 n
  have bl := b1.put (o := .tup xs) (b1.h0 n) (b1.nvs n) (b1.g0 n)
  have sl := Stp.put b1 (o := .tup xs) n
  refine q p (W1.put p (.tup xs)) (s1.trans w.b b1 sl) bl (sl.lv b1) fun ℓ => ?_
  cases ℓ with
  | g => exact upd_same
  | m =>
    show jn _ _ p = _
    rw [jn_r ?_]
    · exact upd_same
    · by_cases z : p ∈ C.vs0
      · exact hid_in z
      · rw [hid_out z]; exact b1.h0 n
  | h => exact (hid_out (b1.nvs n)).trans upd_same
/-- argument lists of one kind of item -/
def Lis (C : Cn) (W : Wd) (ℓ : Lv) (R : Rl α) (vs : List V) (l : List α) : Prop := All2 (R.is (wl C W ℓ)) vs l
def EvM (C : Cn) (ta : TA) (Γ : List Ent) (ℓ : Lv) (R : Rl α) (P : List α → Prop) : Prop :=
  ∀ σ W, World C σ W Γ → ∀ Q : List V → Hp → Prop, (∀ vs W' l, Stp W W' → Bok C W' → All2 (R.is (wl C W' ℓ)) vs l → P l → Q vs W'.H) → ta σ W.H Q
theorem em_nil : EvM C tNil Γ ℓ R (fun l => l = []) := fun σ W w Q q => q [] W [] (Stp.refl W) w.b trivial rfl
theorem em_cons {tr : TA} {a : α} {l : List α} (h : Ev C te Γ ℓ R a) (hr : EvM C tr Γ ℓ R (fun x => x = l)) : EvM C (tCons te tr) Γ ℓ R (fun x => x = a :: l) := fun σ W w Q q =>
  h σ W w _ fun v W1 a' s1 b1 r p => hr σ W1 (w.stp b1 s1) _ fun vs W2 l' s2 b2 r2 p2 => q _ W2 (a' :: l') (s1.trans w.b b1 s2) b2 ⟨R.mono (s2.lv b1 ℓ) r, r2⟩ (by rw [p, p2])
theorem sizeLine_big : 1000000 ≤ sizeLine := by decide
theorem en_lst {ta : TA} {Pl : List α → Prop} (h : EvM C ta Γ ℓ R Pl) (hz : ∀ l, Pl l → l.length ≤ 1000000) : EvN C (tLst ta) Γ ℓ R Pl := fun σ W w Q q =>
  h σ W w _ fun vs W1 l s1 b1 r p => ⟨by rw [r.len]; exact Nat.le_trans (hz l p) sizeLine_big, fresh_go w s1 b1 q r p⟩
theorem ev_tup {ta : TA} {Pl : List α → Prop} (h : EvM C ta Γ ℓ R Pl) (hz : ∀ l, Pl l → l.length ≤ 1000000) : EvP C (tTup ta) Γ ℓ (rTup R) Pl := fun σ W w Q q =>
  h σ W w _ fun vs W1 l s1 b1 r p => ⟨by rw [r.len]; exact Nat.le_trans (hz l p) sizeLine_big, tup_go w s1 b1 fun a W' s b sm at_ => q _ W' l s b ⟨a, vs, rfl, .inl (at_ ℓ), r.imp fun _ _ => R.mono (sm ℓ)⟩ p⟩
end
end GL


set_option Elab.async false
set_option linter.all false
set_option maxRecDepth 100000
set_option maxHeartbeats 1000000
namespace GL
open PySem L2
/-! ### places -/
def gt {α : Type} [Inhabited α] (l : List α) (i : Int) : α := l.getD i.toNat default
def gtB {α : Type} [Inhabited α] (l : List α) (k : Nat) : α := l.getD (l.length - k) default
theorem gt_get {α : Type} [Inhabited α] {l : List α} {i : Int} (h : 0 ≤ i ∧ i < l.length) : l[i.toNat]? = some (gt l i) := by
  unfold gt
  rw [List.getD_eq_getElem?_getD]
  have : i.toNat < l.length := by omega
  rw [List.getElem?_eq_getElem this]
  rfl
theorem gtB_get {α : Type} [Inhabited α] {l : List α} {k : Nat} (h : 0 < k ∧ k ≤ l.length) : l[l.length - k]? = some (gtB l k) := by
  unfold gtB
  rw [List.getD_eq_getElem?_getD]
  have : l.length - k < l.length := by omega
  rw [List.getElem?_eq_getElem this]
  rfl
theorem atI_of {xs : List V} {i : Int} {v : V} (h0 : 0 ≤ i) (h : xs[i.toNat]? = some v) : atI xs i = some v := by
  have := atI_nat (j := i.toNat) h
  rwa [Int.toNat_of_nonneg h0] at this
theorem atI_back {xs : List V} {k : Nat} {v : V} (h : 0 < k ∧ k ≤ xs.length) (g : xs[xs.length - k]? = some v) : atI xs (-(k : Int)) = some v := by
  unfold atI ixN
  rw [if_neg (by omega), if_pos (by omega)]
  show xs[(-(k : Int) + (xs.length : Int)).toNat]? = some v
  rw [show (-(k : Int) + (xs.length : Int)).toNat = xs.length - k by omega]
  exact g
def sl {α : Type} (l : List α) (lo hi : Option Int) : List α := (l.drop (HT.sIx l.length 0 lo)).take (HT.sIx l.length l.length hi - HT.sIx l.length 0 lo)
section
variable {C : Cn} {Γ : List Ent} {α β γ δ : Type} {R : Rl α} {S : Rl β} {T : Rl γ} {P : α → Prop} {Pl : List α → Prop} {P' : β → Prop} {ta tb tc te : TE} {ℓ ℓ' c c' : Lv} {K : PySem.W.Frag}
theorem sqL_of {W : Wd} {p : Addr} {xs : List V} (b : Bok C W) {c : Lv} (h : seqAt .l (wl C W c) p xs) : SqL K W.H p xs := .inl (.inl (hid_some (b.up c _ _ h)).2)
theorem sqT_of {W : Wd} {p : Addr} {xs : List V} (b : Bok C W) {c : Lv} (h : seqAt .t (wl C W c) p xs) : SqT K W.H p xs := .inl (rd_mono (fun _ _ h => (hid_some (b.up c _ _ h)).2) h)
theorem sqE_of {W : Wd} {p : Addr} {xs : List V} (b : Bok C W) {c : Lv} (h : seqAt .e (wl C W c) p xs) : SqL K W.H p xs ∨ SqT K W.H p xs := h.imp (fun h => .inl (.inl (hid_some (b.up c _ _ h)).2)) fun h => .inl (rd_mono (fun _ _ h => (hid_some (b.up c _ _ h)).2) h)
theorem sqA_of {W : Wd} {k : Kd} {p : Addr} {xs : List V} (b : Bok C W) {c : Lv} (h : seqAt k (wl C W c) p xs) : SqL K W.H p xs ∨ SqT K W.H p xs := by
  cases k with
  | l => exact .inl (sqL_of b h)
  | t => exact .inr (sqT_of b h)
  | e => exact sqE_of b h
/-- the reading of a subscript by kind -/
def rIxK (K : PySem.W.Frag) : Kd → R2
  | .l => rIxL K
  | .t => rIxT K
  | .e => rIx K
theorem rIxK_go {k : Kd} {W : Wd} {p : Addr} {xs : List V} {i : Int} {v : V} {Q : VK} (b : Bok C W) {c : Lv} (h : seqAt k (wl C W c) p xs) (ha : atI xs i = some v) (q : Q v W.H) : rIxK K k (.ref p) (.int i) W.H Q := by
  cases k with
  | l => exact ⟨p, xs, i, v, rfl, rfl, sqL_of b h, ha, q⟩
  | t => exact ⟨p, xs, i, v, rfl, rfl, sqT_of b h, ha, q⟩
  | e =>
    rcases sqE_of b h with h | h
    · exact .inl ⟨p, xs, i, v, rfl, rfl, h, ha, q⟩
    · exact .inr (.inl ⟨p, xs, i, v, rfl, rfl, h, ha, q⟩)
theorem evp_ix {k : Kd} [Inhabited α] {Pi : Int → Prop} {P3 : α → Prop} (ha : EvS C ta Γ k c ℓ R Pl) (hb : EvP C tb Γ .h rInt Pi) (hc : ∀ l i, Pl l → Pi i → (0 ≤ i ∧ i < l.length) ∧ P3 (gt l i)) : EvP C (tOp (rIxK K k) ta tb) Γ ℓ R P3 := fun σ W w Q q =>
  ha σ W w _ fun p W1 xs l s1 b1 e1 r1 p1 => hb σ W1 (w.stp b1 s1) _ fun y W2 i s2 b2 r2 p2 => by
    cases (show y = .int i from r2)
    obtain ⟨h, h3⟩ := hc l i p1 p2
    obtain ⟨v, hv, rv⟩ := All2.get r1 (gt_get h)
    exact rIxK_go b2 (e1.mono (s2.lv b1 c)) (atI_of h.1 hv) (q v W2 _ (s1.trans w.b b1 s2) b2 (R.mono (s2.lv b1 ℓ) rv) h3)
theorem ev_ix {k : Kd} [Inhabited α] {l : List α} {i : Int} (ha : EvS C ta Γ k c ℓ R (fun x => x = l)) (hb : Ev C tb Γ .h rInt i) (hc : 0 ≤ i ∧ i < l.length) : Ev C (tOp (rIxK K k) ta tb) Γ ℓ R (gt l i) := evp_ix ha hb fun l' i' e1 e2 => by rw [e1, e2]; exact ⟨hc, rfl⟩
/-- from behind, a written place -/
theorem ev_ixB {k : Kd} [Inhabited α] {l : List α} {n : Nat} (ha : EvS C ta Γ k c ℓ R (fun x => x = l)) (hc : 0 < n ∧ n ≤ l.length) : Ev C (tOp (rIxK K k) ta (tUn (rU fun i => .int (-i)) (tC (.int (n : Int))))) Γ ℓ R (gtB l n) := fun σ W w Q q =>
  ha σ W w _ fun p W1 xs l' s1 b1 e1 r1 p1 => ⟨(n : Int), rfl, by
    subst p1
    have hl := r1.len
    obtain ⟨v, hv, rv⟩ := All2.get r1 (gtB_get hc)
    rw [← hl] at hv
    exact rIxK_go b1 e1 (atI_back (by rw [hl]; exact hc) hv) (q v W1 _ s1 b1 rv rfl)⟩
/-! len, list, tuple -/
abbrev rLenS (K : PySem.W.Frag) : List V → Hp → VK → Prop := fun xs H Q => ∃ p ys, xs = [.ref p] ∧ (SqL K H p ys ∨ SqT K H p ys) ∧ Q (.int ys.length) H
theorem evp_len {k : Kd} (ha : EvS C ta Γ k c ℓ R Pl) : EvP C (tCB (rLenS K) (tCons ta tNil)) Γ ℓ' rInt (fun z => ∃ l, Pl l ∧ z = l.length) := fun σ W w Q q =>
  ha σ W w _ fun p W1 xs l s b e r pl => ⟨p, xs, rfl, sqA_of b e, q _ W1 _ s b (by rw [r.len]; rfl) ⟨l, pl, rfl⟩⟩
theorem ev_len {k : Kd} {l : List α} (ha : EvS C ta Γ k c ℓ R (fun x => x = l)) : Ev C (tCB (rLenS K) (tCons ta tNil)) Γ ℓ' rInt (l.length : Int) := (evp_len ha).imp fun _ ⟨_, e, h⟩ => by rw [h, e]
abbrev rListOf (K : PySem.W.Frag) : List V → Hp → VK → Prop := fun xs H Q => ∃ p ys, xs = [.ref p] ∧ (SqL K H p ys ∨ SqT K H p ys) ∧ ∀ l, H l = none → Q (.ref l) (upd H l (.lst ys))
abbrev rTupOf (K : PySem.W.Frag) : List V → Hp → VK → Prop := fun xs H Q => ∃ p ys, xs = [.ref p] ∧ ((SqL K H p ys ∧ ∀ l, H l = none → Q (.ref l) (upd H l (.tup ys))) ∨ (SqT K H p ys ∧ Q (.ref p) H))
/-- tuple(x) of a list -/
theorem ev_tupL (ha : EvS C ta Γ .l c ℓ R Pl) : EvP C (tCB (rTupOf K) (tCons ta tNil)) Γ ℓ (rTup R) Pl := fun σ W w Q q =>
  ha σ W w _ fun p W1 xs l s b e r pl => ⟨p, xs, rfl, .inl ⟨sqL_of b e, tup_go w s b fun d W' s' b' sm at_ => q _ W' l s' b' ⟨d, xs, rfl, .inl (at_ ℓ), r.imp fun _ _ => R.mono (sm ℓ)⟩ pl⟩⟩
/-! slices -/
theorem All2.sl {p : V → α → Prop} {xs : List V} {l : List α} (h : All2 p xs l) (lo hi : Option Int) : All2 p (cutV xs lo hi) (sl l lo hi) := by
  unfold cutV GL.sl
  rw [h.len]
  exact (h.drop _).take _
def EvO (C : Cn) (to : TO) (Γ : List Ent) (P : Option Int → Prop) : Prop :=
  ∀ σ W, World C σ W Γ → ∀ Q : Option Int → Hp → Prop, (∀ o W', Stp W W' → Bok C W' → P o → Q o W'.H) → to σ W.H Q
theorem eo_no : EvO C tNoPart Γ (fun o => o = none) := fun σ W w Q q => q none W (Stp.refl W) w.b rfl
theorem eo_part {i : Int} (h : Ev C te Γ .h rInt i) : EvO C (tPart te) Γ (fun o => o = some i) := fun σ W w Q q => h σ W w _ fun x W1 a s b r p => ⟨a, r, q _ W1 s b (by rw [p])⟩
theorem en_slL {tl th : TO} {P1 P2 : Option Int → Prop} (ha : EvS C ta Γ .l c ℓ R Pl) (h1 : EvO C tl Γ P1) (h2 : EvO C th Γ P2) : EvN C (tSl (rSlL K) ta tl th) Γ ℓ R (fun z => ∃ l o1 o2, Pl l ∧ P1 o1 ∧ P2 o2 ∧ z = sl l o1 o2) := fun σ W w Q q =>
  ha σ W w _ fun p W1 xs l s1 b1 e1 r pl => h1 σ W1 (w.stp b1 s1) _ fun o1 W2 s2 b2 p1 => h2 σ W2 ((w.stp b1 s1).stp b2 s2) _ fun o2 W3 s3 b3 p2 =>
    ⟨p, xs, rfl, sqL_of b3 ((e1.mono (s2.lv b1 c)).mono (s3.lv b2 c)), fresh_go w ((s1.trans w.b b1 s2).trans w.b b2 s3) b3 q ((r.imp fun _ _ h => R.mono (s3.lv b2 ℓ) (R.mono (s2.lv b1 ℓ) h)).sl o1 o2) ⟨l, o1, o2, pl, p1, p2, rfl⟩⟩
/-- of either kind -/
def rSlE (K : PySem.W.Frag) : V → Option Int → Option Int → Hp → VK → Prop := fun x lo hi H Q => rSlL K x lo hi H Q ∨ rSlA K x lo hi H Q
/-! + and * of lists, + of tuples -/
theorem en_cat {Pm : List α → Prop} (ha : EvS C ta Γ .l c ℓ R Pl) (hb : EvS C tb Γ .l c' ℓ R Pm) (hz : ∀ l m, Pl l → Pm m → l.length + m.length ≤ 1000000) : EvN C (tOp rCat ta tb) Γ ℓ R (fun z => ∃ l m, Pl l ∧ Pm m ∧ z = l ++ m) := fun σ W w Q q =>
  ha σ W w _ fun p W1 xs l s1 b1 e1 r1 p1 => hb σ W1 (w.stp b1 s1) _ fun p' W2 ys m s2 b2 e2 r2 p2 =>
    ⟨p, p', xs, ys, rfl, rfl, (hid_some (b2.up c _ _ ((s2.lv b1 c) _ _ e1))).2, (hid_some (b2.up c' _ _ e2)).2, by rw [r1.len, r2.len]; exact Nat.le_trans (hz l m p1 p2) sizeLine_big,
      fresh_go w (s1.trans w.b b1 s2) b2 q ((r1.imp fun _ _ => R.mono (s2.lv b1 ℓ)).app r2) ⟨l, m, p1, p2, rfl⟩⟩
theorem All2.flat {p : V → α → Prop} {xs : List V} {l : List α} (h : All2 p xs l) : ∀ n : Nat, All2 p (List.replicate n xs).flatten (List.replicate n l).flatten
  | 0 => trivial
  | n + 1 => by
    rw [List.replicate_succ, List.replicate_succ, List.flatten_cons, List.flatten_cons]
    exact h.app (All2.flat h n)
/-! sums, least, greatest of ints -/
theorem All2.ints {H : Hp} {xs : List V} {l : List Int} (h : All2 (rInt.is H) xs l) : xs = l.map V.int := h.map_eq fun _ _ e => e
theorem evp_sum {Pl : List Int → Prop} (ha : EvS C ta Γ .l c .h rInt Pl) : EvP C (tCB (rSum K) (tCons ta tNil)) Γ ℓ rInt (fun z => ∃ l, Pl l ∧ z = l.sum) := fun σ W w Q q =>
  ha σ W w _ fun p W1 xs l s b e r pl => ⟨p, l, rfl, by rw [← r.ints]; exact sqL_of b e, q _ W1 _ s b rfl ⟨l, pl, rfl⟩⟩
theorem ev_sum {l : List Int} (ha : EvS C ta Γ .l c .h rInt (fun x => x = l)) : Ev C (tCB (rSum K) (tCons ta tNil)) Γ ℓ rInt l.sum := (evp_sum ha).imp fun _ ⟨_, e, h⟩ => by rw [h, e]
theorem evp_max2 {Pi Pj : Int → Prop} (ha : EvP C ta Γ .h rInt Pi) (hb : EvP C tb Γ .h rInt Pj) : EvP C (tCB (fun xs H Q => ∃ i j, xs = [.int i, .int j] ∧ Q (.int (if j > i then j else i)) H) (tCons ta (tCons tb tNil))) Γ ℓ rInt (fun z => ∃ x y, Pi x ∧ Pj y ∧ z = max x y) := fun σ W w Q q =>
  ha σ W w _ fun v W1 a s1 b1 r1 p1 => hb σ W1 (w.stp b1 s1) _ fun u W2 b s2 b2 r2 p2 => ⟨a, b, by rw [show v = .int a from r1, show u = .int b from r2], q _ W2 _ (s1.trans w.b b1 s2) b2 rfl ⟨a, b, p1, p2, by split <;> omega⟩⟩
theorem evp_min2 {Pi Pj : Int → Prop} (ha : EvP C ta Γ .h rInt Pi) (hb : EvP C tb Γ .h rInt Pj) : EvP C (tCB (fun xs H Q => ∃ i j, xs = [.int i, .int j] ∧ Q (.int (if j < i then j else i)) H) (tCons ta (tCons tb tNil))) Γ ℓ rInt (fun z => ∃ x y, Pi x ∧ Pj y ∧ z = min x y) := fun σ W w Q q =>
  ha σ W w _ fun v W1 a s1 b1 r1 p1 => hb σ W1 (w.stp b1 s1) _ fun u W2 b s2 b2 r2 p2 => ⟨a, b, by rw [show v = .int a from r1, show u = .int b from r2], q _ W2 _ (s1.trans w.b b1 s2) b2 rfl ⟨a, b, p1, p2, by split <;> omega⟩⟩
theorem ev_max2 {i j : Int} (ha : Ev C ta Γ .h rInt i) (hb : Ev C tb Γ .h rInt j) : Ev C (tCB (fun xs H Q => ∃ i j, xs = [.int i, .int j] ∧ Q (.int (if j > i then j else i)) H) (tCons ta (tCons tb tNil))) Γ ℓ rInt (max i j) := (evp_max2 ha hb).imp fun _ ⟨_, _, p, q, e⟩ => by rw [e, p, q]
theorem ev_min2 {i j : Int} (ha : Ev C ta Γ .h rInt i) (hb : Ev C tb Γ .h rInt j) : Ev C (tCB (fun xs H Q => ∃ i j, xs = [.int i, .int j] ∧ Q (.int (if j < i then j else i)) H) (tCons ta (tCons tb tNil))) Γ ℓ rInt (min i j) := (evp_min2 ha hb).imp fun _ ⟨_, _, p, q, e⟩ => by rw [e, p, q]
/-! == and != of data -/
structure Eqr (K : PySem.W.Frag) {α : Type} (R : Rl α) where
  enc : α → PyData
  dp : ∀ H v a, R.is H v a → Dp K H v (enc a)
  can : ∀ a, (enc a).canLay0 = true
  n : Nat
  dep : ∀ a, (enc a).depth ≤ n
  eqv : ∀ a b, PyData.eqv (enc a) (enc b) = true ↔ a = b
def eqr_int : Eqr K rInt := ⟨PyData.int, fun _ v a h => by cases (show v = .int a from h); exact .int a, fun _ => by simp [PyData.canLay0], 0, fun _ => by simp [PyData.depth], fun a b => by simp [PyData.eqv]⟩
def eqr_bool : Eqr K rBool := ⟨PyData.bool, fun _ v a h => by cases (show v = .bl a from h); exact .bl a, fun _ => by simp [PyData.canLay0], 0, fun _ => by simp [PyData.depth], fun a b => by simp [PyData.eqv]⟩
/-- what is never None -/
def eqr_optI : Eqr K (rOpt rInt) := ⟨fun o => match o with | none => .none | some i => .int i, fun _ v o h => by
  cases o with
  | none => cases (show v = .non from h); exact .non
  | some i => cases (show v = .int i from h.1); exact .int i, fun o => by cases o <;> simp [PyData.canLay0], 0, fun o => by cases o <;> simp [PyData.depth], fun a b => by cases a <;> cases b <;> simp [PyData.eqv]⟩
theorem dpAll {R : Rl α} (E : Eqr K R) {H : Hp} : ∀ {xs : List V} {l : List α}, All2 (R.is H) xs l → DpAll K H xs (l.map E.enc)
  | [], [], _ => .nil
  | _ :: _, _ :: _, ⟨h, t⟩ => .cons (E.dp _ _ _ h) (dpAll E t)
theorem eqvAll_iff {R : Rl α} (E : Eqr K R) : ∀ l m : List α, PyData.eqvAll (l.map E.enc) (m.map E.enc) = true ↔ l = m
  | [], [] => by simp [PyData.eqvAll]
  | [], _ :: _ => by simp [PyData.eqvAll]
  | _ :: _, [] => by simp [PyData.eqvAll]
  | a :: l, b :: m => by
    rw [List.map_cons, List.map_cons, PyData.eqvAll, Bool.and_eq_true, E.eqv, eqvAll_iff E l m, List.cons.injEq]
theorem canAll {R : Rl α} (E : Eqr K R) : ∀ l : List α, PyData.canLayAll0 (l.map E.enc) = true
  | [] => by simp [PyData.canLayAll0]
  | a :: l => by simp [PyData.canLayAll0, E.can a, canAll E l]
theorem depAll {R : Rl α} (E : Eqr K R) : ∀ l : List α, PyData.depthAll (l.map E.enc) ≤ E.n
  | [] => by simp [PyData.depthAll]
  | a :: l => by
    rw [List.map_cons, PyData.depthAll]
    exact Nat.max_le.mpr ⟨E.dep a, depAll E l⟩
def eqr_list {R : Rl α} (E : Eqr K R) : Eqr K (rList R) := ⟨fun l => .list (l.map E.enc), fun H v l ⟨p, xs, e, h, t⟩ => by subst e; exact .lst (.inl (.inl h)) (dpAll E t), fun l => by rw [PyData.canLay0]; exact canAll E l, E.n + 1,
  fun l => by rw [PyData.depth]; exact Nat.succ_le_succ (depAll E l), fun l m => by rw [PyData.eqv]; exact eqvAll_iff E l m⟩
def eqr_tup {R : Rl α} (E : Eqr K R) : Eqr K (rTup R) := ⟨fun l => .tuple (l.map E.enc), fun H v l ⟨p, xs, e, h, t⟩ => by subst e; exact .tup (.inl h) (dpAll E t), fun l => by rw [PyData.canLay0]; exact canAll E l, E.n + 1,
  fun l => by rw [PyData.depth]; exact Nat.succ_le_succ (depAll E l), fun l m => by rw [PyData.eqv]; exact eqvAll_iff E l m⟩
def eqr_pair {R : Rl α} {S : Rl β} (E : Eqr K R) (F : Eqr K S) : Eqr K (rPair R S) := ⟨fun l => .tuple [E.enc l.1, F.enc l.2], fun H v l ⟨p, x, y, e, h, t, u⟩ => by subst e; exact .tup (.inl (.inl h)) (.cons (E.dp _ _ _ t) (.cons (F.dp _ _ _ u) .nil)),
  fun l => by simp [PyData.canLay0, PyData.canLayAll0, E.can, F.can], max E.n F.n + 1, fun l => by
    have h1 := E.dep l.1
    have h2 := F.dep l.2
    simp only [PyData.depth, PyData.depthAll]
    omega, fun l m => by simp [PyData.eqv, PyData.eqvAll, E.eqv, F.eqv, Prod.ext_iff]⟩
def eqr_trip {R : Rl α} {S : Rl β} {T : Rl γ} (E : Eqr K R) (F : Eqr K S) (G : Eqr K T) : Eqr K (rTrip R S T) := ⟨fun l => .tuple [E.enc l.1, F.enc l.2.1, G.enc l.2.2], fun H v l ⟨p, x, y, z, e, h, t, u, w⟩ => by subst e; exact .tup (.inl h) (.cons (E.dp _ _ _ t) (.cons (F.dp _ _ _ u) (.cons (G.dp _ _ _ w) .nil))),
  fun l => by simp [PyData.canLay0, PyData.canLayAll0, E.can, F.can, G.can], max E.n (max F.n G.n) + 1, fun l => by
    have h1 := E.dep l.1
    have h2 := F.dep l.2.1
    have h3 := G.dep l.2.2
    simp only [PyData.depth, PyData.depthAll]
    omega, fun l m => by simp [PyData.eqv, PyData.eqvAll, E.eqv, F.eqv, G.eqv, Prod.ext_iff]⟩
theorem Eqr.sh {R : Rl α} (E : Eqr K R) (hn : E.n ≤ 64) (a : α) : SeqAt.shaped (E.enc a) = true := by
  unfold SeqAt.shaped
  rw [E.can a, Bool.true_and]
  exact decide_eq_true (Nat.le_trans (E.dep a) hn)
theorem evp_eqD {P1 P2 : α → Prop} (E : Eqr K R) (hn : E.n ≤ 64) (ha : EvP C ta Γ .h R P1) (hb : EvP C tb Γ .h R P2) : EvP C (tOp (rEqD K) ta tb) Γ ℓ rBool (fun z => ∃ a b, P1 a ∧ P2 b ∧ (z = true ↔ a = b)) := evp_bin ha hb fun σ W x y a b Q w r1 r2 p1 p2 q =>
  ⟨E.enc a, E.enc b, E.dp _ _ _ (R.mono (fun _ _ h => (hid_some h).2) r1), E.dp _ _ _ (R.mono (fun _ _ h => (hid_some h).2) r2), E.sh hn a, E.sh hn b, q _ W _ (Stp.refl W) w.b rfl ⟨a, b, p1, p2, E.eqv a b⟩⟩
theorem evp_neD {P1 P2 : α → Prop} (E : Eqr K R) (hn : E.n ≤ 64) (ha : EvP C ta Γ .h R P1) (hb : EvP C tb Γ .h R P2) : EvP C (tOp (rNeD K) ta tb) Γ ℓ rBool (fun z => ∃ a b, P1 a ∧ P2 b ∧ (z = true ↔ a ≠ b)) := evp_bin ha hb fun σ W x y a b Q w r1 r2 p1 p2 q =>
  ⟨E.enc a, E.enc b, E.dp _ _ _ (R.mono (fun _ _ h => (hid_some h).2) r1), E.dp _ _ _ (R.mono (fun _ _ h => (hid_some h).2) r2), E.sh hn a, E.sh hn b, q _ W _ (Stp.refl W) w.b rfl ⟨a, b, p1, p2, by
    have := E.eqv a b
    cases h : PyData.eqv (E.enc a) (E.enc b) with
    | true => rw [h] at this; simp [this.mp rfl]
    | false => rw [h] at this; simp; intro z; have := this.mpr z; cases this⟩⟩
theorem ev_eqD [DecidableEq α] {a b : α} (E : Eqr K R) (hn : E.n ≤ 64) (ha : Ev C ta Γ .h R a) (hb : Ev C tb Γ .h R b) : Ev C (tOp (rEqD K) ta tb) Γ ℓ rBool (decide (a = b)) := (evp_eqD E hn ha hb).imp fun z ⟨_, _, p, q, e⟩ => by
  subst p q
  rw [Bool.eq_iff_iff, e]; simp
theorem ev_neD [DecidableEq α] {a b : α} (E : Eqr K R) (hn : E.n ≤ 64) (ha : Ev C ta Γ .h R a) (hb : Ev C tb Γ .h R b) : Ev C (tOp (rNeD K) ta tb) Γ ℓ rBool (!decide (a = b)) := (evp_neD E hn ha hb).imp fun z ⟨_, _, p, q, e⟩ => by
  subst p q
  rw [Bool.eq_iff_iff, e]; simp
/-! in, index -/
end
end GL


set_option Elab.async false
set_option linter.all false
set_option maxRecDepth 100000
set_option maxHeartbeats 1000000
namespace GL
open PySem L2
/-! ### what is walked -/
/-- how far a fact about a heap carries: through deeds of the def itself (its own lists change), or through an expression alone -/
def per (C : Cn) (b : Bool) (W W' : Wd) : Prop := match b with
  | true => Same W.G W'.G
  | false => Stp W W'
theorem per.refl {C : Cn} {b : Bool} (W : Wd) : per C b W W := by
  cases b with
  | true => exact Same.refl _
  | false => exact Stp.refl W
theorem mw_same {C : Cn} {W W' : Wd} (h : Same W.G W'.G) : Same (Mw C W) (Mw C W') := fun p o e => by
  rcases jn_some e with e | ⟨n, e⟩
  · exact jn_l _ _ e
  · show jn _ _ p = some o
    rw [jn_r n]
    exact h _ _ e
structure Goes (C : Cn) {α : Type} (J : It) (ok : Wd → Prop) (ℓ : Lv) (R : Rl α) (l : List α) : Prop where
  go : ∀ V i, Bok C V → ok V → i < l.length → J.go i V.H
  stop : ∀ V, Bok C V → ok V → J.stop l.length V.H
  yld : ∀ V i x H' a, Bok C V → ok V → l[i]? = some a → J.yld i V.H x H' → ∃ V', V'.H = H' ∧ Bok C V' ∧ Stp V V' ∧ R.is (wl C V' ℓ) x a
def EvI (C : Cn) {α : Type} (b : Bool) (wi : TI) (Γ : List Ent) (ℓ : Lv) (R : Rl α) (P : List α → Prop) : Prop :=
  ∀ σ W, World C σ W Γ → ∀ Rk : It → Hp → Prop, (∀ J W' l (ok : Wd → Prop), Stp W W' → Bok C W' → ok W' → (∀ V1 V2, Bok C V1 → Bok C V2 → per C b V1 V2 → ok V1 → ok V2) → Goes C J ok ℓ R l → P l → Rk J W'.H) → wi σ W.H Rk
section
variable {C : Cn} {Γ : List Ent} {α β γ δ : Type} {R : Rl α} {S : Rl β} {T : Rl γ} {P : α → Prop} {Pl : List α → Prop} {P' : β → Prop} {ta tb tc te : TE} {ℓ ℓ' c c' : Lv} {K : PySem.W.Frag}
theorem EvI.imp {b : Bool} {wi : TI} {Pm : List α → Prop} (h : EvI C b wi Γ ℓ R Pl) (i : ∀ l, Pl l → Pm l) : EvI C b wi Γ ℓ R Pm := fun σ W w Rk k => h σ W w Rk fun J W' l ok s b o p g z => k J W' l ok s b o p g (i l z)
theorem Same.per {W W' : Wd} (s : Stp W W') : Same W.G W'.G := s.g
/-- where the container stands: c for a loop must be g or m -/
theorem per_wl {b : Bool} {c : Lv} (hc : b = true → c ≠ .h) {V1 V2 : Wd} (k1 : Bok C V1) (k : per C b V1 V2) : Same (wl C V1 c) (wl C V2 c) := by
  cases b with
  | true =>
    cases c with
    | g => exact k
    | m => exact mw_same k
    | h => exact absurd rfl (hc rfl)
  | false => exact Stp.lv k1 k c
theorem ei_list {b : Bool} (hc : b = true → c ≠ .h := by first | (intro h; exact absurd h (by decide)) | (intro _; decide)) (hl : b = true → ℓ ≠ .h := by first | (intro h; exact absurd h (by decide)) | (intro _; decide)) (ha : EvS C ta Γ .l c ℓ R Pl) : EvI C b (iList K ta) Γ ℓ R Pl := fun σ W w Rk k =>
  ha σ W w _ fun p W1 xs l s b1 e r pl => ⟨p, rfl, ⟨xs, sqL_of b1 e⟩, k _ W1 l (fun V => seqAt .l (wl C V c) p xs ∧ All2 (R.is (wl C V ℓ)) xs l) s b1 ⟨e, r⟩ (fun V1 V2 k1 k2 pr ⟨h1, h2⟩ => ⟨h1.mono (per_wl hc k1 pr), h2.imp fun _ _ => R.mono (per_wl hl k1 pr)⟩)
    ⟨fun V i bk ⟨h1, h2⟩ hi => ⟨xs, xs[i]'(by rw [h2.len]; exact hi), sqL_of bk h1, List.getElem?_eq_getElem _⟩, fun V bk ⟨h1, h2⟩ => ⟨xs, sqL_of bk h1, by rw [h2.len]; exact Nat.le_refl _⟩,
      fun V i x H' a bk ⟨h1, h2⟩ ha ⟨y1, y2⟩ => by
        obtain ⟨v, hv, rv⟩ := h2.get ha
        have := y2 xs (sqL_of bk h1)
        rw [hv] at this
        cases this
        exact ⟨V, y1.symm, bk, Stp.refl V, rv⟩⟩ pl⟩
theorem ei_tup {b : Bool} (hc : b = true → c ≠ .h := by first | (intro h; exact absurd h (by decide)) | (intro _; decide)) (hl : b = true → ℓ ≠ .h := by first | (intro h; exact absurd h (by decide)) | (intro _; decide)) (ha : EvS C ta Γ .t c ℓ R Pl) : EvI C b (iTup K ta) Γ ℓ R Pl := fun σ W w Rk k =>
  ha σ W w _ fun p W1 xs l s b1 e r pl => ⟨p, rfl, ⟨xs, sqT_of b1 e⟩, k _ W1 l (fun V => seqAt .t (wl C V c) p xs ∧ All2 (R.is (wl C V ℓ)) xs l) s b1 ⟨e, r⟩ (fun V1 V2 k1 k2 pr ⟨h1, h2⟩ => ⟨h1.mono (per_wl hc k1 pr), h2.imp fun _ _ => R.mono (per_wl hl k1 pr)⟩)
    ⟨fun V i bk ⟨h1, h2⟩ hi => ⟨xs, xs[i]'(by rw [h2.len]; exact hi), sqT_of bk h1, List.getElem?_eq_getElem _⟩, fun V bk ⟨h1, h2⟩ => ⟨xs, sqT_of bk h1, by rw [h2.len]; exact Nat.le_refl _⟩,
      fun V i x H' a bk ⟨h1, h2⟩ ha ⟨y1, y2⟩ => by
        obtain ⟨v, hv, rv⟩ := h2.get ha
        have := y2 xs (sqT_of bk h1)
        rw [hv] at this
        cases this
        exact ⟨V, y1.symm, bk, Stp.refl V, rv⟩⟩ pl⟩
/-- either -/
def iEith (K : PySem.W.Frag) (tl : TE) : TI := fun σ H R => tl σ H fun x H1 => ∃ a, x = .ref a ∧ (((∃ xs, SqL K H1 a xs) ∧ R (Itl K a) H1) ∨ ((∃ xs, SqT K H1 a xs) ∧ R (Itt K a) H1))
theorem ei_eith {b : Bool} (hc : b = true → ℓ ≠ .h := by first | (intro h; exact absurd h (by decide)) | (intro _; decide)) (ha : EvP C ta Γ ℓ (rSeq R) Pl) : EvI C b (iEith K ta) Γ ℓ R Pl := fun σ W w Rk k =>
  ha σ W w _ fun v W1 l s b1 ⟨p, xs, e, h, r⟩ pl => ⟨p, e, by
    rcases h with h | h
    · exact .inl ⟨⟨xs, sqL_of (c := ℓ) b1 h⟩, k _ W1 l (fun V => seqAt .l (wl C V ℓ) p xs ∧ All2 (R.is (wl C V ℓ)) xs l) s b1 ⟨h, r⟩ (fun V1 V2 k1 k2 pr ⟨h1, h2⟩ => ⟨h1.mono (per_wl hc k1 pr), h2.imp fun _ _ => R.mono (per_wl hc k1 pr)⟩)
        ⟨fun V i bk ⟨h1, h2⟩ hi => ⟨xs, xs[i]'(by rw [h2.len]; exact hi), sqL_of bk h1, List.getElem?_eq_getElem _⟩, fun V bk ⟨h1, h2⟩ => ⟨xs, sqL_of bk h1, by rw [h2.len]; exact Nat.le_refl _⟩,
          fun V i x H' a bk ⟨h1, h2⟩ ha ⟨y1, y2⟩ => by
            obtain ⟨v, hv, rv⟩ := h2.get ha
            have := y2 xs (sqL_of bk h1)
            rw [hv] at this
            cases this
            exact ⟨V, y1.symm, bk, Stp.refl V, rv⟩⟩ pl⟩
    · exact .inr ⟨⟨xs, sqT_of (c := ℓ) b1 h⟩, k _ W1 l (fun V => seqAt .t (wl C V ℓ) p xs ∧ All2 (R.is (wl C V ℓ)) xs l) s b1 ⟨h, r⟩ (fun V1 V2 k1 k2 pr ⟨h1, h2⟩ => ⟨h1.mono (per_wl hc k1 pr), h2.imp fun _ _ => R.mono (per_wl hc k1 pr)⟩)
        ⟨fun V i bk ⟨h1, h2⟩ hi => ⟨xs, xs[i]'(by rw [h2.len]; exact hi), sqT_of bk h1, List.getElem?_eq_getElem _⟩, fun V bk ⟨h1, h2⟩ => ⟨xs, sqT_of bk h1, by rw [h2.len]; exact Nat.le_refl _⟩,
          fun V i x H' a bk ⟨h1, h2⟩ ha ⟨y1, y2⟩ => by
            obtain ⟨v, hv, rv⟩ := h2.get ha
            have := y2 xs (sqT_of bk h1)
            rw [hv] at this
            cases this
            exact ⟨V, y1.symm, bk, Stp.refl V, rv⟩⟩ pl⟩⟩
/-- the ints lo, lo + 1, .. below hi -/
def rg (lo hi : Int) : List Int := (List.range (hi - lo).toNat).map fun (i : Nat) => lo + (i : Int)
theorem rg_len (lo hi : Int) : (rg lo hi).length = (hi - lo).toNat := by simp [rg]
theorem rg_get (lo hi : Int) (i : Nat) (h : i < (hi - lo).toNat) : (rg lo hi)[i]? = some (lo + (i : Int)) := by
  unfold rg
  rw [List.getElem?_map, List.getElem?_range h]; rfl
theorem goes_rg (lo hi : Int) : Goes C (Itr lo (hi - lo).toNat) (fun _ => True) ℓ rInt (rg lo hi) :=
  ⟨fun V i _ _ h => by rw [rg_len] at h; exact h, fun V _ _ => by rw [rg_len]; exact Nat.le_refl _, fun V i x H' a bk _ ha ⟨y1, y2⟩ => ⟨V, y1.symm, bk, Stp.refl V, by
    have hl : i < (hi - lo).toNat := by
      have := (List.getElem?_eq_some_iff.mp ha).1
      rwa [rg_len] at this
    rw [rg_get lo hi i hl] at ha
    cases ha
    exact y2⟩⟩
theorem ei_rg1 {b : Bool} {Pi : Int → Prop} (ha : EvP C ta Γ .h rInt Pi) (hz : ∀ i, Pi i → -(2 ^ 62) ≤ i ∧ i < 2 ^ 62) : EvI C b (iRng1 (tCons ta tNil)) Γ ℓ rInt (fun l => ∃ n, Pi n ∧ l = rg 0 n) := fun σ W w Rk k =>
  ha σ W w _ fun v W1 n s b1 r p => ⟨n, by rw [show v = .int n from r], (hz n p).1, (hz n p).2, k _ W1 (rg 0 n) (fun _ => True) s b1 trivial (fun _ _ _ _ _ _ => trivial) (by
    have := goes_rg (C := C) (ℓ := ℓ) 0 n
    rwa [Int.sub_zero] at this) ⟨n, p, rfl⟩⟩
/-- a new pair at each turn -/
theorem pair_yld {Z : Wd} {T : Addr} {x y : V} {a : α} {b : β} (bk : Bok C Z) (hT : Z.H T = none) (r1 : R.is (wl C Z ℓ) x a) (r2 : S.is (wl C Z ℓ) y b) : ∃ V' : Wd, V'.H = upd Z.H T (.tup [x, y]) ∧ Bok C V' ∧ Stp Z V' ∧ (rPair R S).is (wl C V' ℓ) (.ref T) (a, b) := by
  have bl := bk.put (o := .tup [x, y]) (bk.h0 hT) (bk.nvs hT) (bk.g0 hT)
  have sl := Stp.put bk (o := .tup [x, y]) hT
  refine ⟨Z.put T (.tup [x, y]), rfl, bl, sl, T, x, y, rfl, ?_, R.mono (sl.lv bk ℓ) r1, S.mono (sl.lv bk ℓ) r2⟩
  cases ℓ with
  | g => exact upd_same
  | m =>
    show jn _ _ T = _
    rw [jn_r ?_]
    · exact upd_same
    · by_cases z : T ∈ C.vs0
      · exact hid_in z
      · rw [hid_out z]; exact bk.h0 hT
  | h => exact (hid_out (bk.nvs hT)).trans upd_same
def enu {α : Type} (l : List α) : List (Int × α) := l.zipIdx.map fun p => ((p.2 : Int), p.1)
theorem enu_len {α : Type} (l : List α) : (enu l).length = l.length := by simp [enu]
theorem enu_get {α : Type} (l : List α) (i : Nat) : (enu l)[i]? = (l[i]?).map fun a => ((i : Int), a) := by
  unfold enu
  rw [List.getElem?_map, List.getElem?_zipIdx]
  cases l[i]? <;> simp
theorem EvI.fl {b : Bool} {wi : TI} (f : Flat R) (h : EvI C b wi Γ ℓ R Pl) : EvI C b wi Γ ℓ' R Pl := fun σ W w Rk k => h σ W w Rk fun J W' l ok s bk o p g z => k J W' l ok s bk o p ⟨g.go, g.stop, fun V i x H' a b1 o1 e y => by
  obtain ⟨V', h1, h2, h3, h4⟩ := g.yld V i x H' a b1 o1 e y
  exact ⟨V', h1, h2, h3, f _ _ _ _ h4⟩⟩ z
/-! ### comprehensions -/
def RL {α β : Type} (p : α → β → Prop) : List α → List β → Prop
  | [], [] => True
  | a :: l, b :: m => p a b ∧ RL p l m
  | _, _ => False
theorem RL.app {p : α → β → Prop} : ∀ {l l' : List α} {m m' : List β}, RL p l m → RL p l' m' → RL p (l ++ l') (m ++ m')
  | [], _, [], _, _, h => h
  | _ :: _, _, _ :: _, _, ⟨a, b⟩, h => ⟨a, RL.app b h⟩
theorem RL.len {p : α → β → Prop} : ∀ {l : List α} {m : List β}, RL p l m → l.length = m.length
  | [], [], _ => rfl
  | _ :: _, _ :: _, ⟨_, b⟩ => by rw [List.length_cons, List.length_cons, RL.len b]
theorem RL.eq {f : α → β} : ∀ {l : List α} {m : List β}, RL (fun a b => b = f a) l m → m = l.map f
  | [], [], _ => rfl
  | _ :: _, _ :: _, ⟨a, b⟩ => by rw [List.map_cons, a, RL.eq b]
theorem RL.get {p : α → β → Prop} : ∀ {l : List α} {m : List β} {i : Nat} {b : β}, RL p l m → m[i]? = some b → ∃ a, l[i]? = some a ∧ p a b
  | [], [], _, _, _, h => by simp at h
  | a :: _, _ :: _, 0, b, ⟨q, _⟩, h => by simp at h; subst h; exact ⟨a, rfl, q⟩
  | _ :: _, _ :: _, i + 1, b, ⟨_, t⟩, h => by
    obtain ⟨a, h1, h2⟩ := RL.get (i := i) (b := b) t (by simpa using h)
    exact ⟨a, by simpa using h1, h2⟩
theorem RL.mem {p : α → β → Prop} {l : List α} {m : List β} (h : RL p l m) {b : β} (hb : b ∈ m) : ∃ a, a ∈ l ∧ p a b := by
  obtain ⟨i, hi, e⟩ := List.getElem_of_mem hb
  obtain ⟨a, h1, h2⟩ := h.get (i := i) (b := b) (by rw [List.getElem?_eq_getElem hi, e])
  exact ⟨a, List.mem_of_getElem? h1, h2⟩
def wipeG (Γ : List Ent) : List Nat → List Ent
  | [] => Γ
  | v :: vs => (wipeG Γ vs).set v .no
theorem World.wipe {σ : Sg} {W : Wd} (w : World C σ W Γ) : ∀ vs : List Nat, World C (wipe σ vs) W (wipeG Γ vs)
  | [] => w
  | v :: vs => (World.wipe w vs).set v trivial fun p h => by cases h
theorem World.setv {σ : Sg} {W : Wd} (w : World C σ W Γ) (i : Nat) {v : V} {a : α} (hl : ℓ ≠ .h) (h : R.is (wl C W ℓ) v a) : World C (σ.set i (some v)) W (Γ.set i (.val ℓ R a)) :=
  w.set i ⟨hl, v, rfl, h⟩ fun p h => by cases h
theorem wipe1 {σ : Sg} {j : Nat} {x : Option V} : wipe ((wipe σ [j]).set j x) [j] = wipe σ [j] := by
  unfold wipe
  rw [show wipe σ [] = σ from rfl]
  show ((σ.set j none).set j x).set j none = σ.set j none
  rw [List.set_set, List.set_set]
/-- the core: g binds the item to slots as Γ' says -/
theorem en_lcG {wi : TI} {g : TG} {tt : TT} {vs : List Nat} {p : α → Bool} {Pe : α → β → Prop} (Γ' : α → List Ent) (hi : EvI C false wi Γ ℓ R Pl) (hlv : ℓ' ≠ .h := by decide) (hz : ∀ l, Pl l → l.length ≤ 1000000)
    (hg : ∀ (σ : Sg) W x a (Q : Sg → Hp → Prop), World C σ W Γ → R.is (wl C W ℓ) x a → (∀ σ2, World C σ2 W (Γ' a) → wipe σ2 vs = wipe σ vs → Q σ2 W.H) → g x (wipe σ vs) W.H Q)
    (ht : ∀ l a, Pl l → a ∈ l → EvB C tt (Γ' a) (fun b => b = p a)) (he : ∀ l a, Pl l → a ∈ l → p a = true → EvP C te (Γ' a) ℓ' S (fun b => Pe a b)) :
    EvN C (tLc wi g tt te vs) Γ ℓ' S (fun z => ∃ l, Pl l ∧ RL Pe (l.filter p) z) := fun σ W w Q q =>
  hi σ W w _ fun J W1 l ok s1 b1 o1 po gs pl D hD => by
    have w1 := w.stp b1 s1
    have n0 := w.b.back b1 s1 hD
    have hD0 := w.b.h0 n0
    have hDv : D ∉ W1.vs := by rw [s1.vs]; exact w.b.nvs n0
    -- a world within
    let Pv : Nat → Hp → Prop := fun i H => ∃ (Z : Wd) (acc : List V) (z : List β), Z.H = H ∧ Bok C Z ∧ Stp W1 Z ∧ Z.H D = some (.lst acc) ∧ Z.G D = none ∧ All2 (S.is (wl C Z ℓ')) acc z ∧ RL Pe ((l.take i).filter p) z
    have lay : ∀ (Z : Wd) (acc : List V), Bok C Z → Stp W1 Z → Z.G D = none → Bok C (Z.lay D (.lst acc)) ∧ Stp W1 (Z.lay D (.lst acc)) := fun Z acc bz sz hG => by
      have hv : D ∉ Z.vs := by rw [sz.vs]; exact hDv
      refine ⟨bz.lay hD0 hv hG, ⟨sz.vs, sz.g, fun a o e => ?_, sz.new⟩⟩
      have ne : a ≠ D := ne_of_none (hid_some e).2 hD
      have e' := sz.h a o e
      obtain ⟨e1, e2⟩ := hid_some e'
      show hid (upd Z.H D _) Z.vs a = _
      rw [hid_out e1, upd_ne ne]; exact e2
    have lvl : ∀ (Z : Wd) (acc : List V), Z.G D = none → ∀ ℓ'' : Lv, ℓ'' ≠ .h → Same (wl C Z ℓ'') (wl C (Z.lay D (.lst acc)) ℓ'') := fun Z acc hG ℓ'' hn => by
      cases ℓ'' with
      | g => exact Same.refl _
      | m => exact Same.refl _
      | h => exact absurd rfl hn
    refine ⟨fun i m H => m = l.length - i ∧ i ≤ l.length ∧ Pv i H, ⟨l.length, by omega, Nat.zero_le _, ?_⟩, ?_⟩
    · obtain ⟨b2, s2⟩ := lay W1 [] b1 (Stp.refl W1) (b1.g0 hD)
      exact ⟨W1.lay D (.lst []), [], [], rfl, b2, s2, upd_same, b1.g0 hD, trivial, trivial⟩
    · rintro i m H ⟨rfl, hil, Z, acc, z, rfl, bz, sz, hZ, hG, ha, hr⟩
      have okz := po W1 Z b1 bz sz o1
      by_cases hlt : i < l.length
      · refine .inr ⟨gs.go Z i bz okz hlt, Pv (i + 1), fun H' p' => ⟨l.length - (i + 1), by omega, rfl, hlt, p'⟩, fun x H' y => ?_⟩
        obtain ⟨Z', rfl, bz', sz', rx⟩ := gs.yld Z i x H' l[i] bz okz (List.getElem?_eq_getElem hlt) y
        have w' := (w1.stp bz sz).stp bz' sz'
        have hmem : l[i] ∈ l := List.getElem_mem hlt
        have keepD : ∀ {Z2 : Wd}, Bok C Z2 → Stp Z Z2 → Z2.H D = some (.lst acc) ∧ Z2.G D = none ∧ D ∉ Z2.vs := fun {Z2} b2 s2 => by
          have hv : D ∉ Z.vs := by rw [sz.vs]; exact hDv
          refine ⟨(hid_some (s2.h _ _ ((hid_out hv).trans hZ))).2, ?_, by rw [s2.vs]; exact hv⟩
          cases q : Z2.G D with
          | none => rfl
          | some o =>
            rcases s2.new D o q with e | e
            · rw [hG] at e; cases e
            · rw [hZ] at e; cases e
        refine hg σ Z' x l[i] _ w' rx fun σ2 w2 hw => ⟨hw, ?_⟩
        refine ht l l[i] pl hmem σ2 Z' w2 _ fun b Z3 s3 b3 hb => ?_
        have tk : (l.take (i + 1)).filter p = (l.take i).filter p ++ (if p l[i] = true then [l[i]] else []) := by
          rw [List.take_succ_eq_append_getElem hlt, List.filter_append]
          congr 1
          by_cases hp : p l[i] = true <;> simp [hp]
        cases b with
        | true =>
          have hp : p l[i] = true := hb.symm
          show te σ2 Z3.H _
          refine he l l[i] pl hmem hp σ2 Z3 (w2.stp b3 s3) _ fun y Z4 c s4 b4 r4 p4 => ?_
          have s34 := (sz'.trans bz bz' s3).trans bz b3 s4
          obtain ⟨k1, k2, k3⟩ := keepD b4 s34
          obtain ⟨b5, s5⟩ := lay Z4 (acc ++ [y]) b4 (sz.trans b1 bz s34) k2
          have hlen : z.length ≤ i := by
            have h1 := hr.len
            have h2 := List.length_filter_le p (l.take i)
            rw [List.length_take] at h2
            omega
          have hzl := hz l pl
          have sb := sizeLine_big
          refine ⟨acc, k1, by rw [ha.len]; omega, Z4.lay D (.lst (acc ++ [y])), acc ++ [y], z ++ [c], rfl, b5, s5, upd_same, k2, ?_, ?_⟩
          · refine All2.app (ha.imp fun _ _ h => S.mono (lvl Z4 _ k2 ℓ' hlv) (S.mono (s34.lv bz ℓ') h)) ⟨S.mono (lvl Z4 _ k2 ℓ' hlv) r4, trivial⟩
          · rw [tk, if_pos hp]
            exact hr.app ⟨p4, trivial⟩
        | false =>
          have hp : p l[i] = false := hb.symm
          show Pv (i + 1) Z3.H
          have s3' := sz'.trans bz bz' s3
          obtain ⟨k1, k2, k3⟩ := keepD b3 s3'
          refine ⟨Z3, acc, z, rfl, b3, sz.trans b1 bz s3', k1, k2, ha.imp fun _ _ h => S.mono (s3'.lv bz ℓ') h, ?_⟩
          rw [tk, if_neg (by rw [hp]; decide), List.append_nil]
          exact hr
      · have e : i = l.length := by omega
        subst e
        refine .inl ⟨gs.stop Z bz okz, ?_⟩
        rw [List.take_length] at hr
        exact q D Z acc z (s1.trans w.b b1 sz) bz n0 hZ hG ha ⟨l, pl, hr⟩
/-- the item in one name -/
theorem en_lc {wi : TI} {tt : TT} {j : Nat} {p : α → Bool} {Pe : α → β → Prop} (hi : EvI C false wi Γ ℓ R Pl) (hz : ∀ l, Pl l → l.length ≤ 1000000) (ht : ∀ l a, Pl l → a ∈ l → EvB C tt ((wipeG Γ [j]).set j (.val ℓ R a)) (fun b => b = p a))
    (he : ∀ l a, Pl l → a ∈ l → p a = true → EvP C te ((wipeG Γ [j]).set j (.val ℓ R a)) ℓ' S (fun b => Pe a b)) (hl : ℓ ≠ .h := by decide) (hlv : ℓ' ≠ .h := by decide) : EvN C (tLc wi (gName j) tt te [j]) Γ ℓ' S (fun z => ∃ l, Pl l ∧ RL Pe (l.filter p) z) :=
  en_lcG (fun a => (wipeG Γ [j]).set j (.val ℓ R a)) hi hlv hz (fun σ W x a Q w r k => k _ ((w.wipe [j]).setv j hl r) wipe1) ht he
theorem eb_yes : EvB C tYes Γ (fun b => b = true) := fun σ W w Q q => q true W (Stp.refl W) w.b rfl
/-- without a test, a function of the item -/
theorem en_map {wi : TI} {j : Nat} (f : α → β) (hi : EvI C false wi Γ ℓ R Pl) (hz : ∀ l, Pl l → l.length ≤ 1000000) (he : ∀ l a, Pl l → a ∈ l → Ev C te ((wipeG Γ [j]).set j (.val ℓ R a)) ℓ' S (f a)) (hl : ℓ ≠ .h := by decide) (hlv : ℓ' ≠ .h := by decide) :
    EvN C (tLc wi (gName j) tYes te [j]) Γ ℓ' S (fun z => ∃ l, Pl l ∧ z = l.map f) :=
  (en_lc (p := fun _ => true) (Pe := fun a b => b = f a) hi hz (fun _ _ _ _ => eb_yes) (fun l a h m _ => he l a h m) hl hlv).imp fun z ⟨l, h, r⟩ => ⟨l, h, by
    have := r.eq
    rwa [List.filter_eq_self.mpr (fun _ _ => rfl)] at this⟩
/-- with a test -/
theorem en_filt {wi : TI} {tt : TT} {j : Nat} (p : α → Prop) [DecidablePred p] (f : α → β) (hi : EvI C false wi Γ ℓ R Pl) (hz : ∀ l, Pl l → l.length ≤ 1000000) (ht : ∀ l a, Pl l → a ∈ l → EvC C tt ((wipeG Γ [j]).set j (.val ℓ R a)) (p a)) (he : ∀ l a, Pl l → a ∈ l → p a → Ev C te ((wipeG Γ [j]).set j (.val ℓ R a)) ℓ' S (f a)) (hl : ℓ ≠ .h := by decide) (hlv : ℓ' ≠ .h := by decide) :
    EvN C (tLc wi (gName j) tt te [j]) Γ ℓ' S (fun z => ∃ l, Pl l ∧ z = (l.filter fun a => decide (p a)).map f) :=
  (en_lc (p := fun a => decide (p a)) (Pe := fun a b => b = f a) hi hz (fun l a h m => (ht l a h m).imp fun b e => by rw [Bool.eq_iff_iff, e]; simp) (fun l a h m hp => he l a h m (of_decide_eq_true hp)) hl hlv).imp fun z ⟨l, h, r⟩ => ⟨l, h, r.eq⟩
end
end GL


set_option Elab.async false
set_option linter.all false
set_option maxRecDepth 100000
set_option maxHeartbeats 1000000
namespace GL
open PySem L2
/-! ### statements -/
def Go (C : Cn) (t : TS) (D : Ends) (Γ : List Ent) : Prop := ∀ σ W, World C σ W Γ → t D σ W.H
def Nx (C : Cn) (k : Sg → Hp → Prop) (Γ : List Ent) : Prop := ∀ σ W, World C σ W Γ → k σ W.H
/-- some state of these forms -/
def Hol (C : Cn) {S : Type} (Γs : S → List Ent) (J : S → Prop) : Sg → Hp → Prop := fun σ H => ∃ s W, W.H = H ∧ World C σ W (Γs s) ∧ J s
/-- one may forget what a name holds -/
def LeG : List Ent → List Ent → Prop
  | [], [] => True
  | e :: Γ, e' :: Γ' => (e' = .no ∨ e' = e) ∧ LeG Γ Γ'
  | _, _ => False
theorem LeG.len : ∀ {Γ Γ' : List Ent}, LeG Γ Γ' → Γ.length = Γ'.length
  | [], [], _ => rfl
  | _ :: _, _ :: _, ⟨_, h⟩ => by rw [List.length_cons, List.length_cons, LeG.len h]
theorem LeG.get : ∀ {Γ Γ' : List Ent} {i : Nat} {e : Ent}, LeG Γ Γ' → Γ'[i]? = some e → e = .no ∧ i < Γ.length ∨ Γ[i]? = some e
  | [], [], _, _, _, h => by simp at h
  | a :: _, b :: _, 0, e, ⟨h, _⟩, k => by
    have k' : b = e := by simpa using k
    rcases h with h | h
    · exact .inl ⟨k' ▸ h, Nat.succ_pos _⟩
    · exact .inr (by show some a = some e; rw [← h, k'])
  | a :: Γ, b :: _, i + 1, e, ⟨_, h⟩, k => by
    rcases LeG.get (i := i) (e := e) h (by simpa using k) with ⟨h1, h2⟩ | h1
    · exact .inl ⟨h1, Nat.succ_lt_succ h2⟩
    · exact .inr (by simpa using h1)
theorem LeG.refl : ∀ (Γ : List Ent), LeG Γ Γ
  | [] => trivial
  | _ :: Γ => ⟨.inr rfl, LeG.refl Γ⟩
theorem World.le {C : Cn} {σ : Sg} {W : Wd} {Γ Γ' : List Ent} (w : World C σ W Γ) (h : LeG Γ Γ') : World C σ W Γ' := by
  refine ⟨w.b, w.len.trans h.len, fun i e k => ?_, fun i j p q hij hp hq => ?_⟩
  · rcases h.get k with ⟨rfl, hl⟩ | h1
    · obtain ⟨x, h2, _⟩ := w.ent i _ (List.getElem?_eq_getElem hl)
      exact ⟨x, h2, trivial⟩
    · exact w.ent i e h1
  · have back : ∀ (i : Nat) (p : Addr), adAt Γ' i p → adAt Γ i p := fun i p ⟨u, hu, hm⟩ => by
      rcases h.get hu with ⟨rfl, _⟩ | h1
      · cases hm
      · exact ⟨u, h1, hm⟩
    exact w.dis i j p q hij (back i p hp) (back j q hq)
/-- the same run, a later floor -/
structure Cex (C C' : Cn) : Prop where
  h0 : C'.H0 = C.H0
  vs0 : C'.vs0 = C.vs0
  pi : C'.PI = C.PI
  fl : Same C.F C'.F
  tb : C'.tb = C.tb
  kn : C'.kn = C.kn
theorem Cex.refl (C : Cn) : Cex C C := ⟨rfl, rfl, rfl, Same.refl _, rfl, rfl⟩
theorem Cex.trans {C C' C2 : Cn} (a : Cex C C') (b : Cex C' C2) : Cex C C2 := ⟨b.h0.trans a.h0, b.vs0.trans a.vs0, b.pi.trans a.pi, a.fl.trans b.fl, b.tb.trans a.tb, b.kn.trans a.kn⟩
theorem Bok.down {C C' : Cn} {W : Wd} (x : Cex C C') (b : Bok C' W) : Bok C W := by
  obtain ⟨h0, v0, pi, f0, tb0, kn0⟩ := C
  obtain ⟨h1, v1, pi1, f1, tb1, kn1⟩ := C'
  obtain ⟨e1, e2, e3, e4, e5, e6⟩ := x
  subst e1 e2 e3 e5 e6
  exact ⟨b.base, b.vol, b.vsub, b.vnew, b.v0, b.gv, b.g, b.gn, e4.trans b.fl, b.tab, b.knb⟩
theorem wl_ex {C C' : Cn} {W : Wd} (x : Cex C C') : ∀ ℓ, wl C' W ℓ = wl C W ℓ
  | .g => rfl
  | .m => by
    show jn (hid C'.H0 C'.vs0) W.G = jn (hid C.H0 C.vs0) W.G
    rw [x.h0, x.vs0]
  | .h => rfl
theorem EntOk.ex {C C' : Cn} {W : Wd} {y : Option V} (x : Cex C C') : ∀ {e : Ent}, EntOk C' W y e ↔ EntOk C W y e
  | .no => Iff.rfl
  | .val ℓ R a => by
    show (ℓ ≠ .h ∧ ∃ v, y = some v ∧ R.is (wl C' W ℓ) v a) ↔ (ℓ ≠ .h ∧ ∃ v, y = some v ∧ R.is (wl C W ℓ) v a)
    rw [wl_ex x]
  | .own p ℓ R l => by
    show (ℓ ≠ .h ∧ y = some (.ref p) ∧ p ∉ W.vs ∧ C'.H0 p = none ∧ W.G p = none ∧ ∃ xs, W.H p = some (.lst xs) ∧ All2 (R.is (wl C' W ℓ)) xs l) ↔ (ℓ ≠ .h ∧ y = some (.ref p) ∧ p ∉ W.vs ∧ C.H0 p = none ∧ W.G p = none ∧ ∃ xs, W.H p = some (.lst xs) ∧ All2 (R.is (wl C W ℓ)) xs l)
    rw [wl_ex x, x.h0]
  | .vol p => by
    show (y = some (.ref p) ∧ p ∈ W.vs ∧ ¬ C'.isT p) ↔ (y = some (.ref p) ∧ p ∈ W.vs ∧ ¬ C.isT p)
    unfold Cn.isT
    rw [x.tb]
  | .raw v => Iff.rfl
  | .ob v ps ℓ S a => by
    show (ℓ ≠ .h ∧ y = some v ∧ (∀ p ∈ ps, p ∉ W.vs ∧ C'.H0 p = none ∧ W.G p = none ∧ W.H p ≠ none) ∧ S.is (wl C' W ℓ) W.H v ps a) ↔ (ℓ ≠ .h ∧ y = some v ∧ (∀ p ∈ ps, p ∉ W.vs ∧ C.H0 p = none ∧ W.G p = none ∧ W.H p ≠ none) ∧ S.is (wl C W ℓ) W.H v ps a)
    rw [wl_ex x, x.h0]
theorem World.down {C C' : Cn} {σ : Sg} {W : Wd} {Γ : List Ent} (x : Cex C C') (w : World C' σ W Γ) : World C σ W Γ :=
  ⟨w.b.down x, w.len, fun i e h => by
    obtain ⟨y, h1, h2⟩ := w.ent i e h
    exact ⟨y, h1, (EntOk.ex x).mp h2⟩, w.dis⟩
/-- .. from a world whose own part holds the floor -/
theorem World.raise {C : Cn} {σ : Sg} {W : Wd} {Γ : List Ent} (w : World C σ W Γ) {F : Hp} (hF : Same C.F F) (h : Same F W.G) : World { C with F := F } σ W Γ := by
  have x : Cex C { C with F := F } := ⟨rfl, rfl, rfl, hF, rfl, rfl⟩
  exact ⟨⟨w.b.base, w.b.vol, w.b.vsub, w.b.vnew, w.b.v0, w.b.gv, w.b.g, w.b.gn, h, w.b.tab, w.b.knb⟩, w.len, fun i e k => by
    obtain ⟨y, h1, h2⟩ := w.ent i e k
    exact ⟨y, h1, (EntOk.ex x).mpr h2⟩, w.dis⟩
/-- what is wanted of a return | of an exception -/
def RetOk (C : Cn) (D : Ends) {β : Type} (R : Rl β) (P : β → Prop) : Prop := ∀ v W b, Bok C W → R.is W.G v b → P b → D.rt v W.H
def ExcOk (C : Cn) (E : XK) (P : Addr → Prop) : Prop := ∀ c W, Bok C W → P c → E (.ref c) none W.H
theorem RetOk.ex {C C' : Cn} {D : Ends} {β : Type} {R : Rl β} {P : β → Prop} (h : RetOk C D R P) (x : Cex C C') : RetOk C' D R P := fun v W b k => h v W b (k.down x)
theorem ExcOk.ex {C C' : Cn} {E : XK} {P : Addr → Prop} (h : ExcOk C E P) (x : Cex C C') : ExcOk C' E P := fun c W k => h c W (k.down x)
theorem exc0 {C : Cn} {E : XK} : ExcOk C E (fun _ => False) := fun _ _ _ h => h.elim
def tCut (t u : TS) : TS := fun D σ H => ∃ Mid : L2.St → Hp → Prop, t { D with nx := Mid } σ H ∧ ∀ σ' H', Mid σ' H' → u D σ' H'
theorem pss_cut {X : Cx} {st : Stmt} {rest : List Stmt} {t u : TS} (h1 : PS X st t) (h2 : PSs X rest u) : PSs X (st :: rest) (tCut t u) := by
  refine ⟨fun pins s σ H D I h => ?_⟩
  obtain ⟨Mid, hm, hu⟩ := h
  refine wpAny_execs_cons (thn (h1.run pins s σ H { D with nx := Mid } I hm) fun f s1 q => ?_)
  cases f with
  | next =>
    obtain ⟨σ', H', I', q⟩ := q
    exact h2.run pins s1 σ' H' D I' (hu σ' H' q)
  | ret v => exact q
  | brk => exact q
  | cont => exact q
section
variable {C : Cn} {Γ : List Ent} {α β γ δ : Type} {R : Rl α} {S : Rl β} {T : Rl γ} {P : α → Prop} {Pl : List α → Prop} {P' : β → Prop} {ta tb tc te : TE} {ℓ ℓ' c c' : Lv} {K : PySem.W.Frag} {D : Ends} {t u u' : TS}
theorem Go.le {Γ' : List Ent} (h : LeG Γ Γ') (g : Go C t D Γ') : Go C t D Γ := fun σ W w => g σ W (w.le h)
theorem hol_in {S : Type} {Γs : S → List Ent} {J : S → Prop} (s : S) (hJ : J s) (h : LeG Γ (Γs s)) : Nx C (Hol C Γs J) Γ := fun σ W w => ⟨s, W, rfl, w.le h, hJ⟩
theorem q_next (h : Nx C D.nx Γ) : Go C tNext D Γ := h
/-- x = e -/
theorem q_asg {i : Nat} (h : EvP C te Γ ℓ R P) (k : ∀ a, P a → Go C u D (Γ.set i (.val ℓ R a))) (hl : ℓ ≠ .h := by decide) : Go C (tSeq (tAsg te (gName i)) u) D Γ := fun σ W w =>
  h σ W w _ fun v W' a s b r p => k a p _ W' ((w.stp b s).setv i hl r)
/-- x = a new list, ours -/
theorem q_asgN {i : Nat} (h : EvN C te Γ ℓ R Pl) (k : ∀ p l, Pl l → Go C u D (Γ.set i (.own p ℓ R l))) (hl : ℓ ≠ .h := by decide) : Go C (tSeq (tAsg te (gName i)) u) D Γ := fun σ W w =>
  h σ W w _ fun p W' xs l s b n hH hG r z => k p l z _ W' ((w.stp b s).set i ⟨hl, rfl, by rw [s.vs]; exact w.b.nvs n, w.b.h0 n, hG, xs, hH, r⟩ fun q hq j q' hj e => by
    cases List.mem_singleton.mp hq
    exact w.adne n j q' e)
theorem q_drop (h : EvP C te Γ ℓ R P) (k : ∀ a, P a → Go C u D Γ) : Go C (tSeq (tDrop te) u) D Γ := fun σ W w => h σ W w _ fun v W' a s b r p => k a p _ W' (w.stp b s)
/-- our list is ours no more -/
theorem q_frz {i : Nat} {p : Addr} {l : List α} (h : Γ[i]? = some (.own p ℓ R l)) (k : Go C u D (Γ.set i (.val ℓ (rList R) l))) : Go C u D Γ := fun σ W w => by
  obtain ⟨x, h1, hl, h2, hv, h0, hG, xs, hH, r⟩ := w.get h
  subst h2
  have bf := w.b.frz (o := .lst xs) h0 hv hH hG
  have lv := frz_lv (C := C) w.b (p := p) (o := .lst xs) hG
  have ef : σ = σ.set i (some (.ref p)) := by
    refine List.ext_getElem? fun j => ?_
    by_cases e : i = j
    · subst e
      rw [List.getElem?_set_self (w.lt h), h1]
    · rw [List.getElem?_set_ne e]
  have wf : World C σ (W.frz p (.lst xs)) (Γ.set i .no) := by
    have w0 := w.set i (x := some (.ref p)) (e := .no) trivial fun q hq => by cases hq
    rw [← ef] at w0
    refine ⟨bf, w0.len, fun j e hj => ?_, w0.dis⟩
    obtain ⟨y, y1, y2⟩ := w0.ent j e hj
    refine ⟨y, y1, ?_⟩
    cases e with
    | no => trivial
    | val ℓ' R' a => exact ⟨y2.1, let ⟨v, e, q⟩ := y2.2; ⟨v, e, R'.mono (lv ℓ') q⟩⟩
    | own q ℓ' R' l' =>
      obtain ⟨z1, z2, z3, z4, z5, ys, z6, z7⟩ := y2
      refine ⟨z1, z2, z3, z4, ?_, ys, z6, z7.imp fun _ _ => R'.mono (lv ℓ')⟩
      have ne : q ≠ p := by
        by_cases e : i = j
        · subst e
          rw [List.getElem?_set_self (by rw [← w.len]; exact w.lt h)] at hj
          cases hj
        · rw [List.getElem?_set_ne e] at hj
          exact Ne.symm (w.dis i j p q e (.own h) (.own hj))
      show upd W.G p _ q = none
      rw [upd_ne ne]; exact z5
    | vol q => exact y2
    | raw v => exact y2
    | ob v ps ℓ' S' a' =>
      obtain ⟨z1, z2, z3, z4⟩ := y2
      refine ⟨z1, z2, fun q m => ?_, S'.mono (lv ℓ') (fun _ _ => rfl) z4⟩
      obtain ⟨k1, k2, k3, k4⟩ := z3 q m
      have ne : q ≠ p := by
        by_cases e : i = j
        · subst e
          rw [List.getElem?_set_self (by rw [← w.len]; exact w.lt h)] at hj
          cases hj
        · rw [List.getElem?_set_ne e] at hj
          exact Ne.symm (w.dis i j p q e (.own h) (.ob hj m))
      refine ⟨k1, k2, ?_, k4⟩
      show upd W.G p _ q = none
      rw [upd_ne ne]; exact k3
  have w1 := wf.setv i (ℓ := ℓ) (R := rList R) (v := .ref p) (a := l) hl ⟨p, xs, rfl, frz_at w.b h0 hv hH ℓ, r.imp fun _ _ => R.mono (lv ℓ)⟩
  rw [← ef, List.set_set] at w1
  exact k σ (W.frz p (.lst xs)) w1
/-- our list changes -/
theorem World.own_set {σ : Sg} {W : Wd} (w : World C σ W Γ) {i : Nat} {p : Addr} {l l' : List α} {xs' : List V} (h : Γ[i]? = some (.own p ℓ R l)) (r : All2 (R.is (wl C W ℓ)) xs' l') : World C σ (W.lay p (.lst xs')) (Γ.set i (.own p ℓ R l')) := by
  obtain ⟨x, h1, hl, h2, hv, h0, hG, xs, hH, _⟩ := w.get h
  subst h2
  have lv : ∀ ℓ' : Lv, ℓ' ≠ .h → Same (wl C W ℓ') (wl C (W.lay p (.lst xs')) ℓ') := fun ℓ' hn => by
    cases ℓ' with
    | g => exact Same.refl _
    | m => exact Same.refl _
    | h => exact absurd rfl hn
  refine ⟨w.b.lay h0 hv hG, by rw [List.length_set]; exact w.len, fun j e hj => ?_, ?_⟩
  · by_cases e' : i = j
    · subst e'
      rw [List.getElem?_set_self (by rw [← w.len]; exact w.lt h)] at hj
      cases hj
      exact ⟨_, h1, hl, rfl, hv, h0, hG, xs', upd_same, r.imp fun _ _ => R.mono (lv ℓ hl)⟩
    · rw [List.getElem?_set_ne e'] at hj
      obtain ⟨y, y1, y2⟩ := w.ent j e hj
      refine ⟨y, y1, ?_⟩
      cases e with
      | no => trivial
      | val ℓ' R' a => exact ⟨y2.1, let ⟨v, e, q⟩ := y2.2; ⟨v, e, R'.mono (lv ℓ' y2.1) q⟩⟩
      | own q ℓ' R' l' =>
        obtain ⟨z1, z2, z3, z4, z5, ys, z6, z7⟩ := y2
        have ne : q ≠ p := Ne.symm (w.dis i j p q e' (.own h) (.own hj))
        exact ⟨z1, z2, z3, z4, z5, ys, by show upd W.H p _ q = _; rw [upd_ne ne]; exact z6, z7.imp fun _ _ => R'.mono (lv ℓ' z1)⟩
      | vol q => exact y2
      | raw v => exact y2
      | ob v ps ℓ' S' a' =>
        obtain ⟨z1, z2, z3, z4⟩ := y2
        have ne : ∀ q ∈ ps, q ≠ p := fun q m => Ne.symm (w.dis i j p q e' (.own h) (.ob hj m))
        refine ⟨z1, z2, fun q m => ?_, S'.mono (lv ℓ' z1) (fun q m => upd_ne (ne q m)) z4⟩
        obtain ⟨k1, k2, k3, k4⟩ := z3 q m
        exact ⟨k1, k2, k3, by show upd W.H p _ q ≠ none; rw [upd_ne (ne q m)]; exact k4⟩
  · have key : ∀ (j : Nat) (q : Addr), adAt (Γ.set i (.own p ℓ R l')) j q → adAt Γ j q := fun j q ⟨u, hu, hm⟩ => by
      by_cases e : i = j
      · subst e
        rw [List.getElem?_set_self (by rw [← w.len]; exact w.lt h)] at hu
        cases hu
        exact ⟨_, h, hm⟩
      · rw [List.getElem?_set_ne e] at hu
        exact ⟨u, hu, hm⟩
    exact fun a b q q' hab hq hq' => w.dis a b q q' hab (key a q hq) (key b q' hq')
theorem own_lit {σ : Sg} {W : Wd} (w : World C σ W Γ) {i : Nat} {p : Addr} {l : List α} (h : Γ[i]? = some (.own p ℓ R l)) : σ[i]? = some (some (.ref p)) ∧ ∃ xs, W.H p = some (.lst xs) ∧ All2 (R.is (wl C W ℓ)) xs l := by
  obtain ⟨x, h1, hl, h2, hv, h0, hG, xs, hH, r⟩ := w.get h
  subst h2
  exact ⟨h1, xs, hH, r⟩
/-- x.append(e) -/
theorem q_app {i : Nat} {p : Addr} {l : List α} (h : Γ[i]? = some (.own p ℓ R l)) (he : EvP C te Γ ℓ R P) (hz : l.length < 1000000) (k : ∀ a, P a → Go C u D (Γ.set i (.own p ℓ R (l ++ [a])))) :
    Go C (tSeq (tDrop (tBM K "list" rAppend (tVar i) (tCons te tNil))) u) D Γ := fun σ W w => by
  obtain ⟨h1, xs, hH, r⟩ := own_lit w h
  refine ⟨_, h1, .inl ⟨rfl, _, .inl (.inl hH)⟩, he σ W w _ fun v W' a s b rv pa => ?_⟩
  have w' := w.stp b s
  obtain ⟨_, xs', hH', r'⟩ := own_lit w' h
  exact ⟨p, xs', v, rfl, rfl, hH', by rw [r'.len]; exact Nat.lt_of_lt_of_le hz sizeLine_big, k a pa σ _ (w'.own_set h (r'.app (ys := [v]) ⟨rv, trivial⟩))⟩
/-- x.pop(), as a value of a name -/
theorem q_pop {i j : Nat} {p : Addr} {l : List α} [Inhabited α] (h : Γ[i]? = some (.own p ℓ R l)) (hz : l ≠ []) (hij : i ≠ j) (k : Go C u D ((Γ.set i (.own p ℓ R l.dropLast)).set j (.val ℓ R (gtB l 1)))) :
    Go C (tSeq (tAsg (tBM0 K "list" rPop (tVar i)) (gName j)) u) D Γ := fun σ W w => by
  obtain ⟨h1, xs, hH, r⟩ := own_lit w h
  have hp : 0 < l.length := List.length_pos_iff.mpr hz
  obtain ⟨v, hv, rv⟩ := r.get (gtB_get (l := l) (k := 1) (by omega))
  refine ⟨_, h1, .inl ⟨rfl, _, .inl (.inl hH)⟩, p, xs, v, rfl, rfl, hH, by rw [r.len]; exact hv, ?_⟩
  have w1 := w.own_set (l' := l.dropLast) h r.dropLast
  have hl : ℓ ≠ .h := by
    obtain ⟨_, _, hl, _⟩ := w.get h
    exact hl
  refine k _ _ (w1.setv j hl ?_)
  cases ℓ with
  | g => exact rv
  | m => exact rv
  | h => exact absurd rfl hl
theorem ixN_of {n : Nat} {i : Int} (h : 0 ≤ i ∧ i < n) : ixN n i = some i.toNat := by
  unfold ixN
  rw [if_pos h.1, if_pos h.2]
/-- x[e] = v -/
theorem q_set {i : Nat} {p : Addr} {l : List α} {Pi : Int → Prop} (h : Γ[i]? = some (.own p ℓ R l)) (he : EvP C te Γ ℓ R P) (hx : EvP C ta Γ .h rInt Pi) (hz : ∀ n, Pi n → 0 ≤ n ∧ n < l.length) (k : ∀ a n, P a → Pi n → Go C u D (Γ.set i (.own p ℓ R (l.set n.toNat a)))) :
    Go C (tSeq (tAsg te (gSub (tVar i) ta rSetL)) u) D Γ := fun σ W w => he σ W w _ fun v W1 a s1 b1 r1 p1 => by
  have w1 := w.stp b1 s1
  obtain ⟨h1, xs, hH, r⟩ := own_lit w1 h
  refine ⟨_, h1, hx σ W1 w1 _ fun y W2 n s2 b2 r2 p2 => ?_⟩
  have w2 := w1.stp b2 s2
  obtain ⟨_, xs', hH', r'⟩ := own_lit w2 h
  exact ⟨p, xs', n, n.toNat, rfl, r2, hH', ixN_of (by rw [r'.len]; exact hz n p2), k a n p1 p2 σ _ (w2.own_set h (r'.set (R.mono (s2.lv b1 ℓ) r1) n.toNat))⟩
/-- if -/
theorem q_if {tt : TT} {Pb : Bool → Prop} (h : EvB C tt Γ Pb) (h1 : Pb true → Go C t { D with nx := u D } Γ) (h2 : Pb false → Go C u' { D with nx := u D } Γ) : Go C (tSeq (tIfS tt t u') u) D Γ := fun σ W w => h σ W w _ fun b W' s bk p => by
  cases b with
  | true => exact h1 p σ W' (w.stp bk s)
  | false => exact h2 p σ W' (w.stp bk s)
theorem q_ifC {tt : TT} {p : Prop} (h : EvC C tt Γ p) (h1 : p → Go C t { D with nx := u D } Γ) (h2 : ¬ p → Go C u' { D with nx := u D } Γ) : Go C (tSeq (tIfS tt t u') u) D Γ :=
  q_if h (fun e => h1 (e.mp rfl)) fun e => h2 fun z => by have := e.mpr z; cases this
/-- an if, its branches joined behind it -/
theorem q_cut {S : Type} (Γs : S → List Ent) (J : S → Prop) (h : Go C t { D with nx := Hol C Γs J } Γ) (k : ∀ s, J s → Go C u D (Γs s)) : Go C (tCut t u) D Γ := fun σ W w =>
  ⟨_, h σ W w, fun σ' H' ⟨s, W', e, w', hJ⟩ => by subst e; exact k s hJ σ' W' w'⟩
theorem c_if {tt : TT} {Pb : Bool → Prop} (h : EvB C tt Γ Pb) (h1 : Pb true → Go C t D Γ) (h2 : Pb false → Go C u' D Γ) : Go C (tIfS tt t u') D Γ := fun σ W w => h σ W w _ fun b W' s bk p => by
  cases b with
  | true => exact h1 p σ W' (w.stp bk s)
  | false => exact h2 p σ W' (w.stp bk s)
theorem c_ifC {tt : TT} {p : Prop} (h : EvC C tt Γ p) (h1 : p → Go C t D Γ) (h2 : ¬ p → Go C u' D Γ) : Go C (tIfS tt t u') D Γ :=
  c_if h (fun e => h1 (e.mp rfl)) fun e => h2 fun z => by have := e.mpr z; cases this
/-- return -/
theorem q_ret (h : EvP C te Γ .g R P) {Pr : α → Prop} (hR : RetOk C D R Pr) (k : ∀ a, P a → Pr a) : Go C (tSeq (tRet te) u) D Γ := fun σ W w => h σ W w _ fun v W' a s b r p => hR v W' a b r (k a p)
/-- a def without a return: its end -/
theorem q_retE {Pr : Unit → Prop} (hR : RetOk C D rNone Pr) (hn : ∀ H, D.rt .non H → ∀ σ, D.nx σ H) (k : Pr ()) : Go C tNext D Γ := fun σ W w => hn _ (hR _ W () w.b rfl k) _
/-- raise -/
theorem q_raise {E : XK} {c : Addr} {Pe : Addr → Prop} (hE : ExcOk C E Pe) (k : Pe c) : Go C (tSeq (fun _ σ H => E (.ref c) none H) u) D Γ := fun σ W w => hE c W w.b k
/-- for x in .. -/
theorem q_forG {S : Type} {wi : TI} {g : TG} (Γs : S → List Ent) (I : List α → Nat → S → Prop) (Γ' : S → α → List Ent) (hi : EvI C true wi Γ ℓ R Pl) (h0 : ∀ l, Pl l → ∃ s, I l 0 s ∧ LeG Γ (Γs s))
    (hg : ∀ (C' : Cn) (σ : Sg) W x a s (Q : Sg → Hp → Prop), World C' σ W (Γs s) → R.is (wl C' W ℓ) x a → (∀ σ2, World C' σ2 W (Γ' s a) → Q σ2 W.H) → g x σ W.H Q)
    (hs : ∀ C', Cex C C' → ∀ l i a s, Pl l → l[i]? = some a → I l i s → Go C' t { D with nx := Hol C' Γs (I l (i + 1)), ct := Hol C' Γs (I l (i + 1)), bk := u D } (Γ' s a)) (hd : ∀ l s, Pl l → I l l.length s → Go C u D (Γs s)) : Go C (tSeq (tFor wi g t) u) D Γ := fun σ W w =>
  hi σ W w _ fun J W1 l ok s1 b1 o1 po gs pl => by
    obtain ⟨s0, i0, le0⟩ := h0 l pl
    have w1 := (w.stp b1 s1).le le0
    have x1 : Cex C { C with F := W1.G } := ⟨rfl, rfl, rfl, b1.fl, rfl, rfl⟩
    refine ⟨fun i m σ H => m = l.length - i ∧ i ≤ l.length ∧ Hol { C with F := W1.G } Γs (I l i) σ H, ⟨l.length, by omega, Nat.zero_le _, s0, W1, rfl, w1.raise b1.fl (Same.refl _), i0⟩, ?_⟩
    rintro i m σ' H ⟨rfl, hil, s, Z, rfl, wz, hI⟩
    have bz : Bok C Z := wz.b.down x1
    have okz := po W1 Z b1 bz wz.b.fl o1
    by_cases hlt : i < l.length
    · refine .inr ⟨gs.go Z i bz okz hlt, Hol { C with F := W1.G } Γs (I l (i + 1)), fun σ2 H2 p' => ⟨l.length - (i + 1), by omega, rfl, hlt, p'⟩, fun x H' y => ?_⟩
      obtain ⟨Z', rfl, bz', sz', rx⟩ := gs.yld Z i x H' l[i] bz okz (List.getElem?_eq_getElem hlt) y
      have bz2 : Bok { C with F := W1.G } Z' := ⟨bz'.base, bz'.vol, bz'.vsub, bz'.vnew, bz'.v0, bz'.gv, bz'.g, bz'.gn, wz.b.fl.trans sz'.g, bz'.tab, bz'.knb⟩
      have w' := wz.stp bz2 sz'
      exact hg _ σ' Z' x l[i] s _ w' rx fun σ2 w2 => hs _ x1 l i l[i] s pl (List.getElem?_eq_getElem hlt) hI σ2 Z' w2
    · have e : i = l.length := by omega
      subst e
      exact .inl ⟨gs.stop Z bz okz, hd l s pl hI σ' Z (wz.down x1)⟩
theorem q_for {S : Type} {wi : TI} {j : Nat} (Γs : S → List Ent) (I : List α → Nat → S → Prop) (hi : EvI C true wi Γ ℓ R Pl) (h0 : ∀ l, Pl l → ∃ s, I l 0 s ∧ LeG Γ (Γs s))
    (hs : ∀ C', Cex C C' → ∀ l i a s, Pl l → l[i]? = some a → I l i s → Go C' t { D with nx := Hol C' Γs (I l (i + 1)), ct := Hol C' Γs (I l (i + 1)), bk := u D } ((Γs s).set j (.val ℓ R a))) (hd : ∀ l s, Pl l → I l l.length s → Go C u D (Γs s)) (hl : ℓ ≠ .h := by decide) : Go C (tSeq (tFor wi (gName j) t) u) D Γ :=
  q_forG Γs I (fun s a => (Γs s).set j (.val ℓ R a)) hi h0 (fun C' σ W x a s Q w r k => k _ (w.setv j hl r)) hs hd
theorem q_for2 {S : Type} {wi : TI} {i j : Nat} {Pq : List (α × β) → Prop} {S' : Rl β} (Γs : S → List Ent) (I : List (α × β) → Nat → S → Prop) (hi : EvI C true wi Γ ℓ (rPair R S') Pq) (h0 : ∀ l, Pq l → ∃ s, I l 0 s ∧ LeG Γ (Γs s))
    (hs : ∀ C', Cex C C' → ∀ l n a s, Pq l → l[n]? = some a → I l n s → Go C' t { D with nx := Hol C' Γs (I l (n + 1)), ct := Hol C' Γs (I l (n + 1)), bk := u D } (((Γs s).set i (.val ℓ R a.1)).set j (.val ℓ S' a.2))) (hd : ∀ l s, Pq l → I l l.length s → Go C u D (Γs s)) (hl : ℓ ≠ .h := by decide) :
    Go C (tSeq (tFor wi (gTup K 2 (gCons (gName i) (gCons (gName j) gNil))) t) u) D Γ :=
  q_forG Γs I (fun s a => ((Γs s).set i (.val ℓ R a.1)).set j (.val ℓ S' a.2)) hi h0 (fun C' σ W x a s Q w ⟨q, y, z, e, h, r1, r2⟩ k =>
    ⟨q, [y, z], e, sqT_of (c := ℓ) w.b (.inl h), rfl, y, [z], rfl, z, [], rfl, rfl, k _ ((w.setv i hl r1).setv j hl r2)⟩) hs hd
/-- while -/
theorem q_while {S : Type} {tt : TT} (Γs : S → List Ent) (I : S → Prop) (μ : S → Nat) (p : S → Prop) (s0 : S) (i0 : I s0) (le0 : LeG Γ (Γs s0)) (hc : ∀ s, I s → EvC C tt (Γs s) (p s))
    (hs : ∀ s, I s → p s → Go C t { D with nx := Hol C Γs (fun s' => I s' ∧ μ s' < μ s), ct := Hol C Γs (fun s' => I s' ∧ μ s' < μ s), bk := u D } (Γs s)) (hd : ∀ s, I s → ¬ p s → Go C u D (Γs s)) : Go C (tSeq (tWhile tt t) u) D Γ := fun σ W w => by
  refine ⟨fun m σ H => Hol C Γs (fun s => I s ∧ μ s = m) σ H, ⟨μ s0, s0, W, rfl, w.le le0, i0, rfl⟩, ?_⟩
  rintro m σ' H ⟨s, Z, rfl, wz, hI, rfl⟩
  refine hc s hI σ' Z wz _ fun b Z' sz bz e => ?_
  cases b with
  | true =>
    show ∃ N, _
    exact ⟨_, fun σ2 H2 ⟨s', Z2, e2, w2, i2, hm⟩ => ⟨μ s', hm, s', Z2, e2, w2, i2, rfl⟩, hs s hI (e.mp rfl) σ' Z' (wz.stp bz sz)⟩
  | false => exact hd s hI (fun z => by have := e.mpr z; cases this) σ' Z' (wz.stp bz sz)
end
end GL


set_option Elab.async false
set_option linter.all false
set_option maxRecDepth 100000
set_option maxHeartbeats 1000000
namespace GL
open PySem L2
/-! ### promises -/
/-- what is new in H' -/
def fresh (H H' : Hp) : Hp := fun p => match H p with
  | none => H' p
  | some _ => none
theorem fresh_some {H H' : Hp} {p : Addr} {o : HO} (h : fresh H H' p = some o) : H p = none ∧ H' p = some o := by
  unfold fresh at h
  cases e : H p with
  | none => rw [e] at h; exact ⟨rfl, h⟩
  | some u => rw [e] at h; cases h
theorem fresh_of {H H' : Hp} {p : Addr} (h : H p = none) : fresh H H' p = H' p := by unfold fresh; rw [h]
abbrev Args (α : Type) := List V → Hp → α → Prop
def aNil : Args Unit := fun vs _ _ => vs = []
def aCons {α β : Type} (R : Rl α) (A : Args β) : Args (α × β) := fun vs H a => ∃ v r, vs = v :: r ∧ R.is H v a.1 ∧ A r H a.2
/-- called with such arguments it hands back a value that is new as a whole, or raises; what stood stands -/
def spF {α β : Type} (A : Args α) (pre : α → Prop) (R : Rl β) (post : α → β → Prop) (exc : α → Addr → Prop) : Sp := fun vs H Q E =>
  ∃ a, A vs H a ∧ pre a ∧ (∀ v H' b, Same H H' → R.is (fresh H H') v b → post a b → Q v H') ∧ (∀ c H', Same H H' → exc a c → E (.ref c) none H')
/-- the same, the first argument a row that it changes, keeping PI -/
def spV {α β : Type} (PI : HO → Prop) (A : Args α) (pre : α → Prop) (R : Rl β) (post : α → β → Prop) : Sp := fun vs H Q _ =>
  ∃ p r a o, vs = .ref p :: r ∧ H p = some o ∧ PI o ∧ A r (hid H [p]) a ∧ pre a ∧ (∀ v H' b, Same (hid H [p]) (hid H' [p]) → (∃ o', H' p = some o' ∧ PI o') → R.is (fresh H H') v b → post a b → Q v H')
def EvX (C : Cn) (te : TE) (Γ : List Ent) (Res : Wd → V → Hp → Prop) : Prop :=
  ∀ σ W, World C σ W Γ → ∀ Q : VK, (∀ W1 v H', Stp W W1 → Bok C W1 → Res W1 v H' → Q v H') → te σ W.H Q
/-- W1, then a call that has left v and H' -/
structure ResF {β : Type} (C : Cn) (R : Rl β) (P : β → Prop) (W : Wd) (v : V) (H' : Hp) : Prop where
  keep : ∀ p o, W.H p = some o → p ∉ W.vs → H' p = some o
  vol : ∀ p ∈ W.vs, ∃ o, H' p = some o ∧ (¬ C.isT p → C.PI o)
  tab : ∀ P q, (P, q) ∈ C.tb.l → ∃ ps, H' P = some (.tbl ps) ∧ Cods q (jn C.kn W.G) ps
  val : ∃ b, R.is (fresh W.H H') v b ∧ P b
section
variable {C : Cn} {Γ : List Ent} {α β γ δ : Type} {R : Rl α} {S : Rl β} {P : α → Prop} {te : TE} {ta : TA} {ℓ : Lv}
/-- the heap as it is, what is new put among what never changes (whole) or not (bare) -/
theorem bare_ok {W : Wd} (b : Bok C W) {H' : Hp} (k : ∀ p o, W.H p = some o → p ∉ W.vs → H' p = some o) (kv : ∀ p ∈ W.vs, ∃ o, H' p = some o ∧ (¬ C.isT p → C.PI o)) (kt : ∀ P q, (P, q) ∈ C.tb.l → ∃ ps, H' P = some (.tbl ps) ∧ Cods q (jn C.kn W.G) ps) : Bok C ⟨H', W.G, W.vs⟩ ∧ Stp W ⟨H', W.G, W.vs⟩ :=
  ⟨⟨(fun p o e n => by
      have h1 := b.base p o e n
      refine k p o h1 fun q => ?_
      have := b.vnew p q n
      rw [e] at this; cases this), kv, b.vsub, b.vnew, b.v0, b.gv, fun p o e => k p o (b.g p o e) (b.novs e), b.gn, b.fl, fun P q e => ⟨(b.tab P q e).1, kt P q e⟩, b.knb⟩,
   ⟨rfl, Same.refl _, fun p o e => by
      obtain ⟨e1, e2⟩ := hid_some e
      exact (hid_out e1).trans (k p o e2 e1), fun _ _ e => .inl e⟩⟩
theorem whole_ok {W : Wd} (b : Bok C W) {H' : Hp} (k : ∀ p o, W.H p = some o → p ∉ W.vs → H' p = some o) (kv : ∀ p ∈ W.vs, ∃ o, H' p = some o ∧ (¬ C.isT p → C.PI o)) (kt : ∀ P q, (P, q) ∈ C.tb.l → ∃ ps, H' P = some (.tbl ps) ∧ Cods q (jn C.kn W.G) ps) : Bok C ⟨H', jn W.G (fresh W.H H'), W.vs⟩ ∧ Stp W ⟨H', jn W.G (fresh W.H H'), W.vs⟩ ∧ Same (fresh W.H H') (jn W.G (fresh W.H H')) := by
  obtain ⟨b1, s1⟩ := bare_ok b k kv kt
  refine ⟨⟨b1.base, b1.vol, b1.vsub, b1.vnew, b1.v0, fun p hp => ?_, fun p o e => ?_, fun p o e => ?_, b.fl.trans jn_l, fun P q e => ⟨(b.tab P q e).1, let ⟨ps, h1, h2⟩ := kt P q e; ⟨ps, h1, h2.mono (jn_mono jn_l)⟩⟩, b.knb⟩, ⟨rfl, jn_l, s1.h, fun p o e => ?_⟩, fun p o e => ?_⟩
  · show jn _ _ p = none
    rw [jn_r (b.gv p hp)]
    obtain ⟨o, ho, _⟩ := b.vol p hp
    unfold fresh
    rw [ho]
  · rcases jn_some e with e | ⟨_, e⟩
    · exact b1.g p o e
    · exact (fresh_some e).2
  · rcases jn_some e with e | ⟨_, e⟩
    · exact b.gn p o e
    · exact b.h0 (fresh_some e).1
  · rcases jn_some e with e | ⟨_, e⟩
    · exact .inl e
    · exact .inr (fresh_some e).1
  · rw [jn_r (b.g0 (fresh_some e).1)]
    exact e
theorem ev_call (h : EvX C te Γ (ResF C R P)) : EvP C te Γ .g R P := fun σ W w Q q => h σ W w Q fun W1 v H' s1 b1 r => by
  obtain ⟨b, rb, pb⟩ := r.val
  obtain ⟨b2, s2, sm⟩ := whole_ok b1 r.keep r.vol r.tab
  exact q v _ b (s1.trans w.b b1 s2) b2 (R.mono sm rb) pb
theorem tab_same {W : Wd} (b : Bok C W) {H' : Hp} (s : Same W.H H') : ∀ P q, (P, q) ∈ C.tb.l → ∃ ps, H' P = some (.tbl ps) ∧ Cods q (jn C.kn W.G) ps := fun P q e =>
  let ⟨_, ps, h1, h2⟩ := b.tab P q e; ⟨ps, s _ _ h1, h2⟩
/-- ours from now on: what PI says of it -/
theorem exc_up {E : XK} {Pe : Addr → Prop} (hE : ExcOk C E Pe) {W : Wd} (b : Bok C W) (c : Addr) {H' : Hp} (s : Same W.H H') (p : Pe c) : E (.ref c) none H' := by
  obtain ⟨b1, _⟩ := bare_ok b (fun p o e _ => s p o e) (fun p hp => by
    obtain ⟨o, h1, h2⟩ := b.vol p hp
    exact ⟨o, s p o h1, h2⟩) (tab_same b s)
  exact hE c ⟨H', W.G, W.vs⟩ b1 p
theorem resF_of {W : Wd} (b : Bok C W) {v : V} {H' : Hp} (s : Same W.H H') {z : α} (r : R.is (fresh W.H H') v z) (p : P z) : ResF C R P W v H' :=
  ⟨fun q o e _ => s q o e, fun q hq => by
    obtain ⟨o, h1, h2⟩ := b.vol q hq
    exact ⟨o, s q o h1, h2⟩, tab_same b s, z, r, p⟩

theorem ex_call1 {α1 : Type} {R1 : Rl α1} {t1 : TE} {P1 : α1 → Prop} {R : Rl β} {pre : α1 × Unit → Prop} {post : α1 × Unit → β → Prop} {exc : α1 × Unit → Addr → Prop} {E : XK} {Pe : Addr → Prop} (h1 : EvP C t1 Γ .h R1 P1) (hp : ∀ a1, P1 a1 → pre (a1, ())) (hE : ExcOk C E Pe) (he : ∀ a1, P1 a1 → ∀ c, exc (a1, ()) c → Pe c) :
    EvX C (tCall (spF (aCons R1 aNil) pre R post exc) [] E (tCons t1 tNil)) Γ (ResF C R (fun b => ∃ a1, P1 a1 ∧ post (a1, ()) b)) := fun σ W w Q q =>
  h1 σ W w _ fun v1 W1 a1 s1 b1 r1 p1 =>
  have w1 := w.stp b1 s1
  ⟨(a1, ()), ⟨v1, _, rfl, (R1.mono (fun _ _ h => (hid_some h).2) r1), rfl⟩, hp a1 p1, fun v H' b sm rb po => q W1 v H' (s1) w1.b (resF_of w1.b sm rb ⟨a1, p1, po⟩), fun c H' sm ec => exc_up hE w1.b c sm (he a1 p1 c ec)⟩
theorem ed_call1 {α1 : Type} {R1 : Rl α1} {t1 : TE} {a1 : α1} {R : Rl β} {pre : α1 × Unit → Prop} {post : α1 × Unit → β → Prop} {exc : α1 × Unit → Addr → Prop} {E : XK} {Pe : Addr → Prop} (h1 : Ev C t1 Γ .h R1 a1) (hp : pre (a1, ())) (hE : ExcOk C E Pe) (he : ∀ c, exc (a1, ()) c → Pe c) :
    EvX C (tCall (spF (aCons R1 aNil) pre R post exc) [] E (tCons t1 tNil)) Γ (ResF C R (fun b => post (a1, ()) b)) := fun σ W w Q q =>
  ex_call1 h1 (fun x1 e1 => by subst e1; exact hp) hE (fun x1 e1 => by subst e1; exact he) σ W w Q fun W1 v H' s1 b1 r => q W1 v H' s1 b1 ⟨r.keep, r.vol, r.tab, by
    obtain ⟨b, rb, x1, e1, po⟩ := r.val
    subst e1
    exact ⟨b, rb, po⟩⟩
theorem ex_call2 {α1 : Type} {α2 : Type} {R1 : Rl α1} {t1 : TE} {P1 : α1 → Prop} {R2 : Rl α2} {t2 : TE} {P2 : α2 → Prop} {R : Rl β} {pre : α1 × α2 × Unit → Prop} {post : α1 × α2 × Unit → β → Prop} {exc : α1 × α2 × Unit → Addr → Prop} {E : XK} {Pe : Addr → Prop} (h1 : EvP C t1 Γ .h R1 P1) (h2 : EvP C t2 Γ .h R2 P2) (hp : ∀ a1 a2, P1 a1 → P2 a2 → pre (a1, a2, ())) (hE : ExcOk C E Pe) (he : ∀ a1 a2, P1 a1 → P2 a2 → ∀ c, exc (a1, a2, ()) c → Pe c) :
    EvX C (tCall (spF (aCons R1 (aCons R2 aNil)) pre R post exc) [] E (tCons t1 (tCons t2 tNil))) Γ (ResF C R (fun b => ∃ a1 a2, P1 a1 ∧ P2 a2 ∧ post (a1, a2, ()) b)) := fun σ W w Q q =>
  h1 σ W w _ fun v1 W1 a1 s1 b1 r1 p1 =>
  have w1 := w.stp b1 s1
  h2 σ W1 w1 _ fun v2 W2 a2 s2 b2 r2 p2 =>
  have w2 := w1.stp b2 s2
  ⟨(a1, a2, ()), ⟨v1, _, rfl, (R1.mono (fun _ _ h => (hid_some h).2) (R1.mono (s2.lv w1.b .h) r1)), ⟨v2, _, rfl, (R2.mono (fun _ _ h => (hid_some h).2) r2), rfl⟩⟩, hp a1 a2 p1 p2, fun v H' b sm rb po => q W2 v H' ((s1.trans w.b w1.b s2)) w2.b (resF_of w2.b sm rb ⟨a1, a2, p1, p2, po⟩), fun c H' sm ec => exc_up hE w2.b c sm (he a1 a2 p1 p2 c ec)⟩
theorem ed_call2 {α1 : Type} {α2 : Type} {R1 : Rl α1} {t1 : TE} {a1 : α1} {R2 : Rl α2} {t2 : TE} {a2 : α2} {R : Rl β} {pre : α1 × α2 × Unit → Prop} {post : α1 × α2 × Unit → β → Prop} {exc : α1 × α2 × Unit → Addr → Prop} {E : XK} {Pe : Addr → Prop} (h1 : Ev C t1 Γ .h R1 a1) (h2 : Ev C t2 Γ .h R2 a2) (hp : pre (a1, a2, ())) (hE : ExcOk C E Pe) (he : ∀ c, exc (a1, a2, ()) c → Pe c) :
    EvX C (tCall (spF (aCons R1 (aCons R2 aNil)) pre R post exc) [] E (tCons t1 (tCons t2 tNil))) Γ (ResF C R (fun b => post (a1, a2, ()) b)) := fun σ W w Q q =>
  ex_call2 h1 h2 (fun x1 x2 e1 e2 => by subst e1 e2; exact hp) hE (fun x1 x2 e1 e2 => by subst e1 e2; exact he) σ W w Q fun W1 v H' s1 b1 r => q W1 v H' s1 b1 ⟨r.keep, r.vol, r.tab, by
    obtain ⟨b, rb, x1, x2, e1, e2, po⟩ := r.val
    subst e1 e2
    exact ⟨b, rb, po⟩⟩
theorem ex_call3 {α1 : Type} {α2 : Type} {α3 : Type} {R1 : Rl α1} {t1 : TE} {P1 : α1 → Prop} {R2 : Rl α2} {t2 : TE} {P2 : α2 → Prop} {R3 : Rl α3} {t3 : TE} {P3 : α3 → Prop} {R : Rl β} {pre : α1 × α2 × α3 × Unit → Prop} {post : α1 × α2 × α3 × Unit → β → Prop} {exc : α1 × α2 × α3 × Unit → Addr → Prop} {E : XK} {Pe : Addr → Prop} (h1 : EvP C t1 Γ .h R1 P1) (h2 : EvP C t2 Γ .h R2 P2) (h3 : EvP C t3 Γ .h R3 P3) (hp : ∀ a1 a2 a3, P1 a1 → P2 a2 → P3 a3 → pre (a1, a2, a3, ())) (hE : ExcOk C E Pe) (he : ∀ a1 a2 a3, P1 a1 → P2 a2 → P3 a3 → ∀ c, exc (a1, a2, a3, ()) c → Pe c) :
    EvX C (tCall (spF (aCons R1 (aCons R2 (aCons R3 aNil))) pre R post exc) [] E (tCons t1 (tCons t2 (tCons t3 tNil)))) Γ (ResF C R (fun b => ∃ a1 a2 a3, P1 a1 ∧ P2 a2 ∧ P3 a3 ∧ post (a1, a2, a3, ()) b)) := fun σ W w Q q =>
  h1 σ W w _ fun v1 W1 a1 s1 b1 r1 p1 =>
  have w1 := w.stp b1 s1
  h2 σ W1 w1 _ fun v2 W2 a2 s2 b2 r2 p2 =>
  have w2 := w1.stp b2 s2
  h3 σ W2 w2 _ fun v3 W3 a3 s3 b3 r3 p3 =>
  have w3 := w2.stp b3 s3
  ⟨(a1, a2, a3, ()), ⟨v1, _, rfl, (R1.mono (fun _ _ h => (hid_some h).2) (R1.mono (s3.lv w2.b .h) (R1.mono (s2.lv w1.b .h) r1))), ⟨v2, _, rfl, (R2.mono (fun _ _ h => (hid_some h).2) (R2.mono (s3.lv w2.b .h) r2)), ⟨v3, _, rfl, (R3.mono (fun _ _ h => (hid_some h).2) r3), rfl⟩⟩⟩, hp a1 a2 a3 p1 p2 p3, fun v H' b sm rb po => q W3 v H' (((s1.trans w.b w1.b s2).trans w.b w2.b s3)) w3.b (resF_of w3.b sm rb ⟨a1, a2, a3, p1, p2, p3, po⟩), fun c H' sm ec => exc_up hE w3.b c sm (he a1 a2 a3 p1 p2 p3 c ec)⟩
theorem ed_call3 {α1 : Type} {α2 : Type} {α3 : Type} {R1 : Rl α1} {t1 : TE} {a1 : α1} {R2 : Rl α2} {t2 : TE} {a2 : α2} {R3 : Rl α3} {t3 : TE} {a3 : α3} {R : Rl β} {pre : α1 × α2 × α3 × Unit → Prop} {post : α1 × α2 × α3 × Unit → β → Prop} {exc : α1 × α2 × α3 × Unit → Addr → Prop} {E : XK} {Pe : Addr → Prop} (h1 : Ev C t1 Γ .h R1 a1) (h2 : Ev C t2 Γ .h R2 a2) (h3 : Ev C t3 Γ .h R3 a3) (hp : pre (a1, a2, a3, ())) (hE : ExcOk C E Pe) (he : ∀ c, exc (a1, a2, a3, ()) c → Pe c) :
    EvX C (tCall (spF (aCons R1 (aCons R2 (aCons R3 aNil))) pre R post exc) [] E (tCons t1 (tCons t2 (tCons t3 tNil)))) Γ (ResF C R (fun b => post (a1, a2, a3, ()) b)) := fun σ W w Q q =>
  ex_call3 h1 h2 h3 (fun x1 x2 x3 e1 e2 e3 => by subst e1 e2 e3; exact hp) hE (fun x1 x2 x3 e1 e2 e3 => by subst e1 e2 e3; exact he) σ W w Q fun W1 v H' s1 b1 r => q W1 v H' s1 b1 ⟨r.keep, r.vol, r.tab, by
    obtain ⟨b, rb, x1, x2, x3, e1, e2, e3, po⟩ := r.val
    subst e1 e2 e3
    exact ⟨b, rb, po⟩⟩
theorem ex_vol0   {R : Rl β} {PI : HO → Prop} {pre : Unit → Prop} {post : Unit → β → Prop} {E : XK} {i : Nat} {p : Addr} (hv : Γ[i]? = some (.vol p)) (hPI : C.PI = PI)  (hp : pre ()) :
    EvX C (tCall (spV PI aNil pre R post) [] E (tCons (tVar i) tNil)) Γ (ResF C R (fun b => post () b)) := fun σ W w Q q => by
  obtain ⟨x, h1x, h2x, h3x, hnt⟩ := w.get hv
  subst h2x
  refine ⟨_, h1x, ?_⟩
  have hin : p ∈ W.vs := by
    obtain ⟨x, z1, z2, z3, _⟩ := w.get hv
    exact z3
  obtain ⟨o, ho, hpi⟩ := w.b.vol p hin
  have hm : Same (Hm W) (hid W.H [p]) := fun q u e => by
    obtain ⟨e1, e2⟩ := hid_some e
    rw [hid_out (by intro z; rw [List.mem_singleton] at z; subst z; exact e1 hin)]; exact e2
  refine ⟨p, _, (), o, rfl, ho, hPI ▸ (hpi hnt), rfl, hp , fun v H' b sm kv rb po => q W v H' (Stp.refl W) w.b ⟨fun q u e hq => ?_, fun q hq => ?_, fun P q e => ?_, b, rb, po⟩⟩
  · have ne : q ≠ p := fun z => hq (z ▸ hin)
    have e1 : hid W.H [p] q = some u := (hid_out (by intro z; rw [List.mem_singleton] at z; exact ne z)).trans e
    exact (hid_some (sm q u e1)).2
  · by_cases z : q = p
    · subst z
      obtain ⟨o', h1, h2⟩ := kv
      exact ⟨o', h1, fun _ => hPI ▸ h2⟩
    · obtain ⟨u, h1, h2⟩ := w.b.vol q hq
      have e1 : hid W.H [p] q = some u := (hid_out (by intro y; rw [List.mem_singleton] at y; exact z y)).trans h1
      exact ⟨u, (hid_some (sm q u e1)).2, h2⟩
  · obtain ⟨_, ps, h1, h2⟩ := w.b.tab P q e
    have ne : P ≠ p := fun z => hnt ⟨q, z ▸ e⟩
    have e1 : hid W.H [p] P = some (.tbl ps) := (hid_out (by intro y; rw [List.mem_singleton] at y; exact ne y)).trans h1
    exact ⟨ps, (hid_some (sm P _ e1)).2, h2⟩
theorem ex_vol1 {α1 : Type} {R1 : Rl α1} {t1 : TE} {P1 : α1 → Prop} {R : Rl β} {PI : HO → Prop} {pre : α1 × Unit → Prop} {post : α1 × Unit → β → Prop} {E : XK} {i : Nat} {p : Addr} (hv : Γ[i]? = some (.vol p)) (hPI : C.PI = PI) (h1 : EvP C t1 Γ .h R1 P1) (hp : ∀ a1, P1 a1 → pre (a1, ())) :
    EvX C (tCall (spV PI (aCons R1 aNil) pre R post) [] E (tCons (tVar i) (tCons t1 tNil))) Γ (ResF C R (fun b => ∃ a1, P1 a1 ∧ post (a1, ()) b)) := fun σ W w Q q => by
  obtain ⟨x, h1x, h2x, h3x, hnt⟩ := w.get hv
  subst h2x
  refine ⟨_, h1x, ?_⟩
  refine h1 σ W w _ fun v1 W1 a1 s1 b1 r1 p1 => ?_
  have w1 := w.stp b1 s1
  have hin : p ∈ W1.vs := by
    obtain ⟨x, z1, z2, z3, _⟩ := w1.get hv
    exact z3
  obtain ⟨o, ho, hpi⟩ := w1.b.vol p hin
  have hm : Same (Hm W1) (hid W1.H [p]) := fun q u e => by
    obtain ⟨e1, e2⟩ := hid_some e
    rw [hid_out (by intro z; rw [List.mem_singleton] at z; subst z; exact e1 hin)]; exact e2
  refine ⟨p, _, (a1, ()), o, rfl, ho, hPI ▸ (hpi hnt), ⟨v1, _, rfl, (R1.mono hm r1), rfl⟩, hp a1 p1, fun v H' b sm kv rb po => q W1 v H' (s1) w1.b ⟨fun q u e hq => ?_, fun q hq => ?_, fun P q e => ?_, b, rb, ⟨a1, p1, po⟩⟩⟩
  · have ne : q ≠ p := fun z => hq (z ▸ hin)
    have e1 : hid W1.H [p] q = some u := (hid_out (by intro z; rw [List.mem_singleton] at z; exact ne z)).trans e
    exact (hid_some (sm q u e1)).2
  · by_cases z : q = p
    · subst z
      obtain ⟨o', h1, h2⟩ := kv
      exact ⟨o', h1, fun _ => hPI ▸ h2⟩
    · obtain ⟨u, h1, h2⟩ := w1.b.vol q hq
      have e1 : hid W1.H [p] q = some u := (hid_out (by intro y; rw [List.mem_singleton] at y; exact z y)).trans h1
      exact ⟨u, (hid_some (sm q u e1)).2, h2⟩
  · obtain ⟨_, ps, h1, h2⟩ := w1.b.tab P q e
    have ne : P ≠ p := fun z => hnt ⟨q, z ▸ e⟩
    have e1 : hid W1.H [p] P = some (.tbl ps) := (hid_out (by intro y; rw [List.mem_singleton] at y; exact ne y)).trans h1
    exact ⟨ps, (hid_some (sm P _ e1)).2, h2⟩
end
/-! ### a def's start -/
def Cn0 (PI : HO → Prop) (H : Hp) : Cn := ⟨H, [], PI, fun _ => none, .nil, fun _ => none⟩
def CnV (H : Hp) (p : Addr) (PI : HO → Prop) : Cn := ⟨H, [p], PI, fun _ => none, .nil, fun _ => none⟩
def W0 (H : Hp) (vs : List Addr) : Wd := ⟨H, fun _ => none, vs⟩
theorem bok0 {PI : HO → Prop} (H : Hp) : Bok (Cn0 PI H) (W0 H []) :=
  ⟨fun _ _ e _ => e, (fun _ h => by cases h), (fun _ h => h), (fun _ h => by cases h), (fun _ h => by cases h), (fun _ h => by cases h), (fun _ _ e => by cases e), (fun _ _ e => by cases e), (fun _ _ e => by cases e), (fun _ _ e => by cases e), (fun _ _ e => by cases e)⟩
theorem bokV {H : Hp} {p : Addr} {PI : HO → Prop} {o : HO} (h : H p = some o) (hp : PI o) : Bok (CnV H p PI) (W0 H [p]) :=
  ⟨fun _ _ e _ => e, (fun q hq => by have e : q = p := List.mem_singleton.mp hq; subst e; exact ⟨o, h, fun _ => hp⟩), (fun _ h => h), (fun _ h n => absurd h n), (fun q hq => by have e : q = p := List.mem_singleton.mp hq; subst e; show H q ≠ none; rw [h]; intro z; cases z), (fun _ _ => rfl), (fun _ _ e => by cases e), (fun _ _ e => by cases e), (fun _ _ e => by cases e), (fun _ _ e => by cases e), (fun _ _ e => by cases e)⟩
def Pw (C : Cn) (W : Wd) : Sg → List Ent → Prop
  | [], [] => True
  | x :: σ, e :: Γ => EntOk C W x e ∧ Pw C W σ Γ
  | _, _ => False
theorem Pw.len {C : Cn} {W : Wd} : ∀ {σ : Sg} {Γ : List Ent}, Pw C W σ Γ → σ.length = Γ.length
  | [], [], _ => rfl
  | _ :: _, _ :: _, ⟨_, h⟩ => by rw [List.length_cons, List.length_cons, Pw.len h]
theorem Pw.get {C : Cn} {W : Wd} : ∀ {σ : Sg} {Γ : List Ent} {i : Nat} {e : Ent}, Pw C W σ Γ → Γ[i]? = some e → ∃ x, σ[i]? = some x ∧ EntOk C W x e
  | [], [], _, _, _, h => by simp at h
  | x :: _, _ :: _, 0, e, ⟨a, _⟩, h => by simp at h; subst h; exact ⟨x, rfl, a⟩
  | _ :: _, _ :: _, i + 1, e, ⟨_, b⟩, h => by
    obtain ⟨x, h1, h2⟩ := Pw.get (i := i) (e := e) b (by simpa using h)
    exact ⟨x, by simpa using h1, h2⟩
def noAd : List Ent → Bool
  | [] => true
  | e :: Γ => e.ads.isEmpty && noAd Γ
theorem noAd_get : ∀ {Γ : List Ent}, noAd Γ = true → ∀ (i : Nat) (p : Addr), adAt Γ i p → False
  | [], _, i, p, ⟨_, h, _⟩ => by simp at h
  | e :: Γ, hn, 0, p, ⟨u, h, hm⟩ => by
    have h1 : e = u := by simpa using h
    subst h1
    unfold noAd at hn
    rw [Bool.and_eq_true, List.isEmpty_iff] at hn
    rw [hn.1] at hm
    cases hm
  | e :: Γ, hn, i + 1, p, ⟨u, h, hm⟩ => by
    unfold noAd at hn
    rw [Bool.and_eq_true] at hn
    exact noAd_get hn.2 i p ⟨u, by simpa using h, hm⟩
theorem world_of {C : Cn} {W : Wd} {σ : Sg} {Γ : List Ent} (b : Bok C W) (h : Pw C W σ Γ) (hn : noAd Γ = true) : World C σ W Γ :=
  ⟨b, h.len, fun _ _ e => h.get e, fun i j p q _ hp _ => (noAd_get hn i p hp).elim⟩
theorem mw0 {PI : HO → Prop} (H : Hp) : Same H (wl (Cn0 PI H) (W0 H []) .m) := fun p o e => jn_l _ _ (by rw [show (Cn0 PI H).vs0 = [] from rfl, hid_nil]; exact e)
theorem spF_open (PI : HO → Prop) {α β : Type} {A : Args α} {pre : α → Prop} {R : Rl β} {post : α → β → Prop} {exc : α → Addr → Prop} {vs : List V} {H : Hp} {Q : VK} {E : XK} {n : Sg → Hp → Prop} (h : spF A pre R post exc vs H Q E) :
    ∃ a, A vs H a ∧ pre a ∧ RetOk (Cn0 PI H) { nx := n, rt := Q } R (post a) ∧ ExcOk (Cn0 PI H) E (exc a) := by
  obtain ⟨a, ha, hp, hq, he⟩ := h
  refine ⟨a, ha, hp, fun v W b k r p => hq v W.H b (fun q o e => k.base q o e (by simp [Cn0])) (R.mono (fun q o e => ?_) r) p, fun c W k p => he c W.H (fun q o e => k.base q o e (by simp [Cn0])) p⟩
  rw [show fresh H W.H q = W.H q from fresh_of (k.gn q o e)]
  exact k.g q o e
theorem spV_open {α β : Type} {PI : HO → Prop} {A : Args α} {pre : α → Prop} {R : Rl β} {post : α → β → Prop} {vs : List V} {H : Hp} {Q : VK} {E : XK} {n : Sg → Hp → Prop} (h : spV PI A pre R post vs H Q E) :
    ∃ p r a, vs = .ref p :: r ∧ Bok (CnV H p PI) (W0 H [p]) ∧ A r (hid H [p]) a ∧ pre a ∧ RetOk (CnV H p PI) { nx := n, rt := Q } R (post a) := by
  obtain ⟨p, r, a, o, ev, ho, hpi, ha, hp, hq⟩ := h
  refine ⟨p, r, a, ev, bokV ho hpi, ha, hp, fun v W b k rb pb => hq v W.H b (fun q o e => ?_) ?_ (R.mono (fun q o e => ?_) rb) pb⟩
  · obtain ⟨e1, e2⟩ := hid_some e
    exact (hid_out e1).trans (k.base q o e2 e1)
  · obtain ⟨o', h1, h2⟩ := k.vol p (k.vsub p (List.mem_singleton.mpr rfl))
    exact ⟨o', h1, h2 fun ⟨_, z⟩ => by cases z⟩
  · rw [show fresh H W.H q = W.H q from fresh_of (k.gn q o e)]
    exact k.g q o e
end GL

set_option Elab.async false
set_option linter.all false
set_option maxRecDepth 100000
set_option maxHeartbeats 1000000
namespace GL
open PySem L2
/-! ### forms for printed proofs -/
theorem LeG.nil : LeG [] [] := trivial
theorem LeG.cons {e e' : Ent} {Γ Γ' : List Ent} (h : e' = .no ∨ e' = e) (t : LeG Γ Γ') : LeG (e :: Γ) (e' :: Γ') := ⟨h, t⟩
theorem LeG.f {e : Ent} {Γ Γ' : List Ent} (t : LeG Γ Γ') : LeG (e :: Γ) (.no :: Γ') := ⟨.inl rfl, t⟩
theorem LeG.k {e : Ent} {Γ Γ' : List Ent} (t : LeG Γ Γ') : LeG (e :: Γ) (e :: Γ') := ⟨.inr rfl, t⟩
section
variable {C : Cn} {Γ : List Ent} {α β γ δ : Type} {R : Rl α} {S : Rl β} {T : Rl γ} {P : α → Prop} {Pl : List α → Prop} {P' : β → Prop} {ta tb tc te : TE} {ℓ ℓ' c c' : Lv} {K : PySem.W.Frag} {D : Ends} {t u u' : TS}
theorem q_ifT {tt : TT} {p : Prop} (h : EvC C tt Γ p) (h1 : p → Go C t { D with nx := u D } Γ) (h2 : ¬ p → Go C u D Γ) : Go C (tSeq (tIfS tt t tNext) u) D Γ := q_ifC h h1 fun n => q_next (h2 n)
/-- one list, told -/
theorem q_forD {σS : Type} {wi : TI} {j : Nat} {l : List α} (Γs : σS → List Ent) (I : Nat → σS → Prop) (s0 : σS) (hi : EvI C true wi Γ ℓ R (fun x => x = l)) (i0 : I 0 s0) (le0 : LeG Γ (Γs s0))
    (hs : ∀ C', Cex C C' → ∀ i a s, l[i]? = some a → I i s → Go C' t { D with nx := Hol C' Γs (I (i + 1)), ct := Hol C' Γs (I (i + 1)), bk := u D } ((Γs s).set j (.val ℓ R a))) (hd : ∀ s, I l.length s → Go C u D (Γs s)) (hl : ℓ ≠ .h := by decide) : Go C (tSeq (tFor wi (gName j) t) u) D Γ :=
  q_for Γs (fun _ => I) hi (fun _ _ => ⟨s0, i0, le0⟩) (fun C' x l' i a s e => by subst e; exact hs C' x i a s) (fun l' s e => by subst e; exact hd s) hl
theorem q_forD2 {σS : Type} {wi : TI} {i j : Nat} {l : List (α × β)} {S' : Rl β} (Γs : σS → List Ent) (I : Nat → σS → Prop) (s0 : σS) (hi : EvI C true wi Γ ℓ (rPair R S') (fun x => x = l)) (i0 : I 0 s0) (le0 : LeG Γ (Γs s0))
    (hs : ∀ C', Cex C C' → ∀ n a s, l[n]? = some a → I n s → Go C' t { D with nx := Hol C' Γs (I (n + 1)), ct := Hol C' Γs (I (n + 1)), bk := u D } (((Γs s).set i (.val ℓ R a.1)).set j (.val ℓ S' a.2))) (hd : ∀ s, I l.length s → Go C u D (Γs s)) (hl : ℓ ≠ .h := by decide) :
    Go C (tSeq (tFor wi (gTup K 2 (gCons (gName i) (gCons (gName j) gNil))) t) u) D Γ :=
  q_for2 Γs (fun _ => I) hi (fun _ _ => ⟨s0, i0, le0⟩) (fun C' x l' i a s e => by subst e; exact hs C' x i a s) (fun l' s e => by subst e; exact hd s) hl
/-! told exactly -/
theorem ei_rg1d {b : Bool} {n : Int} (ha : Ev C ta Γ .h rInt n) (hz : -(2 ^ 62) ≤ n ∧ n < 2 ^ 62) : EvI C b (iRng1 (tCons ta tNil)) Γ ℓ rInt (fun l => l = rg 0 n) := (ei_rg1 ha (fun i e => by rw [e]; exact hz)).imp fun _ ⟨_, e, h⟩ => by rw [h, e]
theorem en_mapd {wi : TI} {j : Nat} {l : List α} (f : α → β) (hi : EvI C false wi Γ ℓ R (fun x => x = l)) (hz : l.length ≤ 1000000) (he : ∀ a, a ∈ l → Ev C te ((wipeG Γ [j]).set j (.val ℓ R a)) ℓ' S (f a)) (hl : ℓ ≠ .h := by decide) (hlv : ℓ' ≠ .h := by decide) : EvN C (tLc wi (gName j) tYes te [j]) Γ ℓ' S (fun z => z = l.map f) :=
  (en_map f hi (fun _ e => by rw [e]; exact hz) (fun _ a e m => he a (e ▸ m)) hl hlv).imp fun _ ⟨_, e, h⟩ => by rw [h, e]
theorem en_filtd {wi : TI} {tt : TT} {j : Nat} {l : List α} (p : α → Prop) [DecidablePred p] (f : α → β) (hi : EvI C false wi Γ ℓ R (fun x => x = l)) (hz : l.length ≤ 1000000) (ht : ∀ a, a ∈ l → EvC C tt ((wipeG Γ [j]).set j (.val ℓ R a)) (p a)) (he : ∀ a, a ∈ l → p a → Ev C te ((wipeG Γ [j]).set j (.val ℓ R a)) ℓ' S (f a)) (hl : ℓ ≠ .h := by decide) (hlv : ℓ' ≠ .h := by decide) :
    EvN C (tLc wi (gName j) tt te [j]) Γ ℓ' S (fun z => z = (l.filter fun a => decide (p a)).map f) :=
  (en_filt p f hi (fun _ e => by rw [e]; exact hz) (fun _ a e m => ht a (e ▸ m)) (fun _ a e m => he a (e ▸ m)) hl hlv).imp fun _ ⟨_, e, h⟩ => by rw [h, e]
theorem en_catd {l m : List α} (ha : EvS C ta Γ .l c ℓ R (fun x => x = l)) (hb : EvS C tb Γ .l c' ℓ R (fun x => x = m)) (hz : l.length + m.length ≤ 1000000) : EvN C (tOp rCat ta tb) Γ ℓ R (fun z => z = l ++ m) := (en_cat ha hb (fun _ _ e e' => by rw [e, e']; exact hz)).imp fun _ ⟨_, _, e, e', h⟩ => by rw [h, e, e']
theorem en_slLd {tl th : TO} {o1 o2 : Option Int} {l : List α} (ha : EvS C ta Γ .l c ℓ R (fun x => x = l)) (h1 : EvO C tl Γ (fun x => x = o1)) (h2 : EvO C th Γ (fun x => x = o2)) : EvN C (tSl (rSlL K) ta tl th) Γ ℓ R (fun z => z = sl l o1 o2) := (en_slL ha h1 h2).imp fun _ ⟨_, _, _, e, e1, e2, h⟩ => by rw [h, e, e1, e2]
theorem en_lstd {ta : TA} {l : List α} (h : EvM C ta Γ ℓ R (fun x => x = l)) (hz : l.length ≤ 1000000 := by decide) : EvN C (tLst ta) Γ ℓ R (fun x => x = l) := en_lst h (fun _ e => by rw [e]; exact hz)
theorem ev_some {a : α} (h : Ev C te Γ ℓ R a) (hn : ∀ H a, ¬ R.is H .non a) : Ev C te Γ ℓ (rOpt R) (some a) := fun σ W w Q q => h σ W w Q fun v W' x s b r p => q v W' (some x) s b ⟨r, fun z => by subst z; exact hn _ _ r⟩ (by rw [p])
theorem nn_int (H : Hp) (a : Int) : ¬ rInt.is H .non a := fun h => by cases (show V.non = .int a from h)
theorem nn_list (H : Hp) (a : List α) : ¬ (rList R).is H .non a := fun ⟨_, _, e, _⟩ => by cases e
theorem nn_tup (H : Hp) (a : List α) : ¬ (rTup R).is H .non a := fun ⟨_, _, e, _⟩ => by cases e
/-- an option known to be something -/
theorem ev_the {o : Option α} {a : α} (h : Ev C te Γ ℓ (rOpt R) o) (ho : o = some a) : Ev C te Γ ℓ R a := fun σ W w Q q => h σ W w Q fun v W' x s b r p => by
  subst p
  subst ho
  exact q v W' a s b r.1 rfl
end
theorem rg_at {lo hi : Int} {i : Nat} {a : Int} (h : (rg lo hi)[i]? = some a) : a = lo + (i : Int) ∧ lo + (i : Int) < hi := by
  have hl : i < (hi - lo).toNat := by
    have := (List.getElem?_eq_some_iff.mp h).1
    rwa [rg_len] at this
  rw [rg_get lo hi i hl] at h
  exact ⟨(Option.some.inj h).symm, by omega⟩
theorem rg_mem {lo hi a : Int} : a ∈ rg lo hi ↔ lo ≤ a ∧ a < hi := by
  unfold rg
  rw [List.mem_map]
  constructor
  · rintro ⟨i, h, e⟩
    rw [List.mem_range] at h
    omega
  · intro h
    exact ⟨(a - lo).toNat, by rw [List.mem_range]; omega, by omega⟩
theorem enu_at {α : Type} {l : List α} {i : Nat} {a : Int × α} (h : (enu l)[i]? = some a) : a.1 = (i : Int) ∧ l[i]? = some a.2 := by
  rw [enu_get] at h
  cases e : l[i]? with
  | none => rw [e] at h; cases h
  | some b =>
    rw [e] at h
    have := Option.some.inj h
    subst this
    exact ⟨rfl, rfl⟩
theorem at_lt {α : Type} {l : List α} {i : Nat} {a : α} (h : l[i]? = some a) : i < l.length := (List.getElem?_eq_some_iff.mp h).1
/-! ### a def that is called -/
structure Cal (P : Program) (w : PySem.World) (K : PySem.W.Frag) (mg : Str → Option Value) (base : Heap) (CX : CXT) (k : Nat) (x : Str) (ps : List Str) (sp : Sp) (f : Addr) (fd : FuncData) : Prop where
  ok : FnOk P w K mg base CX k f fd ps sp
  kp : PySem.W.keepIn K (.ref f) = true
  b : Binds K fd ps []
  g : mg x = some (.ref f)
end GL


set_option Elab.async false
set_option linter.all false
set_option maxRecDepth 100000
set_option maxHeartbeats 1000000
namespace GL
open PySem L2
theorem bt_len : bootBuiltins "len" = some (.builtin "len") := by decide +kernel
theorem bt_tuple : bootBuiltins "tuple" = some (.type "tuple") := by decide +kernel
theorem bt_sum : bootBuiltins "sum" = some (.builtin "sum") := by decide +kernel
section
variable {X : Cx}
theorem pi_eith {tg l : Expr} {tl : TE} (hl : PE X l tl) : PI X tg l (iEith X.K tl) := by
  refine ⟨fun pins s σ H R I h => ?_⟩
  refine thn (hl.run pins s σ H _ I h) fun v s1 ⟨x, H1, I1, r1, q1⟩ => ?_
  obtain ⟨a, e, ⟨⟨xs, hq⟩, q⟩ | ⟨⟨xs, hq⟩, q⟩⟩ := q1
  · subst e
    cases r1
    obtain ⟨its, rv, p, hz⟩ := I1.list hq
    refine wpAny_pyIter_list p.isList ?_
    refine ⟨s1.heap.objs.size, [s1.heap.objs.size], _, _, H1, rfl, I1.kept (t' := s1.toks) fun b o e => Heap.get?_push_of_some _ e, turn_list a _, ⟨_, Heap.get?_push_size _ rfl, rfl, rfl⟩, fun b hb => ?_, q⟩
    have e : b = s1.heap.objs.size := by simpa using hb
    subst e
    exact I1.fpOk (Nat.le_refl _) (I1.hok.fresh (Nat.le_refl _))
  · subst e
    cases r1
    obtain ⟨its, rv, p, hz⟩ := I1.tuple hq
    refine wpAny_pyIter_tuple (show s1.heap.IsTuple a its.toArray from p) ?_
    refine ⟨s1.heap.objs.size, [s1.heap.objs.size], _, _, H1, rfl, I1.kept (t' := s1.toks) fun b o e => Heap.get?_push_of_some _ e, turn_tuple a _, ⟨_, Heap.get?_push_size _ rfl, rfl, rfl⟩, fun b hb => ?_, q⟩
    have e : b = s1.heap.objs.size := by simpa using hb
    subst e
    exact I1.fpOk (Nat.le_refl _) (I1.hok.fresh (Nat.le_refl _))
end
section
variable {C : Cn} {Γ : List Ent} {α β γ δ : Type} {R : Rl α} {S : Rl β} {T : Rl γ} {P : α → Prop} {Pl : List α → Prop} {P' : β → Prop} {ta tb tc te : TE} {ℓ ℓ' c c' : Lv} {K : PySem.W.Frag} {D : Ends} {t u u' : TS}
theorem ec_isN {o : Option α} (ha : Ev C ta Γ ℓ (rOpt R) o) : EvC C (tTest (tOp (fun x y H Q => y = .non ∧ Q (.bl (decide (x = .non))) H) ta (tC .non))) Γ (o = none) := (eb_tst (ev_isN (ℓ' := .h) ha)).imp fun b e => by rw [e]; cases o <;> simp
theorem ec_notN {o : Option α} (ha : Ev C ta Γ ℓ (rOpt R) o) : EvC C (tTest (tOp (fun x y H Q => y = .non ∧ Q (.bl (!decide (x = .non))) H) ta (tC .non))) Γ (¬ o = none) := (eb_tst (ev_notN (ℓ' := .h) ha)).imp fun b e => by rw [e]; cases o <;> simp
end
end GL


set_option Elab.async false
set_option linter.all false
set_option maxRecDepth 100000
set_option maxHeartbeats 2000000
namespace PySem
open Sem (wp)
theorem meets_enumerate_gl {v : Value} {o : Obj} {H : Heap → Prop} (B : Begins v o H) :
    Meets (Builtin.«enumerate.__new__» ⟨[.type "enumerate", v], []⟩) (fun _ R s => H s.heap ∧
      R (.ok (.ret (.ref (s.heap.push o).objs.size))) { s with heap := (s.heap.push o).push { cls := .type "enumerate", data := .fields #[.none, .bool false, .ref s.heap.objs.size, rawInt 0, .none, .none] } }) :=
  .of_wp fun prog w A R s h => by
    obtain ⟨hp, g, d, tk, os⟩ := s; obtain ⟨h1, h⟩ := h
    have hsub := sub_enumerate
    have q1 : ∀ {A' : Around} {E : Value → Shared → Prop} {Q : Value → Shared → Prop}, Q (.ref hp.objs.size) ⟨hp.push o, g, d, tk, os⟩ → wpAny (model prog w) A' (pyIter v) Q E ⟨hp, g, d, tk, os⟩ :=
      fun q => B.iter prog w _ _ ⟨hp, g, d, tk, os⟩ _ h1 q
    wp_walk using q1
    refine wpAny_stack_any fun st => wpAny_pure ?_
    split
    · rename_i c _ _ _ _ _
      cases (c == Value.type "enumerate")
      · wp_walk using q1
        exact ⟨_, rfl, h⟩
      · wp_walk using q1
        exact ⟨_, rfl, h⟩
    · wp_walk using q1
      exact ⟨_, rfl, h⟩
section
variable {prog : Program} {w : World} {A : Around} {E : Value → Shared → Prop} {s : Shared}
theorem enum_begins_gl {v : Value} {o : Obj} {H : Heap → Prop} {Q : Value → Shared → Prop} (B : Begins v o H) (h1 : H s.heap)
    (h : ∀ h', IsEnum h' (s.heap.objs.size + 1) s.heap.objs.size 0 .none → h'.get? s.heap.objs.size = some o → h'.objs.size = s.heap.objs.size + 2 →
      (∀ b o, s.heap.get? b = some o → h'.get? b = some o) → Q (.ref (s.heap.objs.size + 1)) { s with heap := h' }) :
    wpAny (model prog w) A (call (.type "enumerate") [v]) Q E s := by
  refine callType_new F.called_enumerate (by decide) (F.typeCall_enumerate_1 _) (F.newCall_enumerate_1 _) (fun obj => F.args_object_init_2 obj _) F.entry_enumerate_new
    (meets_enumerate_gl B) ⟨h1, ?_⟩
  have hz : (s.heap.push o).objs.size = s.heap.objs.size + 1 := Heap.size_push ..
  show _ ∧ _
  rw [hz]
  have he : IsEnum ((s.heap.push o).push { cls := .type "enumerate", data := .fields #[.none, .bool false, .ref s.heap.objs.size, rawInt 0, .none, .none] }) (s.heap.objs.size + 1) s.heap.objs.size 0 .none := by
    have := Heap.get?_push_size (s.heap.push o) (o := { cls := .type "enumerate", data := .fields #[.none, .bool false, .ref s.heap.objs.size, rawInt 0, .none, .none] }) rfl
    rw [hz] at this; exact this
  refine ⟨⟨_, he, rfl⟩, h _ he (Heap.get?_push_of_some _ (Heap.get?_push_size _ B.free)) (by rw [Heap.size_push, hz]) fun b o x => Heap.get?_push_of_some _ (Heap.get?_push_of_some _ x)⟩
end
end PySem
namespace L2
open PySem PySem.Spec PyProof.Rows
/-! ### enumerate(tuple) -/
def IteT (K : PySem.W.Frag) (a : Addr) : It :=
  ⟨fun i H => ∃ (xs : List V) (x : V), SqT K H a xs ∧ xs[i]? = some x, fun i H v H' => ∃ T x, v = .ref T ∧ H T = none ∧ H' = upd H T (.tup [.int (i : Nat), x]) ∧ ∀ xs, SqT K H a xs → xs[i]? = some x, fun i H => ∃ xs : List V, SqT K H a xs ∧ xs.length ≤ i⟩
theorem turn_enumT {P : Program} {w : World} {K : PySem.W.Frag} {elts : List Expr} {kk : Nat} {tpos : Pos} (a e it : Addr) :
    Turn P w K (.Tuple elts kk tpos) (IteT K a) [e, it] e (fun i h => (∃ old, IsEnum h e it ((i : Nat) : Int) old) ∧ h.IsTupleIter it a i ∧ e ≠ it) where
  mem := by simp
  obj := fun i h st b hb => by
    obtain ⟨⟨old, he⟩, ⟨o, ho, hc, hd⟩, _⟩ := st
    have e' : b = e ∨ b = it := by simpa using hb
    rcases e' with z | z
    · rw [z]; exact ⟨_, he, fun v q => nomatch q⟩
    · rw [z]; exact ⟨o, ho, fun v q => by rw [hd] at q; cases q⟩
  keep := fun i h h' st k => let ⟨⟨old, he⟩, hi, hne⟩ := st; ⟨⟨old, k e (by simp) _ he⟩, hi.at fun o q => k it (by simp) o q, hne⟩
  item := by
    intro X hP hw hK hc i pins s σ H E I hf st hg
    subst hP hw hK
    obtain ⟨⟨old, he⟩, hit, hne⟩ := st
    obtain ⟨xs, x, hq, hx⟩ := hg
    obtain ⟨its, rv, p, hz⟩ := I.tuple hq
    obtain ⟨u, hu, ru⟩ := rv.get hx
    have hel : e < s.heap.objs.size := Heap.lt_size he
    have hil : it < s.heap.objs.size := by obtain ⟨_, q, _⟩ := hit; exact Heap.lt_size q
    have pt : s.heap.IsTuple a its.toArray := p
    have hat : a ≠ it := fun z => by
      obtain ⟨o1, q1, c1, _⟩ := hit
      obtain ⟨o2, q2, c2, _⟩ := pt
      rw [z, q1] at q2; cases q2
      rw [c1] at c2; exact absurd c2 (by decide)
    have hae : e ∉ [it, a] := fun z => by
      rcases List.mem_cons.mp z with z | z
      · exact hne z
      · have z' : e = a := by simpa using z
        obtain ⟨o2, q2, c2, _⟩ := pt
        rw [← z', show s.heap.get? e = some _ from he] at q2
        cases q2
        have c3 : Value.type "enumerate" = Value.type "tuple" := c2
        exact absurd c3 (by decide)
    have hd1 : X.A.in1.handled = none := I.ok.hd hc
    refine wpAny_pyNext_enum_itemD (Draws.tuple hd1 it a hat its.toArray) he ⟨hit, pt⟩ (i := i) (by
      have := (List.getElem?_eq_some_iff.mp hu).1
      simpa using this) hne hae fun x' h' tk hPx ho hst' hT hsz hk => ?_
    have ex : x' = u := by
      have h1 : its[i]? = some x' := by simpa using hPx
      rw [hu] at h1; exact (Option.some.inj h1).symm
    subst ex
    have hit' := hst'.1
    refine ⟨_, rfl, wpAny_letOwnedTupleGo_enum (s := { s with heap := h', toks := tk + 1 }) ho fun h'' he' sb => ?_⟩
    have hT2 : h''.get? s.heap.objs.size = some { cls := .type "tuple", data := .seq #[.int i tk, x'] } := (sb.2 _ (Nat.ne_of_gt hel)).trans hT
    have new : ObjOk X.prog X.w (upd H s.heap.objs.size (.tup [.int (i : Nat), x])) h'' s.heap.objs.size (.tup [.int (i : Nat), x]) :=
      ⟨by show 2 ≤ sizeLine; decide, [.int i tk, x'], .cons ⟨_, rfl⟩ (.cons ru .nil), ⟨_, hT2, rfl, _, rfl⟩⟩
    have I1 : Inv X pins σ (upd H s.heap.objs.size (.tup [.int (i : Nat), x])) { s with heap := h'', toks := tk + 1 } :=
      I.turnedNew (ch := [e, it]) (fun b ob hb q => (sb.2 b (fun z => hb (by simp [z]))).trans (hk b ob (fun z => hb (by simp [z])) (fun z => hb (by simp [z])) q)) hf (Nat.le_refl _) new
    refine ⟨.ref s.heap.objs.size, _, I1, rfl, ⟨_, x, rfl, I.hok.fresh (Nat.le_refl _), rfl, fun ys hy => by rw [I.tuple_inj hy hq]; exact hx⟩, ⟨⟨x', ?_⟩, hit'.at fun o q => (sb.2 it (Ne.symm hne)).trans q, hne⟩, fun b hb => ?_⟩
    · have e1 : ((i + 1 : Nat) : Int) = (i : Int) + 1 := by omega
      rw [e1]; exact he'
    · have hb' : b < s.heap.objs.size := by
        have e' : b = e ∨ b = it := by simpa using hb
        rcases e' with z | z
        · rw [z]; exact hel
        · rw [z]; exact hil
      rw [upd_ne (Nat.ne_of_lt hb')]
      exact (hf b hb).1
  done := by
    intro X hP hw hK hc i pins s σ H E I hf st hg
    subst hP hw hK
    obtain ⟨⟨old, he⟩, hit, hne⟩ := st
    obtain ⟨xs, hq, hx⟩ := hg
    obtain ⟨its, rv, p, hz⟩ := I.tuple hq
    obtain ⟨f0, f1, f2, f3, f4, f5⟩ := hf it (by simp)
    have hl := rv.length
    have pt : s.heap.IsTuple a its.toArray := p
    have hd1 : X.A.in1.handled = none := I.ok.hd hc
    have hT : s.TypeIs (.ref e) "enumerate" := ⟨_, he, rfl⟩
    unfold pyNext
    refine wpAny_bind (wpAny_attempt (wpAny_callSpecial?_slot (name := Str.ofString "__next__") hT F.slot_enumerate_next
      (wpAny_call_entry F.slot_enumerate_next hT F.entry_enumerate_next ?_ (F.args_enumerate_next_1 _))))
    show wpAny _ _ (field (.ref e) 2 >>= _) _ _ _
    refine wpAny_bind (wpAny_field he rfl (x := .ref it) rfl ?_)
    refine wpAny_bind (wpAny_nextOf_tuple_end hd1 hit pt (by simp; omega) fun h' x he' hx' => ?_)
    obtain ⟨o, ho, hc'⟩ := hx'
    refine wpAny_bind (wpAny_isInstance (T := "StopIteration") (b := true) ⟨o, ho, hc'⟩ isSubtype_stop ?_)
    exact wpAny_pure ⟨rfl, I.turned (t' := s.toks) (fun b o hb q => he' b o hb q) f0 f1 f3 f4 f5⟩
  self := fun A i s Q E st h => let ⟨⟨_, he⟩, _⟩ := st; wpAny_pyIter_enum he h
def iEnumT (K : PySem.W.Frag) (ta : TA) : TI := fun σ H R => ta σ H fun vs H1 => ∃ a xs, vs = [.ref a] ∧ SqT K H1 a xs ∧ R (IteT K a) H1
def iEnumE (K : PySem.W.Frag) (ta : TA) : TI := fun σ H R => ta σ H fun vs H1 => ∃ a xs, vs = [.ref a] ∧ ((SqL K H1 a xs ∧ R (Ite K a) H1) ∨ (SqT K H1 a xs ∧ R (IteT K a) H1))
theorem pi_enumE {X : Cx} {e : Expr} {ta : TA} {p pos tpos : Pos} {elts : List Expr} {kk : Nat} (hg : Gl X "enumerate") (hm : X.mg "enumerate" = none) (ha : PA X [e] ta) (hs : starEach [e] X.env = [(false, eval e X.env)] := by rfl) :
    PI X (.Tuple elts kk tpos) (.Call (.Name "enumerate" p) [e] [] pos) (iEnumE X.K ta) := by
  refine ⟨fun pins s σ H R I h => ?_⟩
  refine Call_ (ld_blt I hg hm boot_enumerate (PyProof.Rows.callWith_type1 (thn (ha.run pos pins s σ H _ I h) fun us s1 ⟨vs, H1, I1, r1, q1⟩ => ?_) hs rfl))
  obtain ⟨a, xs, ex, ⟨hq, q⟩ | ⟨hq, q⟩⟩ := q1
  · subst ex
    cases r1 with
    | cons r rr =>
      cases rr
      cases r
      obtain ⟨its, rv, p', hz⟩ := I1.list hq
      refine call_enumerate_list p'.isList fun h' he hit hsz hk => wpAny_pyIter_enum he ?_
      have I2 : Inv X pins σ H1 { s1 with heap := h' } := I1.kept (t' := s1.toks) hk
      refine ⟨s1.heap.objs.size + 1, [s1.heap.objs.size + 1, s1.heap.objs.size], _, _, H1, rfl, I2, turn_enum a (s1.heap.objs.size + 1) s1.heap.objs.size, ⟨⟨.none, he⟩, hit, Nat.succ_ne_self _⟩, fun b hb => ?_, q⟩
      have e' : b = s1.heap.objs.size + 1 ∨ b = s1.heap.objs.size := by simpa using hb
      have hle : s1.heap.objs.size ≤ b := by
        rcases e' with z | z
        · rw [z]; exact Nat.le_add_right _ _
        · rw [z]; exact Nat.le_refl _
      exact I1.fpOk hle (I1.hok.fresh hle)
  · subst ex
    cases r1 with
    | cons r rr =>
      cases rr
      cases r
      obtain ⟨its, rv, p', hz⟩ := I1.tuple hq
      refine enum_begins_gl (begins_tuple a its.toArray) (show s1.heap.IsTuple a its.toArray from p') fun h' he hit hsz hk => wpAny_pyIter_enum he ?_
      have I2 : Inv X pins σ H1 { s1 with heap := h' } := I1.kept (t' := s1.toks) hk
      refine ⟨s1.heap.objs.size + 1, [s1.heap.objs.size + 1, s1.heap.objs.size], _, _, H1, rfl, I2, turn_enumT a (s1.heap.objs.size + 1) s1.heap.objs.size, ⟨⟨.none, he⟩, ⟨_, hit, rfl, rfl⟩, Nat.succ_ne_self _⟩, fun b hb => ?_, q⟩
      have e' : b = s1.heap.objs.size + 1 ∨ b = s1.heap.objs.size := by simpa using hb
      have hle : s1.heap.objs.size ≤ b := by
        rcases e' with z | z
        · rw [z]; exact Nat.le_add_right _ _
        · rw [z]; exact Nat.le_refl _
      exact I1.fpOk hle (I1.hok.fresh hle)
end L2

namespace GL
open PySem L2
theorem bt_all : bootBuiltins "all" = some (.builtin "all") := by decide +kernel
section
variable {C : Cn} {Γ : List Ent} {α β γ δ : Type} {R : Rl α} {S : Rl β} {T : Rl γ} {P : α → Prop} {Pl : List α → Prop} {P' : β → Prop} {ta tb tc te : TE} {ℓ ℓ' c c' : Lv} {K : PySem.W.Frag} {D : Ends} {t u u' : TS}
theorem ei_enumEd {b : Bool} {l : List α} (hc : b = true → ℓ ≠ .h := by first | (intro h; exact absurd h (by decide)) | (intro _; decide)) (ha : Ev C ta Γ ℓ (rSeq R) l) : EvI C b (iEnumE K (tCons ta tNil)) Γ ℓ (rPair rInt R) (fun x => x = enu l) := fun σ W w Rk k =>
  ha σ W w _ fun v W1 l' s b1 ⟨p, xs, e, h, r⟩ pl => ⟨p, xs, by rw [e], by
    subst pl
    rcases h with h | h
    · refine .inl ⟨sqL_of (c := ℓ) b1 h, k _ W1 (enu l') (fun V => seqAt .l (wl C V ℓ) p xs ∧ All2 (R.is (wl C V ℓ)) xs l') s b1 ⟨h, r⟩ (fun V1 V2 k1 k2 pr ⟨h1, h2⟩ => ⟨h1.mono (per_wl hc k1 pr), h2.imp fun _ _ => R.mono (per_wl hc k1 pr)⟩)
        ⟨fun V i bk ⟨h1, h2⟩ hi => ⟨xs, xs[i]'(by rw [h2.len]; rwa [enu_len] at hi), sqL_of bk h1, List.getElem?_eq_getElem _⟩, fun V bk ⟨h1, h2⟩ => ⟨xs, sqL_of bk h1, by rw [enu_len, h2.len]; exact Nat.le_refl _⟩,
          fun V i x H' a bk ⟨h1, h2⟩ ha ⟨T, x', y1, y2, y3, y4⟩ => ?_⟩ rfl⟩
      obtain ⟨e1, e2⟩ := enu_at ha
      obtain ⟨v, hv, rv⟩ := h2.get e2
      have := y4 xs (sqL_of bk h1)
      rw [hv] at this
      cases this
      subst y1 y3
      obtain ⟨a1, a2⟩ := a
      have e1' : a1 = (i : Int) := e1
      subst e1'
      exact pair_yld bk y2 rfl rv
    · refine .inr ⟨sqT_of (c := ℓ) b1 h, k _ W1 (enu l') (fun V => seqAt .t (wl C V ℓ) p xs ∧ All2 (R.is (wl C V ℓ)) xs l') s b1 ⟨h, r⟩ (fun V1 V2 k1 k2 pr ⟨h1, h2⟩ => ⟨h1.mono (per_wl hc k1 pr), h2.imp fun _ _ => R.mono (per_wl hc k1 pr)⟩)
        ⟨fun V i bk ⟨h1, h2⟩ hi => ⟨xs, xs[i]'(by rw [h2.len]; rwa [enu_len] at hi), sqT_of bk h1, List.getElem?_eq_getElem _⟩, fun V bk ⟨h1, h2⟩ => ⟨xs, sqT_of bk h1, by rw [enu_len, h2.len]; exact Nat.le_refl _⟩,
          fun V i x H' a bk ⟨h1, h2⟩ ha ⟨T, x', y1, y2, y3, y4⟩ => ?_⟩ rfl⟩
      obtain ⟨e1, e2⟩ := enu_at ha
      obtain ⟨v, hv, rv⟩ := h2.get e2
      have := y4 xs (sqT_of bk h1)
      rw [hv] at this
      cases this
      subst y1 y3
      obtain ⟨a1, a2⟩ := a
      have e1' : a1 = (i : Int) := e1
      subst e1'
      exact pair_yld bk y2 rfl rv⟩
/-! isinstance -/
structure Tyd (K : PySem.W.Frag) {α : Type} (R : Rl α) (n : String) : Prop where
  ty : ∀ H v a, R.is H v a → TyX K H v (.type n)
/-! all, any of bools -/
theorem All2.bools {H : Hp} {xs : List V} {l : List Bool} (h : All2 (rBool.is H) xs l) : xs = l.map V.bl := h.map_eq fun _ _ e => e
theorem ev_all {l : List Bool} (ha : EvS C ta Γ .l c .h rBool (fun x => x = l)) : Ev C (tCB (rAll K) (tCons ta tNil)) Γ ℓ rBool (l.all id) := fun σ W w Q q =>
  ha σ W w _ fun p W1 xs l' s b e r pl => ⟨p, l', rfl, by rw [← r.bools]; exact sqL_of b e, q _ W1 _ s b rfl (by rw [pl])⟩
/-! min, max, index as functions -/
def lmin : List Int → Int
  | [] => 0
  | [x] => x
  | x :: y :: l => min x (lmin (y :: l))
def lmax : List Int → Int
  | [] => 0
  | [x] => x
  | x :: y :: l => max x (lmax (y :: l))
theorem lmin_spec : ∀ (l : List Int), l ≠ [] → lmin l ∈ l ∧ ∀ y ∈ l, lmin l ≤ y
  | [], h => absurd rfl h
  | [x], _ => by simp [lmin]
  | x :: y :: l, _ => by
    obtain ⟨h1, h2⟩ := lmin_spec (y :: l) (by simp)
    unfold lmin
    refine ⟨?_, fun z hz => ?_⟩
    · rcases Int.le_total x (lmin (y :: l)) with h | h
      · rw [Int.min_eq_left h]; simp
      · rw [Int.min_eq_right h]; exact List.mem_cons_of_mem _ h1
    · rcases List.mem_cons.mp hz with rfl | hz
      · omega
      · have := h2 z hz; omega
theorem lmax_spec : ∀ (l : List Int), l ≠ [] → lmax l ∈ l ∧ ∀ y ∈ l, y ≤ lmax l
  | [], h => absurd rfl h
  | [x], _ => by simp [lmax]
  | x :: y :: l, _ => by
    obtain ⟨h1, h2⟩ := lmax_spec (y :: l) (by simp)
    unfold lmax
    refine ⟨?_, fun z hz => ?_⟩
    · rcases Int.le_total x (lmax (y :: l)) with h | h
      · rw [Int.max_eq_right h]; exact List.mem_cons_of_mem _ h1
      · rw [Int.max_eq_left h]; simp
    · rcases List.mem_cons.mp hz with rfl | hz
      · omega
      · have := h2 z hz; omega
theorem lmin_uniq {l : List Int} {m : Int} (h1 : m ∈ l) (h2 : ∀ y ∈ l, m ≤ y) : m = lmin l := by
  obtain ⟨a, b⟩ := lmin_spec l (by intro e; rw [e] at h1; cases h1)
  exact Int.le_antisymm (h2 _ a) (b _ h1)
theorem lmax_uniq {l : List Int} {m : Int} (h1 : m ∈ l) (h2 : ∀ y ∈ l, y ≤ m) : m = lmax l := by
  obtain ⟨a, b⟩ := lmax_spec l (by intro e; rw [e] at h1; cases h1)
  exact Int.le_antisymm (b _ h1) (h2 _ a)
/-- x.insert(n, e) -/
abbrev rIns : V → List V → Hp → VK → Prop := fun x vs H Q => ∃ (l : Addr) (xs : List V) (i : Int) (y : V), x = .ref l ∧ vs = [.int i, y] ∧ H l = some (.lst xs) ∧ xs.length < sizeLine ∧ 0 ≤ i ∧ i < 2 ^ 63 ∧
    Q .non (upd H l (.lst (xs.take i.toNat ++ [y] ++ xs.drop i.toNat)))
/-! a row of ours that any def may change as long as PI holds of it -/
theorem q_asgV {i : Nat} {Pl : List α → Prop} (f : Flat R) (h : EvX C te Γ (ResF C (rList R) Pl)) (hv : ∀ xs l, Pl l → (∀ H, All2 (R.is H) xs l) → C.PI (.lst xs)) (k : ∀ p, ¬ C.isT p → Go C u D (Γ.set i (.vol p))) : Go C (tSeq (tAsg te (gName i)) u) D Γ := fun σ W w =>
  h σ W w _ fun W1 v H' s1 b1 r => by
    obtain ⟨l, ⟨p, xs, e, hp, t⟩, pl⟩ := r.val
    obtain ⟨n1, ho⟩ := fresh_some hp
    have hPI := hv xs l pl (fun H => t.imp fun _ _ h => f _ _ _ _ h)
    subst e
    have w1 := w.stp b1 s1
    have hv : p ∉ W1.vs := b1.nvs n1
    obtain ⟨b2, s2⟩ := bare_ok b1 r.keep r.vol r.tab
    have w2 := w1.stp b2 s2
    have b3 : Bok C ⟨H', W1.G, p :: W1.vs⟩ := ⟨b2.base, fun q hq => by
      rcases List.mem_cons.mp hq with e | hq
      · subst e; exact ⟨_, ho, fun _ => hPI⟩
      · exact b2.vol q hq, fun q hq => List.mem_cons_of_mem _ (b2.vsub q hq), fun q hq n => by
      rcases List.mem_cons.mp hq with e | hq
      · subst e; exact b1.h0 n1
      · exact b2.vnew q hq n, b2.v0, fun q hq => by
      rcases List.mem_cons.mp hq with e | hq
      · subst e; exact b1.g0 n1
      · exact b2.gv q hq, b2.g, b2.gn, b2.fl, fun P q e => ⟨List.mem_cons_of_mem _ (b2.tab P q e).1, (b2.tab P q e).2⟩, b2.knb⟩
    have w3 : World C σ ⟨H', W1.G, p :: W1.vs⟩ Γ := ⟨b3, w2.len, fun j e hj => by
      obtain ⟨y, y1, y2⟩ := w2.ent j e hj
      refine ⟨y, y1, ?_⟩
      have lv : ∀ ℓ' : Lv, ℓ' ≠ .h → Same (wl C ⟨H', W1.G, W1.vs⟩ ℓ') (wl C ⟨H', W1.G, p :: W1.vs⟩ ℓ') := fun ℓ' hn => by
        cases ℓ' with
        | g => exact Same.refl _
        | m => exact Same.refl _
        | h => exact absurd rfl hn
      cases e with
      | no => trivial
      | val ℓ' R' a => exact ⟨y2.1, let ⟨v, e, q⟩ := y2.2; ⟨v, e, R'.mono (lv ℓ' y2.1) q⟩⟩
      | own q ℓ' R' l' =>
        obtain ⟨z1, z2, z3, z4, z5, ys, z6, z7⟩ := y2
        have ne : q ≠ p := fun z => by
          subst z
          have := (w1.adH (j := j) (q := q) (.own hj)).1
          exact this n1
        exact ⟨z1, z2, fun z => by rcases List.mem_cons.mp z with z | z; exact ne z; exact z3 z, z4, z5, ys, z6, z7.imp fun _ _ => R'.mono (lv ℓ' z1)⟩
      | vol q => exact ⟨y2.1, List.mem_cons_of_mem _ y2.2.1, y2.2.2⟩
      | raw v => exact y2
      | ob v ps ℓ' S' a' =>
        obtain ⟨z1, z2, z3, z4⟩ := y2
        refine ⟨z1, z2, fun q m => ?_, S'.mono (lv ℓ' z1) (fun _ _ => rfl) z4⟩
        obtain ⟨k1, k2, k3, k4⟩ := z3 q m
        have ne : q ≠ p := fun z => by
          subst z
          exact (w1.adH (j := j) (q := q) (.ob hj m)).1 n1
        exact ⟨fun z => by rcases List.mem_cons.mp z with z | z; exact ne z; exact k1 z, k2, k3, k4⟩, w2.dis⟩
    have hnt : ¬ C.isT p := fun ⟨q, z⟩ => by
      obtain ⟨_, ps, h1, _⟩ := b1.tab p q z
      rw [h1] at n1; cases n1
    exact k p hnt _ _ (w3.set i ⟨rfl, List.mem_cons_self, hnt⟩ fun q hq => by cases hq)
end
end GL


set_option Elab.async false
set_option linter.all false
set_option maxRecDepth 100000
set_option maxHeartbeats 2000000
namespace GL
open PySem L2
/-! ### values that are not told exactly -/
theorem gt_mem {α : Type} [Inhabited α] {l : List α} {i : Int} (h : 0 ≤ i ∧ i < l.length) : gt l i ∈ l := List.mem_of_getElem? (gt_get h)
theorem gtB_mem {α : Type} [Inhabited α] {l : List α} {n : Nat} (h : 0 < n ∧ n ≤ l.length) : gtB l n ∈ l := List.mem_of_getElem? (gtB_get h)
/-- the script -/
def rScr (K : PySem.W.Frag) : Rl (List Int) := ⟨fun H v l => ∃ p, v = .ref p ∧ SqL K H p (l.map V.int), fun s ⟨p, e, h⟩ => ⟨p, e, s.seq h⟩⟩
section
variable {C : Cn} {Γ : List Ent} {α β γ δ : Type} {R : Rl α} {S : Rl β} {T : Rl γ} {P : α → Prop} {Pl : List α → Prop} {P' : β → Prop} {ta tb tc te : TE} {ℓ ℓ' c c' : Lv} {K : PySem.W.Frag} {D : Ends} {t u u' : TS}
theorem EvB.tt {tt : TT} {Pb : Bool → Prop} (h : EvB C tt Γ Pb) : EvB C tt Γ (fun _ => True) := h.imp fun _ _ => trivial
theorem ev_mulW {i j : Int} (ha : Ev C ta Γ .h rInt i) (hb : Ev C tb Γ .h rInt j) (hc : CMulW i j) : Ev C (tOp (rI CMulW fun i j => .int (i * j)) ta tb) Γ ℓ rInt (i * j) := evp_I (f := fun i j => i * j) ha hb (fun _ _ p q => by rw [p, q]; exact hc) (fun _ _ _ => rfl) fun _ _ p q => by rw [p, q]
theorem ev_lenScr {l : List Int} (ha : Ev C ta Γ .h (rScr K) l) : Ev C (tCB (rLenS K) (tCons ta tNil)) Γ ℓ' rInt (l.length : Int) := fun σ W w Q q =>
  ha σ W w _ fun v W1 l' s b ⟨p, e, h⟩ pl => ⟨p, _, by rw [e], .inl (Same.seq (fun _ _ h => (hid_some h).2) h), q _ W1 _ s b (by rw [List.length_map]; rfl) (by rw [pl])⟩
theorem ev_ixScr {l : List Int} {i : Int} (ha : Ev C ta Γ .h (rScr K) l) (hb : Ev C tb Γ .h rInt i) (hc : 0 ≤ i ∧ i < l.length) : Ev C (tOp (rIxK K .l) ta tb) Γ ℓ rInt (gt l i) := fun σ W w Q q =>
  ha σ W w _ fun v W1 l' s1 b1 r1 p1 => hb σ W1 (w.stp b1 s1) _ fun y W2 i' s2 b2 r2 p2 => by
    subst p1 p2
    obtain ⟨p, e, h⟩ := (rScr K).mono (s2.lv b1 .h) r1
    exact ⟨p, _, i', _, e, r2, Same.seq (fun _ _ h => (hid_some h).2) h, atI_of hc.1 (by rw [List.getElem?_map, gt_get hc]; rfl), q _ W2 _ (s1.trans w.b b1 s2) b2 rfl rfl⟩
theorem ex_voln0   {R0 : Rl β} {PI : HO → Prop} {pre : Unit → Prop} {post : Unit → β → Prop} {E : XK} {S0 : Rl γ} {Pz : List γ → Prop} (f0 : Flat S0) (h0 : EvX C te Γ (ResF C (rList S0) Pz)) (hv : ∀ xs l, Pz l → (∀ H, All2 (S0.is H) xs l) → PI (.lst xs))   (hp : pre ()) :
    EvX C (tCall (spV PI aNil pre R0 post) [] E (tCons te tNil)) Γ (ResF C R0 (fun b => post () b)) := fun σ W w Q q => by
  refine h0 σ W w _ fun Wz vz Hz sz bz rz => ?_
  obtain ⟨lz, ⟨pz, xz, ez, hz, tz⟩, plz⟩ := rz.val
  obtain ⟨nz, hoz⟩ := fresh_some hz
  have hPIz := hv xz lz plz (fun H => tz.imp fun _ _ h => f0 _ _ _ _ h)
  subst ez
  obtain ⟨b0, sb0⟩ := bare_ok bz rz.keep rz.vol rz.tab
  have s0 := sz.trans w.b bz sb0
  have w0 := w.stp b0 s0
  have nW : W.H pz = none := w.b.back bz sz nz
  have gz : (⟨Hz, Wz.G, Wz.vs⟩ : Wd).G pz = none := bz.g0 nz
  have vz' : pz ∉ (⟨Hz, Wz.G, Wz.vs⟩ : Wd).vs := bz.nvs nz
  have sn := (Stp.refl (⟨Hz, Wz.G, Wz.vs⟩ : Wd))
  have hpz : (⟨Hz, Wz.G, Wz.vs⟩ : Wd).H pz = some (.lst xz) := (hid_some (sn.h _ _ ((hid_out vz').trans hoz))).2
  have gpz : (⟨Hz, Wz.G, Wz.vs⟩ : Wd).G pz = none := by
    cases e : (⟨Hz, Wz.G, Wz.vs⟩ : Wd).G pz with
    | none => rfl
    | some o =>
      rcases sn.new pz o e with h | h
      · rw [gz] at h; cases h
      · rw [show (⟨Hz, Wz.G, Wz.vs⟩ : Wd).H pz = some (.lst xz) from hoz] at h; cases h
  have vpz : pz ∉ (⟨Hz, Wz.G, Wz.vs⟩ : Wd).vs := by rw [sn.vs]; exact vz'
  have hh : ∀ q u, (hid (⟨Hz, Wz.G, Wz.vs⟩ : Wd).H [pz]) q = some u → q ≠ pz ∧ (⟨Hz, Wz.G, Wz.vs⟩ : Wd).H q = some u := fun q u e => by
    obtain ⟨e1, e2⟩ := hid_some e
    exact ⟨fun z => e1 (z ▸ List.mem_singleton.mpr rfl), e2⟩
  have ho : ∀ q, q ≠ pz → (hid (⟨Hz, Wz.G, Wz.vs⟩ : Wd).H [pz]) q = (⟨Hz, Wz.G, Wz.vs⟩ : Wd).H q := fun q z => hid_out (by intro y; rw [List.mem_singleton] at y; exact z y)
  have bn := w0.b
  have s9 := s0
  have b9 : Bok C ⟨hid (⟨Hz, Wz.G, Wz.vs⟩ : Wd).H [pz], (⟨Hz, Wz.G, Wz.vs⟩ : Wd).G, (⟨Hz, Wz.G, Wz.vs⟩ : Wd).vs⟩ := ⟨(fun q u e n => by
      have z : q ≠ pz := fun z => by rw [z, w.b.h0 nW] at e; cases e
      show hid _ _ q = _
      rw [ho q z]; exact bn.base q u e n), (fun q hq => by
      have z : q ≠ pz := fun z => vpz (z ▸ hq)
      show ∃ o, hid _ _ q = some o ∧ _
      rw [ho q z]; exact bn.vol q hq), bn.vsub, bn.vnew, bn.v0, bn.gv, (fun q u e => by
      have z : q ≠ pz := fun z => by rw [z, gpz] at e; cases e
      show hid _ _ q = _
      rw [ho q z]; exact bn.g q u e), bn.gn, bn.fl, (fun P q e => by
      obtain ⟨h1, ps, h2, h3⟩ := bn.tab P q e
      have z : P ≠ pz := fun z => vpz (z ▸ h1)
      exact ⟨h1, ps, (ho P z).trans h2, h3⟩), bn.knb⟩
  have s10 : Stp W ⟨hid (⟨Hz, Wz.G, Wz.vs⟩ : Wd).H [pz], (⟨Hz, Wz.G, Wz.vs⟩ : Wd).G, (⟨Hz, Wz.G, Wz.vs⟩ : Wd).vs⟩ := ⟨s9.vs, s9.g, (fun q u e => by
      have z : q ≠ pz := fun z => by rw [z] at e; rw [(hid_some e).2] at nW; cases nW
      obtain ⟨e1, e2⟩ := hid_some (s9.h q u e)
      show hid (hid _ _) _ q = _
      rw [hid_out e1, ho q z]; exact e2), s9.new⟩
  refine ⟨pz, _, (), _, rfl, hpz, hPIz, rfl, hp , fun v H' b sm kv rb po => ?_⟩
  refine q _ v H' s10 b9 ⟨fun q u e hq => ?_, fun q hq => ?_, fun P q e => ?_, b, R0.mono (fun q u e => ?_) rb, po⟩
  · exact (hid_some (sm q u e)).2
  · obtain ⟨u, h1, h2⟩ := b9.vol q hq
    exact ⟨u, (hid_some (sm q u h1)).2, h2⟩
  · obtain ⟨_, ps, h1, h2⟩ := b9.tab P q e
    exact ⟨ps, (hid_some (sm P _ h1)).2, h2⟩
  · obtain ⟨e1, e2⟩ := fresh_some e
    have z : q ≠ pz := fun z => by
      rw [z] at e1
      cases hpz.symm.trans e1
    rw [fresh_of (show (hid (⟨Hz, Wz.G, Wz.vs⟩ : Wd).H [pz]) q = none by rw [ho q z]; exact e1)]; exact e2
theorem ex_voln1 {α1 : Type} {R1 : Rl α1} {t1 : TE} {P1 : α1 → Prop} {R0 : Rl β} {PI : HO → Prop} {pre : α1 × Unit → Prop} {post : α1 × Unit → β → Prop} {E : XK} {S0 : Rl γ} {Pz : List γ → Prop} (f0 : Flat S0) (h0 : EvX C te Γ (ResF C (rList S0) Pz)) (hv : ∀ xs l, Pz l → (∀ H, All2 (S0.is H) xs l) → PI (.lst xs)) (h1 : EvP C t1 Γ .h R1 P1) (g1 : Flat R1) (hp : ∀ a1, P1 a1 → pre (a1, ())) :
    EvX C (tCall (spV PI (aCons R1 aNil) pre R0 post) [] E (tCons te (tCons t1 tNil))) Γ (ResF C R0 (fun b => ∃ a1, P1 a1 ∧ post (a1, ()) b)) := fun σ W w Q q => by
  refine h0 σ W w _ fun Wz vz Hz sz bz rz => ?_
  obtain ⟨lz, ⟨pz, xz, ez, hz, tz⟩, plz⟩ := rz.val
  obtain ⟨nz, hoz⟩ := fresh_some hz
  have hPIz := hv xz lz plz (fun H => tz.imp fun _ _ h => f0 _ _ _ _ h)
  subst ez
  obtain ⟨b0, sb0⟩ := bare_ok bz rz.keep rz.vol rz.tab
  have s0 := sz.trans w.b bz sb0
  have w0 := w.stp b0 s0
  have nW : W.H pz = none := w.b.back bz sz nz
  have gz : (⟨Hz, Wz.G, Wz.vs⟩ : Wd).G pz = none := bz.g0 nz
  have vz' : pz ∉ (⟨Hz, Wz.G, Wz.vs⟩ : Wd).vs := bz.nvs nz
  refine h1 σ _ w0 _ fun v1 W1 a1 s1 b1 r1 p1 => ?_
  have w1 := w0.stp b1 s1
  have sn := s1
  have hpz : W1.H pz = some (.lst xz) := (hid_some (sn.h _ _ ((hid_out vz').trans hoz))).2
  have gpz : W1.G pz = none := by
    cases e : W1.G pz with
    | none => rfl
    | some o =>
      rcases sn.new pz o e with h | h
      · rw [gz] at h; cases h
      · rw [show (⟨Hz, Wz.G, Wz.vs⟩ : Wd).H pz = some (.lst xz) from hoz] at h; cases h
  have vpz : pz ∉ W1.vs := by rw [sn.vs]; exact vz'
  have hh : ∀ q u, (hid W1.H [pz]) q = some u → q ≠ pz ∧ W1.H q = some u := fun q u e => by
    obtain ⟨e1, e2⟩ := hid_some e
    exact ⟨fun z => e1 (z ▸ List.mem_singleton.mpr rfl), e2⟩
  have ho : ∀ q, q ≠ pz → (hid W1.H [pz]) q = W1.H q := fun q z => hid_out (by intro y; rw [List.mem_singleton] at y; exact z y)
  have bn := w1.b
  have s9 := (s0.trans w.b w0.b s1)
  have b9 : Bok C ⟨hid W1.H [pz], W1.G, W1.vs⟩ := ⟨(fun q u e n => by
      have z : q ≠ pz := fun z => by rw [z, w.b.h0 nW] at e; cases e
      show hid _ _ q = _
      rw [ho q z]; exact bn.base q u e n), (fun q hq => by
      have z : q ≠ pz := fun z => vpz (z ▸ hq)
      show ∃ o, hid _ _ q = some o ∧ _
      rw [ho q z]; exact bn.vol q hq), bn.vsub, bn.vnew, bn.v0, bn.gv, (fun q u e => by
      have z : q ≠ pz := fun z => by rw [z, gpz] at e; cases e
      show hid _ _ q = _
      rw [ho q z]; exact bn.g q u e), bn.gn, bn.fl, (fun P q e => by
      obtain ⟨h1, ps, h2, h3⟩ := bn.tab P q e
      have z : P ≠ pz := fun z => vpz (z ▸ h1)
      exact ⟨h1, ps, (ho P z).trans h2, h3⟩), bn.knb⟩
  have s10 : Stp W ⟨hid W1.H [pz], W1.G, W1.vs⟩ := ⟨s9.vs, s9.g, (fun q u e => by
      have z : q ≠ pz := fun z => by rw [z] at e; rw [(hid_some e).2] at nW; cases nW
      obtain ⟨e1, e2⟩ := hid_some (s9.h q u e)
      show hid (hid _ _) _ q = _
      rw [hid_out e1, ho q z]; exact e2), s9.new⟩
  refine ⟨pz, _, (a1, ()), _, rfl, hpz, hPIz, ⟨v1, _, rfl, (g1 _ _ _ _ r1), rfl⟩, hp a1 p1, fun v H' b sm kv rb po => ?_⟩
  refine q _ v H' s10 b9 ⟨fun q u e hq => ?_, fun q hq => ?_, fun P q e => ?_, b, R0.mono (fun q u e => ?_) rb, ⟨a1, p1, po⟩⟩
  · exact (hid_some (sm q u e)).2
  · obtain ⟨u, h1, h2⟩ := b9.vol q hq
    exact ⟨u, (hid_some (sm q u h1)).2, h2⟩
  · obtain ⟨_, ps, h1, h2⟩ := b9.tab P q e
    exact ⟨ps, (hid_some (sm P _ h1)).2, h2⟩
  · obtain ⟨e1, e2⟩ := fresh_some e
    have z : q ≠ pz := fun z => by
      rw [z] at e1
      cases hpz.symm.trans e1
    rw [fresh_of (show (hid W1.H [pz]) q = none by rw [ho q z]; exact e1)]; exact e2
theorem ResF.imp {Pb Pc : β → Prop} {S' : Rl β} {W : Wd} {v : V} {H' : Hp} (r : ResF C S' Pb W v H') (h : ∀ b, Pb b → Pc b) : ResF C S' Pc W v H' := ⟨r.keep, r.vol, r.tab, let ⟨b, x, y⟩ := r.val; ⟨b, x, h b y⟩⟩
theorem EvX.imp {Pb Pc : β → Prop} {S' : Rl β} (r : EvX C te Γ (ResF C S' Pb)) (h : ∀ b, Pb b → Pc b) : EvX C te Γ (ResF C S' Pc) := fun σ W w Q q => r σ W w Q fun W1 v H' s b x => q W1 v H' s b (x.imp h)
/-- what a name holds is something -/
theorem q_some {i : Nat} {a : α} (h : Γ[i]? = some (.val ℓ R a)) (hn : ∀ H a, ¬ R.is H .non a) (k : Go C u D (Γ.set i (.val ℓ (rOpt R) (some a)))) : Go C u D Γ := fun σ W w => by
  obtain ⟨x, h1, hl, v, h2, r⟩ := w.get h
  subst h2
  have ef : σ = σ.set i (some v) := by
    refine List.ext_getElem? fun j => ?_
    by_cases e : i = j
    · subst e
      rw [List.getElem?_set_self (w.lt h), h1]
    · rw [List.getElem?_set_ne e]
  have w1 := w.setv i (ℓ := ℓ) (R := rOpt R) (v := v) (a := some a) hl ⟨r, fun z => by subst z; exact hn _ _ r⟩
  rw [← ef] at w1
  exact k σ W w1
end
end GL

set_option Elab.async false
set_option linter.all false
set_option maxRecDepth 100000
set_option maxHeartbeats 1000000
namespace GL
open PySem L2
/-! ### more words -/
section
variable {C : Cn} {Γ : List Ent} {α β γ δ : Type} {R : Rl α} {S : Rl β} {T : Rl γ} {P : α → Prop} {Pl : List α → Prop} {te ta tb tc : TE} {u : TS} {D : Ends} {ℓ ℓ' c : Lv} {K : PySem.W.Frag}
/-- such data stand without a list's own place -/
def but (H : Hp) (p : Addr) : Hp := fun q => if q = p then none else H q
def NoL (R : Rl α) : Prop := ∀ H p xs v a, H p = some (.lst xs) → R.is H v a → R.is (but H p) v a
theorem ev_eqc {x c : Int} (h : Ev C te Γ ℓ rInt x) (e : x = c) : Ev C te Γ ℓ rInt c := by rw [← e]; exact h
theorem sl_len_le {l : List α} (o1 o2 : Option Int) : (sl l o1 o2).length ≤ l.length := by
  unfold sl
  rw [List.length_take, List.length_drop]
  omega
end
end GL


set_option Elab.async false
set_option linter.all false
set_option maxRecDepth 100000
set_option maxHeartbeats 1000000
/-! ### an exception that is caught and kept -/
namespace L2
open PySem PySem.Spec PyProof.Rows
/-- a caught exception of the class cls at a, without own dict -/
def ExH (cls : Value) (a : Addr) : HO := .ext fun h => ∃ (oe : Obj) (vs : Array Value), h.get? a = some oe ∧ Zc cls none oe ∧ oe.data = .fields vs
section
variable {X : Cx} {pins : List (Addr × Obj)} {σ : St} {H : Hp} {s : Shared}
end
/-- what the clause 'except x as n' wishes: the exception is tracked from then on; slot i is n's -/
def wKeep (K : PySem.W.Frag) (c : Value) (i : Nat) (ts : TS) (D : Ends) : WX := fun cls d σ H =>
  d = none ∧ PySem.W.exmOne K cls c = some true ∧ ∀ a, H a = none → ts { nx := fun σ' H' => D.nx (σ'.set i none) H', rt := D.rt, bk := fun σ' H' => D.bk (σ'.set i none) H', ct := fun σ' H' => D.ct (σ'.set i none) H' } (σ.set i (some (.ref a))) (upd H a (ExH cls a))
/-- a try whose exception is kept -/
def tTry (K : PySem.W.Frag) (c : Value) (i : Nat) (tb : WX → TS) (ts : TS) : TS := fun D σ H => tb (wKeep K c i ts D) D σ H
section
variable {X : Cx} {ps : List (Addr × Obj)} {σ : St} {H : Hp} {D : Ends}
variable {x n : Str} {c : Value} {i : Nat} {body suite : List Stmt} {b₀ : Stmt} {np pos pos' : Pos} {tb : WX → TS} {ts : TS}
/-- the class that the clause names is found -/
theorem named (hc : Names X x c) {a : Addr} {t : Shared} {Q E : Value → Shared → Prop} (J : Inv (X.suite a (X.pn ++ ps)) [] σ H t) (q : Q c t) : wpAny (model X.prog X.w) (X.A.mark (some (.ref a))) (eval (.Name x np) X.env) Q E t := by
  rcases hc with ⟨g, nd, e | ⟨e, b, nn⟩⟩
  · exact ld_glob (X := X.suite a (X.pn ++ ps)) J g e q nd
  · exact ld_blt (X := X.suite a (X.pn ++ ps)) J g e b q nn nd
end
/-- isinstance(e, c), e an exception that is kept -/
def rIsX (K : PySem.W.Frag) : List V → Hp → VK → Prop := fun xs H Q => ∃ (a D : Addr) (c : V) (cv : Value) (b : Bool), xs = [.ref a, c] ∧ (∀ u, RelV c u → u = cv) ∧ H a = some (ExH (.ref D) a) ∧ ExcC K D ∧ PySem.W.kitOne K (.ref D) cv = some b ∧ Q (.bl b) H
end L2
namespace GL
open PySem L2
/-- a kept exception, by its class -/
def rExc : Rl Addr := ⟨fun H v c => ∃ a, v = .ref a ∧ H a = some (ExH (.ref c) a), fun s ⟨a, e, h⟩ => ⟨a, e, s _ _ h⟩⟩
/-- a kept exception, or a value -/
def rEx {α : Type} (R : Rl α) : Rl (Sum Addr α) := ⟨fun H v s => match s with | .inl c => rExc.is H v c | .inr a => R.is H v a, fun {H H' v s} h k => by
  cases s with
  | inl c => exact rExc.mono h k
  | inr a => exact R.mono h k⟩
def ExcOkG (C : Cn) (W : WX) (Γ : List Ent) (Pe : Addr → Prop) : Prop := ∀ c σ Wd, World C σ Wd Γ → Pe c → W (.ref c) none σ Wd.H
section
variable {C : Cn} {Γ : List Ent} {α β γ δ : Type} {R : Rl α} {S : Rl β} {P : α → Prop} {ta tb te : TE} {ℓ ℓ' : Lv} {K : PySem.W.Frag} {D : Ends} {t u : TS}
/-- raises within a try's body -/
theorem excG_up {W : WX} {Pe : Addr → Prop} (hE : ExcOkG C W Γ Pe) {σ : Sg} {Wd : GL.Wd} (w : World C σ Wd Γ) (c : Addr) {H' : Hp} (s : Same Wd.H H') (p : Pe c) : W (.ref c) none σ H' := by
  obtain ⟨b1, s1⟩ := bare_ok w.b (fun p o e _ => s p o e) (fun p hp => by
    obtain ⟨o, h1, h2⟩ := w.b.vol p hp
    exact ⟨o, s p o h1, h2⟩) (tab_same w.b s)
  exact hE c σ ⟨H', Wd.G, Wd.vs⟩ (w.stp b1 s1) p
/-! classes of exceptions -/
def AllP {α : Type} (p : α → Prop) : List α → Prop
  | [] => True
  | a :: l => p a ∧ AllP p l
theorem AllP.of {α : Type} {p : α → Prop} : ∀ {l : List α}, AllP p l → ∀ a, a ∈ l → p a
  | b :: l, h, a, m => by
    rcases List.mem_cons.mp m with e | m
    · subst e; exact h.1
    · exact AllP.of h.2 a m
/-- what the classes L of errors that are caught answer when they are asked after the classes Ls, and d, that is over all -/
structure KitF (K : PySem.W.Frag) (L Ls : List Addr) (d : Addr) : Prop where
  c : AllP (fun a => ExcC K a) L
  k : AllP (fun a => AllP (fun b => ∃ r, PySem.W.subIn K (.ref a) (.ref b) = some r ∧ (r = true ↔ a = b)) Ls) L
  ld : AllP (fun a => PySem.W.subIn K (.ref a) (.ref d) = some true) L
  v : AllP (fun a => PySem.W.subIn K (.ref a) (.type "ValueError") = some true) L
  t : AllP (fun b => PySem.W.hasDictIn K b = true ∧ PySem.W.typeIn K (.ref b) = some (.type "type")) Ls
  td : PySem.W.hasDictIn K d = true ∧ PySem.W.typeIn K (.ref d) = some (.type "type") ∧ PySem.W.subIn K (.ref d) (.type "BaseException") = some true
  nd : Ls.Nodup
variable {L Ls : List Addr} {d : Addr}
/-- one class alone -/
def alone (Ls : List Addr) (e : Option Addr) (at_ : Int) : Bool := match e with
  | none => false
  | some c => decide ((Ls.map fun a => decide (c = a)) ++ [true, true] = ((rg 0 10).map fun k => decide (k = at_)) ++ [true, true])
/-- the same, as the other laws ask it -/
def alone2 (Ls : List Addr) (e : Option Addr) (at_ : Int) : Bool := match e with
  | none => false
  | some c => decide ((((Ls.map fun a => decide (c = a)).count true : Nat) : Int) = 1) && gt (Ls.map fun a => decide (c = a)) at_
end
end GL


set_option Elab.async false
set_option linter.all false
set_option maxRecDepth 100000
set_option maxHeartbeats 1000000
namespace GL
open PySem L2
section
variable {C : Cn} {Γ : List Ent} {β : Type}

theorem es_call1 {α1 : Type} {R1 : Rl α1} {t1 : TE} {P1 : α1 → Prop} {R : Rl β} {pre : α1 × Unit → Prop} {post : α1 × Unit → β → Prop} {exc : α1 × Unit → Addr → Prop} {W0 : WX} {Pe : Addr → Prop} (h1 : EvP C t1 Γ .h R1 P1) (hp : ∀ a1, P1 a1 → pre (a1, ())) (hE : ExcOkG C W0 Γ Pe) (he : ∀ a1, P1 a1 → ∀ c, exc (a1, ()) c → Pe c) :
    EvX C (tCallS (spF (aCons R1 aNil) pre R post exc) (WE W0) (tCons t1 tNil)) Γ (ResF C R (fun b => ∃ a1, P1 a1 ∧ post (a1, ()) b)) := fun σ W w Q q =>
  h1 σ W w _ fun v1 W1 a1 s1 b1 r1 p1 =>
  have w1 := w.stp b1 s1
  ⟨(a1, ()), ⟨v1, _, rfl, (R1.mono (fun _ _ h => (hid_some h).2) r1), rfl⟩, hp a1 p1, fun v H' b sm rb po => q W1 v H' (s1) w1.b (resF_of w1.b sm rb ⟨a1, p1, po⟩), fun c H' sm ec => excG_up hE w1 c sm (he a1 p1 c ec)⟩
theorem esd_call1 {α1 : Type} {R1 : Rl α1} {t1 : TE} {a1 : α1} {R : Rl β} {pre : α1 × Unit → Prop} {post : α1 × Unit → β → Prop} {exc : α1 × Unit → Addr → Prop} {W0 : WX} {Pe : Addr → Prop} (h1 : Ev C t1 Γ .h R1 a1) (hp : pre (a1, ())) (hE : ExcOkG C W0 Γ Pe) (he : ∀ c, exc (a1, ()) c → Pe c) :
    EvX C (tCallS (spF (aCons R1 aNil) pre R post exc) (WE W0) (tCons t1 tNil)) Γ (ResF C R (fun b => post (a1, ()) b)) := fun σ W w Q q =>
  es_call1 h1 (fun x1 e1 => by subst e1; exact hp) hE (fun x1 e1 => by subst e1; exact he) σ W w Q fun W1 v H' s1 b1 r => q W1 v H' s1 b1 ⟨r.keep, r.vol, r.tab, by
    obtain ⟨b, rb, x1, e1, po⟩ := r.val
    subst e1
    exact ⟨b, rb, po⟩⟩
end
end GL


set_option Elab.async false
set_option linter.all false
set_option maxRecDepth 100000
set_option maxHeartbeats 1000000
/-! ### further words -/
namespace GL
open PySem L2
section
variable {C : Cn} {Γ : List Ent} {α β γ δ : Type} {R : Rl α} {S : Rl β} {T : Rl γ} {U : Rl δ} {P : α → Prop} {ta tb te : TE} {ℓ ℓ' c c' : Lv} {K : PySem.W.Frag} {D : Ends} {t u : TS}
/-! places of tuples of two and three -/
end
end GL
namespace GL
end GL
namespace GL
open PySem L2
section
variable {C : Cn} {Γ : List Ent} {α β γ δ : Type} {R : Rl α} {S : Rl β} {T : Rl γ} {ta tb te : TE} {ℓ ℓ' c c' : Lv} {K : PySem.W.Frag}
/-! comprehensions whose items are not told exactly -/
theorem RL.at {p : α → β → Prop} {l : List α} {m : List β} (h : RL p l m) : m.length = l.length ∧ ∀ (i : Nat) b, m[i]? = some b → ∃ a, l[i]? = some a ∧ p a b := ⟨h.len.symm, fun _ _ e => h.get e⟩
end
end GL
namespace GL
open PySem L2
section
variable {C : Cn} {Γ : List Ent} {α : Type} {R : Rl α} {Pl : List α → Prop} {te : TE} {ℓ c : Lv} {K : PySem.W.Frag} {D : Ends} {u : TS}
end
end GL
namespace GL
open PySem L2
section
variable {C : Cn} {Γ : List Ent} {α : Type} {R : Rl α} {P : α → Prop} {te : TE} {ℓ : Lv}
theorem evp_some (h : EvP C te Γ ℓ R P) (hn : ∀ H a, ¬ R.is H .non a) : EvP C te Γ ℓ (rOpt R) (fun o => ∃ a, o = some a ∧ P a) := fun σ W w Q q => h σ W w Q fun v W' x s b r p => q v W' (some x) s b ⟨r, fun z => by subst z; exact hn _ _ r⟩ ⟨x, rfl, p⟩
end
end GL


set_option Elab.async false
set_option linter.all false
set_option maxRecDepth 100000
set_option maxHeartbeats 1000000
/-! ### min(x, default=d), max(x, default=d) of ints -/
namespace GL
def dmin (l : List Int) (d : Int) : Int := if l = [] then d else lmin l
def dmax (l : List Int) (d : Int) : Int := if l = [] then d else lmax l
end GL
namespace L2
open PySem PySem.Spec PyProof.Rows PySem.SeqAt
open PySem.W (AlikeAll minD maxD minD_ints maxD_ints min_list_default max_list_default min_tuple_default max_tuple_default min_list_data max_list_data)
def rBestD (K : PySem.W.Frag) (mx : Bool) : List V → List V → Hp → VK → Prop := fun xs zs H Q => ∃ (p : Addr) (ns : List Int) (d : Int), xs = [.ref p] ∧ zs = [.int d] ∧ (SqL K H p (ns.map V.int) ∨ SqT K H p (ns.map V.int)) ∧ Q (.int (if mx then GL.dmax ns d else GL.dmin ns d)) H
section
variable {X : Cx}
end
end L2
namespace GL
open PySem L2
section
variable {C : Cn} {Γ : List Ent} {ta tb : TE} {ℓ c : Lv} {K : PySem.W.Frag}
end
end GL


set_option Elab.async false
set_option linter.all false
set_option maxRecDepth 100000
set_option maxHeartbeats 1000000
/-! ### sorted -/
namespace GL
open PySem L2
def isort (l : List Int) : List Int := l.mergeSort (fun a b => decide (a ≤ b))
section
variable {C : Cn} {Γ : List Ent} {ta tb : TE} {ℓ c : Lv} {K : PySem.W.Frag}
end
end GL
namespace GL
end GL


set_option Elab.async false
set_option linter.all false
set_option maxRecDepth 100000
set_option maxHeartbeats 1000000
namespace GL
open PySem L2
section
variable {C : Cn} {Γ : List Ent} {α β γ : Type} {R : Rl α} {S : Rl β} {T : Rl γ} {ta tb te : TE} {ℓ ℓ' c : Lv} {K : PySem.W.Frag}
/-! is, is not of bools -/
/-! list(a pair), list(three) of things of one kind -/
end
/-- options of what is compared -/
def eqr_opt {K : PySem.W.Frag} {α : Type} {R : Rl α} (E : Eqr K R) (hn : ∀ a, E.enc a ≠ .none) (hv : ∀ a, PyData.eqv .none (E.enc a) = false ∧ PyData.eqv (E.enc a) .none = false) : Eqr K (rOpt R) := ⟨fun o => match o with | none => .none | some a => E.enc a, fun H v o h => by
    cases o with
    | none => cases (show v = .non from h); exact .non
    | some a => exact E.dp H v a h.1, fun o => by
    cases o with
    | none => simp [PyData.canLay0]
    | some a => exact E.can a, E.n, fun o => by
    cases o with
    | none => simp [PyData.depth]
    | some a => exact E.dep a, fun a b => by
    cases a with
    | none => cases b with
      | none => simp [PyData.eqv]
      | some b => simp [(hv b).1]
    | some a => cases b with
      | none => simp [(hv a).2]
      | some b => simp [E.eqv]⟩
end GL
namespace GL
open PySem L2
theorem EvN.fl {C : Cn} {Γ : List Ent} {α : Type} {R : Rl α} {te : TE} {ℓ ℓ' : Lv} {P : List α → Prop} (f : Flat R) (h : EvN C te Γ ℓ R P) : EvN C te Γ ℓ' R P := fun σ W w Q q => h σ W w Q fun p W' xs l s b n hH hG r z => q p W' xs l s b n hH hG (r.imp fun _ _ => f _ _ _ _) z
end GL
namespace GL
open PySem L2
section
variable {C : Cn} {Γ : List Ent} {ta tb : TE} {ℓ ℓ1 ℓ2 : Lv} {P1 P2 : Bool → Prop}
end
end GL


set_option Elab.async false
set_option linter.all false
set_option maxRecDepth 100000
set_option maxHeartbeats 1000000
/-! ### sorted, of pairs of ints -/
namespace GL
open PySem L2
def ple (a b : Int × Int) : Bool := decide (a.1 < b.1 ∨ (a.1 = b.1 ∧ a.2 ≤ b.2))
def psort (l : List (Int × Int)) : List (Int × Int) := l.mergeSort ple
theorem psort_perm (l : List (Int × Int)) : (psort l).Perm l := List.mergeSort_perm l _
theorem psort_sorted (l : List (Int × Int)) : (psort l).Pairwise (fun a b => ple a b = true) :=
  List.pairwise_mergeSort (le := ple) (fun a b c h1 h2 => by unfold ple at *; simp only [decide_eq_true_eq] at *; omega) (fun a b => by unfold ple; simp only [Bool.or_eq_true, decide_eq_true_eq]; omega) l
theorem ple_anti {a b : Int × Int} (h1 : ple a b = true) (h2 : ple b a = true) : a = b := by
  unfold ple at *
  simp only [decide_eq_true_eq] at *
  exact Prod.ext (by omega) (by omega)
theorem psort_uniq {l m : List (Int × Int)} (h : m.Perm l) (h1 : m.Pairwise (fun a b => ple a b = true)) : m = psort l :=
  List.Perm.eq_of_pairwise (fun a b _ _ x y => ple_anti x y) h1 (psort_sorted l) (h.trans (psort_perm l).symm)
def keyOf (H : Hp) : V → Int × Int
  | .ref t => match H t with
    | some (.tup [.int a, .int b]) => (a, b)
    | _ => (0, 0)
  | _ => (0, 0)
section
variable {C : Cn} {Γ : List Ent} {ta tb : TE} {ℓ c : Lv} {K : PySem.W.Frag}
/-! min, max of three ints -/
variable {tc : TE}
end
end GL


set_option Elab.async false
set_option linter.all false
set_option maxRecDepth 100000
set_option maxHeartbeats 1000000
/-! ### tuples of three as triples; loops with three names -/
namespace GL
open PySem L2
variable {C : Cn} {Γ : List Ent} {ta tb te : TE} {ℓ c : Lv} {K : PySem.W.Frag} {D : Ends} {u : TS} {α β γ : Type} {R : Rl α} {S' : Rl β} {T' : Rl γ}
def to3 {α : Type} [Inhabited α] (x : List α) : α × α × α := (gt x 0, gt x 1, gt x 2)
end GL


set_option Elab.async false
set_option linter.all false
set_option maxRecDepth 100000
set_option maxHeartbeats 1000000
/-! ### list(zip(xs, ys)) -/
namespace ZL
open PySem PySem.Calls PyProof.Rows PySem.Spec
section
variable {prog : Program} {w : World} {A : Around} {E : Value → Shared → Prop} {s : Shared}
/-- a zip whose last tuple is still held -/
def Held (h : Heap) (z TI TO T : Addr) (b : Bool) : Prop := h.get? z = some { cls := .type "zip", dict := none, data := .fields #[rawInt T, .bool b, .bool false, .ref TI, .ref TO], slots := #[] }
end
/-- where a zip of two lists stands; the tuple it still holds is none of those named -/
structure ZS (h : Heap) (z TI TO i1 i2 l1 l2 S : Addr) (xs ys : Array Value) (i : Nat) : Prop where
  ti : IsPair h TI (.ref i1) (.ref i2)
  a1 : h.IsListIter i1 l1 i
  a2 : h.IsListIter i2 l2 i
  b1 : h.IsList l1 xs
  b2 : h.IsList l2 ys
  st : (IsZip h z TI TO .none ∧ ∃ a b, IsPair h TO a b) ∨ ∃ T b oT, Held h z TI TO T b ∧ h.get? T = some oT ∧ T ≠ z ∧ T ≠ i1 ∧ T ≠ i2 ∧ T ≠ S
section
variable {prog : Program} {w : World} {A : Around} {E : Value → Shared → Prop} {s : Shared} {z TI TO i1 i2 l1 l2 S : Addr} {xs ys : Array Value} {i : Nat}
theorem ZS.upd {h h' : Heap} (st : ZS h z TI TO i1 i2 l1 l2 S xs ys i) (hz : z ≠ S) (hTI : TI ≠ S) (hTO : TO ≠ S) (h1 : i1 ≠ S) (h2 : i2 ≠ S) (g1 : l1 ≠ S) (g2 : l2 ≠ S)
    (k : ∀ b o, b ≠ S → h.get? b = some o → h'.get? b = some o) : ZS h' z TI TO i1 i2 l1 l2 S xs ys i := by
  refine ⟨k _ _ hTI st.ti, st.a1.at fun o e => k _ o h1 e, st.a2.at fun o e => k _ o h2 e, st.b1.at fun o e => k _ o g1 e, st.b2.at fun o e => k _ o g2 e, ?_⟩
  rcases st.st with ⟨q, a, b, q2⟩ | ⟨T, b, oT, q, q2, n1, n2, n3, n4⟩
  · exact .inl ⟨k _ _ hz q, a, b, k _ _ hTO q2⟩
  · exact .inr ⟨T, b, oT, k _ _ hz q, k _ _ n4 q2, n1, n2, n3, n4⟩
end
/-- the tuples made so far -/
structure TG (xs ys : Array Value) (lo : Addr) (h : Heap) (as : List Addr) : Prop where
  rise : as.Pairwise (· < ·)
  above : ∀ a ∈ as, lo ≤ a ∧ a < h.objs.size
  pairs : ∀ (j : Nat) (a : Addr), as[j]? = some a → ∃ x y, xs[j]? = some x ∧ ys[j]? = some y ∧ IsPair h a x y
theorem TG.upd {xs ys : Array Value} {lo : Addr} {h h' : Heap} {as : List Addr} (g : TG xs ys lo h as) (k : ∀ b o, lo ≤ b → h.get? b = some o → h'.get? b = some o) : TG xs ys lo h' as :=
  ⟨g.rise, fun a ha => by
    obtain ⟨j, hj⟩ := List.mem_iff_getElem?.mp ha
    obtain ⟨x, y, _, _, e⟩ := g.pairs j a hj
    exact ⟨(g.above a ha).1, Heap.lt_size (k a _ (g.above a ha).1 e)⟩, fun j a hj => by
    obtain ⟨x, y, hx, hy, e⟩ := g.pairs j a hj
    exact ⟨x, y, hx, hy, k a _ (g.above a (List.mem_of_getElem? hj)).1 e⟩⟩
theorem TG.snoc {xs ys : Array Value} {lo : Addr} {h : Heap} {as : List Addr} {a : Addr} {x y : Value} (g : TG xs ys lo h as) (ha : ∀ b ∈ as, b < a) (hlo : lo ≤ a) (hs : a < h.objs.size) (hx : xs[as.length]? = some x) (hy : ys[as.length]? = some y) (hp : IsPair h a x y) : TG xs ys lo h (as ++ [a]) := by
  refine ⟨List.pairwise_append.mpr ⟨g.rise, List.pairwise_singleton _ _, fun b hb c hc => by rw [List.mem_singleton.mp hc]; exact ha b hb⟩, fun b hb => ?_, fun j b hj => ?_⟩
  · rcases List.mem_append.mp hb with q | q
    · exact g.above b q
    · rw [List.mem_singleton.mp q]; exact ⟨hlo, hs⟩
  · by_cases e : j < as.length
    · rw [List.getElem?_append_left e] at hj; exact g.pairs j b hj
    · by_cases e2 : j = as.length
      · subst e2
        rw [List.getElem?_append_right (Nat.le_refl _), Nat.sub_self] at hj
        have : b = a := by simpa using hj.symm
        rw [this]; exact ⟨x, y, hx, hy, hp⟩
      · rw [List.getElem?_eq_none (by rw [List.length_append, List.length_singleton]; omega)] at hj; cases hj
/-- the new list stands apart from the zip -/
structure Ap (S z TI TO i1 i2 l1 l2 lo : Addr) : Prop where
  nz : z ≠ S
  nti : TI ≠ S
  nto : TO ≠ S
  na1 : i1 ≠ S
  na2 : i2 ≠ S
  nb1 : l1 ≠ S
  nb2 : l2 ≠ S
  loS : S < lo
  loz : z < lo
  lot : TO < lo
  lo1 : i1 < lo
  lo2 : i2 < lo
section
variable {prog : Program} {w : World} {A : Around} {s : Shared} {R : Result → Shared → Prop} {z TI TO i1 i2 l1 l2 S lo : Addr} {xs ys : Array Value}
end
section
variable {prog : Program} {w : World} {A : Around} {s : Shared} {R : Result → Shared → Prop} {z TI TO i1 i2 l1 l2 S lo : Addr} {xs ys : Array Value}
end
section
variable {prog : Program} {w : World} {A : Around} {E : Value → Shared → Prop} {s : Shared} {z TI TO i1 i2 l1 l2 : Addr} {xs ys : Array Value}
end
end ZL


set_option Elab.async false
set_option linter.all false
set_option maxRecDepth 100000
set_option maxHeartbeats 2000000
/-! ### list(zip(xs, ys)) as a word of the layer -/
namespace L2
open PySem PySem.Spec PyProof.Rows
/-- pairs laid one behind the other -/
inductive Lay : Hp → List (V × V) → List Addr → Hp → Prop
  | nil (H : Hp) : Lay H [] [] H
  | cons {H H2 : Hp} {x y : V} {a : Addr} {ps : List (V × V)} {as : List Addr} : H a = none → Lay (upd H a (.tup [x, y])) ps as H2 → Lay H ((x, y) :: ps) (a :: as) H2
theorem Lay.out {H H2 : Hp} {ps : List (V × V)} {as : List Addr} (h : Lay H ps as H2) : ∀ b, b ∉ as → H2 b = H b := by
  induction h with
  | nil => intro b _; rfl
  | cons _ _ ih =>
    intro b hb
    rw [ih b (fun z => hb (List.mem_cons_of_mem _ z)), upd_ne (fun z => hb (by rw [z]; exact List.mem_cons_self))]
section
variable {P : Program} {w : World} {fs : List Addr} {h0 h' : Heap}
end
def tLstZip (K : PySem.W.Frag) (ta : TA) : TE := fun σ H Q => ta σ H fun vs H1 => ∃ (a b : Addr) (xs ys : List V), vs = [.ref a, .ref b] ∧ SqL K H1 a xs ∧ SqL K H1 b ys ∧ ∀ H2 as q, Lay H1 (xs.zip ys) as H2 → H1 q = none → q ∉ as → Q (.ref q) (upd H2 q (.lst (as.map V.ref)))
section
variable {X : Cx}
end
end L2
namespace GL
open PySem L2
section
variable {C : Cn} {Γ : List Ent} {α β : Type} {R : Rl α} {S' : Rl β} {ta tb : TE} {ℓ c c' : Lv} {K : PySem.W.Frag}
end
end GL


set_option Elab.async false
set_option linter.all false
set_option maxRecDepth 100000
set_option maxHeartbeats 1000000
namespace GL
open PySem L2
/-! texts -/
abbrev tl (x : Str) : List Nat := TL.tl x
theorem str_ext {x y : Str} (h : tl x = tl y) : x = y := TL.ext_tl h
def TS_ (l : List Nat) : Str := ⟨l.toArray⟩
theorem tl_TS (l : List Nat) : tl (TS_ l) = l := rfl
theorem TS_tl (x : Str) : TS_ (tl x) = x := str_ext rfl
theorem len_tl (x : Str) : x.length = (tl x).length := TL.len_tl x
theorem tl_app (x y : Str) : tl (x ++ y) = tl x ++ tl y := TL.tl_append x y
theorem len_app (x y : Str) : (x ++ y).length = x.length + y.length := by rw [len_tl, tl_app, List.length_append, ← len_tl, ← len_tl]
theorem str_inj {x y : Str} : x = y ↔ tl x = tl y := ⟨fun h => by rw [h], str_ext⟩
def sg (c : Nat) : Str := TS_ [c]
def signs (a : Str) : List Str := (tl a).map sg
theorem signs_len (a : Str) : (signs a).length = a.length := by rw [len_tl]; simp [signs]
def smul (x : Str) (n : Int) : Str := TS_ (List.replicate n.toNat (tl x)).flatten
theorem tl_smul (x : Str) (n : Int) : tl (smul x n) = (List.replicate n.toNat (tl x)).flatten := rfl
theorem tl_smul1 {x : Str} {c : Nat} (h : tl x = [c]) (n : Int) : tl (smul x n) = List.replicate n.toNat c := by
  rw [tl_smul, h]
  generalize n.toNat = k
  induction k with
  | zero => rfl
  | succ k ih => rw [List.replicate_succ, List.replicate_succ, List.flatten_cons, ih]; rfl
theorem foldl_app (l : List (Array Nat)) : ∀ a : Array Nat, (l.foldl (· ++ ·) a).toList = a.toList ++ (l.map Array.toList).flatten := by
  induction l with
  | nil => intro a; simp
  | cons x l ih => intro a; rw [List.foldl_cons, ih]; simp
theorem mul_eq (x : Str) (n : Int) : Txt.mul x n = smul x n := by
  apply str_ext
  rw [tl_smul]
  unfold Txt.mul
  split
  · rename_i h
    rw [show n.toNat = 0 by omega]; rfl
  · split
    · rename_i h1 h2
      rw [Bool.or_eq_true, beq_iff_eq, beq_iff_eq] at h2
      rcases h2 with h2 | h2
      · subst h2; simp
      · have : tl x = [] := (TL.len0_tl x).mp h2
        rw [this]; simp
    · show ((List.replicate n.toNat x.cps).foldl (· ++ ·) #[]).toList = _
      rw [foldl_app]; simp [List.map_replicate]
theorem mulOk_small {x : Str} {n : Int} (hx : x.length ≤ 1000) (hn : -1000000 ≤ n ∧ n ≤ 1000) : MulOk x n := by
  refine ⟨by simp; omega, fun h1 _ h => ?_, fun h1 _ => ?_⟩
  · have h2 : (x.length : Int) * n ≤ 1000 * 1000 := Int.mul_le_mul (by omega) hn.2 (by omega) (by omega)
    have h3 : (x.length : Int) ≤ (2 ^ 63 - 1) / n := (Int.le_ediv_iff_mul_le (by omega)).mpr (by omega)
    omega
  · have h2 : x.length * n.toNat ≤ 1000 * 1000 := Nat.mul_le_mul hx (by omega)
    have h3 : x.length * n.toNat ≤ sizeLine := Nat.le_trans h2 (by decide)
    unfold PySem.Builtin.Str.tooLong
    exact decide_eq_false (by omega)
section
variable {X : Cx}
abbrev rMulS : R2 := fun x y H Q => ∃ i k, x = .str i ∧ y = .int k ∧ MulOk i k ∧ Q (.str (Txt.mul i k)) H
theorem op_mulS : OpR X (binaryOp .Mult) rMulS := by
  intro pins s σ H x y v u Q I rx ry h
  obtain ⟨i, j, rfl, rfl, hz, q⟩ := h
  obtain ⟨t, rfl⟩ := rx
  obtain ⟨t', rfl⟩ := ry
  exact SB.mul hz (fun t' tk => ⟨.str (Txt.mul i j), H, I.tok _, ⟨_, rfl⟩, q⟩)
abbrev rAddS_ : R2 := fun x y H Q => ∃ i j, x = .str i ∧ y = .str j ∧ i.length + j.length ≤ sizeLine ∧ Q (.str (i ++ j)) H
abbrev rJoin (K : PySem.W.Frag) : V → List V → Hp → VK → Prop := fun x xs H Q => ∃ a p, ∃ ys : List Str, x = .str a ∧ xs = [.ref p] ∧ (SqL K H p (ys.map V.str) ∨ SqT K H p (ys.map V.str)) ∧ (ys.map (·.length)).sum + ys.length * a.length ≤ 16777216 ∧ Q (.str (Txt.join a ys)) H
abbrev rSplit : V → List V → Hp → VK → Prop := fun x xs H Q => ∃ a b, x = .str a ∧ xs = [.str b] ∧ (b.length == 0) = false ∧ a.length + 2 ≤ sizeLine ∧ rNewStrs (Txt.split a b) H Q
abbrev rCountS : V → List V → Hp → VK → Prop := fun x xs H Q => ∃ a b, x = .str a ∧ xs = [.str b] ∧ Q (.int (Txt.count a b)) H
abbrev rRstripS : V → List V → Hp → VK → Prop := fun x xs H Q => ∃ a b, x = .str a ∧ xs = [.str b] ∧ a.length ≤ sizeLine ∧ Q (.str (Txt.rstripChars a b)) H
open PyProof.Rows PySem.Spec in
/-- sum of a tuple of ints -/
theorem sum_rawT {prog : Program} {w : PySem.World} {A : Around} {E : Value → Shared → Prop} {s : Shared} {l : Addr} {its : List Value} {ns : List Int} {Q : Value → Shared → Prop} (hh : A.handled = none) (hl : s.heap.IsTuple l its.toArray) (hi : PyProof.Rows.IntsAre its ns)
    (h : ∀ h' tk t', (∀ b o, s.heap.get? b = some o → h'.get? b = some o) → Q (.int ns.sum t') { s with heap := h', toks := tk }) : wpAny (model prog w) A (call (.builtin "sum") [.ref l]) Q E s := by
  obtain ⟨xs, e⟩ := hi.allInts.items
  have hn : numsOf (intItems xs).toList = ns := by rw [← e]; exact hi.numsOf
  rw [nums_intItems] at hn
  rw [e] at hl
  refine PySem.W.ktm_sumG hh hl fun h' tk t' hk => ?_
  have := h h' tk t' hk
  rw [preSum_eq, List.take_of_length_le (by simp), hn]; exact this
def rSumA (K : PySem.W.Frag) : List V → Hp → VK → Prop := fun vs H Q => ∃ (a : Addr) (ns : List Int), vs = [V.ref a] ∧ (SqL K H a (ns.map V.int) ∨ SqT K H a (ns.map V.int)) ∧ Q (.int ns.sum) H
theorem cr_sumA (hc : X.calm = true) : CallR X (.builtin "sum") (rSumA X.K) := by
  intro pins s σ H vs us Q I r h
  obtain ⟨a, ns, rfl, hs, q⟩ := h
  rw [Vals.ref1 r]
  rcases hs with hs | hs
  · obtain ⟨its, rv, hl, _⟩ := I.list hs
    exact sum_raw (I.ok.hd hc) hl.isList rv.ints fun h' tk t' hk => ⟨.int _, H, I.kept hk, ⟨_, rfl⟩, q⟩
  · obtain ⟨its, rv, hl, _⟩ := I.tuple hs
    exact sum_rawT (I.ok.hd hc) hl rv.ints fun h' tk t' hk => ⟨.int _, H, I.kept hk, ⟨_, rfl⟩, q⟩
end
section
variable {C : Cn} {Γ : List Ent} {α : Type} {ta tb tc te : TE} {ℓ ℓ' c c' : Lv} {K : PySem.W.Frag} {a b : Str}
theorem All2.strs {H : Hp} {xs : List V} {l : List Str} (h : All2 (rStr.is H) xs l) : xs = l.map V.str := h.map_eq fun _ _ e => e
theorem ev_sumA {k : Kd} {l : List Int} (ha : EvS C ta Γ k c .h rInt (fun x => x = l)) : Ev C (tCB (rSumA K) (tCons ta tNil)) Γ ℓ rInt l.sum := fun σ W w Q q =>
  ha σ W w _ fun p W1 xs l' s b e r pl => ⟨p, l', rfl, by rw [← r.ints]; exact sqA_of b e, q _ W1 _ s b rfl (by rw [pl])⟩
theorem ev_addS (ha : Ev C ta Γ .h rStr a) (hb : Ev C tb Γ .h rStr b) (hz : a.length + b.length ≤ 1000000) : Ev C (tOp rAddS_ ta tb) Γ ℓ rStr (a ++ b) := evp_bin ha hb fun σ W x y i j Q w r1 r2 p1 p2 q =>
  ⟨i, j, r1, r2, by rw [p1, p2]; exact Nat.le_trans hz sizeLine_big, q _ W _ (Stp.refl W) w.b rfl (by rw [p1, p2])⟩
theorem ev_mulS {n : Int} (ha : Ev C ta Γ .h rStr a) (hb : Ev C tb Γ .h rInt n) (hz : a.length ≤ 1000 ∧ -1000000 ≤ n ∧ n ≤ 1000) : Ev C (tOp rMulS ta tb) Γ ℓ rStr (smul a n) := evp_bin ha hb fun σ W x y i j Q w r1 r2 p1 p2 q =>
  ⟨i, j, r1, r2, by rw [p1, p2]; exact mulOk_small hz.1 hz.2, q _ W _ (Stp.refl W) w.b rfl (by rw [p1, p2, mul_eq])⟩
theorem ev_join {k : Kd} {l : List Str} (ha : Ev C ta Γ .h rStr a) (hb : EvS C tb Γ k c .h rStr (fun x => x = l)) (hz : (l.map (·.length)).sum + l.length * a.length ≤ 1000000) : Ev C (tM1 (rJoin K) ta tb) Γ ℓ rStr (Str.join a l) := fun σ W w Q q =>
  ha σ W w _ fun v W1 a' s1 b1 r1 p1 => ⟨⟨a', r1⟩, hb σ W1 (w.stp b1 s1) _ fun p W2 xs l' s2 b2 e r2 p2 => ⟨a', p, l', r1, rfl, by rw [← r2.strs]; exact sqA_of b2 e, by
    rw [p1, p2]; omega, q _ W2 _ (s1.trans w.b b1 s2) b2 rfl (by rw [p1, p2, TL.join_eq])⟩⟩
theorem ei_str {b' : Bool} (ha : Ev C ta Γ .h rStr a) : EvI C b' (iStr ta) Γ ℓ rStr (fun l => l = signs a) := fun σ W w Rk k =>
  ha σ W w _ fun v W1 a' s b1 r p => ⟨a', r, k _ W1 (signs a') (fun _ => True) s b1 trivial (fun _ _ _ _ _ _ => trivial)
    ⟨fun V i bk _ hi => by
        have : i < (tl a').length := by simpa [signs] using hi
        show i < a'.cps.size
        simpa [tl] using this, fun V _ _ => by
        show a'.cps.size ≤ (signs a').length
        simp [signs, tl], fun V i x H' d bk _ hd ⟨y1, c', y2, y3⟩ => ⟨V, y1.symm, bk, Stp.refl V, by
        have e : (tl a')[i]? = some c' := by
          show a'.cps.toList[i]? = _
          rw [Array.getElem?_toList]; exact y2
        unfold signs at hd
        rw [List.getElem?_map, e] at hd
        cases hd
        exact y3⟩⟩ (by rw [p])⟩
theorem ev_lenS (ha : Ev C ta Γ .h rStr a) (hz : a.length ≤ 1000000) : Ev C (tCB (fun xs H Q => ∃ z, xs = [.str z] ∧ z.length ≤ sizeLine ∧ Q (.int z.length) H) (tCons ta tNil)) Γ ℓ rInt (a.length : Int) := fun σ W w Q q =>
  ha σ W w _ fun v W1 a' s1 b1 r1 p1 => ⟨a', by rw [show v = .str a' from r1], by rw [p1]; exact Nat.le_trans hz sizeLine_big, q _ W1 _ s1 b1 rfl (by rw [p1])⟩
def orS (a b : Str) : Str := if tl a = [] then b else a
def slS (a : Str) (lo hi : Option Int) : Str := TS_ (sl (tl a) lo hi)
abbrev rIxS : R2 := fun x y H Q => ∃ z i c, x = .str z ∧ y = .int i ∧ 0 ≤ i ∧ i < 2 ^ 63 ∧ i < z.length ∧ z.cps[i.toNat]? = some c ∧ Q (.str ⟨#[c]⟩) H
theorem ev_ixS {i : Int} (ha : Ev C ta Γ .h rStr a) (hb : Ev C tb Γ .h rInt i) (hz : (0 ≤ i ∧ i < (tl a).length) ∧ a.length ≤ 1000000) : Ev C (tOp rIxS ta tb) Γ ℓ rStr (sg (gt (tl a) i)) := evp_bin ha hb fun σ W x y a' i' Q w r1 r2 p1 p2 q => by
  subst p1 p2
  refine ⟨a', i', gt (tl a') i', r1, r2, hz.1.1, by have h1 := hz.2; have h2 := hz.1.2; rw [len_tl] at h1; omega, by rw [len_tl]; exact hz.1.2, ?_, q _ W _ (Stp.refl W) w.b rfl rfl⟩
  have := gt_get hz.1
  rw [← Array.getElem?_toList]
  exact this
abbrev rInSg : R2 := fun x y H Q => ∃ (c : Nat) (z : Str), x = .str ⟨#[c]⟩ ∧ y = .str z ∧ Q (.bl (decide (c ∈ z.cps.toList))) H
theorem ev_countS (ha : Ev C ta Γ .h rStr a) (hb : Ev C tb Γ .h rStr b) : Ev C (tM1 rCountS ta tb) Γ ℓ rInt (Txt.count a b) := fun σ W w Q q =>
  ha σ W w _ fun v W1 a' s1 b1 r1 p1 => ⟨⟨a', r1⟩, hb σ W1 (w.stp b1 s1) _ fun v2 W2 b' s2 b2 r2 p2 => ⟨a', b', r1, by rw [show v2 = .str b' from r2], q _ W2 _ (s1.trans w.b b1 s2) b2 rfl (by rw [p1, p2])⟩⟩
theorem ev_eqS (ha : Ev C ta Γ .h rStr a) (hb : Ev C tb Γ .h rStr b) : Ev C (tOp rEq ta tb) Γ ℓ rBool (decide (a = b)) := evp_bin ha hb fun σ W x y i j Q w r1 r2 p1 p2 q => by
  cases (show x = .str i from r1)
  cases (show y = .str j from r2)
  subst p1 p2
  exact ⟨rfl, q _ W _ (Stp.refl W) w.b (by
    show V.bl _ = V.bl _
    congr 1
    exact decide_eq_decide.mpr ⟨fun h => V.str.inj h, fun h => by rw [h]⟩) rfl⟩
theorem ev_neS (ha : Ev C ta Γ .h rStr a) (hb : Ev C tb Γ .h rStr b) : Ev C (tOp rNe ta tb) Γ ℓ rBool (!decide (a = b)) := evp_bin ha hb fun σ W x y i j Q w r1 r2 p1 p2 q => by
  cases (show x = .str i from r1)
  cases (show y = .str j from r2)
  subst p1 p2
  exact ⟨rfl, q _ W _ (Stp.refl W) w.b (by
    show V.bl _ = V.bl _
    congr 2
    exact decide_eq_decide.mpr ⟨fun h => V.str.inj h, fun h => by rw [h]⟩) rfl⟩
theorem sum_le_of {l : List Nat} {k : Nat} (h : ∀ x ∈ l, x ≤ k) : l.sum ≤ l.length * k := by
  induction l with
  | nil => simp
  | cons x l ih =>
    rw [List.sum_cons, List.length_cons, Nat.succ_mul]
    have h1 := h x (by simp)
    have h2 := ih fun y hy => h y (by simp [hy])
    omega
theorem tl_join (y : Str) (l : List Str) : tl (Str.join y l) = TL.joinL (tl y) (l.map tl) := TL.tl_join y l
theorem joinL_nil : ∀ l : List (List Nat), TL.joinL [] l = l.flatten
  | [] => rfl
  | [x] => by simp [TL.joinL]
  | x :: y :: l => by
    show x ++ ([] ++ TL.joinL [] (y :: l)) = _
    rw [joinL_nil (y :: l)]; simp
end
end GL


set_option Elab.async false
set_option linter.all false
set_option maxRecDepth 100000
set_option maxHeartbeats 1000000
namespace GL
open PySem L2
/-! try .. except X: without a name -/
section
variable {C : Cn} {Γ : List Ent} {K : PySem.W.Frag} {L Ls : List Addr} {d : Addr} {D : Ends} {ta tb : TE} {ℓ : Lv}
theorem KitF.exmS (h : KitF K L Ls d) {a : Addr} (ha : a ∈ L) (hb : a ∈ Ls) : PySem.W.exmOne K (.ref a) (.ref a) = some true := by
  obtain ⟨r, h1, h2⟩ := (h.k.of a ha).of a hb
  rw [h2.mpr rfl] at h1
  exact PySem.W.exm_ref (h.c.of a ha).hs (h.c.of a ha).hd (h.t.of a hb).2 h1
def tTryO (K : PySem.W.Frag) (c : Value) (tb : WX → TS) (ts : TS) : TS := fun D σ H => tb (wOnly K c (fun _ _ _ => ts) (fun _ _ _ _ => False) D) D σ H
theorem c_tryO {tb : WX → TS} {ts : TS} {cv : Value} {Pe : Addr → Prop} (h1 : ∀ W, ExcOkG C W Γ Pe → Go C (tb W) D Γ) (h2 : ∀ c, Pe c → Go C ts D Γ) (he : ∀ c, Pe c → PySem.W.exmOne K (.ref c) cv = some true) : Go C (tTryO K cv tb ts) D Γ := fun σ W w =>
  h1 _ (fun c σ' W' w' pc => ⟨true, he c pc, fun _ a na => h2 c pc σ' W' w', fun z => by cases z⟩) σ W w
end
end GL


set_option Elab.async false
set_option linter.all false
set_option maxRecDepth 100000
set_option maxHeartbeats 1000000
namespace GL
open PySem L2
/-! shifts, low bits; in a list of data -/
section
variable {C : Cn} {Γ : List Ent} {α : Type} {R : Rl α} {ta tb tc te : TE} {ℓ ℓ' c c' : Lv} {K : PySem.W.Frag} {i j : Int}
theorem ev_shr (ha : Ev C ta Γ .h rInt i) (hb : Ev C tb Γ .h rInt j) (hc : 0 ≤ j) : Ev C (tOp (rI (fun _ j => 0 ≤ j) fun i j => .int (i / 2 ^ j.toNat)) ta tb) Γ ℓ rInt (i / 2 ^ j.toNat) := evp_I (f := fun i j => i / 2 ^ j.toNat) ha hb (fun _ _ p q => by rw [q]; exact hc) (fun _ _ _ => rfl) fun _ _ p q => by rw [p, q]
abbrev rShl1 : R2 := fun x y H Q => ∃ k : Nat, x = .int 1 ∧ y = .int (k : Int) ∧ k ≤ 134217727 ∧ Q (.int (2 ^ k)) H
theorem ev_shl1 (ha : Ev C ta Γ .h rInt 1) (hb : Ev C tb Γ .h rInt j) (hc : 0 ≤ j ∧ j ≤ 100000) : Ev C (tOp rShl1 ta tb) Γ ℓ rInt (2 ^ j.toNat) := evp_bin ha hb fun σ W x y a b Q w r1 r2 p1 p2 q => by
  subst p1 p2
  exact ⟨b.toNat, r1, by rw [Int.toNat_of_nonneg hc.1]; exact r2, by omega, q _ W _ (Stp.refl W) w.b rfl rfl⟩
abbrev rAndM : R2 := fun x y H Q => ∃ (i : Int) (k : Nat), x = .int i ∧ y = .int (2 ^ k - 1) ∧ Q (.int (i % 2 ^ k)) H
theorem ev_andM {k : Nat} (ha : Ev C ta Γ .h rInt i) (hb : Ev C tb Γ .h rInt (2 ^ k - 1)) : Ev C (tOp rAndM ta tb) Γ ℓ rInt (i % 2 ^ k) := evp_bin ha hb fun σ W x y a b Q w r1 r2 p1 p2 q => by
  subst p1 p2
  exact ⟨a, k, r1, r2, q _ W _ (Stp.refl W) w.b rfl rfl⟩
end
end GL


set_option Elab.async false
set_option linter.all false
set_option maxRecDepth 100000
set_option maxHeartbeats 1000000
/-! ### zip of a list or a tuple with a list or a tuple -/
namespace ZM
open PySem PySem.Calls PyProof.Rows PySem.Spec
/-- the kinds: true is a tuple -/
def Ib : Bool → Heap → Addr → Addr → Nat → Prop
  | false => fun h it l i => h.IsListIter it l i
  | true => fun h it l i => h.IsTupleIter it l i
def Sb : Bool → Heap → Addr → Array Value → Prop
  | false => fun h l xs => h.IsList l xs
  | true => fun h l xs => h.IsTuple l xs
def nb_ : Bool → String
  | false => "list_iterator"
  | true => "tuple_iterator"
theorem Ib.ext : ∀ {k : Bool} {h h' : Heap} {a b l i}, Ib k h a l i → Heap.ExtBut b h h' → a ≠ b → Ib k h' a l i
  | false, _, _, _, _, _, _, x, hs, hab => Heap.IsListIter.extBut x hs hab
  | true, _, _, _, _, _, _, x, hs, hab => Heap.IsTupleIter.extBut x hs hab
theorem Ib.at_ : ∀ {k : Bool} {h h' : Heap} {a l i}, Ib k h a l i → (∀ o, h.get? a = some o → h'.get? a = some o) → Ib k h' a l i
  | false, _, _, _, _, _, x, e => Heap.IsListIter.at x e
  | true, _, _, _, _, _, x, e => Heap.IsTupleIter.at x e
theorem Ib.obj : ∀ {k : Bool} {h : Heap} {a l i}, Ib k h a l i → ∃ o, h.get? a = some o ∧ ∀ v, o.data ≠ .cell v
  | false, _, _, _, _, ⟨o, e, _, d⟩ => ⟨o, e, fun v q => by rw [d] at q; cases q⟩
  | true, _, _, _, _, ⟨o, e, _, d⟩ => ⟨o, e, fun v q => by rw [d] at q; cases q⟩
theorem Sb.ext : ∀ {k : Bool} {h h' : Heap} {b l xs}, Sb k h l xs → Heap.ExtBut b h h' → l ≠ b → Sb k h' l xs
  | false, _, _, _, _, _, x, hs, hab => Heap.IsList.extBut x hs hab
  | true, _, _, _, _, _, x, hs, hab => Heap.IsTuple.extBut x hs hab
section
variable {prog : Program} {w : World} {A : Around} {E : Value → Shared → Prop} {s : Shared}
theorem step : ∀ {k : Bool} {it l : Addr} {i : Nat} {items : Array Value} {x : Value} {Q : Value → Shared → Prop}, Ib k s.heap it l i → Sb k s.heap l items → items[i]? = some x →
    (∀ h', Ib k h' it l (i + 1) → Heap.SameBut it s.heap h' → Q x { s with heap := h' }) → wpAny (model prog w) A (Builtin.SmallTypes.nextOf (.ref it)) Q E s
  | false, _, _, _, _, _, _, h1, h2, h3, h4 => wpAny_nextOf_list_item h1 h2 h3 h4
  | true, _, _, _, _, _, _, h1, h2, h3, h4 => RZ.nextOf_tuple_item h1 h2 h3 h4
theorem stop (hh : A.handled = none) : ∀ {k : Bool} {it l : Addr} {i : Nat} {items : Array Value} {Q : Value → Shared → Prop}, Ib k s.heap it l i → Sb k s.heap l items → items[i]? = none →
    (∀ h' e, Heap.ExtBut it s.heap h' → (∃ o, h'.get? e = some o ∧ o.cls = .type "StopIteration") → E (.ref e) { s with heap := h' }) → wpAny (model prog w) A (Builtin.SmallTypes.nextOf (.ref it)) Q E s
  | false, _, _, _, _, _, h1, h2, h3, h4 => wpAny_nextOf_list_end hh h1 h2 h3 h4
  | true, _, _, _, _, _, h1, h2, h3, h4 => RZ.nextOf_tuple_end hh h1 h2 h3 h4
end
end ZM
namespace ZM
open PySem PySem.Calls PyProof.Rows PySem.Spec
abbrev G1 (p : Bool) (h : Heap) (l1 : Addr) : Heap := h.push { cls := .type (nb_ p), data := .fields #[.ref l1, .int 0 0] }
abbrev G2 (p q : Bool) (h : Heap) (l1 l2 : Addr) : Heap := (G1 p h l1).push { cls := .type (nb_ q), data := .fields #[.ref l2, .int 0 0] }
abbrev G3 (p q : Bool) (h : Heap) (l1 l2 : Addr) : Heap := (G2 p q h l1 l2).push { cls := .type "tuple", data := .seq #[.ref h.objs.size, .ref (G1 p h l1).objs.size] }
abbrev G4 (p q : Bool) (h : Heap) (l1 l2 : Addr) : Heap := (G3 p q h l1 l2).push { cls := .type "tuple", data := .seq #[.none, .none] }
abbrev G5 (p q : Bool) (h : Heap) (l1 l2 : Addr) : Heap := (G4 p q h l1 l2).push { cls := .type "zip", data := .fields #[.none, .bool false, .bool false, .ref (G2 p q h l1 l2).objs.size, .ref (G3 p q h l1 l2).objs.size] }
theorem Ib.new : ∀ {k : Bool} {h : Heap} {a l : Addr}, h.get? a = some { cls := .type (nb_ k), data := .fields #[.ref l, .int 0 0] } → Ib k h a l 0
  | false, _, _, _, g => ⟨_, g, rfl, rfl⟩
  | true, _, _, _, g => ⟨_, g, rfl, rfl⟩
section
variable {prog : Program} {w : World} {A : Around} {E : Value → Shared → Prop} {s : Shared}
end
end ZM
namespace L2
open PySem ZM
def SqB (K : PySem.W.Frag) : Bool → Hp → Addr → List V → Prop
  | false => fun H a xs => SqL K H a xs
  | true => fun H a xs => SqT K H a xs
end L2
namespace L2
open PySem ZM PyProof.Rows
/-- what stands at a and b at each turn, the items in new pairs -/
def ItM (K : PySem.W.Frag) (p q : Bool) (a b : Addr) : It :=
  ⟨fun i H => ∃ (xs ys : List V) (x y : V), SqB K p H a xs ∧ SqB K q H b ys ∧ xs[i]? = some x ∧ ys[i]? = some y,
    fun i H v H' => ∃ T x y, v = .ref T ∧ H T = none ∧ H' = upd H T (.tup [x, y]) ∧ (∀ xs, SqB K p H a xs → xs[i]? = some x) ∧ ∀ ys, SqB K q H b ys → ys[i]? = some y,
    fun i H => ∃ xs ys : List V, SqB K p H a xs ∧ SqB K q H b ys ∧ (xs.length ≤ i ∨ ys.length ≤ i)⟩
section
variable {X : Cx} {pins : List (Addr × Obj)} {s : Shared} {σ : L2.St} {H : Hp}
end
def iZipM (K : PySem.W.Frag) (ta : TA) : TI := fun σ H R => ta σ H fun vs H1 => ∃ (p q : Bool) (a b : Addr) (xs ys : List V), vs = [.ref a, .ref b] ∧ SqB K p H1 a xs ∧ SqB K q H1 b ys ∧ R (ItM K p q a b) H1
end L2
namespace GL
open PySem L2 ZM
section
variable {C : Cn} {Γ : List Ent} {α β : Type} {R : Rl α} {S : Rl β} {ta tb te : TE} {ℓ ℓ' c c' : Lv} {K : PySem.W.Frag}
def kdB : Bool → Kd
  | false => .l
  | true => .t
end
end GL


set_option Elab.async false
set_option linter.all false
set_option maxRecDepth 100000
set_option maxHeartbeats 1000000
namespace GL
open PySem L2
/-! comprehensions over pairs with a test; over a thing and a pair; over triples -/
section
variable {C : Cn} {Γ : List Ent} {α β γ δ : Type} {R : Rl α} {S : Rl β} {T : Rl γ} {U : Rl δ} {te : TE} {ℓ ℓ' c : Lv} {K : PySem.W.Frag}
end
end GL


set_option Elab.async false
set_option linter.all false
set_option maxRecDepth 100000
set_option maxHeartbeats 1000000
namespace GL
open PySem L2
/-! one thing or another; tuples of four -/
section
variable {C : Cn} {Γ : List Ent} {α β γ δ : Type} {R : Rl α} {S : Rl β} {T : Rl γ} {U : Rl δ} {ta tb tc td te : TE} {ℓ ℓ' c : Lv} {K : PySem.W.Frag} {D : Ends} {u : TS}
def rAlt {α β : Type} (R : Rl α) (S : Rl β) : Rl (α ⊕ β) := ⟨fun H v s => match s with | .inl a => R.is H v a | .inr b => S.is H v b, fun {H H' v s} h k => by
  cases s with
  | inl a => exact R.mono h k
  | inr b => exact S.mono h k⟩
def eqr_alt (E : Eqr K R) (F : Eqr K S) (hd : ∀ a b, PyData.eqv (E.enc a) (F.enc b) = false ∧ PyData.eqv (F.enc b) (E.enc a) = false) : Eqr K (rAlt R S) := ⟨fun s => match s with | .inl a => E.enc a | .inr b => F.enc b, fun H v s h => by
    cases s with
    | inl a => exact E.dp H v a h
    | inr b => exact F.dp H v b h, fun s => by
    cases s with
    | inl a => exact E.can a
    | inr b => exact F.can b, max E.n F.n, fun s => by
    cases s with
    | inl a => exact Nat.le_trans (E.dep a) (Nat.le_max_left ..)
    | inr b => exact Nat.le_trans (F.dep b) (Nat.le_max_right ..), fun s t => by
    cases s with
    | inl a => cases t with
      | inl a' => simp [E.eqv]
      | inr b => simp [(hd a b).1]
    | inr b => cases t with
      | inl a => simp [(hd a b).2]
      | inr b' => simp [F.eqv]⟩
def rQuad {α β γ δ : Type} (R : Rl α) (S : Rl β) (T : Rl γ) (U : Rl δ) : Rl (α × β × γ × δ) := ⟨fun H v l => ∃ p x y z o, v = .ref p ∧ Rd H p (.tup [x, y, z, o]) ∧ R.is H x l.1 ∧ S.is H y l.2.1 ∧ T.is H z l.2.2.1 ∧ U.is H o l.2.2.2,
  fun s ⟨p, x, y, z, o, e, h, t, u, w, k⟩ => ⟨p, x, y, z, o, e, rd_mono s h, R.mono s t, S.mono s u, T.mono s w, U.mono s k⟩⟩
def eqr_quad (E : Eqr K R) (F : Eqr K S) (G : Eqr K T) (I : Eqr K U) : Eqr K (rQuad R S T U) := ⟨fun l => .tuple [E.enc l.1, F.enc l.2.1, G.enc l.2.2.1, I.enc l.2.2.2], fun H v l ⟨p, x, y, z, o, e, h, t, u, w, k⟩ => by subst e; exact .tup (.inl h) (.cons (E.dp _ _ _ t) (.cons (F.dp _ _ _ u) (.cons (G.dp _ _ _ w) (.cons (I.dp _ _ _ k) .nil)))),
  fun l => by simp [PyData.canLay0, PyData.canLayAll0, E.can, F.can, G.can, I.can], max E.n (max F.n (max G.n I.n)) + 1, fun l => by
    have h1 := E.dep l.1
    have h2 := F.dep l.2.1
    have h3 := G.dep l.2.2.1
    have h4 := I.dep l.2.2.2
    simp only [PyData.depth, PyData.depthAll]
    omega, fun l m => by simp [PyData.eqv, PyData.eqvAll, E.eqv, F.eqv, G.eqv, I.eqv, Prod.ext_iff]⟩
def rOr (r1 r2 : R2) : R2 := fun x y H Q => r1 x y H Q ∨ r2 x y H Q
end
end GL


set_option Elab.async false
set_option linter.all false
set_option maxRecDepth 100000
set_option maxHeartbeats 1000000
/-! ### dicts -/
namespace GL
open PySem L2
section
variable {κ : Type} [DecidableEq κ] {α : Type}
/-- d[k] -/
def dget (l : List (κ × α)) (k : κ) : Option α := (l.find? fun p => decide (p.1 = k)).map (·.2)
/-- d[k] = a : in its place, or at the end -/
def dput (l : List (κ × α)) (k : κ) (a : α) : List (κ × α) := if (l.any fun p => decide (p.1 = k)) = true then l.map (fun p => if p.1 = k then (p.1, a) else p) else l ++ [(k, a)]
theorem dget_nil {k : κ} : dget ([] : List (κ × α)) k = none := rfl
theorem dget_cons {p : κ × α} {l : List (κ × α)} {k : κ} : dget (p :: l) k = if p.1 = k then some p.2 else dget l k := by
  unfold dget
  rw [List.find?_cons]
  by_cases h : p.1 = k
  · rw [if_pos h]; simp [h]
  · rw [if_neg h]; simp [h]
theorem dget_any {k : κ} : ∀ l : List (κ × α), (l.any fun p => decide (p.1 = k)) = (dget l k).isSome
  | [] => rfl
  | p :: l => by
    rw [List.any_cons, dget_cons, dget_any l]
    by_cases h : p.1 = k <;> simp [h]
theorem dget_map {k j : κ} {a : α} : ∀ l : List (κ × α), dget (l.map fun p => if p.1 = k then (p.1, a) else p) j = if k = j then (dget l j).map (fun _ => a) else dget l j
  | [] => by rw [List.map_nil, dget_nil]; split <;> rfl
  | p :: l => by
    have ih := dget_map (k := k) (j := j) (a := a) l
    rw [List.map_cons, dget_cons, dget_cons, ih]
    by_cases h : p.1 = k
    · subst h
      by_cases hj : p.1 = j <;> simp [hj]
    · by_cases hj : k = j
      · subst hj; simp [h]
      · simp [h, hj]
theorem dget_app {k j : κ} {a : α} : ∀ l : List (κ × α), dget (l ++ [(k, a)]) j = (dget l j).or (if k = j then some a else none)
  | [] => by rw [List.nil_append, dget_cons]; rfl
  | p :: l => by
    rw [List.cons_append, dget_cons, dget_cons, dget_app l]
    split <;> rfl
theorem dget_dput {l : List (κ × α)} {k j : κ} {a : α} : dget (dput l k a) j = if k = j then some a else dget l j := by
  unfold dput
  rw [dget_any]
  split
  · rename_i h
    rw [dget_map]
    split
    · rename_i e
      subst e
      cases hd : dget l k with
      | none => rw [hd] at h; cases h
      | some x => rfl
    · rfl
  · rename_i h
    rw [dget_app]
    split
    · rename_i e
      subst e
      cases hd : dget l k with
      | none => rfl
      | some x => rw [hd] at h; exact absurd rfl h
    · cases dget l j <;> rfl
theorem dput_len {l : List (κ × α)} {k : κ} {a : α} : (dput l k a).length = if (dget l k).isSome then l.length else l.length + 1 := by
  unfold dput
  rw [dget_any]
  split <;> simp
theorem dput_le {l : List (κ × α)} {k : κ} {a : α} : (dput l k a).length ≤ l.length + 1 := by rw [dput_len]; split <;> omega
end
/-- keys of one kind -/
structure DK (κ : Type) [DecidableEq κ] where
  K' : Type
  dec : DecidableEq K'
  f : κ → K'
  inj : ∀ a b, f a = f b → a = b
  ho : List (K' × V) → HO
  hoi : ∀ a b, ho a = ho b → a = b
  kR : Rl κ
  get : ∀ (H : Hp) a y k kvs, H a = some (ho kvs) → kR.is H y k → DGet H a y (valV kvs (f k))
  put : ∀ (H : Hp) a y k v kvs, H a = some (ho kvs) → kR.is H y k → kvs.length < sizeLine → DPut H a y v (upd H a (ho (putK kvs (f k) v)))
def dkInt : DK Int := ⟨Key, inferInstance, Sum.inl, fun _ _ e => Sum.inl.inj e, HO.dK, fun _ _ e => HO.dK.inj e, rInt, fun H a y k kvs h r => by
  cases (show y = .int k from r)
  exact DGet.k (k := Sum.inl k) h, fun H a y k v kvs h r hl => by
  cases (show y = .int k from r)
  exact DPut.k (k := Sum.inl k) h hl⟩
theorem tupKeys {H : Hp} {xs : List V} {l : List Int} (h : All2 (rInt.is H) xs l) : xs = (l.map (Sum.inl : Int → Key)).map kV := by
  rw [h.map_eq (f := V.int) (fun _ _ e => e), List.map_map]; rfl
/-- a tuple as a key -/
def rTupS {α : Type} (R : Rl α) : Rl (List α) := ⟨fun H v l => ∃ p xs, v = .ref p ∧ H p = some (.tup xs) ∧ All2 (R.is H) xs l,
  fun s ⟨p, xs, e, h, t⟩ => ⟨p, xs, e, s _ _ h, t.imp fun _ _ => R.mono s⟩⟩
def dkTup : DK (List Int) := ⟨List Key, inferInstance, List.map Sum.inl, fun a b e => (List.map_inj_right (fun _ _ z => Sum.inl.inj z)).mp e, HO.dT, fun _ _ e => HO.dT.inj e, rTupS rInt, fun H a y k kvs h ⟨p, xs, e, hp, t⟩ => by
  subst e
  refine DGet.t (k := k.map Sum.inl) h ?_
  rw [hp, tupKeys t], fun H a y k v kvs h ⟨p, xs, e, hp, t⟩ hl => by
  subst e
  refine DPut.t (k := k.map Sum.inl) h ?_ hl
  rw [hp, tupKeys t]⟩
section
variable {κ : Type} [DecidableEq κ] {α : Type}
/-- entry by entry -/
def DRel (k : DK κ) (p : V → α → Prop) : List (k.K' × V) → List (κ × α) → Prop
  | [], [] => True
  | x :: xs, a :: l => x.1 = k.f a.1 ∧ p x.2 a.2 ∧ DRel k p xs l
  | _, _ => False
theorem DRel.imp {k : DK κ} {p q : V → α → Prop} (h : ∀ v a, p v a → q v a) : ∀ {xs : List (k.K' × V)} {l : List (κ × α)}, DRel k p xs l → DRel k q xs l
  | [], [], _ => trivial
  | _ :: _, _ :: _, ⟨a, b, c⟩ => ⟨a, h _ _ b, DRel.imp h c⟩
theorem DRel.len {k : DK κ} {p : V → α → Prop} : ∀ {xs : List (k.K' × V)} {l : List (κ × α)}, DRel k p xs l → xs.length = l.length
  | [], [], _ => rfl
  | _ :: _, _ :: _, ⟨_, _, c⟩ => by rw [List.length_cons, List.length_cons, DRel.len c]
theorem DRel.get {k : DK κ} {p : V → α → Prop} (j : κ) : ∀ {xs : List (k.K' × V)} {l : List (κ × α)}, DRel k p xs l → (∀ a, dget l j = some a → ∃ v, @valV _ k.dec xs (k.f j) = some v ∧ p v a) ∧ (dget l j = none → @valV _ k.dec xs (k.f j) = none)
  | [], [], _ => ⟨fun a h => (by rw [dget_nil] at h; cases h), fun _ => rfl⟩
  | x :: xs, a :: l, ⟨h1, h2, h3⟩ => by
    letI := k.dec
    obtain ⟨i1, i2⟩ := DRel.get j h3
    rw [dget_cons]
    by_cases e : a.1 = j
    · rw [if_pos e, valV_pos (by rw [h1, e])]
      exact ⟨fun b hb => ⟨_, rfl, by cases hb; exact h2⟩, fun z => (by cases z)⟩
    · rw [if_neg e, valV_neg (fun z => e (k.inj _ _ (h1.symm.trans z)))]
      exact ⟨i1, i2⟩
theorem DRel.any {k : DK κ} {p : V → α → Prop} (j : κ) : ∀ {xs : List (k.K' × V)} {l : List (κ × α)}, DRel k p xs l → (xs.any fun x => @decide (x.1 = k.f j) (k.dec _ _)) = (l.any fun x => decide (x.1 = j))
  | [], [], _ => rfl
  | x :: xs, a :: l, ⟨h1, h2, h3⟩ => by
    letI := k.dec
    rw [List.any_cons, List.any_cons, DRel.any j h3]
    congr 1
    by_cases e : a.1 = j
    · simp [h1, e]
    · have e1 : ¬ x.1 = k.f j := fun z => e (k.inj _ _ (h1.symm.trans z))
      simp [e, e1]
theorem DRel.map {k : DK κ} {p : V → α → Prop} (j : κ) {v : V} {b : α} (hp : p v b) : ∀ {xs : List (k.K' × V)} {l : List (κ × α)}, DRel k p xs l → DRel k p (xs.map fun x => @ite _ (x.1 = k.f j) (k.dec _ _) (x.1, v) x) (l.map fun x => if x.1 = j then (x.1, b) else x)
  | [], [], _ => trivial
  | x :: xs, a :: l, ⟨h1, h2, h3⟩ => by
    letI := k.dec
    rw [List.map_cons, List.map_cons]
    have ih := DRel.map j hp h3
    by_cases e : a.1 = j
    · rw [if_pos e, if_pos (by rw [h1, e])]
      exact ⟨h1, hp, ih⟩
    · rw [if_neg e, if_neg (fun z => e (k.inj _ _ (h1.symm.trans z)))]
      exact ⟨h1, h2, ih⟩
theorem DRel.app {k : DK κ} {p : V → α → Prop} (j : κ) {v : V} {b : α} (hp : p v b) : ∀ {xs : List (k.K' × V)} {l : List (κ × α)}, DRel k p xs l → DRel k p (xs ++ [(k.f j, v)]) (l ++ [(j, b)])
  | [], [], _ => ⟨rfl, hp, trivial⟩
  | x :: xs, a :: l, ⟨h1, h2, h3⟩ => ⟨h1, h2, DRel.app j hp h3⟩
theorem DRel.put {k : DK κ} {p : V → α → Prop} (j : κ) {v : V} {b : α} (hp : p v b) {xs : List (k.K' × V)} {l : List (κ × α)} (h : DRel k p xs l) : DRel k p (@putK _ k.dec xs (k.f j) v) (dput l j b) := by
  letI := k.dec
  unfold putK dput
  rw [h.any j]
  split
  · exact h.map j hp
  · exact h.app j hp
end
/-- what stands for a dict, told entry by entry -/
def rDict {κ α : Type} [DecidableEq κ] (k : DK κ) (R : Rl α) : Rl (List (κ × α)) := ⟨fun H v l => ∃ p xs, v = .ref p ∧ H p = some (k.ho xs) ∧ DRel k (R.is H) xs l, fun s ⟨p, xs, e, h, t⟩ => ⟨p, xs, e, s _ _ h, t.imp fun _ _ => R.mono s⟩⟩
def obDict {κ α : Type} [DecidableEq κ] (k : DK κ) (R : Rl α) : Ob (List (κ × α)) := ⟨fun K A v ps l => ∃ p xs, v = .ref p ∧ ps = [p] ∧ A p = some (k.ho xs) ∧ DRel k (R.is K) xs l, fun {K K' A A' v ps l} s h ⟨p, xs, e, e2, ha, t⟩ => ⟨p, xs, e, e2, by rw [h p (by rw [e2]; exact List.mem_singleton.mpr rfl)]; exact ha, t.imp fun _ _ => R.mono s⟩⟩
/-- a dict to be read; c: where it stands, ℓ: where its values stand -/
def EvD (C : Cn) {κ α : Type} [DecidableEq κ] (te : TE) (Γ : List Ent) (c ℓ : Lv) (k : DK κ) (R : Rl α) (l : List (κ × α)) : Prop :=
  ∀ σ W, World C σ W Γ → ∀ Q : VK, (∀ p W' xs, Stp W W' → Bok C W' → wl C W' c p = some (k.ho xs) → DRel k (R.is (wl C W' ℓ)) xs l → Q (.ref p) W'.H) → te σ W.H Q
section
variable {C : Cn} {Γ : List Ent} {κ α β γ : Type} [DecidableEq κ] {k : DK κ} {R : Rl α} {P : α → Prop} {te ta tb td ty tv : TE} {ℓ ℓ' c : Lv} {D : Ends} {u : TS} {l : List (κ × α)}
theorem ob_lit {σ : Sg} {W : Wd} (w : World C σ W Γ) {i : Nat} {v : V} {ps : List Addr} {S : Ob β} {a : β} (h : Γ[i]? = some (.ob v ps ℓ S a)) : σ[i]? = some (some v) ∧ ℓ ≠ .h ∧ (∀ p ∈ ps, p ∉ W.vs ∧ C.H0 p = none ∧ W.G p = none ∧ W.H p ≠ none) ∧ S.is (wl C W ℓ) W.H v ps a := by
  obtain ⟨x, h1, hl, h2, hp, r⟩ := w.get h
  subst h2
  exact ⟨h1, hl, hp, r⟩
theorem EvD.fl (f : Flat R) (h : EvD C te Γ c ℓ k R l) : EvD C te Γ c ℓ' k R l := fun σ W w Q q => h σ W w Q fun p W' xs s b e r => q p W' xs s b e (r.imp fun _ _ => f _ _ _ _)
theorem EvD.toh (h : EvD C te Γ c ℓ k R l) : EvD C te Γ .h .h k R l := fun σ W w Q q => h σ W w Q fun p W' xs s b e r => q p W' xs s b (b.up c _ _ e) (r.imp fun _ _ => R.mono (b.up ℓ))
def dgetV [Inhabited α] (l : List (κ × α)) (j : κ) : α := (dget l j).getD default
end
end GL


set_option Elab.async false
set_option linter.all false
set_option maxRecDepth 100000
set_option maxHeartbeats 1000000
/-! ### tuples that are known to have no dict; tuple.index -/
namespace L2
open PySem PySem.Spec PyProof.Rows
section
variable {X : Cx}
def rIndexTI (K : PySem.W.Frag) : V → List V → Hp → VK → Prop := fun x xs H Q => ∃ (p : Addr) (ys : List Int) (z : Int) (j : Nat), x = .ref p ∧ xs = [.int z] ∧ SqT K H p (ys.map V.int) ∧ ys[j]? = some z ∧ (∀ m, m < j → ys[m]? ≠ some z) ∧ Q (.int (j : Nat)) H
/-- a tuple, as the object that it is -/
def FrzT (H : Hp) (p : Addr) (xs : List V) : Prop := ∃ o : Obj, o.dict = none ∧ H p = some (.frz o (.tup xs))
def tBMN (r : V → List V → Hp → VK → Prop) (to : TE) (t : TA) : TE := fun σ H Q => to σ H fun x H1 => (∃ p xs, x = .ref p ∧ FrzT H1 p xs) ∧ t σ H1 fun vs H2 => r x vs H2 Q
variable {o e : Expr} {es : List Expr} {to : TE} {t : TA} {name : Str} {apos cpos : Pos} {id : String} {r : V → List V → Hp → VK → Prop}
def rTupOfN (K : PySem.W.Frag) : List V → Hp → VK → Prop := fun xs H Q => ∃ p ys, xs = [.ref p] ∧ SqL K H p ys ∧ ∀ (l : Addr) (o : Obj), H l = none → o.dict = none → Q (.ref l) (upd H l (.frz o (.tup ys)))
end
end L2
namespace GL
open PySem L2
section
variable {C : Cn} {Γ : List Ent} {α : Type} {R : Rl α} {ta tb te : TE} {ℓ ℓ' c : Lv} {K : PySem.W.Frag} {P : List α → Prop}
def rTupN {α : Type} (R : Rl α) : Rl (List α) := ⟨fun H v l => ∃ p xs, v = .ref p ∧ FrzT H p xs ∧ All2 (R.is H) xs l,
  fun s ⟨p, xs, e, ⟨o, d, h⟩, t⟩ => ⟨p, xs, e, ⟨o, d, s _ _ h⟩, t.imp fun _ _ => R.mono s⟩⟩
theorem idx_first {l : List Int} {x : Int} (hx : x ∈ l) : l[l.idxOf x]? = some x ∧ ∀ m, m < l.idxOf x → l[m]? ≠ some x := by
  have ex := List.idxOf_lt_length_of_mem hx
  refine ⟨by rw [List.getElem?_eq_getElem ex, List.getElem_idxOf ex], fun m hmj hy => ?_⟩
  have hml : m < l.length := (List.getElem?_eq_some_iff.mp hy).1
  have := List.not_of_lt_findIdx (p := (· == x)) (xs := l) hmj
  rw [List.getElem?_eq_getElem hml] at hy
  have hy' := Option.some.inj hy
  rw [hy'] at this
  simp at this
end
end GL


set_option Elab.async false
set_option linter.all false
set_option maxRecDepth 100000
set_option maxHeartbeats 1000000
/-! ### order of tuples of ints; list.index of data -/
namespace GL
open PySem L2
/-- order of rows -/
def lexB : List Int → List Int → Bool
  | [], [] => false
  | [], _ :: _ => true
  | _ :: _, [] => false
  | a :: l, b :: m => decide (a < b) || (decide (a = b) && lexB l m)
section
variable {C : Cn} {Γ : List Ent} {ta tb tc : TE} {ℓ ℓ' ℓ1 ℓ2 c : Lv} {K : PySem.W.Frag} {α : Type} {R : Rl α}
end
end GL
namespace GL
open PySem L2
end GL


set_option Elab.async false
set_option linter.all false
set_option maxRecDepth 100000
set_option maxHeartbeats 1000000
/-! ### one tuple of ints above another -/
namespace HT
open PySem PySem.Spec PyProof.Rows
def gtB : List Int → List Int → Bool
  | [], [] => false
  | [], _ :: _ => false
  | _ :: _, [] => true
  | x :: xs, y :: ys => if x = y then gtB xs ys else decide (x > y)
section
open PySem.SeqAt
open PySem.AutoSeq1 (wpAny_loadPart')
open PySem.MeetsSeq PySem.MeetsSeq2 PySem.MeetsSeq3
end
section
variable {prog : Program} {w : World} {A : Around} {E : Value → Shared → Prop} {s : Shared}
end
end HT
namespace L2
open PySem PySem.Spec PyProof.Rows
def rGtT (K : PySem.W.Frag) : R2 := fun x y H Q => ∃ a b ns ms, x = .ref a ∧ y = .ref b ∧ SqT K H a (ns.map V.int) ∧ SqT K H b (ms.map V.int) ∧ Q (.bl (HT.gtB ns ms)) H
end L2
namespace GL
open PySem L2
end GL


set_option Elab.async false
set_option linter.all false
set_option maxRecDepth 100000
set_option maxHeartbeats 2000000
/-! ### the greatest of a list of pairs of ints -/
namespace L2
open PySem PySem.Spec PyProof.Rows PySem.SeqAt
open PySem.W (AlikeAll maxD max_list_data dataLt readsAll_at)
def rMaxA (K : PySem.W.Frag) : List V → Hp → VK → Prop := fun xs H Q => ∃ (p : Addr) (vs : List V) (d : PyData) (ds : List PyData), xs = [.ref p] ∧ SqL K H p vs ∧ DpAll K H vs (d :: ds) ∧ AlikeAll (d :: ds) ∧ PyData.depthAll (d :: ds) ≤ 60 ∧ ∀ (i : Nat) (v : V), vs[i]? = some v → (d :: ds)[i]? = some (maxD d ds) → Q v H
section
variable {X : Cx}
end
end L2

namespace GL
open PySem L2
open PySem.W (AlikeAll maxD dataLt alike alikeAll keyToks keyToksAll)
/-- one pair below another -/
def ltP (a b : Int × Int) : Bool := decide (a.1 < b.1) || (decide (a.1 = b.1) && decide (a.2 < b.2))
def encP (a : Int × Int) : PyData := .tuple [.int a.1, .int a.2]
def bestP (a : Int × Int) (l : List (Int × Int)) : Int × Int := l.foldl (fun a y => if ltP a y then y else a) a
section
variable {C : Cn} {Γ : List Ent} {ta : TA} {tb te : TE} {c ℓ : Lv} {K : PySem.W.Frag}
end
end GL


set_option Elab.async false
set_option linter.all false
set_option maxRecDepth 100000
set_option maxHeartbeats 1000000
/-! ### results that are a triple or a pair with a text ahead; a triple from its second on -/
namespace GL
open PySem L2
section
variable {C : Cn} {Γ : List Ent} {α β γ δ : Type} {R : Rl α} {S : Rl β} {T : Rl γ} {U : Rl δ} {te : TE} {ℓ : Lv} {K : PySem.W.Frag}
def alt0 {α β γ δ : Type} : Sum (α × β × γ) (α × δ) → α
  | .inl a => a.1
  | .inr a => a.1
def altA {α β : Type} [Inhabited α] : Sum α β → α
  | .inl a => a
  | .inr _ => default
def altB {α β : Type} [Inhabited β] : Sum α β → β
  | .inl _ => default
  | .inr a => a
/-- the greatest of a list of pairs -/
def bestL : List (Int × Int) → Int × Int
  | [] => (0, 0)
  | a :: l => bestP a l
end
end GL


set_option Elab.async false
set_option linter.all false
set_option maxRecDepth 100000
set_option maxHeartbeats 2000000
/-! ### zip of three, each a list or a tuple -/
namespace ZM
open PySem PySem.Calls PyProof.Rows PySem.Spec
theorem Sb.at_ : ∀ {k : Bool} {h h' : Heap} {l xs}, Sb k h l xs → (∀ o, h.get? l = some o → h'.get? l = some o) → Sb k h' l xs
  | false, _, _, _, _, x, e => Heap.IsList.at x e
  | true, _, _, _, _, x, e => Heap.IsTuple.at x e
section
variable {prog : Program} {w : World} {A : Around} {E : Value → Shared → Prop} {s : Shared}
variable {p q r : Bool} {z TI TO i1 i2 i3 l1 l2 l3 : Addr} {i : Nat} {xs ys zs : Array Value} {a1 a2 a3 : Value}
end
end ZM
namespace L2
open PySem ZM PyProof.Rows
def ItM3 (K : PySem.W.Frag) (p q r : Bool) (a b c : Addr) : It :=
  ⟨fun i H => ∃ (xs ys zs : List V), SqB K p H a xs ∧ SqB K q H b ys ∧ SqB K r H c zs ∧ i < xs.length ∧ i < ys.length ∧ i < zs.length,
    fun i H v H' => ∃ T x y z, v = .ref T ∧ H T = none ∧ H' = upd H T (.tup [x, y, z]) ∧ (∀ xs, SqB K p H a xs → xs[i]? = some x) ∧ (∀ ys, SqB K q H b ys → ys[i]? = some y) ∧ ∀ zs, SqB K r H c zs → zs[i]? = some z,
    fun i H => ∃ xs ys zs : List V, SqB K p H a xs ∧ SqB K q H b ys ∧ SqB K r H c zs ∧ i ≤ xs.length ∧ i ≤ ys.length ∧ i ≤ zs.length ∧ (i = xs.length ∨ i = ys.length ∨ i = zs.length)⟩
end L2
namespace L2
open PySem ZM PyProof.Rows
def iZip3 (K : PySem.W.Frag) (ta : TA) : TI := fun σ H R => ta σ H fun vs H1 => ∃ (p q r : Bool) (a b c : Addr) (xs ys zs : List V), vs = [.ref a, .ref b, .ref c] ∧ SqB K p H1 a xs ∧ SqB K q H1 b ys ∧ SqB K r H1 c zs ∧ R (ItM3 K p q r a b c) H1
end L2
namespace GL
open PySem L2 ZM
section
variable {C : Cn} {Γ : List Ent} {α β γ : Type} {R : Rl α} {S : Rl β} {T : Rl γ} {ta tb tc te : TE} {ℓ ℓ' c c' c'' : Lv} {K : PySem.W.Frag}
end
end GL
namespace GL
open PySem L2
section
variable {C : Cn} {Γ : List Ent} {α : Type} {R : Rl α} {te : TE} {ℓ : Lv}
end
end GL


set_option Elab.async false
set_option linter.all false
set_option maxRecDepth 100000
set_option maxHeartbeats 2000000
/-! ### for x in zip(a list, a list), one name -/
namespace ZM
open PySem PySem.Calls PyProof.Rows PySem.Spec
def HE (h : Heap) (z TI TO : Addr) (b : Bool) : Prop := h.get? z = some { cls := .type "zip", dict := none, data := .fields #[.ellipsis, .bool b, .bool false, .ref TI, .ref TO], slots := #[] }
section
variable {prog : Program} {w : World} {A : Around} {E : Value → Shared → Prop} {s : Shared}
def NS (h : Heap) (z TI TO i1 i2 a b : Addr) (i : Nat) : Prop :=
  IsPair h TI (.ref i1) (.ref i2) ∧ h.IsListIter i1 a i ∧ h.IsListIter i2 b i ∧ (∃ x y, IsPair h TO x y) ∧ (IsZip h z TI TO .none ∨ ∃ T bb, ZL.Held h z TI TO T bb)
end
end ZM
namespace L2
open PySem ZM PyProof.Rows
end L2


set_option Elab.async false
set_option linter.all false
set_option maxRecDepth 100000
set_option maxHeartbeats 2000000
/-! ### sorted(range(n), key=lambda x: ..) -/
namespace LamS
open PySem PySem.Spec PyProof.Rows L2 NdefX LamX
section
variable {X : Cx} {pins : List (Addr × Obj)} {σ : L2.St} {H : Hp} {s : Shared}
end
/-! sorting by keys that a function tells, in a running def -/
def IV (v : Value) (i : Int) : Prop := ∃ t, v = .int i t
section
variable {X : Cx} {pins : List (Addr × Obj)} {σ : L2.St} {H : Hp} {s : Shared}
def KeyQ (P : Addr) (q : Str) (N : List Str) (js : List Nat) (tb : TE) (σ : L2.St) (Q : VK) (n : Int) (H1 : Hp) : Prop :=
  0 ≤ n ∧ n ≤ 1000000 ∧ ∃ (κ : Int → Int) (Kn : Hp) (ps : Array Value), H1 P = some (.tbl ps) ∧ GL.Cods q Kn ps ∧ Same Kn H1 ∧
    ∀ H2 : Hp, (∀ b o, b ≠ P → H1 b = some o → H2 b = some o) → (∀ b, H2 b = none → H1 b = none) → (∃ ps', H2 P = some (.tbl ps') ∧ GL.Cods q (GL.jn Kn (GL.fresh H1 H2)) ps') → (∀ b o, GL.fresh H1 H2 b = some o → o = CodeO b q) →
      (∀ (H3 : Hp) (i : Int), Same H2 H3 → 0 ≤ i → i < n → tb (startF N [.int i] (js.map (slotAt σ))) H3 (fun v H4 => v = .int (κ i) ∧ Same H3 H4)) ∧
      (∀ (H3 : Hp) (l : Addr), Same H2 H3 → H3 l = none → Q (.ref l) (upd H3 l (.lst (((GL.rg 0 n).mergeSort fun x y => decide (κ x ≤ κ y)).map V.int))))
def tSortLam (P : Addr) (q : Str) (N : List Str) (js : List Nat) (te tb : TE) : TE := fun σ H Q => te σ H fun x H1 => ∃ n, x = V.int n ∧ KeyQ P q N js tb σ Q n H1
end
section
variable {X : Cx}
end
end LamS


set_option Elab.async false
set_option linter.all false
set_option maxRecDepth 100000
set_option maxHeartbeats 1000000
/-! ### defs that make a lambda: a table of code objects that grows -/
namespace GL
open PySem L2
/-- the code objects of what is new -/
noncomputable def codP (T : Tbs) (F : Hp) : Hp := open Classical in fun p => if ∃ x ∈ T.l, F p = some (LamX.CodeO p x.2) then F p else none
noncomputable def frC (T : Tbs) (F : Hp) : Hp := open Classical in fun p => if ∃ x ∈ T.l, F p = some (LamX.CodeO p x.2) then none else F p
/-- such data stand without code objects -/
def NoC {α : Type} (R : Rl α) : Prop := ∀ (T : Tbs) (H : Hp) v a, R.is H v a → R.is (frC T H) v a
theorem frC_keep {T : Tbs} {F : Hp} {p : Addr} {o : HO} (h : F p = some o) (n : ∀ φ, o ≠ .ext φ) : frC T F p = some o := by
  unfold frC
  rw [if_neg (fun ⟨x, _, z⟩ => by rw [h] at z; exact n _ (Option.some.inj z))]
  exact h
theorem frC_rd {T : Tbs} {F : Hp} {p : Addr} {xs : List V} (h : Rd F p (.tup xs)) : Rd (frC T F) p (.tup xs) := by
  rcases h with h | ⟨o, h⟩
  · exact .inl (frC_keep h (fun φ z => nomatch z))
  · exact .inr ⟨o, frC_keep h (fun φ z => nomatch z)⟩
section
variable {α β γ : Type} {R : Rl α} {S : Rl β} {U : Rl γ}
end
section
variable {α : Type} {R : Rl α}
end
/-! promises -/
/-- the tables as they stand -/
def TabsAt (T : Tbs) (Kn H : Hp) : Prop := ∀ x ∈ T.l, ∃ ps, H x.1 = some (.tbl ps) ∧ Cods x.2 Kn ps
/-- n rows that it changes ahead, keeping PI; the tables of code objects may grow -/
def spT {α β : Type} (n : Nat) (T : Tbs) (PI : HO → Prop) (A : Args α) (pre : α → Prop) (R : Rl β) (post : α → β → Prop) (exc : α → Addr → Prop) : Sp := fun vs H Q E =>
  ∃ (ks : List Addr) (r : List V) (a : α) (Kn : Hp), vs = ks.map V.ref ++ r ∧ ks.length = n ∧ (∀ p ∈ ks, p ∉ T.ads ∧ ∃ o, H p = some o ∧ PI o) ∧ Same Kn (hid H (ks ++ T.ads)) ∧ TabsAt T Kn H ∧ A r (hid H (ks ++ T.ads)) a ∧ pre a ∧
    (∀ v H' b, Same (hid H (ks ++ T.ads)) (hid H' (ks ++ T.ads)) → (∀ p ∈ ks, ∃ o', H' p = some o' ∧ PI o') → TabsAt T (jn Kn (fresh H H')) H' → R.is (frC T (fresh H H')) v b → post a b → Q v H') ∧
    (∀ c H', Same (hid H (ks ++ T.ads)) (hid H' (ks ++ T.ads)) → (∀ p ∈ ks, ∃ o', H' p = some o' ∧ PI o') → TabsAt T (jn Kn (fresh H H')) H' → exc a c → E (.ref c) none H')
def CnT (H : Hp) (ks : List Addr) (T : Tbs) (PI : HO → Prop) (Kn : Hp) : Cn := ⟨H, ks ++ T.ads, PI, fun _ => none, T, Kn⟩
section
variable {C : Cn} {Γ : List Ent} {α β γ δ : Type} {R : Rl β} {T : Tbs} {ks : List Addr} {P : Addr} {q : Str}
/-- what is handed in, one by one -/
def EvAr (C : Cn) (ta : TA) (Γ : List Ent) {α : Type} (A : Args α) (P : α → Prop) : Prop :=
  ∀ σ W, World C σ W Γ → ∀ Q : List V → Hp → Prop, (∀ vs W' a, Stp W W' → Bok C W' → A vs (Hm W') a → P a → Q vs W'.H) → ta σ W.H Q
/-- what is known of it lasts -/
def AMonoH {α : Type} (A : Args α) : Prop := ∀ vs H H' a, Same H H' → A vs H a → A vs H' a
end
end GL
namespace L2
open PySem PySem.Spec PyProof.Rows
end L2
namespace LamX
open PySem PySem.Spec PyProof.Rows L2
/-- the code object of the def x, its table, empty at the head -/
def TabAt (K : PySem.W.Frag) (x : Str) (h : Heap) : Prop := ∀ c P : Addr, PySem.W.tabIn K x = some (c, P) → PySem.W.CodeHd h c P ∧ h.get? P = some { cls := .none, data := .fields #[] }
end LamX


set_option Elab.async false
set_option linter.all false
set_option maxRecDepth 100000
set_option maxHeartbeats 1000000
/-! ### results that are a triple or a pair, compared and taken apart -/
namespace GL
open PySem L2
/-- a string that can be laid down and compared as data -/
def rWrd : Rl Str := ⟨fun _ v b => v = .str b ∧ PyData.strOk b = true, fun _ h => h⟩
/-- every string as data, also those that no data can hold -/
def encW (a : Str) : PyData := if PyData.strOk a = true then .str a else .tuple ((a.cps.toList.map Int.ofNat).map PyData.int)
theorem encW_can (a : Str) : (encW a).canLay0 = true := by
  unfold encW
  split
  · rw [PyData.canLay0]; assumption
  · rw [PyData.canLay0]; exact canAll (K := default) (eqr_int) _
theorem encW_dep (a : Str) : (encW a).depth ≤ 1 := by
  unfold encW
  split
  · simp [PyData.depth]
  · rw [PyData.depth]; exact Nat.succ_le_succ (depAll (K := default) eqr_int _)
theorem encW_eqv (a b : Str) : PyData.eqv (encW a) (encW b) = true ↔ a = b := by
  unfold encW
  split <;> rename_i h1 <;> split <;> rename_i h2
  · simp [PyData.eqv]
  · constructor
    · intro h; simp [PyData.eqv] at h
    · intro h; rw [h] at h1; exact absurd h1 h2
  · constructor
    · intro h; simp [PyData.eqv] at h
    · intro h; rw [h] at h1; exact absurd h2 h1
  · rw [PyData.eqv]
    refine (eqvAll_iff (K := default) eqr_int _ _).trans ⟨fun h => ?_, fun h => by rw [h]⟩
    have h3 : a.cps.toList = b.cps.toList := List.map_inj_right (fun x y e => Int.ofNat.inj e) |>.mp h
    cases a; cases b
    simp only [Str.mk.injEq]
    exact Array.toList_inj.mp h3
def eqr_wrd {K : PySem.W.Frag} : Eqr K rWrd := ⟨encW, fun _ v a h => by
  obtain ⟨h1, h2⟩ : v = .str a ∧ PyData.strOk a = true := h
  subst h1; unfold encW; rw [if_pos h2]; exact .str a, encW_can, 1, encW_dep, encW_eqv⟩
def eqr_altTP {K : PySem.W.Frag} {α β γ δ ε : Type} {R1 : Rl α} {R2 : Rl β} {R3 : Rl γ} {S1 : Rl δ} {S2 : Rl ε} (E : Eqr K (rTrip R1 R2 R3)) (F : Eqr K (rPair S1 S2)) (hx : ∀ a b, PyData.eqv (E.enc a) (F.enc b) = false ∧ PyData.eqv (F.enc b) (E.enc a) = false) : Eqr K (rAlt (rTrip R1 R2 R3) (rPair S1 S2)) :=
  ⟨fun s => match s with | .inl a => E.enc a | .inr b => F.enc b, fun H v s h => by
    cases s with
    | inl a => exact E.dp H v a h
    | inr b => exact F.dp H v b h, fun s => by
    cases s with
    | inl a => exact E.can a
    | inr b => exact F.can b, max E.n F.n, fun s => by
    cases s with
    | inl a => exact Nat.le_trans (E.dep a) (Nat.le_max_left _ _)
    | inr b => exact Nat.le_trans (F.dep b) (Nat.le_max_right _ _), fun s t => by
    cases s with
    | inl a =>
      cases t with
      | inl b => exact (E.eqv a b).trans ⟨fun h => by rw [h], fun h => Sum.inl.inj h⟩
      | inr b => exact ⟨fun h => (by rw [(hx a b).1] at h; cases h), fun h => (by cases h)⟩
    | inr a =>
      cases t with
      | inl b => exact ⟨fun h => (by rw [(hx b a).2] at h; cases h), fun h => (by cases h)⟩
      | inr b => exact (F.eqv a b).trans ⟨fun h => by rw [h], fun h => Sum.inr.inj h⟩⟩
section
variable {C : Cn} {Γ : List Ent} {α β γ δ ε : Type} {R : Rl α} {S : Rl β} {ta tb te : TE} {ℓ ℓ' c : Lv} {K : PySem.W.Frag}
theorem ev_altIsA {x : Sum α β} {a : α} (h : Ev C te Γ ℓ (rAlt R S) x) (e : x = .inl a) : Ev C te Γ ℓ R a := fun σ W w Q q => h σ W w Q fun v W' z s b r p => q v W' a s b (by rw [p, e] at r; exact r) rfl
theorem ev_altIsB {x : Sum α β} {b : β} (h : Ev C te Γ ℓ (rAlt R S) x) (e : x = .inr b) : Ev C te Γ ℓ S b := fun σ W w Q q => h σ W w Q fun v W' z s bk r p => q v W' b s bk (by rw [p, e] at r; exact r) rfl
end
end GL


set_option Elab.async false
set_option linter.all false
set_option maxRecDepth 100000
set_option maxHeartbeats 2000000
/-! ### the greatest of a list of triples of ints -/
namespace GL
open PySem L2
open PySem.W (AlikeAll maxD dataLt alike alikeAll keyToks keyToksAll)
abbrev I3 := Int × Int × Int
def ltT (a b : I3) : Bool := decide (a.1 < b.1) || (decide (a.1 = b.1) && ltP a.2 b.2)
def encT (a : I3) : PyData := .tuple [.int a.1, .int a.2.1, .int a.2.2]
def bestT (a : I3) (l : List I3) : I3 := l.foldl (fun a y => if ltT a y then y else a) a
section
variable {C : Cn} {Γ : List Ent} {ta : TA} {tb te : TE} {c ℓ : Lv} {K : PySem.W.Frag}
def bestL3 : List I3 → I3
  | [] => (0, 0, 0)
  | a :: l => bestT a l
end
end GL


set_option Elab.async false
set_option linter.all false
set_option maxRecDepth 100000
set_option maxHeartbeats 2000000
/-! ### defs whose answer may hold what they were handed (what never changes) -/
namespace GL
open PySem L2
/-- H without A -/
noncomputable def wo (H A : Hp) : Hp := open Classical in fun p => if A p = none then H p else none
def W0G (H B : Hp) (vs : List Addr) : Wd := ⟨H, B, vs⟩
section
variable {C : Cn} {Γ : List Ent} {α : Type} {R : Rl α} {te : TE} {k : Kd} {c ℓ : Lv}
end
end GL


set_option Elab.async false
set_option linter.all false
set_option maxRecDepth 100000
set_option maxHeartbeats 2000000
/-! ### an answer of which no more is told than that it is a bool or a tuple -/
namespace GL
open PySem L2
def rThing : Rl Unit := ⟨fun H v _ => (∃ b, v = .bl b) ∨ ∃ p xs, v = .ref p ∧ Rd H p (.tup xs), fun s h => h.elim .inl fun ⟨p, xs, e, h⟩ => .inr ⟨p, xs, e, rd_mono s h⟩⟩
section
variable {C : Cn} {Γ : List Ent} {α β γ δ ε : Type} {R : Rl α} {S : Rl β} {T : Rl γ} {U : Rl δ} {V_ : Rl ε} {te : TE} {ℓ : Lv} {K : PySem.W.Frag}
end
end GL
namespace L2
/-- isinstance of an exception or of anything else -/
def rIsXI (K : PySem.W.Frag) : List V → Hp → VK → Prop := fun xs H Q => rIsX K xs H Q ∨ rIsi K xs H Q
end L2
namespace GL
open PySem L2
section
variable {C : Cn} {Γ : List Ent} {te : TE} {ℓ ℓ' : Lv} {K : PySem.W.Frag}
def exB {α : Type} : Sum Addr α → Bool
  | .inl _ => true
  | .inr _ => false
end
end GL


set_option Elab.async false
set_option linter.all false
set_option maxRecDepth 100000
set_option maxHeartbeats 1000000
/-! ### d.get(k, x); all that a dict holds, key by key -/
namespace GL
open PySem L2
section
variable {C : Cn} {Γ : List Ent} {κ α β γ : Type} [DecidableEq κ] {k : DK κ} {R : Rl α} {P : α → Prop} {te ta tb tc td ty tv tx : TE} {ℓ ℓ' c : Lv} {D : Ends} {u : TS} {l : List (κ × α)}
def DK.isD (k : DK κ) : Prop := ∀ (H : Hp) a kvs, H a = some (k.ho kvs) → IsD H a
end
end GL


set_option Elab.async false
set_option linter.all false
set_option maxRecDepth 100000
set_option maxHeartbeats 1000000
/-! ### a call's answer, a list of lists, that is changed row by row -/
namespace GL
open PySem L2
def butS (H : Hp) (ps : List Addr) : Hp := fun q => if q ∈ ps then none else H q
/-- a row's item is no list -/
def NotL {α : Type} (R : Rl α) : Prop := ∀ H p xs a, H p = some (.lst xs) → ¬ R.is H (.ref p) a
/-- exact, rows may be one object -/
def obRows {α : Type} (R : Rl α) : Ob (List (List α)) := ⟨fun K A v ps a => ∃ p qs, v = .ref p ∧ ps = p :: qs ∧ p ∉ qs ∧ A p = some (.lst (qs.map V.ref)) ∧ All2 (fun v l => ∃ q xs, v = .ref q ∧ q ∈ ps ∧ A q = some (.lst xs) ∧ All2 (R.is K) xs l) (qs.map V.ref) a,
  fun {K K' A A' v ps a} s h ⟨p, qs, e, e2, e3, e4, t⟩ => ⟨p, qs, e, e2, e3, by rw [h p (by rw [e2]; exact List.mem_cons_self)]; exact e4, t.imp fun v l ⟨q, xs, z1, z2, z3, z4⟩ => ⟨q, xs, z1, z2, by rw [h q z2]; exact z3, z4.imp fun _ _ => R.mono s⟩⟩⟩
/-- some lists, of which some are not looked at -/
def obLoose {α : Type} (R : Rl α) (B : Nat) : Ob (Addr × List Addr × List Addr) := ⟨fun K A v ps a => v = .ref a.1 ∧ ps = a.1 :: a.2.1.filter (fun q => decide (q ∉ a.2.2)) ∧ a.1 ∉ a.2.1 ∧ A a.1 = some (.lst (a.2.1.map V.ref)) ∧ ∀ q ∈ a.2.1, q ∉ a.2.2 → ∃ xs l, A q = some (.lst xs) ∧ All2 (R.is K) xs l ∧ l.length ≤ B,
  fun {K K' A A' v ps a} s h ⟨e, e2, e3, e4, t⟩ => ⟨e, e2, e3, by rw [h a.1 (by rw [e2]; exact List.mem_cons_self)]; exact e4, fun q hq hn => by
    obtain ⟨xs, l, z1, z2, z3⟩ := t q hq hn
    exact ⟨xs, l, by rw [h q (by rw [e2]; exact List.mem_cons_of_mem _ (List.mem_filter.mpr ⟨hq, decide_eq_true hn⟩))]; exact z1, z2.imp fun _ _ => R.mono s, z3⟩⟩⟩
def obAny : Ob HO := ⟨fun K A v ps o => ∃ p, v = .ref p ∧ ps = [p] ∧ A p = some o, fun {K K' A A' v ps o} s h ⟨p, e, e2, e3⟩ => ⟨p, e, e2, by rw [h p (by rw [e2]; exact List.mem_singleton.mpr rfl)]; exact e3⟩⟩
section
variable {C : Cn} {Γ : List Ent} {α β γ : Type} {R : Rl α} {P : α → Prop} {te ta tb tc td ty tv tx : TE} {ℓ ℓ' c : Lv} {K : PySem.W.Frag} {D : Ends} {t u : TS}
/-! in and not in, of data -/
end
end GL


set_option Elab.async false
set_option linter.all false
set_option maxRecDepth 100000
set_option maxHeartbeats 1000000
/-! ### a comprehension over such rows -/
namespace GL
open PySem L2
def rAt {α : Type} (ps : List Addr) (a : List α) : Rl (α × Addr) := ⟨fun _ v x => v = .ref x.2 ∧ ∃ n : Nat, ps.tail[n]? = some x.2 ∧ a[n]? = some x.1, fun _ h => h⟩
section
variable {C : Cn} {Γ : List Ent} {α β γ : Type} {R : Rl α} {S : Rl β} {P : α → Prop} {te ta tb tc td ty tv tx : TE} {ℓ ℓ' c : Lv} {K : PySem.W.Frag} {D : Ends} {t u : TS}
end
end GL


set_option Elab.async false
set_option linter.all false
set_option maxRecDepth 100000
set_option maxHeartbeats 1000000
/-! ### a list of lists of ours, each an object of its own -/
namespace GL
open PySem L2
section
variable {α : Type}
def Gr (R : Rl α) (K A : Hp) : List Addr → List (List α) → Prop
  | [], [] => True
  | q :: qs, l :: a => (∃ xs, A q = some (.lst xs) ∧ All2 (R.is K) xs l) ∧ Gr R K A qs a
  | _, _ => False
variable {R : Rl α} {K A : Hp}
theorem Gr.len : ∀ {qs : List Addr} {a : List (List α)}, Gr R K A qs a → qs.length = a.length
  | [], [], _ => rfl
  | _ :: _, _ :: _, ⟨_, t⟩ => by rw [List.length_cons, List.length_cons, Gr.len t]
theorem Gr.mono {K' A' : Hp} (s : Same K K') : ∀ {qs : List Addr} {a : List (List α)}, (∀ q ∈ qs, A' q = A q) → Gr R K A qs a → Gr R K' A' qs a
  | [], [], _, _ => trivial
  | q :: qs, _ :: _, h, ⟨⟨xs, e, t⟩, r⟩ => ⟨⟨xs, by rw [h q List.mem_cons_self]; exact e, t.imp fun _ _ => R.mono s⟩, Gr.mono s (fun z hz => h z (List.mem_cons_of_mem _ hz)) r⟩
theorem Gr.get : ∀ {qs : List Addr} {a : List (List α)} {n : Nat} {l : List α}, Gr R K A qs a → a[n]? = some l → ∃ q xs, qs[n]? = some q ∧ A q = some (.lst xs) ∧ All2 (R.is K) xs l
  | [], [], _, _, _, h => by simp at h
  | q :: qs, l0 :: a, 0, l, ⟨⟨xs, e, t⟩, r⟩, h => by
    have e1 : l0 = l := by simpa using h
    subst e1
    exact ⟨q, xs, rfl, e, t⟩
  | q :: qs, l0 :: a, n + 1, l, ⟨_, r⟩, h => by
    obtain ⟨q', xs, h1, h2, h3⟩ := Gr.get (n := n) (l := l) r (by simpa using h)
    exact ⟨q', xs, by simpa using h1, h2, h3⟩
theorem Gr.there : ∀ {qs : List Addr} {a : List (List α)}, Gr R K A qs a → ∀ q ∈ qs, A q ≠ none
  | [], [], _, q, hq => by cases hq
  | q0 :: qs, l0 :: a, ⟨⟨xs, e, t⟩, r⟩, q, hq => by
    rcases List.mem_cons.mp hq with z | z
    · rw [z, e]; intro z; cases z
    · exact Gr.there r q z
theorem Gr.put {xs' : List V} {l' : List α} (hx : All2 (R.is K) xs' l') : ∀ {qs : List Addr} {a : List (List α)} {n : Nat} {q : Addr}, qs.Nodup → Gr R K A qs a → qs[n]? = some q → Gr R K (upd A q (.lst xs')) qs (a.set n l')
  | [], [], _, _, _, _, h => by simp at h
  | q0 :: qs, l0 :: a, 0, q, hn, ⟨⟨xs, e, t⟩, r⟩, h => by
    have e1 : q0 = q := by simpa using h
    subst e1
    refine ⟨⟨xs', upd_same, hx⟩, r.mono (Same.refl _) fun z hz => upd_ne fun e => ?_⟩
    exact (List.nodup_cons.mp hn).1 (e ▸ hz)
  | q0 :: qs, l0 :: a, n + 1, q, hn, ⟨⟨xs, e, t⟩, r⟩, h => by
    have h' : qs[n]? = some q := by simpa using h
    have ne : q0 ≠ q := fun z => (List.nodup_cons.mp hn).1 (z ▸ List.mem_of_getElem? h')
    exact ⟨⟨xs, by rw [upd_ne ne]; exact e, t⟩, Gr.put hx (List.nodup_cons.mp hn).2 r h'⟩
theorem Gr.erase : ∀ {qs : List Addr} {a : List (List α)} (n : Nat), Gr R K A qs a → Gr R K A (qs.eraseIdx n) (a.eraseIdx n)
  | [], [], n, _ => by simp [Gr]
  | q :: qs, l :: a, 0, ⟨_, r⟩ => r
  | q :: qs, l :: a, n + 1, ⟨h, r⟩ => ⟨h, Gr.erase n r⟩
theorem Gr.app : ∀ {qs qs' : List Addr} {a a' : List (List α)}, Gr R K A qs a → Gr R K A qs' a' → Gr R K A (qs ++ qs') (a ++ a')
  | [], _, [], _, _, h => h
  | _ :: _, _, _ :: _, _, ⟨h, t⟩, r => ⟨h, Gr.app t r⟩
theorem Gr.take : ∀ {qs : List Addr} {a : List (List α)} (n : Nat), Gr R K A qs a → Gr R K A (qs.take n) (a.take n)
  | [], [], n, _ => by simp [Gr]
  | q :: qs, l :: a, 0, _ => trivial
  | q :: qs, l :: a, n + 1, ⟨h, r⟩ => ⟨h, Gr.take n r⟩
theorem Gr.drop : ∀ {qs : List Addr} {a : List (List α)} (n : Nat), Gr R K A qs a → Gr R K A (qs.drop n) (a.drop n)
  | [], [], n, _ => by simp [Gr]
  | q :: qs, l :: a, 0, h => h
  | q :: qs, l :: a, n + 1, ⟨_, r⟩ => Gr.drop n r
def obGrid (R : Rl α) : Ob (List (List α)) := ⟨fun K A v ps a => ∃ p qs, v = .ref p ∧ ps = p :: qs ∧ (p :: qs).Nodup ∧ A p = some (.lst (qs.map V.ref)) ∧ Gr R K A qs a,
  fun {K K' A A' v ps a} s h ⟨p, qs, e, e2, e3, e4, t⟩ => ⟨p, qs, e, e2, e3, by rw [h p (by rw [e2]; exact List.mem_cons_self)]; exact e4, t.mono s fun q hq => h q (by rw [e2]; exact List.mem_cons_of_mem _ hq)⟩⟩
end
section
variable {C : Cn} {Γ : List Ent} {α β γ : Type} {R : Rl α} {S : Rl β} {P : α → Prop} {te ta tb tc td ty tv tx t1 t2 : TE} {ℓ ℓ' c : Lv} {K : PySem.W.Frag} {D : Ends} {t u : TS} {p : Addr} {qs : List Addr} {a : List (List α)}
def obTop : Ob Unit := ⟨fun _ _ _ _ _ => True, fun _ _ _ => trivial⟩
end
end GL


set_option Elab.async false
set_option linter.all false
set_option maxRecDepth 100000
set_option maxHeartbeats 1000000
/-! ### objects with fields -/
namespace GL
open PySem L2
/-- the fields of an object, in their order -/
structure Shp (α : Type) where
  is : Hp → Hp → List (Str × V) → List Addr → α → Prop
  names : List Str
  mono : ∀ {K K' A A' : Hp} {fs : List (Str × V)} {ps : List Addr} {a : α}, Same K K' → (∀ p ∈ ps, A' p = A p) → is K A fs ps a → is K' A' fs ps a
  keys : ∀ {K A : Hp} {fs : List (Str × V)} {ps : List Addr} {a : α}, is K A fs ps a → fs.map (·.1) = names
def Shp.nil : Shp Unit := ⟨fun _ _ fs ps _ => fs = [] ∧ ps = [], [], fun _ _ h => h, fun h => by rw [h.1]; rfl⟩
def Shp.cons {α β : Type} (n : Str) (S : Ob α) (r : Shp β) : Shp (α × β) := ⟨fun K A fs ps a => ∃ v fs' p1 p2, fs = (n, v) :: fs' ∧ ps = p1 ++ p2 ∧ S.is K A v p1 a.1 ∧ r.is K A fs' p2 a.2, n :: r.names,
  fun {K K' A A' fs ps a} s k ⟨v, fs', p1, p2, e1, e2, h1, h2⟩ => ⟨v, fs', p1, p2, e1, e2, S.mono s (fun p hp => k p (by rw [e2]; exact List.mem_append_left _ hp)) h1, r.mono s (fun p hp => k p (by rw [e2]; exact List.mem_append_right _ hp)) h2⟩,
  fun {K A fs ps a} ⟨v, fs', p1, p2, e1, e2, h1, h2⟩ => by rw [e1]; exact congrArg (n :: ·) (r.keys h2)⟩
/-- an instance of the class at c, of ours -/
def obI (c : Addr) {α : Type} (sh : Shp α) : Ob α := ⟨fun K A v ps a => ∃ x dx fs qs, v = .ref x ∧ ps = x :: qs ∧ (x :: qs).Nodup ∧ A x = some (.ins c dx fs) ∧ sh.is K A fs qs a,
  fun {K K' A A' v ps a} s h ⟨x, dx, fs, qs, e, e2, e3, e4, t⟩ => ⟨x, dx, fs, qs, e, e2, e3, by rw [h x (by rw [e2]; exact List.mem_cons_self)]; exact e4, sh.mono s (fun q hq => h q (by rw [e2]; exact List.mem_cons_of_mem _ hq)) t⟩⟩
/-- a field with a value of what never changes | with a list of the object's own -/
def obV {α : Type} (R : Rl α) : Ob α := ⟨fun K _ v ps a => ps = [] ∧ R.is K v a, fun s _ ⟨e, h⟩ => ⟨e, R.mono s h⟩⟩
def obL {α : Type} (R : Rl α) : Ob (List α) := ⟨fun K A v ps l => ∃ q xs, v = .ref q ∧ ps = [q] ∧ A q = some (.lst xs) ∧ All2 (R.is K) xs l,
  fun s h ⟨q, xs, e1, e2, e3, t⟩ => ⟨q, xs, e1, e2, by rw [h q (by rw [e2]; exact List.mem_singleton.mpr rfl)]; exact e3, t.imp fun _ _ => R.mono s⟩⟩
/-- which field, and what a change of it does -/
structure Sel {α β : Type} (sh : Shp α) (n : Str) (S : Ob β) where
  get : α → β
  set : α → β → α
  ok : ∀ {K A : Hp} {fs : List (Str × V)} {ps : List Addr} {a : α}, sh.is K A fs ps a → ∃ v p1 p2 p3, fs.lookup n = some v ∧ ps = p1 ++ (p2 ++ p3) ∧ S.is K A v p2 (get a) ∧
    (∀ {K' A' : Hp} {v' : V} {q2 : List Addr} {b : β}, Same K K' → (∀ p, p ∈ p1 ∨ p ∈ p3 → A' p = A p) → S.is K' A' v' q2 b → sh.is K' A' (putF n v' fs) (p1 ++ (q2 ++ p3)) (set a b)) ∧
    (∀ {K' A' : Hp} {q2 : List Addr} {b : β}, Same K K' → (∀ p, p ∈ p1 ∨ p ∈ p3 → A' p = A p) → S.is K' A' v q2 b → sh.is K' A' fs (p1 ++ (q2 ++ p3)) (set a b))
def Sel.here {β γ : Type} {n : Str} {S : Ob β} {r : Shp γ} : Sel (Shp.cons n S r) n S := ⟨fun a => a.1, fun a b => (b, a.2), fun {K A fs ps a} ⟨v, fs', p1, p2, e1, e2, h1, h2⟩ => by
  subst e1 e2
  refine ⟨v, [], p1, p2, by rw [List.lookup_cons, beq_self_eq_true], rfl, h1, fun {K' A' v' q2 b} s k h => ?_, fun {K' A' q2 b} s k h => ?_⟩
  · rw [show putF n v' ((n, v) :: fs') = (n, v') :: fs' from if_pos rfl]
    exact ⟨v', fs', q2, p2, rfl, rfl, h, r.mono s (fun p hp => k p (.inr hp)) h2⟩
  · exact ⟨v, fs', q2, p2, rfl, rfl, h, r.mono s (fun p hp => k p (.inr hp)) h2⟩⟩
def Sel.next {β γ δ : Type} {n m : Str} {S : Ob β} {S' : Ob δ} {r : Shp γ} (t : Sel r n S) (ne : (n == m) = false) : Sel (Shp.cons m S' r) n S := ⟨fun a => t.get a.2, fun a b => (a.1, t.set a.2 b), fun {K A fs ps a} ⟨v, fs', p1, p2, e1, e2, h1, h2⟩ => by
  subst e1 e2
  obtain ⟨w, q1, q2, q3, g1, g2, g3, g4, g5⟩ := t.ok h2
  have ne' : m ≠ n := fun z => by rw [z, beq_self_eq_true] at ne; cases ne
  subst g2
  refine ⟨w, p1 ++ q1, q2, q3, by rw [List.lookup_cons, ne]; exact g1, by rw [List.append_assoc], g3, fun {K' A' v' z2 b} s k h => ?_, fun {K' A' z2 b} s k h => ?_⟩
  · rw [show putF n v' ((m, v) :: fs') = (m, v) :: putF n v' fs' from if_neg ne', List.append_assoc]
    exact ⟨v, _, p1, _, rfl, rfl, S'.mono s (fun p hp => k p (.inl (List.mem_append_left _ hp))) h1, g4 s (fun p hp => k p (hp.imp (List.mem_append_right _) id)) h⟩
  · rw [List.append_assoc]
    exact ⟨v, _, p1, _, rfl, rfl, S'.mono s (fun p hp => k p (.inl (List.mem_append_left _ hp))) h1, g5 s (fun p hp => k p (hp.imp (List.mem_append_right _) id)) h⟩⟩
/-- a field more -/
structure Snoc {α β γ : Type} (sh : Shp α) (n : Str) (S : Ob β) (sh' : Shp γ) where
  add : α → β → γ
  ok : ∀ {K A K' A' : Hp} {fs : List (Str × V)} {ps q2 : List Addr} {a : α} {b : β} {v' : V}, sh.is K A fs ps a → Same K K' → (∀ p ∈ ps, A' p = A p) → S.is K' A' v' q2 b → sh'.is K' A' (putF n v' fs) (ps ++ q2) (add a b)
def Snoc.end {β : Type} {n : Str} {S : Ob β} : Snoc Shp.nil n S (Shp.cons n S Shp.nil) := ⟨fun a b => (b, ()), fun {K A K' A' fs ps q2 a b v'} h s k r => by
  obtain ⟨e1, e2⟩ := h
  subst e1 e2
  exact ⟨v', [], q2, [], rfl, by rw [List.append_nil]; rfl, r, rfl, rfl⟩⟩
def Snoc.next {α β γ δ : Type} {n m : Str} {S : Ob β} {S' : Ob δ} {r : Shp α} {r' : Shp γ} (t : Snoc r n S r') (ne : (n == m) = false) : Snoc (Shp.cons m S' r) n S (Shp.cons m S' r') := ⟨fun a b => (a.1, t.add a.2 b), fun {K A K' A' fs ps q2 a b v'} h s k z => by
  obtain ⟨v, fs', p1, p2, e1, e2, h1, h2⟩ := h
  subst e1 e2
  have ne' : m ≠ n := fun z => by rw [z, beq_self_eq_true] at ne; cases ne
  rw [show putF n v' ((m, v) :: fs') = (m, v) :: putF n v' fs' from if_neg ne', List.append_assoc]
  exact ⟨v, _, p1, _, rfl, rfl, S'.mono s (fun p hp => k p (List.mem_append_left _ hp)) h1, t.ok h2 s (fun p hp => k p (List.mem_append_right _ hp)) z⟩⟩
/-- an object, read -/
def rObj {α : Type} (S : Ob α) : Rl α := ⟨fun H v a => ∃ ps, S.is H H v ps a ∧ ∀ p ∈ ps, H p ≠ none, fun {H H' v a} s ⟨ps, h, k⟩ => by
  have e : ∀ p ∈ ps, H' p = H p := fun p hp => by
    cases q : H p with
    | none => exact absurd q (k p hp)
    | some o => exact s _ _ q
  exact ⟨ps, S.mono s e h, fun p hp => by rw [e p hp]; exact k p hp⟩⟩
/-- how a field reads -/
def FldV {α β : Type} (S : Ob α) (R : Rl β) (f : α → β) : Prop := ∀ H v ps a, S.is H H v ps a → R.is H v (f a)
/-- what of the text a class with such fields must have -/
structure ClsF (K : PySem.W.Frag) (c : Addr) (ns : List Str) : Prop where
  cl : Cls K c
  na : ∀ n ∈ ns, NoAttr K c n
section
variable {C : Cn} {Γ : List Ent} {α β γ : Type} {R : Rl α} {S : Rl β} {P : α → Prop} {te ta tb tc td ty tv tx t1 t2 : TE} {ℓ ℓ' : Lv} {K : PySem.W.Frag} {D : Ends} {t u : TS} {c : Addr} {sh : Shp γ} {n : Str} {ns : List Str}
end
end GL


set_option Elab.async false
set_option linter.all false
set_option maxRecDepth 100000
set_option maxHeartbeats 1000000
/-! ### calls that change an object -/
namespace GL
open PySem L2
/-- arguments: what is handed in to be kept (it stands in B), to be read (in M), the object x, the volatile ones ks -/
abbrev AO (α : Type) := List V → Hp → Hp → List Addr → V → α → Prop
def oNil : AO Unit := fun vs _ _ ks _ _ => vs = [] ∧ ks = []
def oSelf {α : Type} (A : AO α) : AO α := fun vs B M ks x a => ∃ r, vs = x :: r ∧ A r B M ks x a
def oPool {α : Type} (A : AO α) : AO α := fun vs B M ks x a => ∃ p r ks', vs = .ref p :: r ∧ ks = p :: ks' ∧ A r B M ks' x a
def oB {α β : Type} (R : Rl α) (A : AO β) : AO (α × β) := fun vs B M ks x a => ∃ v r, vs = v :: r ∧ R.is B v a.1 ∧ A r B M ks x a.2
def oM {α β : Type} (R : Rl α) (A : AO β) : AO (α × β) := fun vs B M ks x a => ∃ v r, vs = v :: r ∧ R.is M v a.1 ∧ A r B M ks x a.2
/-- what such a call leaves -/
structure BackO (PI : HO → Prop) (H H' B G' : Hp) (ps ks ps' : List Addr) : Prop where
  keep : ∀ p o, H p = some o → p ∉ ps → p ∉ ks → H' p = some o
  pool : ∀ p ∈ ks, ∃ o, H' p = some o ∧ PI o
  known : Same B G'
  g : Same G' H'
  new : ∀ p o, G' p = some o → B p = some o ∨ H p = none ∨ p ∈ ps
  own : ∀ p ∈ ps', (H p = none ∨ p ∈ ps) ∧ G' p = none ∧ H' p ≠ none
def spO {α β σ σ' : Type} (PI : HO → Prop) (S : Ob σ) (A : AO α) (pre : σ → α → Prop) (S' : Ob σ') (R : Rl β) (post : σ → α → β → σ' → Prop) (exc : σ → α → Addr → Prop) : Sp := fun vs H Q E =>
  ∃ B M ps ks x st a, Same B H ∧ Same M H ∧ (∀ p ∈ ps, B p = none ∧ M p = none ∧ H p ≠ none ∧ p ∉ ks) ∧ (∀ p ∈ ks, B p = none ∧ M p = none ∧ ∃ o, H p = some o ∧ PI o) ∧ S.is B H x ps st ∧ A vs B M ks x a ∧ pre st a ∧
   (∀ v H' G' ps' b st', BackO PI H H' B G' ps ks ps' → S'.is G' H' x ps' st' → R.is G' v b → post st a b st' → Q v H') ∧
   (∀ c H' G' ps', BackO PI H H' B G' ps ks ps' → S.is G' H' x ps' st → exc st a c → E (.ref c) none H')
/-- the object of a def's own, as it ends -/
structure ObS {σ : Type} (C : Cn) (W : Wd) (S : Ob σ) (x : V) (ps : List Addr) (st : σ) : Prop where
  ad : ∀ p ∈ ps, p ∉ W.vs ∧ C.H0 p = none ∧ W.G p = none ∧ W.H p ≠ none
  is : S.is W.G W.H x ps st
def RetM (C : Cn) (D : Ends) {σ β : Type} (S : Ob σ) (x : V) (R : Rl β) (P : β → σ → Prop) : Prop := ∀ v W ps st b, Bok C W → ObS C W S x ps st → R.is W.G v b → P b st → D.rt v W.H
def ExcM (C : Cn) (E : XK) {σ : Type} (S : Ob σ) (x : V) (st : σ) (P : Addr → Prop) : Prop := ∀ c W ps, Bok C W → ObS C W S x ps st → P c → E (.ref c) none W.H
theorem ObS.ex {C C' : Cn} {W : Wd} {σ : Type} {S : Ob σ} {x : V} {ps : List Addr} {st : σ} (h : ObS C' W S x ps st) (e : Cex C C') : ObS C W S x ps st := ⟨fun p hp => by rw [← e.h0]; exact h.ad p hp, h.is⟩
theorem RetM.ex {C C' : Cn} {D : Ends} {σ β : Type} {S : Ob σ} {x : V} {R : Rl β} {P : β → σ → Prop} (h : RetM C D S x R P) (e : Cex C C') : RetM C' D S x R P := fun v W ps st b k o => h v W ps st b (k.down e) (o.ex e)
theorem ExcM.ex {C C' : Cn} {E : XK} {σ : Type} {S : Ob σ} {x : V} {st : σ} {P : Addr → Prop} (h : ExcM C E S x st P) (e : Cex C C') : ExcM C' E S x st P := fun c W ps k o => h c W ps (k.down e) (o.ex e)
theorem ObS.of {C : Cn} {σ : Sg} {W : Wd} {Γ : List Ent} (w : World C σ W Γ) {τ : Type} {S : Ob τ} {i : Nat} {x : V} {ps : List Addr} {st : τ} (h : Γ[i]? = some (.ob x ps .g S st)) : ObS C W S x ps st := by
  obtain ⟨_, _, hp, r⟩ := ob_lit w h
  exact ⟨hp, r⟩
/-! the callee -/
open Classical in
def floorO (H B : Hp) (ps : List Addr) : Hp := fun p => if p ∈ ps ∨ B p ≠ none then none else H p
def CnO (PI : HO → Prop) (H B : Hp) (ps ks : List Addr) : Cn := ⟨floorO H B ps, ks, PI, B, .nil, fun _ => none⟩
def WO (H B : Hp) (ks : List Addr) : Wd := ⟨H, B, ks⟩
/-- one entry with addresses alone -/
def oneAd (i : Nat) (Γ : List Ent) : Bool := noAd (Γ.set i .no)
/-! the caller -/
open Classical in
def newG (W : Wd) (G' : Hp) (ps : List Addr) : Hp := fun p => if W.H p = none ∨ p ∈ ps then G' p else none
theorem newG_some {W : Wd} {G' : Hp} {ps : List Addr} {p : Addr} {o : HO} (h : newG W G' ps p = some o) : (W.H p = none ∨ p ∈ ps) ∧ G' p = some o := by
  unfold newG at h
  by_cases z : W.H p = none ∨ p ∈ ps
  · rw [if_pos z] at h; exact ⟨z, h⟩
  · rw [if_neg z] at h; cases h
theorem newG_in {W : Wd} {G' : Hp} {ps : List Addr} {p : Addr} (h : W.H p = none ∨ p ∈ ps) : newG W G' ps p = G' p := by
  unfold newG; rw [if_pos h]
theorem newG_out {W : Wd} {G' : Hp} {ps : List Addr} {p : Addr} (h1 : W.H p ≠ none) (h2 : p ∉ ps) : newG W G' ps p = none := by
  unfold newG; rw [if_neg (by rintro (z | z); exact h1 z; exact h2 z)]
def Wd.back (W : Wd) (H' G' : Hp) (ps : List Addr) : Wd := ⟨H', jn W.G (newG W G' ps), W.vs⟩
section
variable {C : Cn} {W : Wd} {H' G' : Hp} {ps ks ps' : List Addr} {ℓ : Lv}
theorem back_ok (b : Bok C W) (hps : ∀ p ∈ ps, p ∉ W.vs ∧ C.H0 p = none ∧ W.G p = none ∧ W.H p ≠ none) (hks : ∀ k ∈ ks, k ∈ W.vs ∧ ¬ C.isT k) (k : BackO C.PI W.H H' (wl C W ℓ) G' ps ks ps') : Bok C (W.back H' G' ps) where
  base := fun p o e n => by
    refine k.keep p o (b.base p o e n) (fun z => ?_) fun z => ?_
    · rw [(hps p z).2.1] at e; cases e
    · have := b.vnew p (hks p z).1 n
      rw [e] at this; cases this
  vol := fun p hp => by
    by_cases z : p ∈ ks
    · obtain ⟨o, h1, h2⟩ := k.pool p z
      exact ⟨o, h1, fun _ => h2⟩
    · obtain ⟨o, h1, h2⟩ := b.vol p hp
      exact ⟨o, k.keep p o h1 (fun y => (hps p y).1 hp) z, h2⟩
  vsub := b.vsub
  vnew := b.vnew
  v0 := b.v0
  gv := fun p hp => by
    show jn W.G _ p = none
    rw [jn_r (b.gv p hp)]
    obtain ⟨o, h1, _⟩ := b.vol p hp
    exact newG_out (by rw [h1]; intro z; cases z) fun y => (hps p y).1 hp
  g := fun p o e => by
    rcases jn_some e with e | ⟨_, e⟩
    · refine k.keep p o (b.g p o e) (fun z => ?_) fun z => b.novs e (hks p z).1
      rw [(hps p z).2.2.1] at e; cases e
    · exact k.g p o (newG_some e).2
  gn := fun p o e => by
    rcases jn_some e with e | ⟨_, e⟩
    · exact b.gn p o e
    · rcases (newG_some e).1 with z | z
      · exact b.h0 z
      · exact (hps p z).2.1
  fl := b.fl.trans jn_l
  tab := fun P q e => by
    obtain ⟨h1, xs, h2, h3⟩ := b.tab P q e
    exact ⟨h1, xs, k.keep P _ h2 (fun z => (hps P z).1 h1) (fun z => (hks P z).2 ⟨q, e⟩), h3.mono (jn_mono jn_l)⟩
  knb := b.knb
theorem back_lv (b : Bok C W) (hks : ∀ k ∈ ks, k ∈ W.vs ∧ ¬ C.isT k) : ∀ ℓ : Lv, ℓ ≠ .h → Same (wl C W ℓ) (wl C (W.back H' G' ps) ℓ)
  | .g, _ => jn_l
  | .m, _ => fun p o h => by
    rcases jn_some h with h | ⟨n, h⟩
    · exact jn_l _ _ h
    · show jn _ _ p = some o
      rw [jn_r n]
      exact jn_l _ _ h
  | .h, n => absurd rfl n
/-- what the callee knows at its end, known here too -/
theorem back_known (b : Bok C W) (hl : ℓ ≠ .h) (hps : ∀ p ∈ ps, p ∉ W.vs ∧ C.H0 p = none ∧ W.G p = none ∧ W.H p ≠ none) (hks : ∀ k ∈ ks, k ∈ W.vs ∧ ¬ C.isT k) (k : BackO C.PI W.H H' (wl C W ℓ) G' ps ks ps') : Same G' (wl C (W.back H' G' ps) ℓ) := fun p o e => by
  rcases k.new p o e with z | z
  · exact back_lv b hks ℓ hl p o z
  · have e1 : newG W G' ps p = some o := by rw [newG_in z]; exact e
    have e0 : W.G p = none := z.elim b.g0 fun y => (hps p y).2.2.1
    have h0 : C.H0 p = none := z.elim b.h0 fun y => (hps p y).2.1
    have e2 : jn W.G (newG W G' ps) p = some o := by rw [jn_r e0]; exact e1
    cases ℓ with
    | g => exact e2
    | m =>
      show jn (hid C.H0 C.vs0) _ p = some o
      rw [jn_r]
      · exact e2
      · by_cases y : p ∈ C.vs0
        · exact hid_in y
        · rw [hid_out y]; exact h0
    | h => exact absurd rfl hl
theorem back_ent (b : Bok C W) (hps : ∀ p ∈ ps, p ∉ W.vs ∧ C.H0 p = none ∧ W.G p = none ∧ W.H p ≠ none) (hks : ∀ k ∈ ks, k ∈ W.vs ∧ ¬ C.isT k) (k : BackO C.PI W.H H' (wl C W ℓ) G' ps ks ps') {x : Option V} : ∀ {e : Ent}, (∀ p ∈ e.ads, p ∉ ps) → EntOk C W x e → EntOk C (W.back H' G' ps) x e
  | .no, _, _ => trivial
  | .val ℓ' R a, _, ⟨n, v, e, h⟩ => ⟨n, v, e, R.mono (back_lv b hks ℓ' n) h⟩
  | .own p ℓ' R l, d, ⟨n, e, hv, h0, hg, xs, hx, t⟩ => by
    have hp := d p (List.mem_singleton.mpr rfl)
    refine ⟨n, e, hv, h0, ?_, xs, k.keep p _ hx hp (fun z => hv (hks p z).1), t.imp fun _ _ => R.mono (back_lv b hks ℓ' n)⟩
    show jn W.G _ p = none
    rw [jn_r hg]
    exact newG_out (by rw [hx]; intro z; cases z) hp
  | .vol p, _, ⟨e, h, t⟩ => ⟨e, h, t⟩
  | .raw v, _, h => h
  | .ob v qs ℓ' S a, d, ⟨n, e, hq, r⟩ => by
    refine ⟨n, e, fun p m => ?_, S.mono (back_lv b hks ℓ' n) (fun p m => ?_) r⟩
    · obtain ⟨h1, h2, h3, h4⟩ := hq p m
      have hp := d p m
      refine ⟨h1, h2, ?_, ?_⟩
      · show jn W.G _ p = none
        rw [jn_r h3]
        exact newG_out h4 hp
      · show H' p ≠ none
        cases y : W.H p with
        | none => exact absurd y h4
        | some o => rw [k.keep p o y hp (fun z => h1 (hks p z).1)]; intro z; cases z
    · obtain ⟨h1, h2, h3, h4⟩ := hq p m
      show H' p = W.H p
      cases y : W.H p with
      | none => exact absurd y h4
      | some o => exact k.keep p o y (d p m) (fun z => h1 (hks p z).1)
theorem back_own (b : Bok C W) (hps : ∀ p ∈ ps, p ∉ W.vs ∧ C.H0 p = none ∧ W.G p = none ∧ W.H p ≠ none) (k : BackO C.PI W.H H' (wl C W ℓ) G' ps ks ps') : ∀ p ∈ ps', p ∉ W.vs ∧ C.H0 p = none ∧ (W.back H' G' ps).G p = none ∧ H' p ≠ none := fun p hp => by
  obtain ⟨h1, h2, h3⟩ := k.own p hp
  refine ⟨?_, ?_, ?_, h3⟩
  · exact h1.elim b.nvs fun z => (hps p z).1
  · exact h1.elim b.h0 fun z => (hps p z).2.1
  · show jn W.G _ p = none
    rw [jn_r (h1.elim b.g0 fun z => (hps p z).2.2.1), newG_in h1]
    exact h2
end
theorem World.back {C : Cn} {σ : Sg} {W : Wd} {Γ : List Ent} {τ τ' : Type} {S : Ob τ} {S' : Ob τ'} {x : V} {ps ks ps' : List Addr} {st : τ} {st' : τ'} {ℓ : Lv} {H' G' : Hp} {i : Nat} (w : World C σ W Γ) (h : Γ[i]? = some (.ob x ps ℓ S st)) (hks : ∀ k ∈ ks, k ∈ W.vs ∧ ¬ C.isT k)
    (k : BackO C.PI W.H H' (wl C W ℓ) G' ps ks ps') (r : S'.is G' H' x ps' st') : World C σ (W.back H' G' ps) (Γ.set i (.ob x ps' ℓ S' st')) := by
  obtain ⟨h1, hl, hps, _⟩ := ob_lit w h
  have hi : i < Γ.length := (List.getElem?_eq_some_iff.mp h).1
  refine ⟨back_ok w.b hps hks k, by rw [List.length_set]; exact w.len, fun j e hj => ?_, fun j j' p q hjj hp hq => ?_⟩
  · by_cases z : i = j
    · subst z
      rw [List.getElem?_set_self hi] at hj
      cases hj
      exact ⟨_, h1, hl, rfl, back_own w.b hps k, S'.mono (back_known w.b hl hps hks k) (fun _ _ => rfl) r⟩
    · rw [List.getElem?_set_ne z] at hj
      obtain ⟨y, g1, g2⟩ := w.ent j e hj
      exact ⟨y, g1, back_ent w.b hps hks k (fun p hp m => w.dis j i p p (Ne.symm z) ⟨e, hj, hp⟩ (.ob h m) rfl) g2⟩
  · have key : ∀ (j : Nat) (p : Addr), adAt (Γ.set i (.ob x ps' ℓ S' st')) j p → (j = i ∧ p ∈ ps') ∨ (j ≠ i ∧ adAt Γ j p) := fun j p ⟨u, hu, hm⟩ => by
      by_cases z : i = j
      · subst z
        rw [List.getElem?_set_self hi] at hu
        cases hu
        exact .inl ⟨rfl, hm⟩
      · rw [List.getElem?_set_ne z] at hu
        exact .inr ⟨Ne.symm z, u, hu, hm⟩
    have sep : ∀ (j : Nat) (p q : Addr), j ≠ i → p ∈ ps' → adAt Γ j q → p ≠ q := fun j p q hj hp ha e => by
      subst e
      rcases (k.own p hp).1 with z | z
      · exact (w.adH ha).1 z
      · exact w.dis j i p p hj ha (.ob h z) rfl
    rcases key j p hp with ⟨a1, a2⟩ | ⟨a1, a2⟩
    · rcases key j' q hq with ⟨b1, b2⟩ | ⟨b1, b2⟩
      · exact absurd (a1.trans b1.symm) hjj
      · exact sep j' p q b1 a2 b2
    · rcases key j' q hq with ⟨b1, b2⟩ | ⟨b1, b2⟩
      · exact fun e => sep j q p a1 b2 a2 e.symm
      · exact w.dis j j' p q hjj a2 b2
end GL


set_option Elab.async false
set_option linter.all false
set_option maxRecDepth 100000
set_option maxHeartbeats 1000000
namespace L2
open PySem PySem.Spec PyProof.Rows
section
variable {X : Cx} {CX : CXT} {k : Nat} {f C : Addr} {fd : FuncData} {ps : List Str} {sp : Sp} {E : St → XK} {E0 : XK} {x m : Str} {p pos apos : Pos} {e o : Expr} {es : List Expr} {ta : TE} {t : TA}
/-- o.m(..), what is wanted of an exception by the names -/
def tMethX (C : Addr) (m : Str) (sp : Sp) (E : St → XK) (ta : TE) (t : TA) : TE := fun σ H Q => ta σ H fun x H1 => ∃ a dx fs, x = .ref a ∧ H1 a = some (.ins C dx fs) ∧ fs.lookup m = none ∧ t σ H1 fun vs H2 => sp (x :: vs) H2 Q (E σ)
end
end L2
namespace GL
open PySem L2
section
variable {C : Cn} {Γ : List Ent} {α β γ τ τ' : Type} {R : Rl α} {S : Rl β} {P : α → Prop} {te ta tb tc td ty tv tx t1 t2 : TE} {tA : TA} {ℓ ℓ' : Lv} {K : PySem.W.Frag} {D : Ends} {t u u' : TS} {c : Addr} {sh : Shp τ} {n m : Str} {ns : List Str} {x : V} {ps : List Addr} {st : τ} {i j : Nat} {So : Ob τ} {So' : Ob τ'}
/-! arguments -/
def EvK (C : Cn) {α : Type} (te : TE) (Γ : List Ent) (ps : List Addr) (R : Rl α) (a : α) : Prop := ∀ σ W, World C σ W Γ → ∀ Q : VK, (∀ v W', Stp W W' → Bok C W' → R.is (hid W'.H (ps ++ W'.vs)) v a → Q v W'.H) → te σ W.H Q
def EvAO (C : Cn) {α : Type} (ta : TA) (Γ : List Ent) (ps : List Addr) (x : V) (ℓ : Lv) (A : AO α) (a : α) : Prop :=
  ∀ σ W, World C σ W Γ → ∀ Q : List V → Hp → Prop, (∀ vs W' ks, Stp W W' → Bok C W' → (∀ k ∈ ks, k ∈ W'.vs ∧ ¬ C.isT k) → A vs (wl C W' ℓ) (hid W'.H (ps ++ W'.vs)) ks x a → Q vs W'.H) → ta σ W.H Q
/-! an expression that changes the object at i -/
def EvT (C : Cn) {β τ : Type} (te : TE) (Γ : List Ent) (i : Nat) (x : V) (S : Ob τ) (ℓo ℓ : Lv) (R : Rl β) (P : β → τ → Prop) : Prop :=
  ∀ σ W, World C σ W Γ → ∀ Q : VK, (∀ v W' ps' st' b, World C σ W' (Γ.set i (.ob x ps' ℓo S st')) → R.is (wl C W' ℓ) v b → P b st' → Q v W'.H) → te σ W.H Q
def EvTB (C : Cn) {τ : Type} (tt : TT) (Γ : List Ent) (i : Nat) (x : V) (S : Ob τ) (ℓo : Lv) (P : Bool → τ → Prop) : Prop :=
  ∀ σ W, World C σ W Γ → ∀ Q : Bool → Hp → Prop, (∀ W' ps' st' b, World C σ W' (Γ.set i (.ob x ps' ℓo S st')) → P b st' → Q b W'.H) → tt σ W.H Q
/-! methods -/
def InsAt (C : Cn) (Γ : List Ent) (i : Nat) (c : Addr) (m : Str) : Prop := ∀ σ W, World C σ W Γ → ∃ a dx fs, σ[i]? = some (some (.ref a)) ∧ W.H a = some (.ins c dx fs) ∧ fs.lookup m = none
/-! statements -/
end
end GL


set_option Elab.async false
set_option linter.all false
set_option maxRecDepth 100000
set_option maxHeartbeats 1000000
/-! ### fields written; an object made -/
namespace GL
open PySem L2
section
variable {C : Cn} {Γ : List Ent} {α β γ τ τ' : Type} {R : Rl α} {S : Rl β} {P : α → Prop} {Pl : List α → Prop} {te ta tb t1 t2 : TE} {tA : TA} {ℓ ℓ' : Lv} {K : PySem.W.Frag} {D : Ends} {t u u' : TS} {c : Addr} {sh : Shp τ} {sh' : Shp τ'} {n m : Str} {ns : List Str} {x : V} {ps : List Addr} {st : τ} {i j : Nat}
/-! an object made -/
def AMono {α : Type} (A : AO α) : Prop := ∀ vs B M ks x a B' M' x', Same B B' → Same M M' → A vs B M ks x a → A vs B' M' ks x' a
end
end GL


set_option Elab.async false
set_option linter.all false
set_option maxRecDepth 100000
set_option maxHeartbeats 1000000
namespace GL
open PySem L2
section
variable {C : Cn} {Γ : List Ent} {α β γ τ τ' : Type} {R : Rl α} {S : Rl β} {te : TE} {ℓ ℓ' : Lv} {x : V} {i : Nat} {So : Ob τ}
end
end GL
namespace GL
open PySem L2
structure CalM (P : Program) (w : PySem.World) (K : PySem.W.Frag) (mg : Str → Option Value) (base : Heap) (CX : CXT) (k : Nat) (C : Addr) (m : Str) (ps : List Str) (sp : Sp) (f : Addr) (fd : FuncData) : Prop where
  ok : FnOk P w K mg base CX k f fd ps sp
  b : Binds K fd ps []
  mt : Meth K C m f
structure CalI (P : Program) (w : PySem.World) (K : PySem.W.Frag) (mg : Str → Option Value) (base : Heap) (CX : CXT) (k : Nat) (C : Addr) (x : Str) (ps : List Str) (sp : Sp) (f : Addr) (fd : FuncData) : Prop where
  ok : FnOk P w K mg base CX k f fd ps sp
  b : Binds K fd ps []
  mke : Mk K C f
  g : mg x = some (.ref C)
section
variable {C : Cn} {Γ : List Ent} {α β : Type} {R : Rl α} {te : TE} {ℓ : Lv} {K : PySem.W.Frag}
abbrev rSortD (xs : List V) (H : Hp) (Q : VK) : Prop := ∃ (a : Addr) (kvs : List (Key × V)) (ks : List Int), xs = [.ref a] ∧ Rd H a (.dK kvs) ∧ kvs.map (·.1) = ks.map Sum.inl ∧ ks.length < 64 ∧ ∀ (ns' : List Int) (p : Addr), ns'.Perm ks → ns'.Pairwise (· ≤ ·) → H p = none → Q (.ref p) (upd H p (.lst (ns'.map V.int)))
end
end GL
namespace GL
open PySem L2
section
variable {C : Cn} {Γ : List Ent} {τ : Type} {te : TE} {ℓ ℓ' : Lv} {x : V} {i : Nat} {So : Ob τ}
end
end GL


set_option Elab.async false
set_option linter.all false
set_option maxRecDepth 100000
set_option maxHeartbeats 1000000
/-! ### expressions that change an object, and leave what else is ours; comprehensions of such -/
namespace GL
open PySem L2
/-- what a step that may change the object (its addresses ps, then ps') leaves -/
structure Frm (W W' : Wd) (ps ps' : List Addr) : Prop where
  vs : W'.vs = W.vs
  g : Same W.G W'.G
  ours : ∀ p, p ∉ W.vs → W.G p = none → W.H p ≠ none → p ∉ ps → W'.H p = W.H p ∧ W'.G p = none ∧ p ∉ ps'
theorem Frm.refl (W : Wd) (ps : List Addr) : Frm W W ps ps := ⟨rfl, Same.refl _, fun _ _ h2 _ h4 => ⟨rfl, h2, h4⟩⟩
theorem Frm.trans {W W1 W2 : Wd} {p0 p1 p2 : List Addr} (f : Frm W W1 p0 p1) (k : Frm W1 W2 p1 p2) : Frm W W2 p0 p2 where
  vs := k.vs.trans f.vs
  g := f.g.trans k.g
  ours := fun p h1 h2 h3 h4 => by
    obtain ⟨a1, a2, a3⟩ := f.ours p h1 h2 h3 h4
    obtain ⟨b1, b2, b3⟩ := k.ours p (by rw [f.vs]; exact h1) a2 (by rw [a1]; exact h3) a3
    exact ⟨b1.trans a1, b2, b3⟩
theorem Frm.stp {W W' : Wd} (s : Stp W W') (ps : List Addr) : Frm W W' ps ps := ⟨s.vs, s.g, fun p h1 h2 h3 h4 => ⟨(s.ours h1 h2 h3).1, (s.ours h1 h2 h3).2, h4⟩⟩
theorem Frm.lv {C : Cn} {W W' : Wd} {ps ps' : List Addr} (f : Frm W W' ps ps') : ∀ ℓ : Lv, ℓ ≠ .h → Same (wl C W ℓ) (wl C W' ℓ)
  | .g, _ => f.g
  | .m, _ => mw_same f.g
  | .h, n => absurd rfl n
section
variable {C : Cn} {Γ : List Ent} {α β γ τ τ' : Type} {R : Rl α} {S : Rl β} {te ta tb : TE} {tA : TA} {ℓ ℓ' ℓo ℓ2 : Lv} {K : PySem.W.Frag} {D : Ends} {u : TS} {c : Addr} {m : Str} {x : V} {ps : List Addr} {st : τ} {i j : Nat} {So : Ob τ}
def EvU (C : Cn) {β τ : Type} (te : TE) (Γ : List Ent) (i : Nat) (x : V) (ps : List Addr) (S : Ob τ) (ℓo ℓ : Lv) (R : Rl β) (P : β → τ → Prop) : Prop :=
  ∀ σ W, World C σ W Γ → ∀ Q : VK, (∀ v W' ps' st' b, World C σ W' (Γ.set i (.ob x ps' ℓo S st')) → Frm W W' ps ps' → R.is (wl C W' ℓ) v b → P b st' → Q v W'.H) → te σ W.H Q
theorem EvU.t {P : β → τ → Prop} (h : EvU C te Γ i x ps So ℓo ℓ S P) : EvT C te Γ i x So ℓo ℓ S P := fun σ W w Q q => h σ W w Q fun v W' ps' st' b w' _ r p => q v W' ps' st' b w' r p
theorem EvU.imp {P P2 : β → τ → Prop} (h : EvU C te Γ i x ps So ℓo ℓ S P) (k : ∀ b st', P b st' → P2 b st') : EvU C te Γ i x ps So ℓo ℓ S P2 := fun σ W w Q q => h σ W w Q fun v W' ps' st' b w' f r p => q v W' ps' st' b w' f r (k b st' p)
/-! laying a new list beside the world -/
theorem lay_ent {W : Wd} {T : Addr} {o : HO} {y : Option V} : ∀ {e : Ent}, (∀ p ∈ e.ads, p ≠ T) → EntOk C W y e → EntOk C (W.lay T o) y e
  | .no, _, _ => trivial
  | .val ℓ' R a, _, ⟨n, v, e, h⟩ => ⟨n, v, e, R.mono (by cases ℓ' with | g => exact Same.refl _ | m => exact Same.refl _ | h => exact absurd rfl n) h⟩
  | .own p ℓ' R l, d, ⟨n, e, hv, h0, hg, xs, hx, t⟩ => ⟨n, e, hv, h0, hg, xs, (upd_ne (d p (List.mem_singleton.mpr rfl))).trans hx, t.imp fun _ _ => R.mono (by cases ℓ' with | g => exact Same.refl _ | m => exact Same.refl _ | h => exact absurd rfl n)⟩
  | .vol p, _, h => h
  | .raw v, _, h => h
  | .ob v qs ℓ' S a, d, ⟨n, e, hq, r⟩ => ⟨n, e, fun p m => by
      obtain ⟨h1, h2, h3, h4⟩ := hq p m
      exact ⟨h1, h2, h3, by show upd W.H T _ p ≠ none; rw [upd_ne (d p m)]; exact h4⟩, S.mono (by cases ℓ' with | g => exact Same.refl _ | m => exact Same.refl _ | h => exact absurd rfl n) (fun p m => upd_ne (d p m)) r⟩
theorem World.lay {σ : Sg} {W : Wd} {T : Addr} {o : HO} (w : World C σ W Γ) (h0 : C.H0 T = none) (hv : T ∉ W.vs) (hG : W.G T = none) (hd : ∀ j q, adAt Γ j q → q ≠ T) : World C σ (W.lay T o) Γ :=
  ⟨w.b.lay h0 hv hG, w.len, fun j e hj => by
    obtain ⟨y, h1, h2⟩ := w.ent j e hj
    exact ⟨y, h1, lay_ent (fun p hp => hd j p ⟨e, hj, hp⟩) h2⟩, w.dis⟩
/-! new lists -/
def EvUN (C : Cn) {β τ : Type} (te : TE) (Γ : List Ent) (i : Nat) (x : V) (ps : List Addr) (S : Ob τ) (ℓo ℓ : Lv) (R : Rl β) (P : List β → τ → Prop) : Prop :=
  ∀ σ W, World C σ W Γ → ∀ Q : VK, (∀ p W' xs z ps' st', World C σ W' (Γ.set i (.ob x ps' ℓo S st')) → Frm W W' ps ps' → W.H p = none → W'.H p = some (.lst xs) → W'.G p = none → p ∉ ps' → All2 (R.is (wl C W' ℓ)) xs z → P z st' → Q (.ref p) W'.H) → te σ W.H Q
end
end GL


set_option Elab.async false
set_option linter.all false
set_option maxRecDepth 100000
set_option maxHeartbeats 1000000
/-! ### a call whose last argument changes an object -/
namespace GL
open PySem L2
theorem World.snoc {C : Cn} {σ : Sg} {W : Wd} {Γ : List Ent} (w : World C σ W Γ) {y : Option V} {e : Ent} (h : EntOk C W y e) (hd : e.ads = []) : World C (σ ++ [y]) W (Γ ++ [e]) := by
  have key : ∀ (j : Nat) (p : Addr), adAt (Γ ++ [e]) j p → adAt Γ j p := fun j p ⟨u, hu, hm⟩ => by
    by_cases z : j < Γ.length
    · rw [List.getElem?_append_left z] at hu
      exact ⟨u, hu, hm⟩
    · rw [List.getElem?_append_right (by omega)] at hu
      cases q : j - Γ.length with
      | zero =>
        rw [q] at hu
        cases hu
        rw [hd] at hm; cases hm
      | succ n => rw [q] at hu; cases hu
  refine ⟨w.b, by rw [List.length_append, List.length_append, w.len]; rfl, fun j u hj => ?_, fun j k p q hjk hp hq => w.dis j k p q hjk (key j p hp) (key k q hq)⟩
  by_cases z : j < Γ.length
  · rw [List.getElem?_append_left z] at hj
    obtain ⟨y', h1, h2⟩ := w.ent j u hj
    exact ⟨y', by rw [List.getElem?_append_left (by rw [w.len]; exact z)]; exact h1, h2⟩
  · rw [List.getElem?_append_right (by omega)] at hj
    cases q : j - Γ.length with
    | zero =>
      rw [q] at hj
      cases hj
      exact ⟨y, by rw [List.getElem?_append_right (by rw [w.len]; omega), w.len, q]; rfl, h⟩
    | succ n => rw [q] at hj; cases hj
section
variable {C : Cn} {Γ : List Ent} {α β γ τ : Type} {R : Rl α} {S : Rl β} {te : TE} {ℓ ℓ' ℓo ℓ2 : Lv} {x : V} {ps : List Addr} {st : τ} {i : Nat} {So : Ob τ} {sp : Sp} {E : XK}
def HasV (C : Cn) (Γ : List Ent) (i : Nat) : Prop := ∀ σ W, World C σ W Γ → ∃ v, σ[i]? = some (some v)
end
end GL


set_option Elab.async false
set_option linter.all false
set_option maxRecDepth 100000
set_option maxHeartbeats 1000000
/-! ### an object and a list lent together -/
namespace GL
open PySem L2
def obTwo {σ α : Type} (S : Ob σ) (R : Rl α) : Ob (σ × Addr × List α) where
  is G H x ps a := ∃ qs xs, ps = a.2.1 :: qs ∧ a.2.1 ∉ qs ∧ S.is G H x qs a.1 ∧ H a.2.1 = some (.lst xs) ∧ All2 (R.is G) xs a.2.2
  mono := fun s hA ⟨qs, xs, e, n, h1, h2, h3⟩ => by
    subst e
    exact ⟨qs, xs, rfl, n, S.mono s (fun p hp => hA p (List.mem_cons_of_mem _ hp)) h1, (hA _ List.mem_cons_self).trans h2, h3.imp fun _ _ => R.mono s⟩
def oRef {α : Type} (A : AO α) : AO (Addr × α) := fun vs B M ks x a => ∃ r, vs = .ref a.1 :: r ∧ A r B M ks x a.2
section
variable {C : Cn} {Γ : List Ent} {α β γ σ τ : Type} {R : Rl α} {Rb : Rl β} {S So : Ob τ} {te ta tb : TE} {tA : TA} {ℓ ℓ' ℓo ℓ2 : Lv} {K : PySem.W.Frag} {D : Ends} {t u u' : TS} {x : V} {ps : List Addr} {st : τ} {i j : Nat} {q : Addr} {l : List α}
/-! the ends of a def that is lent both -/
theorem EvT.imp {P P2 : β → τ → Prop} (h : EvT C te Γ i x So ℓo ℓ Rb P) (k : ∀ b st', P b st' → P2 b st') : EvT C te Γ i x So ℓo ℓ Rb P2 := fun σ W w Q q => h σ W w Q fun v W' ps' st' b w' r p => q v W' ps' st' b w' r (k b st' p)
end
end GL


set_option Elab.async false
set_option linter.all false
set_option maxRecDepth 100000
set_option maxHeartbeats 1000000
/-! ### sorted(set(t)), t a tuple of ints -/
namespace L2
open PySem PySem.Spec PyProof.Rows
def tSortSet (K : PySem.W.Frag) (ta : TA) : TE := fun σ H Q => ta σ H fun vs H1 => ∃ (p : Addr) (ns : List Int), vs = [.ref p] ∧ SqT K H1 p (ns.map V.int) ∧ ns.length < 64 ∧
  ∀ (u : HO) (q r : Addr) (ms : List Int), H1 q = none → upd H1 q u r = none → ms.Pairwise (· < ·) → (∀ k, k ∈ ms ↔ k ∈ ns) → Q (.ref r) (upd (upd H1 q u) r (.lst (ms.map V.int)))
section
variable {X : Cx} {e : Expr} {ta : TA}
end
end L2
namespace GL
open PySem L2
/-- a list's members once each, in rising order -/
def dd : List Int → List Int
  | [] => []
  | x :: l => if x ∈ dd l then dd l else x :: dd l
def nset (l : List Int) : List Int := isort (dd l)
section
variable {C : Cn} {Γ : List Ent} {ta : TE} {ℓ c : Lv} {K : PySem.W.Frag}
end
end GL


set_option Elab.async false
set_option linter.all false
set_option maxRecDepth 100000
set_option maxHeartbeats 1000000
/-! ### x.index(v, a); tuples of four taken apart; a name's list at two types -/
namespace L2
open PySem PySem.Spec PyProof.Rows
def rIndexF (K : PySem.W.Frag) : V → List V → Hp → VK → Prop := fun x xs H Q => ∃ (a : Addr) (ys : List Int) (y : Int) (i j : Nat), x = V.ref a ∧ xs = [.int y, .int i] ∧ SqL K H a (ys.map V.int) ∧ i ≤ j ∧ ys[j]? = some y ∧
  (∀ m, i ≤ m → m < j → ys[m]? ≠ some y) ∧ Q (.int (j : Nat)) H
section
variable {X : Cx}
end
/-! x[::k] -/
def stepI (n : Nat) (k : Int) : List Nat := sliceRange (sliceBounds none none (some k) n).1 (sliceBounds none none (some k) n).2.1 (sliceBounds none none (some k) n).2.2
def tSlS (K : PySem.W.Frag) (te tk : TE) : TE := fun σ H Q => te σ H fun x H1 => tk σ H1 fun y H2 => ∃ a xs k, x = .ref a ∧ y = .int k ∧ k ≠ 0 ∧ SqL K H2 a xs ∧ ∀ p, H2 p = none → Q (.ref p) (upd H2 p (.lst ((stepI xs.length k).filterMap (xs[·]?))))
section
variable {X : Cx} {e ek : Expr} {te tk : TE} {pos p2 : Pos}
end
end L2
namespace GL
open PySem L2
/-- the first place from i on where v stands -/
def idxF (l : List Int) (v : Int) (i : Nat) : Nat := i + (l.drop i).idxOf v
section
variable {C : Cn} {Γ : List Ent} {α β γ τ : Type} {R : Rl α} {S : Rl β} {ta tb tc te : TE} {ℓ ℓ' c : Lv} {K : PySem.W.Frag} {u : TS} {D : Ends}
def slK (l : List α) (k : Int) : List α := (stepI l.length k).filterMap (l[·]?)
end
end GL


set_option Elab.async false
set_option linter.all false
set_option maxRecDepth 100000
set_option maxHeartbeats 1000000
/-! ### pairs as tuples, tuples of four taken apart, lists of one kind as lists of two kinds -/
namespace GL
open PySem L2
section
variable {C : Cn} {Γ : List Ent} {α β γ τ : Type} {R : Rl α} {S : Rl β} {ta tb tc te : TE} {ℓ ℓ' c : Lv} {K : PySem.W.Frag} {u : TS} {D : Ends}
/-- a list of the one kind, as a list of either | back -/
theorem ev_up1 {l : List α} (h : Ev C te Γ ℓ (rList R) l) : Ev C te Γ ℓ (rList (rAlt R S)) (l.map Sum.inl) := fun σ W w Q q => h σ W w _ fun v W1 l' s1 b1 ⟨p, xs, e, hp, r⟩ p1 => by
  subst p1
  refine q v W1 _ s1 b1 ⟨p, xs, e, hp, ?_⟩ rfl
  have : ∀ {xs : List V} {l : List α}, All2 (R.is (wl C W1 ℓ)) xs l → All2 ((rAlt R S).is (wl C W1 ℓ)) xs (l.map (Sum.inl : α → Sum α β)) := fun {xs} => by
    induction xs with
    | nil => intro l h; cases l with
      | nil => trivial
      | cons => exact h.elim
    | cons x xs ih => intro l h; cases l with
      | nil => exact h.elim
      | cons a l => exact ⟨h.1, ih h.2⟩
  exact this r
end
end GL
namespace GL
open PySem L2
section
variable {C : Cn} {Γ : List Ent} {α β : Type} {R : Rl α} {S : Rl β} {te : TE} {ℓ : Lv}
theorem ev_up2 {l : List β} (h : Ev C te Γ ℓ (rList S) l) : Ev C te Γ ℓ (rList (rAlt R S)) (l.map Sum.inr) := fun σ W w Q q => h σ W w _ fun v W1 l' s1 b1 ⟨p, xs, e, hp, r⟩ p1 => by
  subst p1
  refine q v W1 _ s1 b1 ⟨p, xs, e, hp, ?_⟩ rfl
  have : ∀ {xs : List V} {l : List β}, All2 (S.is (wl C W1 ℓ)) xs l → All2 ((rAlt R S).is (wl C W1 ℓ)) xs (l.map (Sum.inr : β → Sum α β)) := fun {xs} => by
    induction xs with
    | nil => intro l h; cases l with
      | nil => trivial
      | cons => exact h.elim
    | cons x xs ih => intro l h; cases l with
      | nil => exact h.elim
      | cons a l => exact ⟨h.1, ih h.2⟩
  exact this r
end
end GL


set_option Elab.async false
set_option linter.all false
set_option maxRecDepth 100000
set_option maxHeartbeats 1000000
/-! ### sorted(set(l)), l a list of pairs of ints -/
namespace L2
open PySem PySem.Spec PyProof.Rows
def tSortSetT (K : PySem.W.Frag) (ta : TA) : TE := fun σ H Q => ta σ H fun vs H1 => ∃ (l : Addr) (ks : List (Addr × List Int)) (d : Nat) (B : Int), vs = [.ref l] ∧ SqL K H1 l (ks.map fun p => V.ref p.1) ∧ (∀ p ∈ ks, SqT K H1 p.1 (p.2.map V.int)) ∧ ks.length < 64 ∧ 1 ≤ d ∧ (∀ p ∈ ks, p.2.length = d ∧ TS.Bd B p.2) ∧
  ∀ (u : HO) (a r : Addr) (L : List (Addr × List Int)), H1 a = none → upd H1 a u r = none → (∀ p ∈ L, p ∈ ks) → (∀ p ∈ ks, p.2 ∈ L.map (·.2)) → (L.map (·.2)).Nodup → L.Pairwise (fun q r => TS.code B q.2 ≤ TS.code B r.2) → Q (.ref r) (upd (upd H1 a u) r (.lst (L.map fun q => V.ref q.1)))
section
variable {X : Cx} {e : Expr} {ta : TA}
end
end L2
namespace GL
open PySem L2
/-- a list's members once each -/
def ddG {α : Type} [DecidableEq α] : List α → List α
  | [] => []
  | x :: l => if x ∈ ddG l then ddG l else x :: ddG l
theorem ddG_mem {α : Type} [DecidableEq α] {x : α} : ∀ {l : List α}, x ∈ ddG l ↔ x ∈ l
  | [] => Iff.rfl
  | y :: l => by
    have ih := ddG_mem (x := x) (l := l)
    unfold ddG
    by_cases h : y ∈ ddG l
    · rw [if_pos h, ih, List.mem_cons]
      exact ⟨.inr, fun z => z.elim (fun e => by rw [e]; exact ddG_mem.mp h) id⟩
    · rw [if_neg h, List.mem_cons, List.mem_cons, ih]
theorem ddG_nd {α : Type} [DecidableEq α] : ∀ l : List α, (ddG l).Nodup
  | [] => List.nodup_nil
  | y :: l => by
    unfold ddG
    by_cases h : y ∈ ddG l
    · rw [if_pos h]; exact ddG_nd l
    · rw [if_neg h]; exact List.nodup_cons.mpr ⟨h, ddG_nd l⟩
def pset (l : List (Int × Int)) : List (Int × Int) := psort (ddG l)
theorem pset_mem {x : Int × Int} {l : List (Int × Int)} : x ∈ pset l ↔ x ∈ l := ((psort_perm _).mem_iff).trans ddG_mem
theorem pset_nd (l : List (Int × Int)) : (pset l).Nodup := (psort_perm _).nodup_iff.mpr (ddG_nd l)
theorem pset_uniq {l m : List (Int × Int)} (h : ∀ x, x ∈ m ↔ x ∈ l) (nd : m.Nodup) (h1 : m.Pairwise (fun a b => ple a b = true)) : m = pset l :=
  psort_uniq ((List.perm_ext_iff_of_nodup nd (ddG_nd l)).mpr fun x => (h x).trans ddG_mem.symm) h1
def adr (d : Addr) : V → Addr
  | .ref t => t
  | _ => d
section
variable {C : Cn} {Γ : List Ent} {ta : TE} {ℓ c : Lv} {K : PySem.W.Frag}
end
end GL
namespace L2
open PySem PySem.Spec PyProof.Rows
end L2


set_option Elab.async false
set_option linter.all false
set_option maxRecDepth 100000
set_option maxHeartbeats 2000000
/-! ### defs without a pool whose answer may hold what they were handed -/
namespace GL
open PySem L2
def spFG {α β : Type} (A : Args α) (pre : α → Prop) (R : Rl β) (post : α → β → Prop) : Sp := fun vs H Q _ =>
  ∃ (a : α) (B : Hp), Same B H ∧ A vs B a ∧ pre a ∧ (∀ v H' b, Same H H' → R.is (jn B (fresh H H')) v b → post a b → Q v H')
noncomputable def CnFG (H : Hp) (PI : HO → Prop) (B : Hp) : Cn := ⟨wo H B, [], PI, B, .nil, fun _ => none⟩
section
variable {β : Type} {C : Cn} {Γ : List Ent} {R : Rl β}
end
end GL


set_option Elab.async false
set_option linter.all false
set_option maxRecDepth 100000
set_option maxHeartbeats 1000000
/-! ### a row of a grid under a name of its own -/
namespace GL
open PySem L2
section
variable {α : Type} {R : Rl α} {K A : Hp}
theorem Gr.back : ∀ {qs : List Addr} {a : List (List α)} {m : Nat} {q : Addr} {l : List α} {xs : List V}, Gr R K A (qs.eraseIdx m) (a.eraseIdx m) → qs[m]? = some q → m < a.length → A q = some (.lst xs) → All2 (R.is K) xs l → Gr R K A qs (a.set m l)
  | [], _, _, _, _, _, _, h, _, _, _ => by simp at h
  | _ :: _, [], _, _, _, _, _, _, h, _, _ => by simp at h
  | q0 :: qs, l0 :: a, 0, q, l, xs, g, h, _, e, t => by
    have e1 : q0 = q := by simpa using h
    subst e1
    exact ⟨⟨xs, e, t⟩, g⟩
  | q0 :: qs, l0 :: a, m + 1, q, l, xs, ⟨g0, g⟩, h, hm, e, t => ⟨g0, Gr.back g (by simpa using h) (by simpa using hm) e t⟩
def obHole (R : Rl α) (qs : List Addr) (q : Addr) (m : Nat) : Ob (List (List α)) := ⟨fun K A v ps a => ∃ p, v = .ref p ∧ ps = p :: qs.eraseIdx m ∧ (p :: qs).Nodup ∧ A p = some (.lst (qs.map V.ref)) ∧ qs[m]? = some q ∧ m < a.length ∧ Gr R K A (qs.eraseIdx m) (a.eraseIdx m),
  fun {K K' A A' v ps a} s h ⟨p, e, e2, e3, e4, e5, e6, t⟩ => ⟨p, e, e2, e3, by rw [h p (by rw [e2]; exact List.mem_cons_self)]; exact e4, e5, e6, t.mono s fun q hq => h q (by rw [e2]; exact List.mem_cons_of_mem _ hq)⟩⟩
end
section
variable {C : Cn} {Γ : List Ent} {α : Type} {R : Rl α} {t1 : TE} {ℓ : Lv} {K : PySem.W.Frag} {D : Ends} {t u : TS} {p : Addr} {qs : List Addr} {a : List (List α)}
end
end GL


set_option Elab.async false
set_option linter.all false
set_option maxRecDepth 100000
set_option maxHeartbeats 1000000
/-! ### an object made by a def that sorts by a lambda (tables of code objects) -/
namespace GL
open PySem L2
structure BackOT (T : Tbs) (PI : HO → Prop) (H H' B G' Kn : Hp) (ps ks ps' : List Addr) : Prop where
  keep : ∀ p o, H p = some o → p ∉ ps → p ∉ ks → p ∉ T.ads → H' p = some o
  pool : ∀ p ∈ ks, ∃ o, H' p = some o ∧ PI o
  known : Same B G'
  g : Same G' H'
  new : ∀ p o, G' p = some o → B p = some o ∨ H p = none ∨ p ∈ ps
  own : ∀ p ∈ ps', (H p = none ∨ p ∈ ps) ∧ G' p = none ∧ H' p ≠ none
  tab : TabsAt T (jn Kn G') H'
def spOT {α β σ σ' : Type} (T : Tbs) (PI : HO → Prop) (S : Ob σ) (A : AO α) (pre : σ → α → Prop) (S' : Ob σ') (R : Rl β) (post : σ → α → β → σ' → Prop) : Sp := fun vs H Q _ =>
  ∃ B M ps ks x st a Kn, Same B H ∧ Same M H ∧ (∀ p ∈ ps, B p = none ∧ M p = none ∧ H p ≠ none ∧ p ∉ ks ∧ p ∉ T.ads ∧ Kn p = none) ∧ (∀ p ∈ ks, B p = none ∧ M p = none ∧ p ∉ T.ads ∧ Kn p = none ∧ ∃ o, H p = some o ∧ PI o) ∧
   (∀ p ∈ T.ads, B p = none ∧ M p = none ∧ Kn p = none) ∧ (∀ p o, Kn p = some o → B p = none ∧ H p = some o) ∧ TabsAt T (jn Kn B) H ∧ S.is B H x ps st ∧ A vs B M ks x a ∧ pre st a ∧
   (∀ v H' G' ps' b st', BackOT T PI H H' B G' Kn ps ks ps' → S'.is G' H' x ps' st' → R.is G' v b → post st a b st' → Q v H')
def CnOT (PI : HO → Prop) (H B : Hp) (ps ks : List Addr) (T : Tbs) (Kn : Hp) : Cn := ⟨floorO H B ps, ks ++ T.ads, PI, B, T, Kn⟩
def WOT (H B : Hp) (ks : List Addr) (T : Tbs) : Wd := ⟨H, B, ks ++ T.ads⟩
section
variable {PI : HO → Prop} {H B M Kn : Hp} {ps ks : List Addr} {T : Tbs}
end
/-! the caller -/
/-- what may be kept, but for code objects that are not ours -/
noncomputable def Bm (T : Tbs) (C : Cn) (W : Wd) : Hp := jn W.G (frC T (wl C W .m))
section
variable {C : Cn} {W : Wd} {H' G' : Hp} {ps ks ps' : List Addr} {T : Tbs}
end
/-- arguments that stand without code objects -/
def ANoC {α : Type} (A : AO α) : Prop := ∀ (T : Tbs) vs B M ks x a, A vs B M ks x a → A vs (frC T B) M ks x a
section
variable {C : Cn} {Γ : List Ent} {α β τ' : Type} {D : Ends} {u : TS} {tA : TA} {j : Nat} {c : Addr} {T : Tbs}
end
end GL


set_option Elab.async false
set_option linter.all false
set_option maxRecDepth 100000
set_option maxHeartbeats 1000000
/-! ### a dict that is a field of an object of ours -/
namespace GL
open PySem L2
section
variable {C : Cn} {Γ : List Ent} {α κ τ : Type} [DecidableEq κ] {dk : DK κ} {R : Rl α} {P : α → Prop} {te ty tv : TE} {ℓ : Lv} {K : PySem.W.Frag} {D : Ends} {u : TS} {i : Nat} {x : V} {ps : List Addr} {c : Addr} {ns : List Str} {n : Str} {st : τ} {sh : Shp τ} {τ' : Type} {sh' : Shp τ'}
end
end GL


set_option Elab.async false
set_option linter.all false
set_option maxRecDepth 100000
set_option maxHeartbeats 1000000
/-! ### an answer of which no more is told than that it is a bool, an int, a list or a tuple -/
namespace GL
open PySem L2
def Thg (H : Hp) (v : V) : Prop := (∃ b, v = .bl b) ∨ (∃ i, v = .int i) ∨ (∃ p xs, v = .ref p ∧ H p = some (.lst xs)) ∨ ∃ p xs, v = .ref p ∧ Rd H p (.tup xs)
theorem Thg.mono {H H' : Hp} {v : V} (s : Same H H') : Thg H v → Thg H' v
  | .inl h => .inl h
  | .inr (.inl h) => .inr (.inl h)
  | .inr (.inr (.inl ⟨p, xs, e, h⟩)) => .inr (.inr (.inl ⟨p, xs, e, s _ _ h⟩))
  | .inr (.inr (.inr ⟨p, xs, e, h⟩)) => .inr (.inr (.inr ⟨p, xs, e, rd_mono s h⟩))
def rThings : Rl Unit := ⟨fun H v _ => Thg H v, fun s h => h.mono s⟩
def NoErr {α : Type} (R : Rl α) : Prop := ∀ H v a, R.is H v a → Thg H v
section
variable {α β γ : Type} {R : Rl α} {S : Rl β} {T : Rl γ}
end
section
variable {C : Cn} {Γ : List Ent} {α β : Type} {R : Rl α} {S : Rl β} {te : TE} {ℓ ℓ' : Lv} {K : PySem.W.Frag} {L Ls : List Addr} {d : Addr}
end
end GL


set_option Elab.async false
set_option linter.all false
set_option maxRecDepth 100000
set_option maxHeartbeats 1000000
/-! ### a * b, sum(..) and o.n[k] = e, where what is asked changes the object -/
namespace GL
open PySem L2
section
variable {C : Cn} {Γ : List Ent} {τ : Type} {ta tb te ty : TE} {ℓ ℓo : Lv} {K : PySem.W.Frag} {D : Ends} {u : TS} {i : Nat} {x : V} {ps : List Addr} {So : Ob τ}
end
section
variable {C : Cn} {Γ : List Ent} {α κ τ : Type} [DecidableEq κ] {dk : DK κ} {R : Rl α} {tv ty : TE} {ℓ : Lv} {K : PySem.W.Frag} {D : Ends} {u : TS} {i : Nat} {x : V} {ps : List Addr} {c : Addr} {ns : List Str} {n : Str} {sh : Shp τ}
end
theorem EvD.eq {C : Cn} {Γ : List Ent} {κ α : Type} [DecidableEq κ] {k : DK κ} {R : Rl α} {te : TE} {c ℓ : Lv} {l l' : List (κ × α)} (h : EvD C te Γ c ℓ k R l) (e : l = l') : EvD C te Γ c ℓ k R l' := e ▸ h
end GL


set_option Elab.async false
set_option linter.all false
set_option maxRecDepth 100000
set_option maxHeartbeats 1000000
/-! ### answers of many kinds, as data -/
namespace GL
open PySem L2
mutual
inductive Dt (H : Hp) : V → PyData → Prop
  | int (i : Int) : Dt H (.int i) (.int i)
  | bool (b : Bool) : Dt H (.bl b) (.bool b)
  | lst {p : Addr} {xs : List V} {ds : List PyData} : H p = some (.lst xs) → DtA H xs ds → Dt H (.ref p) (.list ds)
  | tup {p : Addr} {xs : List V} {ds : List PyData} : Rd H p (.tup xs) → DtA H xs ds → Dt H (.ref p) (.tuple ds)
inductive DtA (H : Hp) : List V → List PyData → Prop
  | nil : DtA H [] []
  | cons {x : V} {d : PyData} {xs : List V} {ds : List PyData} : Dt H x d → DtA H xs ds → DtA H (x :: xs) (d :: ds)
end
mutual
theorem Dt.mono {H H' : Hp} (s : Same H H') {v : V} {d : PyData} : Dt H v d → Dt H' v d
  | .int i => .int i
  | .bool b => .bool b
  | .lst h t => .lst (s _ _ h) (t.mono s)
  | .tup h t => .tup (rd_mono s h) (t.mono s)
theorem DtA.mono {H H' : Hp} (s : Same H H') {xs : List V} {ds : List PyData} : DtA H xs ds → DtA H' xs ds
  | .nil => .nil
  | .cons h t => .cons (h.mono s) (t.mono s)
end
mutual
theorem Dt.noc (T : Tbs) {H : Hp} {v : V} {d : PyData} : Dt H v d → Dt (frC T H) v d
  | .int i => .int i
  | .bool b => .bool b
  | .lst h t => .lst (frC_keep h (fun φ z => nomatch z)) (t.noc T)
  | .tup h t => .tup (frC_rd h) (t.noc T)
theorem DtA.noc (T : Tbs) {H : Hp} {xs : List V} {ds : List PyData} : DtA H xs ds → DtA (frC T H) xs ds
  | .nil => .nil
  | .cons h t => .cons (h.noc T) (t.noc T)
end
mutual
theorem Dt.dp {K : PySem.W.Frag} {H : Hp} {v : V} {d : PyData} : Dt H v d → Dp K H v d
  | .int i => .int i
  | .bool b => .bl b
  | .lst h t => .lst (.inl (.inl h)) t.dp
  | .tup h t => .tup (.inl h) t.dp
theorem DtA.dp {K : PySem.W.Frag} {H : Hp} {xs : List V} {ds : List PyData} : DtA H xs ds → DpAll K H xs ds
  | .nil => .nil
  | .cons h t => .cons h.dp t.dp
end
def GdD (d : PyData) : Prop := d.canLay0 = true ∧ d.depth ≤ 8 ∧ PyData.eqv d d = true
def rDat : Rl PyData := ⟨fun H v d => Dt H v d ∧ GdD d, fun s h => ⟨h.1.mono s, h.2⟩⟩
def DtR {α : Type} (R : Rl α) (enc : α → PyData) : Prop := ∀ H v a, R.is H v a → Dt H v (enc a)
section
variable {α β γ : Type} {R : Rl α} {S : Rl β} {U : Rl γ} {f : α → PyData} {g : β → PyData} {k : γ → PyData}
theorem DtR.all (h : DtR R f) {H : Hp} : ∀ {xs : List V} {l : List α}, All2 (R.is H) xs l → DtA H xs (l.map f)
  | [], [], _ => .nil
  | _ :: _, _ :: _, ⟨a, t⟩ => .cons (h _ _ _ a) (DtR.all h t)
end
theorem GdD.of {K : PySem.W.Frag} {α : Type} {R : Rl α} (E : Eqr K R) (hn : E.n ≤ 8) (a : α) : GdD (E.enc a) := ⟨E.can a, Nat.le_trans (E.dep a) hn, (E.eqv a a).mpr rfl⟩
section
variable {C : Cn} {Γ : List Ent} {α : Type} {R : Rl α} {ta tb te : TE} {ℓ : Lv} {K : PySem.W.Frag}
end
end GL


set_option Elab.async false
set_option linter.all false
set_option maxRecDepth 100000
set_option maxHeartbeats 1000000
/-! ### len(set(list of ints)); list.reverse(); sorted of triples; a popped item within an expression -/
namespace L2
open PySem PySem.Spec PyProof.Rows
def tLenSetG (K : PySem.W.Frag) (ta : TE) : TE := fun σ H Q => ta σ H fun x H1 => ∃ (l : Addr) (ns : List Int), x = .ref l ∧ SqL K H1 l (ns.map V.int) ∧ ns.length ≤ 4000 ∧ Q (.int ((GL.dd ns).length : Nat)) H1
end L2
namespace GL
open PySem L2
section
variable {C : Cn} {Γ Γ' : List Ent} {ta te : TE} {ℓ c : Lv} {K : PySem.W.Frag} {D : Ends} {u : TS} {i j : Nat}
/-- an expression within which something is taken out of a list: it is an int -/
def EvH (C : Cn) (te : TE) (Γ Γ' : List Ent) (a : Int) : Prop := ∀ σ W, World C σ W Γ → ∀ Q : VK, (∀ W', World C σ W' Γ' → Q (.int a) W'.H) → te σ W.H Q
end
end GL
namespace GL
open PySem L2
section
variable {C : Cn} {Γ : List Ent} {ta : TE} {ℓ c : Lv} {K : PySem.W.Frag}
end
end GL


set_option Elab.async false
set_option linter.all false
set_option maxRecDepth 100000
set_option maxHeartbeats 1000000
/-! ### [f, g, h][e](..): a def out of a list -/
namespace L2
open PySem PySem.Spec PyProof.Rows
theorem arm_call_sub (a b : Expr) (p : Pos) (args : List Expr) (keywords : List Keyword) (pos : Pos) (env : Env) : eval (.Call (.Subscript a b p) args keywords pos) env = (do
    callWith pos (← eval (.Subscript a b p) env) [] (backTo pos (starEach args env)) (backToKw pos (keywordEach keywords env))) := rfl
def tPick (tf : TE) (fs : List (Addr × Sp × XK)) (t : TA) : TE := fun σ H Q => tf σ H fun v H1 => ∃ q ∈ fs, v = .ref q.1 ∧ tCall q.2.1 [] q.2.2 t σ H1 Q
section
variable {X : Cx} {CX : CXT} {a b e : Expr} {es : List Expr} {t : TA} {tf : TE} {p pos : Pos}
def tPick3 (i : Nat) (c0 c1 c2 : Sp × XK) (t : TA) : TE := fun σ H Q => ∃ n : Int, σ[i]? = some (some (.int n)) ∧ ∀ (vs : List V) (p : Addr), H p = none →
  (n = 0 ∧ tCall c0.1 [] c0.2 t σ (upd H p (.lst vs)) Q) ∨ (n = 1 ∧ tCall c1.1 [] c1.2 t σ (upd H p (.lst vs)) Q) ∨ (n = 2 ∧ tCall c2.1 [] c2.2 t σ (upd H p (.lst vs)) Q)
end
end L2
namespace GL
open PySem L2
section
variable {C : Cn} {Γ : List Ent} {β : Type} {R : Rl β} {ℓ : Lv} {t : TA} {i : Nat} {sp0 sp1 sp2 : Sp} {E0 E1 E2 : XK}
end
end GL


set_option Elab.async false
set_option linter.all false
set_option maxRecDepth 100000
set_option maxHeartbeats 1000000
/-! ### [f, g, h][e](..) within a try -/
namespace L2
open PySem PySem.Spec PyProof.Rows
def tPickS (tf : TE) (fs : List (Addr × Sp × (St → XK))) (t : TA) : TE := fun σ H Q => tf σ H fun v H1 => ∃ q ∈ fs, v = .ref q.1 ∧ tCallS q.2.1 q.2.2 t σ H1 Q
section
variable {X : Cx} {CX : CXT} {a b e : Expr} {es : List Expr} {t : TA} {tf : TE} {p pos : Pos}
theorem pe_pickS {fs : List (Addr × Sp × (St → XK))} (hf : PE X (.Subscript a b p) tf)
    (hc : ∀ q ∈ fs, PySem.W.keepIn X.K (.ref q.1) = true ∧ ∃ k fd ps, FnOk X.prog X.w X.K X.mg X.base CX k q.1 fd ps q.2.1 ∧ Room k X.A ∧ Binds X.K fd ps [] ∧ ∀ σ, PassesAt CX X σ (q.2.2 σ))
    (ha : PA X (e :: es) t) (he : starEach (e :: es) X.env = (false, eval e X.env) :: starEach es X.env := by rfl) (hpl : (backTo pos (starEach es X.env)).any (·.1) = false := by rfl) :
    PE X (.Call (.Subscript a b p) (e :: es) [] pos) (tPickS tf fs t) := by
  refine ⟨fun pins s σ H Q I h => ?_⟩
  rw [arm_call_sub]
  refine wpAny_bind (thn (hf.run pins s σ H _ I h) fun u s1 ⟨v, H1, I1, r1, q, hq, hv, h1⟩ => ?_)
  subst hv
  cases r1
  obtain ⟨hk, k, fd, ps, F, hr, hb, hx⟩ := hc q hq
  refine PySem.W.callWith_K (h₀ := X.base) I1.ok.mod.kin hk (thn (ha.run pos pins s1 σ H1 _ I1 h1) fun us s2 ⟨vs, H2, I2, r, q2⟩ => ⟨I2.kIn, ?_⟩) he hpl
  exact run_fnS F hr hb (hx σ) I2 r q2
def tPick3S (i : Nat) (c0 c1 c2 : Sp × (St → XK)) (t : TA) : TE := fun σ H Q => ∃ n : Int, σ[i]? = some (some (.int n)) ∧ ∀ (vs : List V) (p : Addr), H p = none →
  (n = 0 ∧ tCallS c0.1 c0.2 t σ (upd H p (.lst vs)) Q) ∨ (n = 1 ∧ tCallS c1.1 c1.2 t σ (upd H p (.lst vs)) Q) ∨ (n = 2 ∧ tCallS c2.1 c2.2 t σ (upd H p (.lst vs)) Q)
theorem pe_pick3S {k0 : Nat} {f0 : Addr} {fd0 : FuncData} {ps0 : List Str} {sp0 : Sp} {E0 : St → XK} {x0 : Str} {q0 : Pos} {k1 : Nat} {f1 : Addr} {fd1 : FuncData} {ps1 : List Str} {sp1 : Sp} {E1 : St → XK} {x1 : Str} {q1 : Pos} {k2 : Nat} {f2 : Addr} {fd2 : FuncData} {ps2 : List Str} {sp2 : Sp} {E2 : St → XK} {x2 : Str} {q2 : Pos} {i : Nat} {lp wp : Pos} {wy : Str}
    (F0 : FnOk X.prog X.w X.K X.mg X.base CX k0 f0 fd0 ps0 sp0) (hr0 : Room k0 X.A) (hg0 : Gl X x0) (hm0 : X.mg x0 = some (.ref f0)) (hk0 : PySem.W.keepIn X.K (.ref f0) = true) (hb0 : Binds X.K fd0 ps0 []) (hx0 : ∀ σ, PassesAt CX X σ (E0 σ))
     (F1 : FnOk X.prog X.w X.K X.mg X.base CX k1 f1 fd1 ps1 sp1) (hr1 : Room k1 X.A) (hg1 : Gl X x1) (hm1 : X.mg x1 = some (.ref f1)) (hk1 : PySem.W.keepIn X.K (.ref f1) = true) (hb1 : Binds X.K fd1 ps1 []) (hx1 : ∀ σ, PassesAt CX X σ (E1 σ))
     (F2 : FnOk X.prog X.w X.K X.mg X.base CX k2 f2 fd2 ps2 sp2) (hr2 : Room k2 X.A) (hg2 : Gl X x2) (hm2 : X.mg x2 = some (.ref f2)) (hk2 : PySem.W.keepIn X.K (.ref f2) = true) (hb2 : Binds X.K fd2 ps2 []) (hx2 : ∀ σ, PassesAt CX X σ (E2 σ))
    (hw : PE X (.Name wy wp) (tVar i)) (hs : PlainIx (.Name wy wp))
    (ha : PA X (e :: es) t) (d0 : (x0 == ("__debug__" : Str)) = false := by decide) (d1 : (x1 == ("__debug__" : Str)) = false := by decide) (d2 : (x2 == ("__debug__" : Str)) = false := by decide) (he : starEach (e :: es) X.env = (false, eval e X.env) :: starEach es X.env := by rfl) (hpl : (backTo pos (starEach es X.env)).any (·.1) = false := by rfl)
    (hl : PA X [.Name x0 q0, .Name x1 q1, .Name x2 q2] (tCons (tC (.ref f0)) (tCons (tC (.ref f1)) (tCons (tC (.ref f2)) tNil))) := by exact pa_cons (pe_glob (by assumption) (by assumption) rfl (by assumption)) (pa_cons (pe_glob (by assumption) (by assumption) rfl (by assumption)) (pa_cons (pe_glob (by assumption) (by assumption) rfl (by assumption)) pa_nil))) :
    PE X (.Call (.Subscript (.List [.Name x0 q0, .Name x1 q1, .Name x2 q2] lp) (.Name wy wp) p) (e :: es) [] pos) (tPick3S i (sp0, E0) (sp1, E1) (sp2, E2) t) := by
  refine ⟨fun pins s σ H Q I h => ?_⟩
  refine (pe_pickS (CX := CX) (fs := [(f0, sp0, E0), (f1, sp1, E1), (f2, sp2, E2)]) (pe_ix ix_list (pe_lst hl) hw hs) (fun q hq => ?_) ha he hpl).run pins s σ H Q I ?_
  · simp only [List.mem_cons, List.not_mem_nil, or_false] at hq
    rcases hq with z | z | z <;> subst z
    · exact ⟨hk0, k0, fd0, ps0, F0, hr0, hb0, hx0⟩
    · exact ⟨hk1, k1, fd1, ps1, F1, hr1, hb1, hx1⟩
    · exact ⟨hk2, k2, fd2, ps2, F2, hr2, hb2, hx2⟩
  · obtain ⟨n, hn, h⟩ := h
    show 3 ≤ sizeLine ∧ ∀ p, H p = none → _
    refine ⟨by decide, fun a ha' => ⟨.int n, hn, ?_⟩⟩
    have h3 := h [.ref f0, .ref f1, .ref f2] a ha'
    rcases h3 with ⟨z, h3⟩ | ⟨z, h3⟩ | ⟨z, h3⟩ <;> subst z
    · exact ⟨a, _, 0, .ref f0, rfl, rfl, .inl (.inl upd_same), rfl, _, List.mem_cons_self, rfl, h3⟩
    · exact ⟨a, _, 1, .ref f1, rfl, rfl, .inl (.inl upd_same), rfl, _, List.mem_cons_of_mem _ List.mem_cons_self, rfl, h3⟩
    · exact ⟨a, _, 2, .ref f2, rfl, rfl, .inl (.inl upd_same), rfl, _, List.mem_cons_of_mem _ (List.mem_cons_of_mem _ List.mem_cons_self), rfl, h3⟩
end
end L2
namespace GL
open PySem L2
section
variable {C : Cn} {Γ : List Ent} {t : TA} {i : Nat} {sp0 sp1 sp2 : Sp} {E0 E1 E2 : L2.St → XK} {Res : Wd → V → Hp → Prop}
theorem evx_pick3 {n : Int} {ℓ' : Lv} (hi : Γ[i]? = some (.val ℓ' rInt n)) (hn : 0 ≤ n ∧ n < 3) (h0 : n = 0 → EvX C (tCallS sp0 E0 t) Γ Res) (h1 : n = 1 → EvX C (tCallS sp1 E1 t) Γ Res) (h2 : n = 2 → EvX C (tCallS sp2 E2 t) Γ Res) :
    EvX C (tPick3S i (sp0, E0) (sp1, E1) (sp2, E2) t) Γ Res := fun σ W w Q q => by
  obtain ⟨x, hv, _, v, rfl, hr⟩ := w.get hi
  obtain rfl : v = V.int n := hr
  refine ⟨n, hv, fun vs p hp => ?_⟩
  have sl := Stp.lay w.b (o := .lst vs) hp
  have bl := w.b.lay (o := .lst vs) (w.b.h0 hp) (w.b.nvs hp) (w.b.g0 hp)
  have w1 := w.stp bl sl
  have fin : ∀ W1 v H', Stp (W.lay p (.lst vs)) W1 → Bok C W1 → Res W1 v H' → Q v H' := fun W1 v H' s b r => q W1 v H' (sl.trans w.b bl s) b r
  rcases (show n = 0 ∨ n = 1 ∨ n = 2 by omega) with z | z | z
  · exact .inl ⟨z, h0 z σ _ w1 Q fin⟩
  · exact .inr (.inl ⟨z, h1 z σ _ w1 Q fin⟩)
  · exact .inr (.inr ⟨z, h2 z σ _ w1 Q fin⟩)
end
end GL


set_option Elab.async false
set_option linter.all false
set_option maxRecDepth 100000
set_option maxHeartbeats 1000000
/-! ### len(set(list of tuples of ints)); [x for x in l if x is not None] -/
namespace L2
open PySem PySem.Spec PyProof.Rows
def tLenSetT (K : PySem.W.Frag) (ta : TE) : TE := fun σ H Q => ta σ H fun x H1 => ∃ (l : Addr) (ks : List (Addr × List Int)), x = .ref l ∧ SqL K H1 l (ks.map fun p => V.ref p.1) ∧ (∀ p ∈ ks, SqT K H1 p.1 (p.2.map V.int)) ∧ ks.length < 64 ∧ Q (.int ((GL.ddG (ks.map (·.2))).length : Nat)) H1
theorem pe_lenSetT {X : Cx} {a : Expr} {ta : TE} {p p2 q pos : Pos} (hc : X.calm = true) (hu : X.A.units + 64 < cLine) (hg : Gl X "len") (hm : X.mg "len" = none) (hg2 : Gl X "set") (hm2 : X.mg "set" = none) (ha : PE X a ta)
    (na : starEach [a] X.env = (false, eval a X.env) :: starEach [] X.env := by rfl) : PE X (.Call (.Name "len" p) [.Call (.Name "set" p2) [a] [] q] [] pos) (tLenSetT X.K ta) := by
  refine ⟨fun pins s σ H Q I h => ?_⟩
  refine Call_ (ld_blt I hg hm boot_len ?_)
  refine PyProof.Rows.callWith_builtin1 (PyProof.Rows.args_cons ?_ rfl) rfl rfl
  refine Call_ (ld_blt I hg2 hm2 boot_set ?_)
  refine PyProof.Rows.callWith_type1 (PyProof.Rows.args_cons (thn (ha.run pins s σ H _ I h) fun v s1 ⟨x, H1, I1, r1, q1⟩ => PyProof.Rows.args_nil ?_) na) na rfl
  obtain ⟨l, ks, rfl, hl, hk, hf, q1⟩ := q1
  cases r1
  obtain ⟨its, rv, pl, hz⟩ := I1.list hl
  refine call_set_tups (P := X.prog) (w := X.w) ks (I1.ok.hd hc) pl.isList (by simpa using refs_of_vals rv) (fun p hp => I1.isT (hk p hp)) hf (by omega) fun h' tk L es ep t R g k => ?_
  refine PyProof.Rows.args_nil ?_
  have I2 : Inv X pins σ H1 { s1 with heap := h', toks := tk } := I1.kept k
  obtain ⟨o, ho, hex, hd⟩ := R.ob
  have hsz : es.size = L.length := by
    have := congrArg List.length R.rows
    rw [Array.length_toList] at this
    rw [this]
    unfold rowsOf
    rw [List.length_map]
  have hfew := R.few
  have hn : L.length = (GL.ddG (ks.map (·.2))).length := by
    have hp : (L.map (·.2)).Perm (GL.ddG (ks.map (·.2))) := (List.perm_ext_iff_of_nodup R.nd (GL.ddG_nd _)).mpr fun x => by
      rw [GL.ddG_mem]
      constructor
      · intro hx
        obtain ⟨p, hp, rfl⟩ := List.mem_map.mp hx
        exact List.mem_map.mpr ⟨p, List.mem_of_mem_take (g.sub p hp), rfl⟩
      · intro hx
        obtain ⟨p, hp, rfl⟩ := List.mem_map.mp hx
        exact g.all p (by rw [List.take_length]; exact hp)
    rw [← hp.length_eq, List.length_map]
  exact call_len_set ho hex hd (SetTR.fits (s := { s1 with heap := h', toks := tk }) R) (by rw [hsz]; omega) ⟨.int ((GL.ddG (ks.map (·.2))).length : Nat), H1, I2.tok _, ⟨_, by rw [hsz, hn]⟩, q1⟩
end L2
namespace GL
open PySem L2
theorem ddG_len {α : Type} [DecidableEq α] : ∀ {l : List α}, l.Nodup → (ddG l).length = l.length
  | [], _ => rfl
  | y :: l, h => by
    obtain ⟨h1, h2⟩ := List.nodup_cons.mp h
    unfold ddG
    rw [if_neg (fun z => h1 (ddG_mem.mp z)), List.length_cons, List.length_cons, ddG_len h2]
section
variable {C : Cn} {Γ : List Ent} {ta te : TE} {ℓ c : Lv} {K : PySem.W.Frag} {α : Type} {R : Rl α}
theorem tups_ks {H : Hp} : ∀ {xs : List V} {l : List (List Int)}, All2 ((rTup rInt).is H) xs l → ∃ ks : List (Addr × List Int), (ks.map fun p => V.ref p.1) = xs ∧ ks.map (·.2) = l ∧ ∀ p ∈ ks, Rd H p.1 (.tup (p.2.map V.int))
  | [], [], _ => ⟨[], rfl, rfl, fun p h => absurd h List.not_mem_nil⟩
  | x :: xs, a :: l, ⟨h1, h2⟩ => by
    obtain ⟨ks, e1, e2, e3⟩ := tups_ks h2
    obtain ⟨p, ys, rfl, hp, hy⟩ := h1
    have := hy.ints
    refine ⟨(p, a) :: ks, by rw [List.map_cons, e1], by rw [List.map_cons, e2], fun q hq => ?_⟩
    rcases List.mem_cons.mp hq with z | z
    · rw [z, ← this]; exact hp
    · exact e3 q z
theorem ev_lenSetT {l : List (List Int)} (ha : EvS C ta Γ .l c ℓ (rTup rInt) (fun x => x = l)) (hl : l.length < 64) : Ev C (tLenSetT K ta) Γ .h rInt ((ddG l).length : Int) := fun σ W w Q q =>
  ha σ W w _ fun p W1 xs l' s1 b1 e1 r1 p1 => by
    subst p1
    obtain ⟨ks, k1, k2, k3⟩ := tups_ks r1
    refine ⟨p, ks, rfl, by rw [k1]; exact sqL_of b1 e1, fun q hq => sqT_of b1 (k3 q hq), ?_, ?_⟩
    · have := congrArg List.length k2
      rw [List.length_map] at this
      omega
    · rw [k2]
      exact q _ W1 _ s1 b1 rfl rfl
end
end GL


set_option linter.all false
set_option maxHeartbeats 1000000
namespace TM
open GL
/-! ### the tree of a row: plain mathematics -/
def nb (row : List Int) (q : Nat) : Int := row.getD q 0
theorem gt_nb (row : List Int) (q : Nat) : gt row (q : Int) = nb row q := by
  unfold gt nb; rw [Int.toNat_natCast]; rfl
/-- nearest earlier place whose number is not above | nearest later place below m with a lesser number -/
def pv (row : List Int) (p : Nat) : Option Nat := ((List.range p).filter fun q => decide (nb row q ≤ nb row p)).getLast?
def nxt (row : List Int) (m p : Nat) : Option Nat := ((List.range m).filter fun q => decide (p < q ∧ nb row q < nb row p)).head?
def eld (row : List Int) (m p : Nat) : Int := match pv row p, nxt row m p with
  | none, none => -1
  | some a, none => a
  | none, some b => b
  | some a, some b => if nb row a ≤ nb row b then b else a
def treeB (row : List Int) (m : Nat) : List Int := (List.range row.length).map fun p => if p < m then eld row m p else -1
def treeOf (row : List Int) : List Int := (List.range row.length).map fun p => eld row row.length p
def opens (row : List Int) (m : Nat) : List Nat := (List.range m).filter fun q => (List.range m).all fun j => decide (j ≤ q ∨ nb row q ≤ nb row j)

theorem pv_some {row : List Int} {p a : Nat} : pv row p = some a ↔ a < p ∧ nb row a ≤ nb row p ∧ ∀ b, a < b → b < p → nb row p < nb row b := by
  unfold pv
  constructor
  · intro h
    have hm := List.mem_of_getLast? h
    rw [List.mem_filter, List.mem_range, decide_eq_true_eq] at hm
    refine ⟨hm.1, hm.2, fun b h1 h2 => ?_⟩
    rcases Int.lt_or_le (nb row p) (nb row b) with h3 | h3
    · exact h3
    exfalso
    have hb : b ∈ (List.range p).filter fun q => decide (nb row q ≤ nb row p) := by
      rw [List.mem_filter, List.mem_range, decide_eq_true_eq]; exact ⟨h2, h3⟩
    have hs : ((List.range p).filter fun q => decide (nb row q ≤ nb row p)).Pairwise (· < ·) := List.Pairwise.filter _ List.pairwise_lt_range
    generalize hl : ((List.range p).filter fun q => decide (nb row q ≤ nb row p)) = l at h hb hs
    obtain ⟨l', rfl⟩ : ∃ l', l = l' ++ [a] := by
      rcases List.eq_nil_or_concat l with e | ⟨l', x, e⟩
      · rw [e] at h; cases h
      · rw [e] at h
        simp at h
        exact ⟨l', by rw [e, h]; simp⟩
    rw [List.mem_append, List.mem_singleton] at hb
    rcases hb with hb | hb
    · have := (List.pairwise_append.mp hs).2.2 b hb a (by simp)
      omega
    · omega
  · rintro ⟨h1, h2, h3⟩
    have e : List.range p = List.range (a + 1) ++ (List.range (p - (a + 1))).map (a + 1 + ·) := by
      rw [← List.range_add]; congr 1; omega
    rw [e, List.filter_append, List.range_succ, List.filter_append]
    have e2 : ((List.range (p - (a + 1))).map (a + 1 + ·)).filter (fun q => decide (nb row q ≤ nb row p)) = [] := by
      rw [List.filter_eq_nil_iff]
      intro q hq
      rw [List.mem_map] at hq
      obtain ⟨i, hi, rfl⟩ := hq
      rw [List.mem_range] at hi
      have := h3 (a + 1 + i) (by omega) (by omega)
      simp; omega
    rw [e2, List.append_nil]
    simp [h2]
theorem pv_none {row : List Int} {p : Nat} : pv row p = none ↔ ∀ b, b < p → nb row p < nb row b := by
  unfold pv
  rw [List.getLast?_eq_none_iff, List.filter_eq_nil_iff]
  constructor
  · intro h b hb
    have := h b (List.mem_range.mpr hb)
    simp at this; omega
  · intro h b hb
    have := h b (List.mem_range.mp hb)
    simp; omega
theorem nxt_some {row : List Int} {m p b : Nat} : nxt row m p = some b ↔ p < b ∧ b < m ∧ nb row b < nb row p ∧ ∀ c, p < c → c < b → nb row p ≤ nb row c := by
  unfold nxt
  constructor
  · intro h
    have hm := List.mem_of_head? h
    rw [List.mem_filter, List.mem_range, decide_eq_true_eq] at hm
    refine ⟨hm.2.1, hm.1, hm.2.2, fun c h1 h2 => ?_⟩
    rcases Int.lt_or_le (nb row c) (nb row p) with h3 | h3
    · exfalso
      have hb : c ∈ (List.range m).filter fun q => decide (p < q ∧ nb row q < nb row p) := by
        rw [List.mem_filter, List.mem_range, decide_eq_true_eq]; exact ⟨by omega, h1, h3⟩
      have hs : ((List.range m).filter fun q => decide (p < q ∧ nb row q < nb row p)).Pairwise (· < ·) := List.Pairwise.filter _ List.pairwise_lt_range
      generalize hl : ((List.range m).filter fun q => decide (p < q ∧ nb row q < nb row p)) = l at h hb hs
      cases l with
      | nil => cases h
      | cons x l =>
        have : x = b := by simpa using h
        subst this
        rcases List.mem_cons.mp hb with e | hb
        · omega
        · have := (List.pairwise_cons.mp hs).1 c hb
          omega
    · exact h3
  · rintro ⟨h1, h2, h3, h4⟩
    have e : List.range m = List.range b ++ (List.range (m - b)).map (b + ·) := by
      rw [← List.range_add]; congr 1; omega
    have e2 : (List.range b).filter (fun q => decide (p < q ∧ nb row q < nb row p)) = [] := by
      rw [List.filter_eq_nil_iff]
      intro q hq
      rw [List.mem_range] at hq
      simp only [decide_eq_true_eq, not_and]
      intro hpq
      have := h4 q hpq hq
      omega
    rw [e, List.filter_append, e2, List.nil_append]
    obtain ⟨k, hk⟩ : ∃ k, m - b = k + 1 := ⟨m - b - 1, by omega⟩
    rw [hk, List.range_succ_eq_map]
    simp [h1, h3]
theorem nxt_none {row : List Int} {m p : Nat} : nxt row m p = none ↔ ∀ c, p < c → c < m → nb row p ≤ nb row c := by
  unfold nxt
  rw [List.head?_eq_none_iff, List.filter_eq_nil_iff]
  constructor
  · intro h c h1 h2
    have := h c (List.mem_range.mpr h2)
    simp only [decide_eq_true_eq, not_and] at this
    have := this h1
    omega
  · intro h c hc
    simp only [decide_eq_true_eq, not_and]
    intro h1
    have := h c h1 (List.mem_range.mp hc)
    omega
theorem mem_opens {row : List Int} {m q : Nat} : q ∈ opens row m ↔ q < m ∧ ∀ j, q < j → j < m → nb row q ≤ nb row j := by
  unfold opens
  rw [List.mem_filter, List.mem_range, List.all_eq_true]
  constructor
  · rintro ⟨h1, h2⟩
    refine ⟨h1, fun j h3 h4 => ?_⟩
    have := h2 j (List.mem_range.mpr h4)
    simp only [decide_eq_true_eq] at this
    omega
  · rintro ⟨h1, h2⟩
    refine ⟨h1, fun j hj => ?_⟩
    simp only [decide_eq_true_eq]
    by_cases h : j ≤ q
    · exact .inl h
    · exact .inr (h2 j (by omega) (List.mem_range.mp hj))
theorem opens_sorted (row : List Int) (m : Nat) : (opens row m).Pairwise (· < ·) := List.Pairwise.filter _ List.pairwise_lt_range
theorem opens_succ (row : List Int) (m : Nat) : opens row (m + 1) = (opens row m).filter (fun q => decide (nb row q ≤ nb row m)) ++ [m] := by
  unfold opens
  rw [List.range_succ, List.filter_append, List.filter_filter]
  congr 1
  · refine List.filter_congr fun q hq => ?_
    rw [List.mem_range] at hq
    rw [List.all_append, Bool.and_comm]
    congr 1
    simp only [List.all_cons, List.all_nil, Bool.and_true]
    rw [decide_eq_decide]
    constructor
    · rintro (h | h)
      · omega
      · exact h
    · exact .inr
  · rw [List.filter_eq_self]
    intro q hq
    rw [List.mem_singleton] at hq
    subst hq
    rw [List.all_eq_true]
    intro j hj
    simp only [List.mem_append, List.mem_range, List.mem_singleton] at hj
    simp only [decide_eq_true_eq]
    omega
/-- what stands below a place among the open ones is the nearest earlier place not above -/
theorem pv_opens {row : List Int} {m j p : Nat} (h : (opens row m)[j]? = some p) : pv row p = if j = 0 then none else (opens row m)[j - 1]? := by
  have hs := opens_sorted row m
  have hj : j < (opens row m).length := (List.getElem?_eq_some_iff.mp h).1
  have hp : (opens row m)[j] = p := by rw [List.getElem?_eq_getElem hj] at h; exact Option.some.inj h
  have pm := mem_opens.mp (List.mem_of_getElem? h)
  -- the nearest earlier one, if any, is open
  have key : ∀ a, pv row p = some a → ∃ i, i < j ∧ (opens row m)[i]? = some a := fun a ha => by
    obtain ⟨h1, h2, h3⟩ := pv_some.mp ha
    have ao : a ∈ opens row m := mem_opens.mpr ⟨by omega, fun c h4 h5 => by
      rcases Nat.lt_trichotomy c p with h | h | h
      · have := h3 c h4 h; omega
      · rw [h]; exact h2
      · have := pm.2 c h h5; omega⟩
    obtain ⟨i, hi, e⟩ := List.getElem_of_mem ao
    refine ⟨i, ?_, by rw [List.getElem?_eq_getElem hi, e]⟩
    rcases Nat.lt_trichotomy i j with h | h | h
    · exact h
    · subst h; rw [hp] at e; omega
    · have := List.pairwise_iff_getElem.mp hs j i hj hi h
      rw [hp, e] at this; omega
  by_cases h0 : j = 0
  · rw [if_pos h0]
    cases e : pv row p with
    | none => rfl
    | some a =>
      obtain ⟨i, hi, _⟩ := key a e
      omega
  · rw [if_neg h0]
    have hj1 : j - 1 < (opens row m).length := by omega
    rw [List.getElem?_eq_getElem hj1]
    generalize hb : (opens row m)[j - 1] = b
    have bm := mem_opens.mp (hb ▸ List.getElem_mem hj1)
    have blt : b < p := by
      have := List.pairwise_iff_getElem.mp hs (j - 1) j hj1 hj (by omega)
      rw [hb, hp] at this; exact this
    have ble : nb row b ≤ nb row p := bm.2 p blt pm.1
    cases e : pv row p with
    | none =>
      have := pv_none.mp e b blt
      omega
    | some a =>
      obtain ⟨i, hi, ei⟩ := key a e
      have hil : i < (opens row m).length := by omega
      rw [List.getElem?_eq_getElem hil] at ei
      have ei' := Option.some.inj ei
      rcases Nat.lt_or_ge i (j - 1) with h | h
      · have hab := List.pairwise_iff_getElem.mp hs i (j - 1) hil hj1 h
        rw [ei', hb] at hab
        have := (pv_some.mp e).2.2 b hab blt
        omega
      · have : i = j - 1 := by omega
        subst this
        rw [← hb, ei']
theorem filter_take {f : Nat → Int} {x : Int} : ∀ {l : List Nat} {L : Nat}, l.Pairwise (fun a b => f a ≤ f b) → L ≤ l.length → (∀ j (h : j < l.length), L ≤ j → x < f l[j]) → (∀ (h : 0 < L) (h' : L - 1 < l.length), f l[L - 1] ≤ x) → l.filter (fun q => decide (f q ≤ x)) = l.take L := by
  intro l L hp hl h1 h2
  conv => lhs; rw [← List.take_append_drop L l]
  rw [List.filter_append]
  have e1 : (l.take L).filter (fun q => decide (f q ≤ x)) = l.take L := by
    rw [List.filter_eq_self]
    intro a ha
    obtain ⟨i, hi, e⟩ := List.getElem_of_mem ha
    rw [List.length_take] at hi
    rw [List.getElem_take] at e
    have hL : 0 < L := by omega
    have h3 := h2 hL (by omega)
    rcases Nat.lt_or_ge i (L - 1) with h | h
    · have := List.pairwise_iff_getElem.mp hp i (L - 1) (by omega) (by omega) h
      rw [e] at this
      simp; omega
    · have : i = L - 1 := by omega
      subst this
      rw [e] at h3
      simp; omega
  have e2 : (l.drop L).filter (fun q => decide (f q ≤ x)) = [] := by
    rw [List.filter_eq_nil_iff]
    intro a ha
    obtain ⟨i, hi, e⟩ := List.getElem_of_mem ha
    rw [List.length_drop] at hi
    rw [List.getElem_drop] at e
    have := h1 (L + i) (by omega) (by omega)
    rw [e] at this
    simp; omega
  rw [e1, e2, List.append_nil]
theorem opens_mono (row : List Int) (m : Nat) : (opens row m).Pairwise (fun a b => nb row a ≤ nb row b) := by
  rw [List.pairwise_iff_getElem]
  intro i j hi hj hij
  have h := List.pairwise_iff_getElem.mp (opens_sorted row m) i j hi hj hij
  exact (mem_opens.mp (List.getElem_mem hi)).2 _ h (mem_opens.mp (List.getElem_mem hj)).1
theorem treeB_get {row : List Int} {m p : Nat} (h : p < row.length) : (treeB row m)[p]? = some (if p < m then eld row m p else -1) := by
  unfold treeB
  rw [List.getElem?_map, List.getElem?_range h]; rfl
theorem treeB_len (row : List Int) (m : Nat) : (treeB row m).length = row.length := by simp [treeB]
theorem treeB_0 (row : List Int) : treeB row 0 = List.replicate row.length (-1) := by
  refine List.ext_getElem? fun p => ?_
  by_cases h : p < row.length
  · rw [treeB_get h, List.getElem?_replicate, if_pos h]; simp
  · rw [List.getElem?_eq_none (by rw [treeB_len]; omega), List.getElem?_eq_none (by simp; omega)]
theorem treeB_all (row : List Int) : treeB row row.length = treeOf row := by
  unfold treeB treeOf
  refine List.map_congr_left fun p hp => ?_
  rw [if_pos (List.mem_range.mp hp)]
/-- one place more -/
theorem eld_succ {row : List Int} {m p : Nat} (hp : p < m) : eld row (m + 1) p = if p ∈ opens row m ∧ nb row m < nb row p then (match pv row p with | none => (m : Int) | some a => if nb row a ≤ nb row m then m else a) else eld row m p := by
  by_cases h : p ∈ opens row m ∧ nb row m < nb row p
  · rw [if_pos h]
    have e : nxt row (m + 1) p = some m := nxt_some.mpr ⟨hp, by omega, h.2, fun c h1 h2 => (mem_opens.mp h.1).2 c h1 h2⟩
    unfold eld
    rw [e]
    cases pv row p <;> rfl
  · rw [if_neg h]
    have e : nxt row (m + 1) p = nxt row m p := by
      cases q : nxt row m p with
      | some b =>
        obtain ⟨h1, h2, h3, h4⟩ := nxt_some.mp q
        exact nxt_some.mpr ⟨h1, by omega, h3, h4⟩
      | none =>
        have q' := nxt_none.mp q
        refine nxt_none.mpr fun c h1 h2 => ?_
        rcases Nat.lt_or_ge c m with h3 | h3
        · exact q' c h1 h3
        · have : c = m := by omega
          subst this
          rcases Int.lt_or_le (nb row c) (nb row p) with h4 | h4
          · exact absurd ⟨mem_opens.mpr ⟨hp, q'⟩, h4⟩ h
          · exact h4
    unfold eld
    rw [e]
/-- one turn of the stack: the open ones cut to L, the first one that goes hangs under m, m under the last that stays -/
theorem tree_step {row : List Int} {m L : Nat} (hm : m < row.length) (hL : L ≤ (opens row m).length) (h1 : ∀ j (h : j < (opens row m).length), L ≤ j → nb row m < nb row (opens row m)[j]) (h2 : ∀ (h : 0 < L) (h' : L - 1 < (opens row m).length), nb row (opens row m)[L - 1] ≤ nb row m) :
    opens row (m + 1) = (opens row m).take L ++ [m] ∧
    treeB row (m + 1) = (match (opens row m)[L]? with | none => treeB row m | some g => (treeB row m).set g m).set m (match ((opens row m).take L).getLast? with | none => -1 | some a => (a : Int)) := by
  have ho : opens row (m + 1) = (opens row m).take L ++ [m] := by
    rw [opens_succ, filter_take (f := nb row) (opens_mono row m) hL h1 h2]
  refine ⟨ho, ?_⟩
  have lenT : ((opens row m).take L).length = L := by rw [List.length_take]; omega
  have getm : (opens row (m + 1))[L]? = some m := by
    rw [ho, List.getElem?_append_right (by omega), lenT, Nat.sub_self]; rfl
  have pvm : pv row m = ((opens row m).take L).getLast? := by
    rw [pv_opens getm, List.getLast?_eq_getElem?, lenT]
    by_cases h0 : L = 0
    · subst h0; simp
    · rw [if_neg h0, ho, List.getElem?_append_left (by omega)]
  refine List.ext_getElem? fun p => ?_
  by_cases hp : p < row.length
  · rw [treeB_get hp]
    by_cases e : m = p
    · subst e
      rw [List.getElem?_set_self (by cases (opens row m)[L]? <;> simp [treeB_len, hm]), if_pos (by omega)]
      congr 1
      have en : nxt row (m + 1) m = none := nxt_none.mpr fun c h1 h2 => by omega
      unfold eld
      rw [en, pvm]
      cases ((opens row m).take L).getLast? <;> rfl
    · rw [List.getElem?_set_ne e]
      by_cases hpm : p < m
      · rw [if_pos (by omega), eld_succ hpm]
        cases eg : (opens row m)[L]? with
        | none =>
          show _ = (treeB row m)[p]?
          rw [treeB_get hp, if_pos hpm, if_neg]
          rintro ⟨ho', hlt⟩
          obtain ⟨i, hi, ei⟩ := List.getElem_of_mem ho'
          rw [List.getElem?_eq_none_iff] at eg
          have h3 : 0 < L := by omega
          have h4 := h2 h3 (by omega)
          have h5 : nb row (opens row m)[i] ≤ nb row (opens row m)[L - 1] := by
            rcases Nat.lt_or_ge i (L - 1) with h | h
            · exact List.pairwise_iff_getElem.mp (opens_mono row m) i (L - 1) hi (by omega) h
            · have : i = L - 1 := by omega
              subst this
              exact Int.le_refl _
          rw [ei] at h5
          omega
        | some g =>
          show _ = ((treeB row m).set g m)[p]?
          have hgl : L < (opens row m).length := (List.getElem?_eq_some_iff.mp eg).1
          have hge : (opens row m)[L] = g := by rw [List.getElem?_eq_getElem hgl] at eg; exact Option.some.inj eg
          have gm := mem_opens.mp (hge ▸ List.getElem_mem hgl)
          by_cases eg2 : g = p
          · subst eg2
            rw [List.getElem?_set_self (by rw [treeB_len]; omega), if_pos ⟨mem_opens.mpr gm, by have := h1 L hgl (Nat.le_refl _); rw [hge] at this; exact this⟩]
            congr 1
            rw [pv_opens eg]
            by_cases h0 : L = 0
            · rw [if_pos h0]
            · rw [if_neg h0]
              have hl1 : L - 1 < (opens row m).length := by omega
              rw [List.getElem?_eq_getElem hl1]
              show (if nb row (opens row m)[L - 1] ≤ nb row m then _ else _) = _
              rw [if_pos (h2 (by omega) hl1)]
          · rw [List.getElem?_set_ne eg2, treeB_get hp, if_pos hpm]
            congr 1
            by_cases hc : p ∈ opens row m ∧ nb row m < nb row p
            · rw [if_pos hc]
              obtain ⟨i, hi, ei⟩ := List.getElem_of_mem hc.1
              have hiL : L < i := by
                rcases Nat.lt_trichotomy i L with h | h | h
                · exfalso
                  have h4 := h2 (by omega) (by omega)
                  have h5 : nb row (opens row m)[i] ≤ nb row (opens row m)[L - 1] := by
                    rcases Nat.lt_or_ge i (L - 1) with h | h
                    · exact List.pairwise_iff_getElem.mp (opens_mono row m) i (L - 1) hi (by omega) h
                    · have : i = L - 1 := by omega
                      subst this
                      exact Int.le_refl _
                  rw [ei] at h5
                  have := hc.2
                  omega
                · subst h; rw [hge] at ei; exact absurd ei eg2
                · exact h
              have epv : pv row p = some (opens row m)[i - 1] := by
                rw [pv_opens (m := m) (j := i) (by rw [List.getElem?_eq_getElem hi, ei]), if_neg (by omega), List.getElem?_eq_getElem (by omega)]
              rw [epv]
              have h6 := h1 (i - 1) (by omega) (by omega)
              show (if nb row (opens row m)[i - 1] ≤ nb row m then _ else _) = _
              rw [if_neg (by omega)]
              unfold eld
              rw [epv, nxt_none.mpr (mem_opens.mp hc.1).2]
            · rw [if_neg hc]
      · rw [if_neg (by omega)]
        cases eg : (opens row m)[L]? with
        | none =>
          show _ = (treeB row m)[p]?
          rw [treeB_get hp, if_neg hpm]
        | some g =>
          show _ = ((treeB row m).set g m)[p]?
          have hgl : L < (opens row m).length := (List.getElem?_eq_some_iff.mp eg).1
          have hge : (opens row m)[L] = g := by rw [List.getElem?_eq_getElem hgl] at eg; exact Option.some.inj eg
          have gm := mem_opens.mp (hge ▸ List.getElem_mem hgl)
          rw [List.getElem?_set_ne (by omega), treeB_get hp, if_neg hpm]
  · rw [List.getElem?_eq_none (by rw [treeB_len]; omega), List.getElem?_eq_none]
    rw [List.length_set]
    cases (opens row m)[L]? <;> simp [treeB_len] <;> omega
end TM


set_option linter.all false
set_option maxHeartbeats 1000000
namespace GL
open PySem L2
def veB : List Value := [.type "ValueError", .type "Exception", .type "BaseException", .type "object"]
/-- what the written part says of an own class of errors at C -/
structure ExcT (K : PySem.W.Frag) (mg : Str → Option Value) (C : Addr) (nm : Str) : Prop where
  x : PySem.W.excIn K C veB "ValueError.__new__" = true
  g : mg nm = some (.ref C)
  k : PySem.W.keepIn K (.ref C) = true
  b : PySem.W.subIn K (.ref C) (.type "BaseException") = some true
  t : PySem.W.typeIn K (.ref C) = some (.type "type")
end GL
namespace L2
open PySem PySem.Spec PyProof.Rows
section
variable {X : Cx} {a b c d : Expr} {ta tb tc td : TE} {pos : Pos}
def tChain3 (r r' r'' : R2) (ta tb tc td : TE) : TE := fun σ H Q => ta σ H fun x H1 => tb σ H1 fun y H2 => r x y H2 fun z H3 => ∃ k, z = .bl k ∧
  (if k = true then tc σ H3 fun v H4 => r' y v H4 fun z' H5 => ∃ k', z' = .bl k' ∧ (if k' = true then td σ H5 fun u H6 => r'' v u H6 Q else Q (.bl false) H5) else Q (.bl false) H3)
end
end L2
namespace GL
open PySem L2
variable {C : Cn} {Γ : List Ent} {ta tb tc td : TE}
end GL
open PySem L2 in
theorem roomUn {k : Nat} {A : Around} (h : Room k A) : A.units + 64 < cLine := by have := h.un; omega
def oget {α : Type} [Inhabited α] (o : Option α) : α := o.getD default
theorem oget_some {α : Type} [Inhabited α] {o : Option α} (h : ¬ o = none) : o = some (oget o) := by cases o with | none => exact absurd rfl h | some x => rfl
theorem some_of {α : Type} {o : Option α} (h : ¬ o = none) : ∃ x, o = some x := by cases o with | none => exact absurd rfl h | some x => exact ⟨x, rfl⟩
open PySem L2 GL in
theorem same_hid_upd {H : Hp} {p : Addr} {o : HO} : Same (hid H [p]) (hid (upd H p o) [p]) := fun q u h => by
  obtain ⟨h1, h2⟩ := hid_some h
  rw [hid_out h1, upd_ne (fun z => h1 (by rw [z]; exact List.mem_singleton.mpr rfl))]
  exact h2
namespace TM
open GL
theorem tree_in {row : List Int} {i : Nat} {S0 S : List Int} {n : Nat} (h0 : S0 = (TM.opens row i).map fun (q : Nat) => (q : Int)) (hi : i < row.length) (h1 : S = S0.take n) (hs : S ≠ []) : 0 ≤ gtB S 1 ∧ gtB S 1 < row.length := by
  have hm : gtB S 1 ∈ S := gtB_mem ⟨by decide, List.length_pos_iff.mpr hs⟩
  generalize gtB S 1 = z at hm
  rw [h1] at hm
  have := List.mem_of_mem_take hm
  rw [h0, List.mem_map] at this
  obtain ⟨q, hq, e⟩ := this
  have := (TM.mem_opens.mp hq).1
  omega
theorem tree_pop {row S0 S : List Int} {x g : Int} (h0 : S.length ≤ S0.length) (h1 : S = S0.take S.length) (h2 : ∀ j, S.length ≤ j → ∀ q, S0[j]? = some q → x < gt row q) (hs : ¬ S = []) (hg : x < gt row (gtB S 1)) (e : g = gtB S 1) :
    ((S.dropLast.length ≤ S0.length) ∧ (S.dropLast = S0.take S.dropLast.length) ∧ (∀ j, S.dropLast.length ≤ j → ∀ q, S0[j]? = some q → x < gt row q) ∧ (some g = S0[S.dropLast.length]?)) ∧ S.dropLast.length < S.length := by
  have hp : 0 < S.length := List.length_pos_iff.mpr hs
  have hl : S.dropLast.length = S.length - 1 := List.length_dropLast
  have hd : S[S.length - 1]? = some (gtB S 1) := gtB_get ⟨by decide, hp⟩
  have h0' : S0[S.length - 1]? = some (gtB S 1) := by
    rw [← hd]
    conv => rhs; rw [h1]
    rw [List.getElem?_take]
    rw [if_pos]
    · rw [List.length_take]; congr 1; omega
    · rw [List.length_take]; omega
  rw [hl]
  refine ⟨⟨by omega, ?_, ?_, ?_⟩, by omega⟩
  · conv => lhs; rw [h1]
    rw [List.dropLast_eq_take, List.take_take, List.length_take]
    congr 1; omega
  · intro j hj q hq
    by_cases e2 : S.length ≤ j
    · exact h2 j e2 q hq
    · have : j = S.length - 1 := by omega
      subst this
      rw [h0'] at hq
      cases hq
      exact hg
  · rw [h0', e]
theorem tree_open {row S0 S : List Int} {i : Nat} (h : S.length ≤ S0.length) (h1 : S0 = (opens row i).map fun (q : Nat) => (q : Int)) : S.length ≤ i := by
  rw [h1, List.length_map] at h
  have : (opens row i).length ≤ i := by unfold opens; exact Nat.le_trans (List.length_filter_le ..) (by simp)
  omega
theorem tree_set {row E S0 S : List Int} {i : Nat} {g : Option Int} {y : Int} (h0 : E = treeB row i) (h1 : S0 = (opens row i).map fun (q : Nat) => (q : Int)) (h2 : g = S0[S.length]?) (hg : g = some y) (hi : i < row.length) : 0 ≤ y ∧ y < E.length := by
  rw [h2, h1, List.getElem?_map] at hg
  cases e : (opens row i)[S.length]? with
  | none => rw [e] at hg; cases hg
  | some q =>
    rw [e] at hg
    cases hg
    have := (mem_opens.mp (List.mem_of_getElem? e)).1
    rw [h0, treeB_len]
    show 0 ≤ (q : Int) ∧ (q : Int) < _
    omega
def setO (E : List Int) (g : Option Int) (p : Int) : List Int := match g with | none => E | some g => E.set g.toNat p
theorem tree_len {row E E1 : List Int} {i : Nat} {p : Int} {g : Option Int} (h0 : E = treeB row i) (h : E1 = setO E g p) : E1.length = row.length := by
  rw [h]; cases g <;> simp [setO, h0, treeB_len]
theorem tree_fin {E1 E2 S : List Int} {i : Nat} {T : List Nat} {p : Int} (hi : E1[i]? = some (-1)) (hl : T.length = S.length) (ht : S = T.map fun (q : Nat) => (q : Int)) (b0 : S ≠ [] → E2 = E1.set p.toNat (gtB S 1)) (b1 : S = [] → E2 = E1) (e1 : p = (i : Int)) :
    E2 = E1.set i (match T.getLast? with | none => -1 | some a => (a : Int)) := by
  by_cases hs : S = []
  · rw [b1 hs]
    have : T = [] := by apply List.eq_nil_of_length_eq_zero; rw [hl, hs]; rfl
    subst this
    show E1 = E1.set i (-1)
    refine List.ext_getElem? fun q => ?_
    by_cases hp : i = q
    · subst hp
      rw [List.getElem?_set_self (List.getElem?_eq_some_iff.mp hi).1, hi]
    · rw [List.getElem?_set_ne hp]
  · rw [b0 hs, e1]
    have hp : 0 < S.length := List.length_pos_iff.mpr hs
    have hd : S[S.length - 1]? = some (gtB S 1) := gtB_get ⟨by decide, hp⟩
    have : ∃ a, T.getLast? = some a ∧ gtB S 1 = (a : Int) := by
      rw [List.getLast?_eq_getElem?, hl]
      generalize gtB S 1 = z at *
      rw [ht] at hd
      rw [List.getElem?_map] at hd
      simp only [List.length_map, hl] at hd
      cases e : T[S.length - 1]? with
      | none => rw [e] at hd; cases hd
      | some a =>
        rw [e] at hd
        exact ⟨a, rfl, (Option.some.inj hd).symm⟩
    obtain ⟨a, q1, q2⟩ := this
    rw [q1, q2, Int.toNat_natCast]
theorem tree_turn {row E S0 S E1 E2 : List Int} {i : Nat} {g : Option Int} {x : Int × Int} (h0 : E = treeB row i) (h1 : S0 = (opens row i).map fun (q : Nat) => (q : Int))
    (a0 : S.length ≤ S0.length) (a1 : S = S0.take S.length) (a2 : ∀ j, S.length ≤ j → ∀ q, S0[j]? = some q → x.2 < gt row q) (a3 : g = S0[S.length]?)
    (hw : ¬ (¬ S = [] ∧ x.2 < gt row (gtB S 1))) (j0 : E1 = setO E g x.1)
    (b0 : S ≠ [] → E2 = E1.set x.1.toNat (gtB S 1)) (b1 : S = [] → E2 = E1) (hx : (enu row)[i]? = some x) :
    (E2 = treeB row (i + 1)) ∧ (S ++ [x.1] = (opens row (i + 1)).map fun (q : Nat) => (q : Int)) := by
  obtain ⟨e1, e2⟩ := enu_at hx
  have hi := at_lt e2
  have ex : x.2 = nb row i := by
    unfold nb; rw [List.getD_eq_getElem?_getD, e2]; rfl
  have hlen : S.length ≤ (opens row i).length := by rw [h1, List.length_map] at a0; exact a0
  have key := tree_step (L := S.length) hi hlen (fun j h hj => by
      have := a2 j hj _ (by rw [h1, List.getElem?_map, List.getElem?_eq_getElem h]; rfl)
      rw [gt_nb, ex] at this; exact this) (fun h h' => by
      have hd : S[S.length - 1]? = some (gtB S 1) := gtB_get ⟨by decide, h⟩
      have hs : ¬ S = [] := List.length_pos_iff.mp h
      have hn : ¬ x.2 < gt row (gtB S 1) := fun z => hw ⟨hs, z⟩
      have : gtB S 1 = ((opens row i)[S.length - 1] : Nat) := by
        have q : S0[S.length - 1]? = some (gtB S 1) := by
          rw [← hd]
          conv => rhs; rw [a1]
          rw [List.getElem?_take]
          rw [if_pos]
          · rw [List.length_take]; congr 1; omega
          · rw [List.length_take]; omega
        rw [h1, List.getElem?_map, List.getElem?_eq_getElem h'] at q
        exact (Option.some.inj q).symm
      rw [this, gt_nb, ex] at hn
      omega)
  obtain ⟨k1, k2⟩ := key
  have ht : S = ((opens row i).take S.length).map fun (q : Nat) => (q : Int) := by
    conv => lhs; rw [a1, h1]
    rw [List.map_take]
  refine ⟨?_, ?_⟩
  · have fin : ∀ T : List Int, E1 = T → T.length = row.length → T[i]? = some (-1) → treeB row (i + 1) = T.set i (match ((opens row i).take S.length).getLast? with | none => -1 | some a => (a : Int)) → E2 = treeB row (i + 1) := by
      intro T hT hTl hTi hTe
      subst hT
      rw [hTe]
      exact tree_fin hTi (by rw [List.length_take]; omega) ht b0 b1 e1
    cases e : (opens row i)[S.length]? with
    | none =>
      rw [e] at k2
      refine fin (treeB row i) ?_ (treeB_len ..) (by rw [treeB_get hi, if_neg (by omega)]) k2
      rw [j0, a3, h1, List.getElem?_map, e, h0]; rfl
    | some g' =>
      rw [e] at k2
      have := (mem_opens.mp (List.mem_of_getElem? e)).1
      refine fin ((treeB row i).set g' i) ?_ (by rw [List.length_set, treeB_len]) (by rw [List.getElem?_set_ne (by omega), treeB_get hi, if_neg (by omega)]) k2
      rw [j0, a3, h1, List.getElem?_map, e, h0, e1]
      show (treeB row i).set (g' : Int).toNat _ = _
      rw [Int.toNat_natCast]
  · rw [k1, List.map_append, ← ht, e1]; rfl
end TM


set_option linter.all false
set_option maxHeartbeats 1000000
namespace TM
open GL
/-- first place of the least of a stretch -/
def low (row : List Int) (a b : Int) : Int := a + (((sl row (some a) (some (b + 1))).idxOf (lmin (sl row (some a) (some (b + 1)))) : Nat) : Int)
/-- what hangs over the stretch a..b -/
def tv (row : List Int) (a b : Nat) : Int :=
  if a = 0 then (if b < row.length then (b : Int) else -1)
  else if b < row.length then (if nb row (a - 1) ≤ nb row b then (b : Int) else ((a - 1 : Nat) : Int)) else ((a - 1 : Nat) : Int)
/-- a stretch a..b-1 -/
structure Good (row : List Int) (a b : Nat) (e : Int) : Prop where
  ab : a ≤ b
  bn : b ≤ row.length
  l : 0 < a → ∀ j, a ≤ j → j < b → nb row (a - 1) ≤ nb row j
  r : b < row.length → ∀ j, a ≤ j → j < b → nb row b < nb row j
  e : e = tv row a b
def GoodT (row : List Int) (s : Int × Int × Int) : Prop := 0 ≤ s.1 ∧ 0 ≤ s.2.1 + 1 ∧ Good row s.1.toNat (s.2.1 + 1).toNat s.2.2
def muT (s : Int × Int × Int) : Nat := (2 * (s.2.1 + 1 - s.1) + 1).toNat
def mu (left : List (Int × Int × Int)) : Nat := (left.map muT).sum
structure TI (row E : List Int) (left : List (Int × Int × Int)) : Prop where
  len : E.length = row.length
  good : ∀ s ∈ left, GoodT row s
  mu : mu left ≤ 2 * row.length + 1
  all : ∀ p, p < row.length → (∃ s ∈ left, s.1 ≤ (p : Int) ∧ (p : Int) ≤ s.2.1) ∨ E[p]? = some (eld row row.length p)
/-- the first least of a stretch, by what it is -/
theorem low_spec {row : List Int} {a b : Int} (h : 0 ≤ a ∧ a ≤ b ∧ b < row.length) : a ≤ low row a b ∧ low row a b ≤ b ∧ (∀ j : Nat, a ≤ j → (j : Int) < low row a b → nb row (low row a b).toNat < nb row j) ∧ (∀ j : Nat, a ≤ j → (j : Int) ≤ b → nb row (low row a b).toNat ≤ nb row j) := by
  have hS : sl row (some a) (some (b + 1)) = (row.drop a.toNat).take (b + 1 - a).toNat := by
    unfold sl
    have e1 : HT.sIx row.length 0 (some a) = a.toNat := by unfold HT.sIx; simp only; first | (rw [if_neg (by omega)]; omega) | omega
    have e2 : HT.sIx row.length row.length (some (b + 1)) = (b + 1).toNat := by unfold HT.sIx; simp only; first | (rw [if_neg (by omega)]; omega) | omega
    rw [e1, e2]
    congr 1; omega
  have hlen : (sl row (some a) (some (b + 1))).length = (b + 1 - a).toNat := by
    rw [hS, List.length_take, List.length_drop]; omega
  have hget : ∀ i, i < (b + 1 - a).toNat → (sl row (some a) (some (b + 1)))[i]? = some (nb row (a.toNat + i)) := by
    intro i hi
    rw [hS, List.getElem?_take, if_pos hi, List.getElem?_drop]
    unfold nb
    rw [List.getD_eq_getElem?_getD, List.getElem?_eq_getElem (by omega)]
    rfl
  unfold low
  generalize hT : sl row (some a) (some (b + 1)) = S at hlen hget
  have hne : S ≠ [] := by intro z; rw [z] at hlen; simp at hlen; omega
  obtain ⟨m1, m2⟩ := lmin_spec S hne
  have hi : S.idxOf (lmin S) < S.length := List.idxOf_lt_length_of_mem m1
  have hv : S[S.idxOf (lmin S)]? = some (lmin S) := by
    rw [List.getElem?_eq_getElem hi]
    congr 1
    exact List.getElem_idxOf hi
  have hv2 : lmin S = nb row (a.toNat + S.idxOf (lmin S)) := by
    have := hget (S.idxOf (lmin S)) (by omega)
    rw [hv] at this
    exact Option.some.inj this
  generalize hk : S.idxOf (lmin S) = k at *
  have ek : (a + (k : Int)).toNat = a.toNat + k := by omega
  rw [ek, ← hv2]
  refine ⟨by omega, by omega, fun j q1 q2 => ?_, fun j q1 q2 => ?_⟩
  · have hj := hget (j - a.toNat) (by omega)
    have ej : a.toNat + (j - a.toNat) = j := by omega
    rw [ej] at hj
    have h1 := m2 _ (List.mem_of_getElem? hj)
    have h2 : lmin S ≠ nb row j := by
      intro z
      have hlt : j - a.toNat < S.idxOf (lmin S) := by omega
      have := List.not_of_lt_findIdx (p := (· == lmin S)) (xs := S) (i := j - a.toNat) hlt
      have e3 : S[j - a.toNat]'(by omega) = nb row j := by
        have := hj; rw [List.getElem?_eq_getElem (by omega)] at this; exact Option.some.inj this
      rw [e3, z] at this
      simp at this
    omega
  · have hj := hget (j - a.toNat) (by omega)
    have ej : a.toNat + (j - a.toNat) = j := by omega
    rw [ej] at hj
    exact m2 _ (List.mem_of_getElem? hj)
theorem eld_tv {row : List Int} {a b p : Nat} {e : Int} (g : Good row a b e) (h1 : a ≤ p) (h2 : p < b) (h3 : ∀ j, a ≤ j → j < p → nb row p < nb row j) (h4 : ∀ j, a ≤ j → j < b → nb row p ≤ nb row j) : eld row row.length p = e := by
  have hpv : pv row p = if a = 0 then none else some (a - 1) := by
    split
    · rename_i h0
      rw [pv_none]; intro j hj; exact h3 j (by omega) hj
    · rename_i h0
      rw [pv_some]
      exact ⟨by omega, g.l (by omega) p h1 h2, fun j q1 q2 => h3 j (by omega) q2⟩
  have hnx : nxt row row.length p = if b < row.length then some b else none := by
    split
    · rename_i h0
      rw [nxt_some]
      exact ⟨h2, h0, g.r h0 p h1 h2, fun c q1 q2 => h4 c (by omega) q2⟩
    · rename_i h0
      have := g.bn
      rw [nxt_none]
      intro c q1 q2; exact h4 c (by omega) (by omega)
  rw [g.e]
  unfold eld tv
  rw [hpv, hnx]
  by_cases ha : a = 0
  · rw [if_pos ha, if_pos ha]
    by_cases hb : b < row.length
    · rw [if_pos hb, if_pos hb]
    · rw [if_neg hb, if_neg hb]
  · rw [if_neg ha, if_neg ha]
    by_cases hb : b < row.length
    · rw [if_pos hb, if_pos hb]
    · rw [if_neg hb, if_neg hb]
theorem treeOf_len (row : List Int) : (treeOf row).length = row.length := by unfold treeOf; rw [List.length_map, List.length_range]
end TM


set_option linter.all false
set_option maxHeartbeats 1000000
namespace TM
open GL
/-! ### which tuples are trees -/
/-- the stretch a..b-1 of t hangs at e as a tree -/
inductive T (t : List Int) : Nat → Nat → Int → Prop
  | nil (a : Nat) (e : Int) : T t a a e
  | node {a b h : Nat} {e : Int} : a ≤ h → h < b → nb t h = e → T t a h h → T t (h + 1) b h → T t a b e
/-- the same, the numbers of row fitting -/
inductive TR (t row : List Int) : Nat → Nat → Int → Prop
  | nil (a : Nat) (e : Int) : TR t row a a e
  | node {a b h : Nat} {e : Int} : a ≤ h → h < b → nb t h = e → (∀ j, a ≤ j → j < h → nb row h < nb row j) → (∀ j, h < j → j < b → nb row h ≤ nb row j) → TR t row a h h → TR t row (h + 1) b h → TR t row a b e
theorem TR.T {t row : List Int} {a b : Nat} {e : Int} (h : TR t row a b e) : T t a b e := by
  induction h with
  | nil a e => exact .nil a e
  | node h1 h2 h3 _ _ _ _ i1 i2 => exact .node h1 h2 h3 i1 i2
theorem T.le {t : List Int} {a b : Nat} {e : Int} (h : T t a b e) : a ≤ b := by
  induction h with
  | nil a e => exact Nat.le_refl _
  | node h1 h2 _ _ _ _ _ => omega
theorem good_l {row : List Int} {a b h : Nat} {e : Int} (g : Good row a b e) (h1 : a ≤ h) (h2 : h < b) (l3 : ∀ j, a ≤ j → j < h → nb row h < nb row j) : Good row a h h := by
  refine ⟨h1, by have := g.bn; omega, fun q0 j q1 q2 => g.l q0 j q1 (by omega), fun q0 j q1 q2 => l3 j q1 q2, ?_⟩
  have := g.bn
  unfold tv
  by_cases ha : a = 0
  · rw [if_pos ha, if_pos (by omega)]
  · rw [if_neg ha, if_pos (by omega), if_pos (g.l (by omega) h h1 h2)]
theorem good_r {row : List Int} {a b h : Nat} {e : Int} (g : Good row a b e) (h1 : a ≤ h) (h2 : h < b) (l4 : ∀ j, h < j → j < b → nb row h ≤ nb row j) : Good row (h + 1) b h := by
  refine ⟨by omega, g.bn, fun q0 j q1 q2 => ?_, fun q0 j q1 q2 => g.r q0 j (by omega) q2, ?_⟩
  · rw [Nat.add_sub_cancel]; exact l4 j (by omega) q2
  · unfold tv
    rw [if_neg (by omega), Nat.add_sub_cancel]
    by_cases hb : b < row.length
    · rw [if_pos hb, if_neg]
      have := g.r hb h h1 h2; omega
    · rw [if_neg hb]
/-- what fits is the tree of the row -/
theorem TR.eld {t row : List Int} {a b : Nat} {e : Int} (h : TR t row a b e) : Good row a b e → ∀ p, a ≤ p → p < b → nb t p = eld row row.length p := by
  induction h with
  | nil a e => intro _ p h1 h2; omega
  | @node a b h e h1 h2 h3 h4 h5 _ _ i1 i2 =>
    intro g p p1 p2
    rcases Nat.lt_trichotomy p h with z | z | z
    · exact i1 (good_l g h1 h2 h4) p p1 z
    · subst z
      rw [h3]
      refine (eld_tv g h1 h2 h4 fun j q1 q2 => ?_).symm
      rcases Nat.lt_trichotomy j p with y | y | y
      · have := h4 j q1 y; omega
      · subst y; exact Int.le_refl _
      · exact h5 j y q2
    · exact i2 (good_r g h1 h2 h5) p z p2
theorem good_all (row : List Int) : Good row 0 row.length (-1) := by
  refine ⟨Nat.zero_le _, Nat.le_refl _, fun h => absurd h (by decide), fun h => absurd h (by omega), ?_⟩
  unfold tv; rw [if_pos rfl, if_neg (Nat.lt_irrefl _)]
theorem nb_treeOf {row : List Int} {p : Nat} (h : p < row.length) : nb (treeOf row) p = eld row row.length p := by
  unfold nb treeOf
  rw [List.getD_eq_getElem?_getD, List.getElem?_map, List.getElem?_range h]; rfl
theorem tree_of_TR {t row : List Int} (hl : row.length = t.length) (h : TR t row 0 row.length (-1)) : treeOf row = t := by
  refine List.ext_getElem? fun p => ?_
  by_cases hp : p < row.length
  · have h1 := h.eld (good_all row) p (Nat.zero_le _) hp
    unfold treeOf
    rw [List.getElem?_map, List.getElem?_range hp]
    show some (TM.eld row row.length p) = _
    rw [← h1, List.getElem?_eq_getElem (by omega)]
    unfold nb
    rw [List.getD_eq_getElem?_getD, List.getElem?_eq_getElem (by omega)]; rfl
  · rw [List.getElem?_eq_none (by rw [treeOf_len]; omega), List.getElem?_eq_none (by omega)]
/-- the first least place of a stretch -/
theorem low_ex (row : List Int) {a b : Nat} (h : a < b) : ∃ p, a ≤ p ∧ p < b ∧ (∀ j, a ≤ j → j < p → nb row p < nb row j) ∧ (∀ j, p < j → j < b → nb row p ≤ nb row j) := by
  obtain ⟨n, hn⟩ : ∃ n, b = a + 1 + n := ⟨b - (a + 1), by omega⟩
  subst hn
  clear h
  induction n with
  | zero => exact ⟨a, Nat.le_refl _, by omega, fun j _ _ => by omega, fun j _ _ => by omega⟩
  | succ n ih =>
    obtain ⟨p, p1, p2, p3, p4⟩ := ih
    rcases Int.lt_or_le (nb row (a + 1 + n)) (nb row p) with z | z
    · refine ⟨a + 1 + n, by omega, by omega, fun j j1 j2 => ?_, fun j j1 j2 => by omega⟩
      rcases Nat.lt_trichotomy j p with y | y | y
      · have := p3 j j1 y; omega
      · subst y; exact z
      · have := p4 j y j2; omega
    · refine ⟨p, p1, by omega, p3, fun j j1 j2 => ?_⟩
      by_cases y : j = a + 1 + n
      · subst y; exact z
      · exact p4 j j1 (by omega)
theorem TR_of (row : List Int) : ∀ (n a b : Nat) (e : Int), b - a ≤ n → Good row a b e → TR (treeOf row) row a b e
  | 0, a, b, e, h, g => by
    have : a = b := by have := g.ab; omega
    subst this; exact .nil _ _
  | n + 1, a, b, e, h, g => by
    by_cases hab : a < b
    · obtain ⟨p, p1, p2, p3, p4⟩ := low_ex row hab
      refine .node p1 p2 ?_ p3 p4 (TR_of row n a p p (by omega) (good_l g p1 p2 p3)) (TR_of row n (p + 1) b p (by omega) (good_r g p1 p2 p4))
      rw [nb_treeOf (by have := g.bn; omega)]
      refine eld_tv g p1 p2 p3 fun j q1 q2 => ?_
      rcases Nat.lt_trichotomy j p with y | y | y
      · have := p3 j q1 y; omega
      · subst y; exact Int.le_refl _
      · exact p4 j y q2
    · have : a = b := by have := g.ab; omega
      subst this; exact .nil _ _
def IsT (t : List Int) : Prop := T t 0 t.length (-1)
theorem isT_treeOf (row : List Int) : IsT (treeOf row) := by
  unfold IsT
  rw [treeOf_len]
  exact (TR_of row row.length 0 row.length (-1) (by omega) (good_all row)).T
/-! ### the ways up -/
/-- from here to the top -/
def up (t : List Int) : Nat → Int → Option (List Int)
  | n, e => if e = -1 then some [] else if e < 0 ∨ (t.length : Int) ≤ e then none else match n with
    | 0 => none
    | n + 1 => (up t n (gt t e)).map (e :: ·)
theorem up_top (t : List Int) (n : Nat) : up t n (-1) = some [] := by unfold up; rw [if_pos rfl]
theorem up_step {t : List Int} {n : Nat} {e : Int} (h : 0 ≤ e ∧ e < t.length) : up t (n + 1) e = (up t n (gt t e)).map (e :: ·) := by
  conv => lhs; unfold up
  rw [if_neg (by omega), if_neg (by omega)]
theorem up_more (t : List Int) : ∀ (n k : Nat) (e : Int) (w : List Int), up t n e = some w → up t (n + k) e = some w
  | n, k, e, w, h => by
    unfold up at h ⊢
    by_cases e1 : e = -1
    · rw [if_pos e1] at h ⊢; exact h
    · rw [if_neg e1] at h ⊢
      by_cases e2 : e < 0 ∨ (t.length : Int) ≤ e
      · rw [if_pos e2] at h; cases h
      · rw [if_neg e2] at h ⊢
        cases n with
        | zero => cases h
        | succ n =>
          rw [Nat.add_right_comm]
          simp only at h ⊢
          cases h2 : up t n (gt t e) with
          | none => rw [h2] at h; cases h
          | some w2 =>
            rw [h2] at h
            rw [up_more t n k _ _ h2]; exact h
/-- how many of w lie behind p -/
def behind (w : List Int) (p : Int) : Int := ((w.filter fun x => decide (p < x)).length : Int)
theorem behind_cons (w : List Int) (p x : Int) : behind (x :: w) p = (if p < x then 1 else 0) + behind w p := by
  unfold behind
  rw [List.filter_cons]
  by_cases h : p < x
  · rw [if_pos (by simp [h]), if_pos h]; simp only [List.length_cons]; omega
  · rw [if_neg (by simp [h]), if_neg h]; omega
/-- the numbers by the ways -/
def flatAt (t : List Int) (p : Nat) : Option Int := (up t t.length (gt t p)).map fun w => behind w p
theorem behind_ge {w : List Int} {a b : Int} (h : a ≤ b) (hw : ∀ x ∈ w, x ≤ a ∨ b < x) : behind w a = behind w b := by
  unfold behind
  congr 2
  refine List.filter_congr fun x hx => ?_
  rcases hw x hx with z | z
  · rw [decide_eq_false (by omega), decide_eq_false (by omega)]
  · rw [decide_eq_true (by omega), decide_eq_true (by omega)]
theorem T.flat {t row : List Int} {a b : Nat} {e : Int} (h : T t a b e) : ∀ (m : Nat) (w : List Int), up t m e = some w → m + (b - a) ≤ t.length → b ≤ t.length → (∀ x ∈ w, x < a ∨ (b : Int) ≤ x) →
    (∀ p, a ≤ p → p < b → flatAt t p = some (nb row p)) ∨ True → ∀ p, a ≤ p → p < b → ∃ v, flatAt t p = some v ∧ behind w ((b : Int) - 1) ≤ v := by
  induction h with
  | nil a e => intro m w _ _ _ _ _ p h1 h2; omega
  | @node a b h e h1 h2 h3 _ _ i1 i2 =>
    intro m w hu hm hb hw _ p p1 p2
    have hh : up t (m + 1) (h : Int) = some ((h : Int) :: w) := by
      rw [up_step ⟨by omega, by omega⟩, gt_nb, h3, hu]; rfl
    rcases Nat.lt_trichotomy p h with z | z | z
    · obtain ⟨v, v1, v2⟩ := i1 (m + 1) _ hh (by omega) (by omega) (fun x hx => by
        rcases List.mem_cons.mp hx with y | y
        · right; omega
        · rcases hw x y with y | y
          · left; exact y
          · right; omega) (.inr trivial) p p1 z
      refine ⟨v, v1, ?_⟩
      rw [behind_cons] at v2
      have : behind w ((h : Int) - 1) = behind w ((b : Int) - 1) := behind_ge (by omega) fun x hx => by
        rcases hw x hx with y | y
        · left; omega
        · right; omega
      split at v2 <;> omega
    · subst z
      have hp : up t t.length (gt t p) = some w := by
        rw [gt_nb, h3]
        have := up_more t m (t.length - m) e w hu
        rw [show m + (t.length - m) = t.length by omega] at this
        exact this
      refine ⟨behind w p, by unfold flatAt; rw [hp]; rfl, ?_⟩
      have : behind w (p : Int) = behind w ((b : Int) - 1) := behind_ge (by omega) fun x hx => by
        rcases hw x hx with y | y
        · left; omega
        · right; omega
      omega
    · obtain ⟨v, v1, v2⟩ := i2 (m + 1) _ hh (by omega) hb (fun x hx => by
        rcases List.mem_cons.mp hx with y | y
        · left; omega
        · rcases hw x y with y | y
          · left; omega
          · right; omega) (.inr trivial) p z p2
      refine ⟨v, v1, ?_⟩
      rw [behind_cons] at v2
      split at v2 <;> omega
/-- and the numbers so told fit -/
theorem T.fits {t row : List Int} {a b : Nat} {e : Int} (h : T t a b e) : ∀ (m : Nat) (w : List Int), up t m e = some w → m + (b - a) ≤ t.length → b ≤ t.length → (∀ x ∈ w, x < a ∨ (b : Int) ≤ x) →
    (∀ p, a ≤ p → p < b → flatAt t p = some (nb row p)) → TR t row a b e := by
  induction h with
  | nil a e => intro m w _ _ _ _ _; exact .nil _ _
  | @node a b h e h1 h2 h3 t1 t2 i1 i2 =>
    intro m w hu hm hb hw hr
    have hh : up t (m + 1) (h : Int) = some ((h : Int) :: w) := by
      rw [up_step ⟨by omega, by omega⟩, gt_nb, h3, hu]; rfl
    have hwl : ∀ x ∈ ((h : Int) :: w), x < a ∨ (h : Int) ≤ x := fun x hx => by
        rcases List.mem_cons.mp hx with y | y
        · right; omega
        · rcases hw x y with y | y
          · left; exact y
          · right; omega
    have hwr : ∀ x ∈ ((h : Int) :: w), x < ((h + 1 : Nat) : Int) ∨ (b : Int) ≤ x := fun x hx => by
        rcases List.mem_cons.mp hx with y | y
        · left; omega
        · rcases hw x y with y | y
          · left; omega
          · right; omega
    have hp : up t t.length (gt t (h : Int)) = some w := by
      rw [gt_nb, h3]
      have := up_more t m (t.length - m) e w hu
      rw [show m + (t.length - m) = t.length by omega] at this
      exact this
    have hv : nb row h = behind w ((b : Int) - 1) := by
      have h5 := hr h h1 h2
      unfold flatAt at h5
      rw [hp] at h5
      have h6 : behind w (h : Int) = nb row h := Option.some.inj h5
      rw [← h6]
      exact behind_ge (by omega) fun x hx => by
        rcases hw x hx with y | y
        · left; omega
        · right; omega
    refine .node h1 h2 h3 (fun j j1 j2 => ?_) (fun j j1 j2 => ?_) (i1 (m + 1) _ hh (by omega) (by omega) hwl fun p p1 p2 => hr p p1 (by omega)) (i2 (m + 1) _ hh (by omega) hb hwr fun p p1 p2 => hr p (by omega) p2)
    · obtain ⟨v, v1, v2⟩ := t1.flat (row := row) (m + 1) _ hh (by omega) (by omega) hwl (.inr trivial) j j1 j2
      rw [hr j j1 (by omega)] at v1
      cases v1
      rw [behind_cons, if_pos (by omega)] at v2
      have : behind w ((h : Int) - 1) = behind w ((b : Int) - 1) := behind_ge (by omega) fun x hx => by
        rcases hw x hx with y | y
        · left; omega
        · right; omega
      omega
    · obtain ⟨v, v1, v2⟩ := t2.flat (row := row) (m + 1) _ hh (by omega) hb hwr (.inr trivial) j j1 j2
      rw [hr j (by omega) j2] at v1
      cases v1
      rw [behind_cons] at v2
      split at v2 <;> omega
/-- all the numbers -/
def flatF (t : List Int) : List Int := (List.range t.length).map fun p => (flatAt t p).getD 0
def flatN (t : List Int) : Option (List Int) := if (List.range t.length).all (fun p => (flatAt t p).isSome) then some (flatF t) else none
theorem flatF_len (t : List Int) : (flatF t).length = t.length := by simp [flatF]
theorem flatF_nb {t : List Int} {p : Nat} (h : p < t.length) : nb (flatF t) p = (flatAt t p).getD 0 := by
  unfold nb flatF
  rw [List.getD_eq_getElem?_getD, List.getElem?_map, List.getElem?_range h]; rfl
theorem isT_flat {t : List Int} (h : IsT t) : (∀ p, p < t.length → ∃ v, flatAt t p = some v) ∧ treeOf (flatF t) = t := by
  have h1 : ∀ p, p < t.length → ∃ v, flatAt t p = some v := fun p hp => by
    obtain ⟨v, v1, _⟩ := T.flat (row := []) h 0 [] (up_top _ _) (by omega) (Nat.le_refl _) (fun x hx => by cases hx) (.inr trivial) p (Nat.zero_le _) hp
    exact ⟨v, v1⟩
  refine ⟨h1, tree_of_TR (flatF_len t) ?_⟩
  rw [flatF_len]
  refine T.fits h 0 [] (up_top _ _) (by omega) (Nat.le_refl _) (fun x hx => by cases hx) fun p _ hp => ?_
  obtain ⟨v, hv⟩ := h1 p hp
  rw [flatF_nb hp, hv]; rfl
theorem up_none {t : List Int} {n : Nat} {e : Int} (h : e ≠ -1) (h2 : e < 0 ∨ (t.length : Int) ≤ e ∨ n = 0) : up t n e = none := by
  unfold up
  rw [if_neg h]
  by_cases e2 : e < 0 ∨ (t.length : Int) ≤ e
  · rw [if_pos e2]
  · rw [if_neg e2]
    have : n = 0 := by omega
    subst this; rfl
theorem map_nil_app {α : Type} (o : Option (List α)) : o.map ([] ++ ·) = o := by cases o <;> rfl
theorem way_step {t F : List Int} {r : Option (List Int)} {x : Int} (h0 : F.length ≤ t.length) (h1 : r = (up t (t.length - F.length) x).map (F ++ ·)) (hx : ¬ x = -1) (h2 : ¬ (x < 0 ∨ (t.length : Int) ≤ x ∨ (F.length : Int) = t.length)) :
    r = (up t (t.length - (F ++ [x]).length) (gt t x)).map ((F ++ [x]) ++ ·) := by
  rw [h1]
  have : t.length - F.length = (t.length - (F ++ [x]).length) + 1 := by rw [List.length_append, List.length_singleton]; omega
  rw [this, up_step (by omega)]
  cases up t (t.length - (F ++ [x]).length) (gt t x) with
  | none => rfl
  | some w => show some (F ++ (x :: w)) = some ((F ++ [x]) ++ w); rw [List.append_assoc]; rfl
theorem flatAt_eq {t : List Int} {p : Int} {i : Nat} (h : p = 0 + (i : Int)) : flatAt t i = (up t t.length (gt t p)).map fun w => behind w p := by
  have : p = (i : Int) := by omega
  rw [this]; rfl
theorem nb_app {ns : List Int} {v : Int} {i p : Nat} (h : ns.length = i) : nb (ns ++ [v]) p = if p < i then nb ns p else if p = i then v else 0 := by
  unfold nb
  rw [List.getD_eq_getElem?_getD, List.getD_eq_getElem?_getD]
  by_cases h1 : p < i
  · rw [if_pos h1, List.getElem?_append_left (by omega)]
  · rw [if_neg h1]
    by_cases h2 : p = i
    · rw [if_pos h2, List.getElem?_append_right (by omega), show p - ns.length = 0 by omega]; rfl
    · rw [if_neg h2, List.getElem?_eq_none (by rw [List.length_append, List.length_singleton]; omega)]; rfl
theorem up_len (t : List Int) : ∀ (n : Nat) (e : Int) (w : List Int), up t n e = some w → w.length ≤ n
  | n, e, w, h => by
    unfold up at h
    by_cases e1 : e = -1
    · rw [if_pos e1] at h; cases h; exact Nat.zero_le _
    · rw [if_neg e1] at h
      by_cases e2 : e < 0 ∨ (t.length : Int) ≤ e
      · rw [if_pos e2] at h; cases h
      · rw [if_neg e2] at h
        cases n with
        | zero => cases h
        | succ n =>
          simp only at h
          cases h2 : up t n (gt t e) with
          | none => rw [h2] at h; cases h
          | some w2 =>
            rw [h2] at h
            cases h
            have := up_len t n _ _ h2
            simp; omega
theorem flat_step {t ns : List Int} {i : Nat} {v : Int} (h1 : ns.length = i) (h2 : ∀ p : Nat, p < i → flatAt t p = some (nb ns p)) (h3 : flatAt t i = some v) : (ns ++ [v]).length = i + 1 ∧ ∀ p : Nat, p < i + 1 → flatAt t p = some (nb (ns ++ [v]) p) := by
  refine ⟨by rw [List.length_append, List.length_singleton, h1], fun p hp => ?_⟩
  rw [nb_app h1]
  by_cases e : p < i
  · rw [if_pos e]; exact h2 p e
  · have : p = i := by omega
    subst this
    rw [if_neg (Nat.lt_irrefl _), if_pos rfl, h3]
theorem flatN_none {t : List Int} {p : Nat} (h : p < t.length) (h2 : flatAt t p = none) : flatN t = none := by
  unfold flatN
  rw [if_neg]
  intro z
  rw [List.all_eq_true] at z
  have := z p (List.mem_range.mpr h)
  rw [h2] at this; cases this
theorem flatN_none' {t : List Int} {i : Nat} {x : Int} (h : (rg 0 t.length)[i]? = some x) (h2 : up t t.length (gt t x) = none) : flatN t = none := by
  have := rg_at h
  refine flatN_none (p := i) (by omega) ?_
  rw [flatAt_eq this.1, h2]; rfl
theorem flatN_some {t ns : List Int} (hl : ns.length = t.length) (h : ∀ p, p < t.length → flatAt t p = some (nb ns p)) : flatN t = some ns := by
  unfold flatN
  rw [if_pos]
  · congr 1
    refine List.ext_getElem? fun p => ?_
    by_cases hp : p < t.length
    · unfold flatF
      rw [List.getElem?_map, List.getElem?_range hp]
      show some ((flatAt t p).getD 0) = _
      rw [h p hp, List.getElem?_eq_getElem (by omega)]
      show some (nb ns p) = _
      unfold nb
      rw [List.getD_eq_getElem?_getD, List.getElem?_eq_getElem (by omega)]; rfl
    · rw [List.getElem?_eq_none (by rw [flatF_len]; omega), List.getElem?_eq_none (by omega)]
  · rw [List.all_eq_true]
    intro p hp
    rw [h p (List.mem_range.mp hp)]; rfl
theorem flatN_isT {t : List Int} (h : IsT t) : flatN t = some (flatF t) ∧ treeOf (flatF t) = t := by
  obtain ⟨h1, h2⟩ := isT_flat h
  refine ⟨?_, h2⟩
  unfold flatN
  rw [if_pos]
  rw [List.all_eq_true]
  intro p hp
  obtain ⟨v, hv⟩ := h1 p (List.mem_range.mp hp)
  rw [hv]; rfl
theorem isT_iff {t : List Int} : IsT t ↔ ∃ ns, flatN t = some ns ∧ treeOf ns = t := by
  constructor
  · intro h
    exact ⟨_, flatN_isT h⟩
  · intro ⟨ns, _, h⟩
    rw [← h]; exact isT_treeOf ns
noncomputable def isTree (t : List Int) : Bool := @decide (t.length ≤ 40 ∧ IsT t) (Classical.propDecidable _)
theorem isTree_iff {t : List Int} : isTree t = true ↔ t.length ≤ 40 ∧ IsT t := by unfold isTree; exact @decide_eq_true_iff _ (Classical.propDecidable _)
theorem flatN_len {t ns : List Int} (h : flatN t = some ns) : ns.length = t.length := by
  unfold flatN at h
  split at h
  · cases h; exact flatF_len t
  · cases h
theorem isTree_big {t : List Int} (h : 40 < (t.length : Int)) : isTree t = false := by
  rw [Bool.eq_false_iff]; intro z; have := (isTree_iff.mp z).1; omega
theorem isTree_end {t : List Int} (h : t.length ≤ 40) : ((flatN t).isSome && decide (treeOf (oget (flatN t)) = t)) = isTree t := by
  rw [Bool.eq_iff_iff, isTree_iff, isT_iff]
  cases e : flatN t with
  | none => simp
  | some ns =>
    simp only [Option.isSome_some, Bool.true_and, decide_eq_true_eq]
    constructor
    · intro z; exact ⟨h, ns, rfl, z⟩
    · intro ⟨_, ns', z1, z2⟩; cases z1; exact z2
/-- the way up, told of trees -/
def ups (t : List Int) (p : Int) : List Int := oget (up t t.length (gt t p))
theorem ups_some {t : List Int} {p : Int} (h : isTree t = true) (hp : 0 ≤ p ∧ p < t.length) : ¬ up t t.length (gt t p) = none := by
  intro z
  obtain ⟨h1, h2⟩ := isTree_iff.mp h
  obtain ⟨v, hv⟩ := (isT_flat h2).1 p.toNat (by omega)
  unfold flatAt at hv
  rw [Int.toNat_of_nonneg hp.1, z] at hv
  cases hv
/-! ### by heads -/
theorem T.in {t : List Int} {a b : Nat} {e : Int} (h : T t a b e) : ∀ p, a ≤ p → p < b → nb t p = e ∨ ((a : Int) ≤ nb t p ∧ nb t p < b) := by
  induction h with
  | nil a e => intro p h1 h2; omega
  | @node a b h e h1 h2 h3 _ _ i1 i2 =>
    intro p p1 p2
    rcases Nat.lt_trichotomy p h with z | z | z
    · right
      rcases i1 p p1 z with y | y <;> omega
    · subst z; exact .inl h3
    · right
      rcases i2 p z p2 with y | y <;> omega
theorem T.one {t : List Int} {a b : Nat} {e : Int} (h : T t a b e) (hab : a < b) (he : e < a ∨ (b : Int) ≤ e) : ∃ q, a ≤ q ∧ q < b ∧ nb t q = e ∧ (∀ p, a ≤ p → p < b → nb t p = e → p = q) ∧ T t a q q ∧ T t (q + 1) b q := by
  cases h with
  | nil => omega
  | @node _ _ h _ h1 h2 h3 t1 t2 =>
    refine ⟨h, h1, h2, h3, fun p p1 p2 p3 => ?_, t1, t2⟩
    rcases Nat.lt_trichotomy p h with z | z | z
    · rcases t1.in p p1 z with y | y <;> omega
    · exact z
    · rcases t2.in p z p2 with y | y <;> omega
/-- a stretch of the stack -/
structure Wf (t : List Int) (s : Int × Int × Int) : Prop where
  a0 : 0 ≤ s.1
  ab : s.1 ≤ s.2.1 + 1
  bn : s.2.1 < t.length
  e : s.2.2 < s.1 ∨ s.2.1 < s.2.2
def Ts (t : List Int) (s : Int × Int × Int) : Prop := T t s.1.toNat (s.2.1 + 1).toNat s.2.2
structure LI (t : List Int) (left : List (Int × Int × Int)) : Prop where
  wf : ∀ s ∈ left, Wf t s
  mu : mu left ≤ 2 * t.length + 1
  iff : IsT t ↔ ∀ s ∈ left, Ts t s
end TM


set_option linter.all false
set_option maxHeartbeats 1000000
namespace TM
open GL
/-! ### first least places -/
/-- h is the first least place of a..b -/
structure FL (row : List Int) (a b h : Int) : Prop where
  ah : a ≤ h
  hb : h ≤ b
  l : ∀ j : Nat, a ≤ j → (j : Int) < h → nb row h.toNat < nb row j
  r : ∀ j : Nat, a ≤ j → (j : Int) ≤ b → nb row h.toNat ≤ nb row j
theorem low_FL {row : List Int} {a b : Int} (h : 0 ≤ a ∧ a ≤ b ∧ b < row.length) : FL row a b (low row a b) := by
  obtain ⟨h1, h2, h3, h4⟩ := low_spec h
  exact ⟨h1, h2, h3, h4⟩
theorem FL.uniq {row : List Int} {a b h g : Int} (a0 : 0 ≤ a) (x : FL row a b h) (y : FL row a b g) : h = g := by
  have x1 := x.ah; have x2 := x.hb; have y1 := y.ah; have y2 := y.hb
  rcases Int.lt_trichotomy h g with z | z | z
  · have h1 := y.l h.toNat (by omega) (by omega)
    have h2 := x.r g.toNat (by omega) (by omega)
    omega
  · exact z
  · have h1 := x.l g.toNat (by omega) (by omega)
    have h2 := y.r h.toNat (by omega) (by omega)
    omega
theorem FL.low {row : List Int} {a b h : Int} (hb : 0 ≤ a ∧ a ≤ b ∧ b < row.length) (x : FL row a b h) : h = TM.low row a b := x.uniq hb.1 (low_FL hb)
theorem gt_at {row : List Int} {x : Int} (h : 0 ≤ x) : gt row x = nb row x.toNat := by
  have : x = (x.toNat : Int) := by omega
  rw [this, gt_nb]; rfl
/-! ### who stands over whom -/
def Anc (row : List Int) (p q : Nat) : Prop := (q < p ∧ ∀ j, q ≤ j → j ≤ p → nb row q ≤ nb row j) ∨ (p < q ∧ ∀ j, p ≤ j → j < q → nb row q < nb row j)
theorem Anc.ne {row : List Int} {p q : Nat} (h : Anc row p q) : p ≠ q := by rcases h with h | h <;> omega
theorem TR.anc {t row : List Int} {a b : Nat} {e : Int} (h : TR t row a b e) : ∀ (m : Nat) (w : List Int), up t m e = some w → b ≤ t.length → ∀ p, a ≤ p → p < b →
    ∃ w', up t (m + (b - a)) (nb t p) = some (w' ++ w) ∧ (∀ x ∈ w', (a : Int) ≤ x ∧ x < b) ∧ ∀ q : Nat, a ≤ q → q < b → ((q : Int) ∈ w' ↔ Anc row p q) := by
  induction h with
  | nil a e => intro m w _ _ p h1 h2; omega
  | @node a b h e h1 h2 h3 h4 h5 _ _ i1 i2 =>
    intro m w hu hb p p1 p2
    have hh : up t (m + 1) (h : Int) = some ((h : Int) :: w) := by
      rw [up_step ⟨by omega, by omega⟩, gt_nb, h3, hu]; rfl
    rcases Nat.lt_trichotomy p h with z | z | z
    · obtain ⟨w1, v1, v2, v3⟩ := i1 (m + 1) _ hh (by omega) p p1 z
      refine ⟨w1 ++ [(h : Int)], ?_, fun x hx => ?_, fun q q1 q2 => ?_⟩
      · have := up_more t _ (m + (b - a) - (m + 1 + (h - a))) _ _ v1
        rw [show m + 1 + (h - a) + (m + (b - a) - (m + 1 + (h - a))) = m + (b - a) by omega] at this
        rw [this]; simp
      · rw [List.mem_append, List.mem_singleton] at hx
        rcases hx with y | y
        · have := v2 x y; omega
        · omega
      · rw [List.mem_append, List.mem_singleton]
        rcases Nat.lt_trichotomy q h with y | y | y
        · rw [v3 q q1 y]
          constructor
          · intro x; rcases x with x | x
            · exact x
            · omega
          · intro x; exact .inl x
        · subst y
          constructor
          · intro _; right; exact ⟨z, fun j j1 j2 => h4 j (by omega) j2⟩
          · intro _; right; rfl
        · constructor
          · intro x; rcases x with x | x
            · have := v2 _ x; omega
            · omega
          · intro x
            rcases x with ⟨x1, _⟩ | ⟨_, x2⟩
            · omega
            · have h6 := x2 h (by omega) y
              have h7 := h5 q y q2
              omega
    · subst z
      refine ⟨[], ?_, fun x hx => by (cases hx), fun q q1 q2 => ?_⟩
      · rw [h3, List.nil_append]; exact up_more t _ _ _ _ hu
      · constructor
        · intro x; cases x
        · intro x
          rcases x with ⟨x1, x2⟩ | ⟨x1, x2⟩
          · have h6 := x2 p (by omega) (Nat.le_refl _)
            have h7 := h4 q q1 x1
            omega
          · have h6 := x2 p (Nat.le_refl _) x1
            have h7 := h5 q x1 q2
            omega
    · obtain ⟨w1, v1, v2, v3⟩ := i2 (m + 1) _ hh hb p z p2
      refine ⟨w1 ++ [(h : Int)], ?_, fun x hx => ?_, fun q q1 q2 => ?_⟩
      · have := up_more t _ (m + (b - a) - (m + 1 + (b - (h + 1)))) _ _ v1
        rw [show m + 1 + (b - (h + 1)) + (m + (b - a) - (m + 1 + (b - (h + 1)))) = m + (b - a) by omega] at this
        rw [this]; simp
      · rw [List.mem_append, List.mem_singleton] at hx
        rcases hx with y | y
        · have := v2 x y; omega
        · omega
      · rw [List.mem_append, List.mem_singleton]
        rcases Nat.lt_trichotomy q h with y | y | y
        · constructor
          · intro x; rcases x with x | x
            · have := v2 _ x; omega
            · omega
          · intro x
            rcases x with ⟨_, x2⟩ | ⟨x1, _⟩
            · have h6 := x2 h (by omega) (by omega)
              have h7 := h4 q q1 y
              omega
            · omega
        · subst y
          constructor
          · intro _; left; exact ⟨z, fun j j1 j2 => by
              by_cases e : j = q
              · subst e; exact Int.le_refl _
              · exact h5 j (by omega) (by omega)⟩
          · intro _; right; rfl
        · rw [v3 q (by omega) q2]
          constructor
          · intro x; rcases x with x | x
            · exact x
            · omega
          · intro x; exact .inl x
theorem ups_mem {row : List Int} {p q : Nat} (hp : p < row.length) (hq : q < row.length) : (q : Int) ∈ ups (treeOf row) p ↔ Anc row p q := by
  have hT := TR_of row row.length 0 row.length (-1) (by omega) (good_all row)
  obtain ⟨w, h1, _, h3⟩ := hT.anc 0 [] (up_top _ _) (by rw [treeOf_len]; omega) p (Nat.zero_le _) hp
  have : ups (treeOf row) p = w := by
    unfold ups
    rw [gt_nb, treeOf_len]
    rw [show 0 + (row.length - 0) = row.length by omega] at h1
    rw [h1]; simp [oget]
  rw [this]
  exact h3 q (Nat.zero_le _) hq
theorem isTree_treeOf {row : List Int} (h : row.length ≤ 40) : isTree (treeOf row) = true := isTree_iff.mpr ⟨by rw [treeOf_len]; exact h, isT_treeOf row⟩
/-- the ways of all places -/
theorem gt_map_rg {α : Type} [Inhabited α] {n : Nat} {f : Int → α} {i : Int} (h : 0 ≤ i ∧ i < n) : gt ((rg 0 n).map f) i = f i := by
  unfold gt
  rw [List.getD_eq_getElem?_getD, List.getElem?_map, rg_get 0 n i.toNat (by omega)]
  show f (0 + (i.toNat : Int)) = f i
  congr 1; omega
/-- over a stretch stands its first least place alone -/
theorem FL.anc {row : List Int} {a b h : Int} (a0 : 0 ≤ a) (x : FL row a b h) {p : Int} (hp : a ≤ p ∧ p ≤ b) : Anc row p.toNat h.toNat ↔ p ≠ h := by
  have x1 := x.ah; have x2 := x.hb
  constructor
  · intro z e; exact z.ne (by rw [e])
  · intro z
    rcases Int.lt_or_gt_of_ne z with y | y
    · right; exact ⟨by omega, fun j j1 j2 => x.l j (by omega) (by omega)⟩
    · left; exact ⟨by omega, fun j j1 j2 => x.r j (by omega) (by omega)⟩
theorem FL.top {row : List Int} {a b h : Int} (a0 : 0 ≤ a) (x : FL row a b h) {q : Int} (hq : a ≤ q ∧ q ≤ b) : ¬ Anc row h.toNat q.toNat := by
  have x1 := x.ah; have x2 := x.hb
  intro z
  rcases z with ⟨z1, z2⟩ | ⟨z1, z2⟩
  · have h1 := z2 h.toNat (by omega) (Nat.le_refl _)
    have h2 := x.l q.toNat (by omega) (by omega)
    omega
  · have h1 := z2 h.toNat (Nat.le_refl _) z1
    have h2 := x.r q.toNat (by omega) (by omega)
    omega
end TM


set_option linter.all false
set_option maxHeartbeats 1000000
namespace TM
open GL
end TM


set_option linter.all false
set_option maxHeartbeats 1000000
namespace TM
open GL
theorem enu_num {row : List Int} {i : Nat} {x : Int × Int} (h : (enu row)[i]? = some x) : x.1 = (i : Int) ∧ i < row.length ∧ x.2 = gt row x.1 := by
  obtain ⟨h1, h2⟩ := enu_at h
  refine ⟨h1, at_lt h2, ?_⟩
  rw [h1, gt_nb]
  unfold nb
  rw [List.getD_eq_getElem?_getD, h2]; rfl
/-- the rest of a way, as one of the laws walks it -/
structure Way (t : List Int) (p : Int) (over : List Int) (here : Int) : Prop where
  ex : ∃ v, up t (t.length - over.length) here = some v ∧ ups t p = over ++ v
  len : over.length ≤ t.length
end TM


set_option linter.all false
set_option maxHeartbeats 1000000
namespace TM
open GL
/-! ### two rows, one behind the other -/
def moved (t : List Int) (by' : Int) : List Int := t.map fun e => e + by' * (if decide (0 ≤ e) = true then 1 else 0)
def seamOf (own : List Int) (l : List (Int × Int)) : List (List Int) := (l.filter fun x => decide (¬ x.2 = gt own x.1)).map fun x => [x.1, gt own x.1, x.2]
def ownOf (one other : List Int) : List Int := treeOf one ++ moved (treeOf other) one.length
def seam (one other : List Int) : List (List Int) := seamOf (ownOf one other) (enu (treeOf (one ++ other)))
def wayz (one other : List Int) : List Int := (if one = [] then [] else (one.length - 1 : Int) :: ups (treeOf one) (one.length - 1)) ++ (if other = [] then [] else ((0 : Int) :: ups (treeOf other) 0).map fun p : Int => p + (one.length : Int))
end TM


set_option linter.all false
set_option maxHeartbeats 1000000
namespace TM
open GL
/-! ### how far back the elder stands, and borders -/
def bk (row : List Int) (p : Nat) : Int := match pv row p with
  | none => 0
  | some a => (p : Int) - a
def backs (row : List Int) : List Int := (List.range row.length).map (bk row)
def cutb (far many : Int) : Int := if many < far then 0 else far
/-- the first s numbers are hung as the s ahead of m -/
def K (row : List Int) (s m : Nat) : Prop := ∀ p, p < s → cutb (bk row (m - s + p)) p = bk row p
open Classical in
noncomputable def bordGo (row : List Int) (m : Nat) : Nat → Nat
  | 0 => 0
  | s + 1 => if K row (s + 1) m then s + 1 else bordGo row m s
noncomputable def bord (row : List Int) (m : Nat) : Nat := bordGo row m (m - 1)
noncomputable def borders (row : List Int) : List Int := (List.range row.length).map fun j => (bord row (j + 1) : Int)
/-- the search for the next border, at size s -/
structure BS (row : List Int) (i : Nat) (size : Int) : Prop where
  s0 : 0 ≤ size
  si : size < i
  k : K row size.toNat i
  max : ∀ t : Nat, t < i → K row (t + 1) (i + 1) → (t : Int) ≤ size
end TM


set_option linter.all false
set_option maxHeartbeats 1000000
namespace TM
open GL
/-! ### alike rows, as the laws ask it -/
theorem filter_is_take {f : Nat → Int} {x : Int} : ∀ {l : List Nat}, l.Pairwise (fun a b => f a ≤ f b) → l.filter (fun q => decide (f q ≤ x)) = l.take (l.filter (fun q => decide (f q ≤ x))).length
  | [], _ => rfl
  | a :: l, h => by
    obtain ⟨h1, h2⟩ := List.pairwise_cons.mp h
    by_cases e : f a ≤ x
    · rw [List.filter_cons_of_pos (by simpa using e), List.length_cons, List.take_succ_cons, ← filter_is_take h2]
    · have : (a :: l).filter (fun q => decide (f q ≤ x)) = [] := by
        rw [List.filter_eq_nil_iff]
        intro b hb
        rcases List.mem_cons.mp hb with z | z
        · rw [z]; simpa using e
        · have := h1 b z; simp; omega
      rw [this]; rfl
def dep (row : List Int) (i : Nat) : Nat := ((opens row i).filter fun q => decide (nb row q ≤ nb row i)).length
theorem opens_dep (row : List Int) (i : Nat) : opens row (i + 1) = (opens row i).take (dep row i) ++ [i] := by
  rw [opens_succ]; congr 1
  exact filter_is_take (opens_mono row i)
theorem dep_le (row : List Int) (i : Nat) : dep row i ≤ (opens row i).length := List.length_filter_le ..
theorem pv_dep (row : List Int) (i : Nat) : pv row i = if dep row i = 0 then none else (opens row i)[dep row i - 1]? := by
  have hl : ((opens row i).take (dep row i)).length = dep row i := by rw [List.length_take]; have := dep_le row i; omega
  have h : (opens row (i + 1))[dep row i]? = some i := by
    rw [opens_dep, List.getElem?_append_right (by omega), hl, Nat.sub_self]; rfl
  rw [pv_opens h]
  by_cases e : dep row i = 0
  · rw [if_pos e, if_pos e]
  · rw [if_neg e, if_neg e, opens_dep, List.getElem?_append_left (by omega), List.getElem?_take, if_pos (by omega)]
theorem bk_pv {r s : List Int} {p : Nat} : bk r p = bk s p ↔ pv r p = pv s p := by
  constructor
  · intro h
    unfold bk at h
    cases e1 : pv r p with
    | none =>
      cases e2 : pv s p with
      | none => rfl
      | some b => rw [e1, e2] at h; simp only at h; have := (pv_some.mp e2).1; omega
    | some a =>
      cases e2 : pv s p with
      | none => rw [e1, e2] at h; simp only at h; have := (pv_some.mp e1).1; omega
      | some b => rw [e1, e2] at h; simp only at h; congr 1; omega
  · intro h; unfold bk; rw [h]
theorem nodup_opens (row : List Int) (m : Nat) : (opens row m).Nodup := (opens_sorted row m).imp fun h => Nat.ne_of_lt h
theorem opens_zero (row : List Int) : opens row 0 = [] := rfl
theorem dep_opens {r s : List Int} {n : Nat} (h : ∀ p, p < n → dep r p = dep s p) : ∀ i, i ≤ n → opens r i = opens s i
  | 0, _ => rfl
  | i + 1, hi => by rw [opens_dep, opens_dep, dep_opens h i (by omega), h i (by omega)]
theorem dep_of_pv {r s : List Int} {i : Nat} (ho : opens r i = opens s i) (h : pv r i = pv s i) : dep r i = dep s i := by
  rw [pv_dep, pv_dep, ho] at h
  have h1 := dep_le r i; have h2 := dep_le s i
  rw [ho] at h1
  by_cases e1 : dep r i = 0
  · by_cases e2 : dep s i = 0
    · omega
    · rw [if_pos e1, if_neg e2, List.getElem?_eq_getElem (by omega)] at h; cases h
  · by_cases e2 : dep s i = 0
    · rw [if_neg e1, if_pos e2, List.getElem?_eq_getElem (by omega)] at h; cases h
    · rw [if_neg e1, if_neg e2] at h
      have := (List.getElem?_inj (by omega) (nodup_opens s i)).mp h
      omega
theorem dep_iff {r s : List Int} {n : Nat} : (∀ p, p < n → bk r p = bk s p) ↔ ∀ p, p < n → dep r p = dep s p := by
  constructor
  · intro h
    have ho : ∀ i, i ≤ n → opens r i = opens s i := by
      intro i
      induction i with
      | zero => intro _; rfl
      | succ i ih =>
        intro hi
        have h1 := ih (by omega)
        rw [opens_dep, opens_dep, h1, dep_of_pv h1 (bk_pv.mp (h i (by omega)))]
    intro p hp
    exact dep_of_pv (ho p (by omega)) (bk_pv.mp (h p hp))
  · intro h p hp
    rw [bk_pv, pv_dep, pv_dep, dep_opens h p (by omega), h p hp]
def kinB (one other : List Int) : Bool := decide (one.length = other.length) && (List.range one.length).all fun p => decide (bk one p = bk other p)
theorem kinB_iff {one other : List Int} : kinB one other = true ↔ one.length = other.length ∧ ∀ p, p < one.length → dep one p = dep other p := by
  unfold kinB
  rw [Bool.and_eq_true, decide_eq_true_iff, List.all_eq_true, ← dep_iff]
  constructor
  · intro ⟨h1, h2⟩; exact ⟨h1, fun p hp => of_decide_eq_true (h2 p (List.mem_range.mpr hp))⟩
  · intro ⟨h1, h2⟩; exact ⟨h1, fun p hp => decide_eq_true (h2 p (List.mem_range.mp hp))⟩
/-- one turn of the law's two stacks of numbers -/
theorem vals_turn {row : List Int} {i : Nat} {x : Int} (hx : row[i]? = some x) {S : List Int} (hS : S = (opens row i).map (nb row)) :
    (S.filter fun v => decide (v ≤ x)).length = dep row i ∧ (S.filter fun v => decide (v ≤ x)) ++ [x] = (opens row (i + 1)).map (nb row) := by
  have ex : x = nb row i := by unfold nb; rw [List.getD_eq_getElem?_getD, hx]; rfl
  have e : (S.filter fun v => decide (v ≤ x)) = ((opens row i).filter fun q => decide (nb row q ≤ nb row i)).map (nb row) := by
    rw [hS, List.filter_map, ex]; rfl
  refine ⟨by rw [e, List.length_map]; rfl, ?_⟩
  rw [e, opens_succ, List.map_append, ex]; rfl
end TM
namespace TM
open GL
theorem sl_take {l : List Int} {s : Int} (h : 0 ≤ s ∧ s ≤ l.length) : sl l none (some s) = l.take s.toNat := by
  unfold sl
  have e2 : HT.sIx l.length l.length (some s) = s.toNat := by unfold HT.sIx; simp only; rw [if_neg (by omega)]; omega
  rw [e2]
  show List.take (s.toNat - HT.sIx l.length 0 none) (l.drop (HT.sIx l.length 0 none)) = _
  show List.take (s.toNat - 0) (l.drop 0) = _
  rw [List.drop_zero, Nat.sub_zero]
theorem sl_mid {l : List Int} {a b : Int} (h : 0 ≤ a ∧ a ≤ b ∧ b ≤ l.length) : sl l (some a) (some b) = (l.drop a.toNat).take (b - a).toNat := by
  unfold sl
  have e1 : HT.sIx l.length 0 (some a) = a.toNat := by unfold HT.sIx; simp only; rw [if_neg (by omega)]; omega
  have e2 : HT.sIx l.length l.length (some b) = b.toNat := by unfold HT.sIx; simp only; rw [if_neg (by omega)]; omega
  rw [e1, e2, show b.toNat - a.toNat = (b - a).toNat by omega]
/-- the law's search from above -/
structure LB (row : List Int) (many size : Int) : Prop where
  s0 : 0 ≤ size
  sm : size < many
  max : ∀ t : Nat, (t : Int) < many → K row t many.toNat → (t : Int) ≤ size
end TM
namespace TM
open GL
end TM


set_option linter.all false
set_option maxHeartbeats 1000000
namespace TM
open GL
/-! ### steps of a row (k39) -/
def stepB (row : List Int) (t : Int) : Bool := kinB (sl row none (some ((row.length : Int) - t))) (sl row (some t) none)
def steps (row : List Int) : List Int := (rg 1 ((row.length : Int) + 1)).filter fun t => decide (stepB row t = true)
/-- what steps_of has gathered, at size -/
structure SP (row some_ : List Int) (size : Int) : Prop where
  s0 : 0 ≤ size
  sn : size ≤ row.length
  k : K row size.toNat row.length
  eq : some_ = (rg 1 ((row.length : Int) - size + 1)).filter fun t => decide (stepB row t = true)
end TM
namespace TM
open GL
end TM


set_option linter.all false
set_option maxHeartbeats 1000000
namespace TM
open GL
/-! ### a row sought in a text -/
/-- the first s numbers of row are hung as the s of text ahead of i -/
def K2 (row text : List Int) (s i : Nat) : Prop := ∀ p, p < s → cutb (bk text (i - s + p)) p = bk row p
end TM
namespace TM
open GL
/-- the search in the text ahead of number i, at size s (below the row's length n) -/
structure TS2 (row text : List Int) (i : Nat) (size : Int) : Prop where
  s0 : 0 ≤ size
  sn : size < row.length
  si : size ≤ i
  k : K2 row text size.toNat i
  max : ∀ t : Nat, t < row.length → t ≤ i → K2 row text (t + 1) (i + 1) → (t : Int) ≤ size
end TM


set_option linter.all false
set_option maxHeartbeats 1000000
namespace TM
open GL
/-! ### ways that end at -1, trees and their flat rows -/
theorem flat_of_tree {t : List Int} (h : isTree t = true) : flatN t = some (flatF t) ∧ treeOf (flatF t) = t := flatN_isT (isTree_iff.mp h).2
theorem flat_get {t : List Int} (h : isTree t = true) : oget (flatN t) = flatF t := by rw [(flat_of_tree h).1]; rfl
theorem isTree_len {t : List Int} (h : isTree t = true) : t.length ≤ 40 := (isTree_iff.mp h).1
end TM
namespace TM
open GL
end TM
namespace TM
open GL
end TM
namespace TM
open GL
end TM


set_option linter.all false
set_option maxHeartbeats 1000000
namespace TM
open GL
/-! ### alike rows: by their trees, by what stands ahead, by who stands over whom, by their lows -/
def bel (f : Nat → Option Nat) (p q : Nat) : Bool := match f q with
  | none => true
  | some a => decide (a < p)
theorem bel_iff {row : List Int} {p q : Nat} (h : p ≤ q) : bel (pv row) p q = true ↔ ∀ j, p ≤ j → j < q → nb row q < nb row j := by
  unfold bel
  cases e : pv row q with
  | none => simp only [true_iff]; intro j _ hj; exact pv_none.mp e j hj
  | some a =>
    obtain ⟨h1, h2, h3⟩ := pv_some.mp e
    simp only [decide_eq_true_eq]
    constructor
    · intro ha j hj1 hj2; exact h3 j (by omega) hj2
    · intro hx
      refine Decidable.byContradiction fun z => ?_
      have := hx a (by omega) h1
      omega
theorem nxt_bel (row : List Int) (m p : Nat) : nxt row m p = (List.range m).find? fun q => decide (p < q) && bel (pv row) p q := by
  refine Option.ext fun b => ?_
  rw [nxt_some, List.find?_range_eq_some]
  simp only [Bool.and_eq_true, decide_eq_true_eq, List.mem_range, Bool.not_eq_true', Bool.and_eq_false_imp, decide_eq_true_eq]
  constructor
  · intro ⟨h1, h2, h3, h4⟩
    refine ⟨⟨h1, (bel_iff (by omega)).mpr fun j j1 j2 => ?_⟩, h2, fun c hc hpc => ?_⟩
    · by_cases e : j = p
      · subst e; exact h3
      · have := h4 j (by omega) j2; omega
    · refine Bool.eq_false_iff.mpr fun z => ?_
      have h5 := (bel_iff (by omega)).mp z p (Nat.le_refl _) hpc
      have h6 := h4 c hpc hc
      omega
  · intro ⟨⟨h1, h2⟩, h3, h4⟩
    have h5 := (bel_iff (by omega)).mp h2
    refine ⟨h1, h3, h5 p (Nat.le_refl _) h1, fun c c1 c2 => ?_⟩
    induction c using Nat.strongRecOn with
    | _ c ih =>
      have h6 := h4 c c2 c1
      have h7 : ¬ ∀ j, p ≤ j → j < c → nb row c < nb row j := fun z => by rw [(bel_iff (by omega)).mpr z] at h6; cases h6
      refine Decidable.byContradiction fun z => h7 fun j j1 j2 => ?_
      by_cases e : j = p
      · subst e; omega
      · have := ih j j2 (by omega) (by omega); omega
theorem find_congr {α : Type} {p q : α → Bool} : ∀ {l : List α}, (∀ x ∈ l, p x = q x) → l.find? p = l.find? q
  | [], _ => rfl
  | a :: l, h => by
    rw [List.find?_cons, List.find?_cons, h a (by simp), find_congr fun x hx => h x (List.mem_cons_of_mem _ hx)]
theorem nxt_pv {r s : List Int} {m p : Nat} (h : ∀ q, q < m → pv r q = pv s q) : nxt r m p = nxt s m p := by
  rw [nxt_bel, nxt_bel]
  refine find_congr fun q hq => ?_
  unfold bel
  rw [h q (List.mem_range.mp hq)]
theorem elder_pv {row : List Int} {m p a b : Nat} (h1 : pv row p = some a) (h2 : nxt row m p = some b) : nb row a ≤ nb row b ↔ pv row b = some a := by
  obtain ⟨a1, a2, a3⟩ := pv_some.mp h1
  obtain ⟨b1, b2, b3, b4⟩ := nxt_some.mp h2
  rw [pv_some]
  constructor
  · intro h
    refine ⟨by omega, h, fun c c1 c2 => ?_⟩
    rcases Nat.lt_trichotomy c p with z | z | z
    · have := a3 c c1 z; omega
    · subst z; exact b3
    · have := b4 c z c2; omega
  · intro ⟨_, h, _⟩; exact h
theorem eld_pv {r s : List Int} {m p : Nat} (h : ∀ q, q < m → pv r q = pv s q) (hp : p < m) : eld r m p = eld s m p := by
  have hn : nxt r m p = nxt s m p := nxt_pv h
  have hq := h p hp
  cases e1 : pv r p with
  | none =>
    rw [e1] at hq
    cases e2 : nxt r m p with
    | none => unfold eld; rw [← hn, ← hq, e1, e2]
    | some b => unfold eld; rw [← hn, ← hq, e1, e2]
  | some a =>
    rw [e1] at hq
    cases e2 : nxt r m p with
    | none => unfold eld; rw [← hn, ← hq, e1, e2]
    | some b =>
      rw [e2] at hn
      have k1 := elder_pv e1 e2
      have k2 := elder_pv hq.symm hn.symm
      have hb := (nxt_some.mp e2).2.1
      rw [h b hb] at k1
      unfold eld; rw [e1, e2, ← hq, ← hn]
      simp only
      by_cases z : pv s b = some a
      · rw [if_pos (k1.mpr z), if_pos (k2.mpr z)]
      · rw [if_neg fun y => z (k1.mp y), if_neg fun y => z (k2.mp y)]
theorem tree_of_bk {r s : List Int} (hl : r.length = s.length) (h : ∀ p, p < r.length → bk r p = bk s p) : treeOf r = treeOf s := by
  unfold treeOf
  rw [← hl]
  refine List.map_congr_left fun p hp => ?_
  exact eld_pv (fun q hq => bk_pv.mp (h q hq)) (List.mem_range.mp hp)
/-- who stands nearest ahead, by who stands over whom -/
theorem pv_anc {row : List Int} {p a : Nat} : pv row p = some a ↔ a < p ∧ Anc row p a ∧ ∀ b, a < b → b < p → ¬ Anc row p b := by
  rw [pv_some]
  constructor
  · intro ⟨h1, h2, h3⟩
    refine ⟨h1, .inl ⟨h1, fun j j1 j2 => ?_⟩, fun b b1 b2 hb => ?_⟩
    · by_cases e : j = a
      · subst e; exact Int.le_refl _
      · by_cases e2 : j = p
        · subst e2; exact h2
        · have := h3 j (by omega) (by omega); omega
    · rcases hb with ⟨_, hb⟩ | ⟨hb, _⟩
      · have := hb p (by omega) (Nat.le_refl _); have := h3 b b1 b2; omega
      · omega
  · intro ⟨h1, h2, h3⟩
    have ha : ∀ j, a ≤ j → j ≤ p → nb row a ≤ nb row j := by
      rcases h2 with ⟨_, h⟩ | ⟨h, _⟩
      · exact h
      · omega
    refine ⟨h1, ha p (by omega) (Nat.le_refl _), fun b b1 b2 => Decidable.byContradiction fun z => ?_⟩
    obtain ⟨c, c1, c2, c3, c4⟩ : ∃ c, b ≤ c ∧ c < p ∧ nb row c ≤ nb row p ∧ ∀ d, c < d → d < p → nb row p < nb row d := by
      cases e : pv row p with
      | none => have := pv_none.mp e b b2; omega
      | some c =>
        obtain ⟨e1, e2, e3⟩ := pv_some.mp e
        refine ⟨c, ?_, e1, e2, e3⟩
        refine Decidable.byContradiction fun y => ?_
        have := e3 b (by omega) b2; omega
    refine h3 c (by omega) c2 (.inl ⟨c2, fun j j1 j2 => ?_⟩)
    by_cases e : j = c
    · subst e; exact Int.le_refl _
    · by_cases e2 : j = p
      · subst e2; exact c3
      · have := c4 j (by omega) (by omega); omega
theorem anc_of_tree {r s : List Int} (hl : r.length = s.length) (h : treeOf r = treeOf s) {p q : Nat} (hp : p < r.length) (hq : q < r.length) : Anc r p q ↔ Anc s p q := by
  rw [← ups_mem hp hq, h, ups_mem (by omega) (by omega)]
theorem bk_of_tree {r s : List Int} (hl : r.length = s.length) (h : treeOf r = treeOf s) {p : Nat} (hp : p < r.length) : bk r p = bk s p := by
  rw [bk_pv]
  refine Option.ext fun a => ?_
  rw [pv_anc, pv_anc]
  constructor
  · intro ⟨h1, h2, h3⟩
    exact ⟨h1, (anc_of_tree hl h hp (by omega)).mp h2, fun b b1 b2 z => h3 b b1 b2 ((anc_of_tree hl h hp (by omega)).mpr z)⟩
  · intro ⟨h1, h2, h3⟩
    exact ⟨h1, (anc_of_tree hl h hp (by omega)).mpr h2, fun b b1 b2 z => h3 b b1 b2 ((anc_of_tree hl h hp (by omega)).mp z)⟩
theorem tree_iff_bk {r s : List Int} (hl : r.length = s.length) : treeOf r = treeOf s ↔ ∀ p, p < r.length → bk r p = bk s p :=
  ⟨fun h _ hp => bk_of_tree hl h hp, tree_of_bk hl⟩
theorem kinB_tree {r s : List Int} : kinB r s = true ↔ r.length = s.length ∧ treeOf r = treeOf s := by
  rw [kinB_iff]
  constructor
  · intro ⟨h1, h2⟩; exact ⟨h1, (tree_iff_bk h1).mpr (dep_iff.mpr h2)⟩
  · intro ⟨h1, h2⟩; exact ⟨h1, dep_iff.mp ((tree_iff_bk h1).mp h2)⟩
/-! lows -/
end TM


set_option linter.all false
set_option maxHeartbeats 1000000
namespace TM
open GL
/-! ### starts -/
structure SI (row text : List Int) (i : Nat) (size : Int) : Prop where
  s0 : 0 ≤ size
  sn : size ≤ row.length
  si : size ≤ i
  k : K2 row text size.toNat i
  max : ∀ t : Nat, t ≤ row.length → t ≤ i → K2 row text t i → (t : Int) ≤ size
def stB (row text : List Int) (i : Nat) : List Int := (rg 0 ((i : Int) - row.length + 1)).filter fun s => decide (kinB row (sl text (some s) (some (s + row.length))) = true)
def starts (row text : List Int) : List Int := stB row text text.length
end TM


set_option linter.all false
set_option maxHeartbeats 1000000
namespace TM
open GL
/-! ### what parts two rows -/
def NP (one other : List Int) (size a : Int) : Prop := ∀ s b : Int, 1 ≤ s → 0 ≤ b → b + s ≤ one.length → (s < size ∨ (s = size ∧ b < a)) → low one b (b + s - 1) = low other b (b + s - 1)
structure PtAt (one other : List Int) (size a : Int) : Prop where
  s1 : 1 ≤ size
  a0 : 0 ≤ a
  an : a + size ≤ one.length
  ne : ¬ low one a (a + size - 1) = low other a (a + size - 1)
  np : NP one other size a
theorem PtAt.uniq {one other : List Int} {s a t b : Int} (x : PtAt one other s a) (y : PtAt one other t b) : s = t ∧ a = b := by
  have h1 := x.s1; have h2 := y.s1
  rcases Int.lt_trichotomy s t with z | z | z
  · exact absurd (y.np s a x.s1 x.a0 x.an (.inl z)) x.ne
  · rcases Int.lt_trichotomy a b with w | w | w
    · exact absurd (y.np s a x.s1 x.a0 x.an (.inr ⟨z, w⟩)) x.ne
    · exact ⟨z, w⟩
    · exact absurd (x.np t b y.s1 y.a0 y.an (.inr ⟨z.symm, w⟩)) y.ne
  · exact absurd (x.np t b y.s1 y.a0 y.an (.inl z)) y.ne
open Classical in
noncomputable def parted (one other : List Int) : Option (Int × Int) := if h : ∃ p : Int × Int, PtAt one other p.1 p.2 then some (h.choose.2, h.choose.2 + h.choose.1 - 1) else none
/-! the lists of lows by size -/
def lowsOf (row : List Int) (size : Int) : List Int := (rg 0 ((row.length : Int) - size + 1)).map fun a => low row a (a + size - 1)
/-! lists that a loop builds -/
end TM
namespace TM
open GL
end TM
namespace TM
open GL
noncomputable def pst (row text : List Int) (start : Int) : List Int := [start, (oget (parted row (sl text (some start) (some (start + row.length))))).1, (oget (parted row (sl text (some start) (some (start + row.length))))).2]
noncomputable def pstarts (row text : List Int) : List (List Int) := ((rg 0 ((text.length : Int) - row.length + 1)).filter fun z => decide (z ∉ starts row text)).map (pst row text)
end TM


set_option linter.all false
set_option maxHeartbeats 1000000
namespace TM
open GL
end TM
namespace TM
open GL
theorem PtAt.symm {one other : List Int} {s a : Int} (hl : one.length = other.length) (x : PtAt one other s a) : PtAt other one s a :=
  ⟨x.s1, x.a0, by have := x.an; omega, fun z => x.ne z.symm, fun t b t1 b0 bn hx => (x.np t b t1 b0 (by omega) hx).symm⟩
theorem bk_some {row : List Int} {i a : Nat} (h : pv row i = some a) : bk row i = (i : Int) - a := by unfold bk; rw [h]
theorem bk_none {row : List Int} {i : Nat} (h : pv row i = none) : bk row i = 0 := by unfold bk; rw [h]
end TM


set_option Elab.async false
set_option linter.all false
/-! ### rows moved, and windows of alike rows -/
namespace TM
open GL
theorem nb_map {row : List Int} {f : Int → Int} {i : Nat} (h : i < row.length) : nb (row.map f) i = f (nb row i) := by
  unfold nb
  rw [List.getD_eq_getElem?_getD, List.getElem?_map, List.getD_eq_getElem?_getD, List.getElem?_eq_getElem h]; rfl
theorem sl_win2_len {row : List Int} {a b : Int} (h : 0 ≤ a ∧ a ≤ b ∧ b < row.length) : ((sl row (some a) (some (b + 1))).length : Int) = b + 1 - a := by
  rw [sl_mid (by omega), List.length_take, List.length_drop]; omega
end TM


set_option Elab.async false
set_option linter.all false
/-! ### choices -/
namespace TM
open GL
def bi : Nat → Nat → Nat
  | _, 0 => 1
  | 0, _ + 1 => 0
  | n + 1, k + 1 => bi n k + bi n (k + 1)
def choice (n k : Int) : Int := (bi n.toNat k.toNat : Int)
/-- a row of choices, as sums of the row before -/
def brow (n : Nat) : List Int := (List.range (n + 1)).map fun k => (bi n k : Int)
/-- how many trees have so many falls -/
def falls (n k : Int) : Int := if n = 0 ∨ k < 0 ∨ k ≥ n then (if n = 0 ∧ k = 0 then 1 else 0) else choice n k * choice n (k + 1) / n
end TM


set_option Elab.async false
set_option linter.all false
/-! ### trees counted, and open places -/
namespace TM
open GL
/-- the sums of all that stands at a place or behind -/
def sufs : List Int → List Int
  | [] => []
  | x :: l => (x :: l).sum :: sufs l
def opn (row : List Int) : List Int := 0 :: sufs row
def opnRow : Nat → List Int
  | 0 => [1]
  | n + 1 => opn (opnRow n)
def openAt (n k : Int) : Int := if k < 0 ∨ k > n then 0 else gt (opnRow n.toNat) k
def catal (n : Int) : Int := choice (2 * n) n / (n + 1)
theorem take_sum {l : List Int} {i : Nat} {x : Int} (h : l[i]? = some x) : (l.take (i + 1)).sum = (l.take i).sum + x := by
  rw [List.take_succ, h, List.sum_append]; simp
/-! evaluated by force -/
def forceN {α : Type} (n : Nat) (f : Nat → α) : α := Nat.rec (f 0) (fun k _ => f (k + 1)) n
def forceL {α : Type} : List Nat → (List Nat → α) → α
  | [], f => f []
  | x :: l, f => forceN x fun y => forceL l fun r => f (y :: r)
def sufN : List Nat → List Nat
  | [] => []
  | x :: l => (match sufN l with | [] => x | y :: _ => x + y) :: sufN l
def sufF : List Nat → Nat → List Nat → List Nat
  | [], _, acc => acc
  | x :: l, t, acc => forceN (t + x) fun u => sufF l u (u :: acc)
def sufM : List Nat → List Nat
  | [] => []
  | x :: l => (x :: l).sum :: sufM l
def chN : Nat → Nat → Nat
  | _, 0 => 1
  | n, k + 1 => chN n k * (n - k) / (k + 1)
/-- all the sums, row by row -/
def chk22 : Nat → Nat → List Nat → Bool
  | 0, _, _ => true
  | r + 1, n, row => decide (chN (2 * n) n / (n + 1) = row.sum) && forceL (0 :: sufF row.reverse 0 []) fun row' => chk22 r (n + 1) row'
end TM


set_option Elab.async false
set_option linter.all false
/-! ### rows no higher than a bound, counted in two ways -/
namespace TM
open GL L2
/-- the sum that stands at the end of the next place -/
def fstep (lower f : List Int) : Int := ((rg 0 f.length).map fun top => gt lower top * gt f ((f.length : Int) - 1 - top)).sum
def flatO (lower : List Int) : Nat → List Int
  | 0 => [1]
  | n + 1 => flatO lower n ++ [fstep lower (flatO lower n)]
theorem flatO_len (lower : List Int) : ∀ n, (flatO lower n).length = n + 1
  | 0 => rfl
  | n + 1 => by rw [flatO, List.length_append, flatO_len lower n]; rfl
def flIt (n : Nat) : Nat → List Int
  | 0 => [1] ++ List.replicate n 0
  | k + 1 => flatO (flIt n k) n
theorem flIt_len (n : Nat) : ∀ k, (flIt n k).length = n + 1
  | 0 => by rw [flIt, List.length_append, List.length_replicate]; simp; omega
  | k + 1 => by rw [flIt, flatO_len]
/-- the law's ways -/
def wayS (most : Int) (ways : List Int) : List Int := (rg 0 (min most ways.length + 1)).map fun k => gt ((sufs ways) ++ [0]) (max 0 (k - 1))
def wayIt (most : Int) : Nat → List Int
  | 0 => [1]
  | k + 1 => wayS most (wayIt most k)
def dueF (n most : Int) : Int := if n = 0 ∨ most < 0 then (if n = 0 then 1 else 0) else (wayIt most (n - 1).toNat).sum
def manyF (n most : Int) : Int := gt (flIt n.toNat (min most n + 1).toNat) n
/-! by force -/
def stepN (lower f : List Nat) : Nat := (List.zipWith (· * ·) lower f).sum
/-- f from behind -/
def flF : List Nat → Nat → List Nat → (List Nat → Bool) → Bool
  | _, 0, acc, k => forceL acc.reverse k
  | lower, n + 1, acc, k => forceN (stepN lower acc) fun x => flF lower n (x :: acc) k
def castL (l : List Nat) : List Int := l.map fun x : Nat => (x : Int)
def nextF (m : Nat) (ways : List Nat) : List Nat := match sufF ways.reverse 0 [] with
  | [] => [0]
  | x :: l => x :: (x :: l).take m
def chkD (m : Nat) : List Nat → List Nat → Bool
  | [], _ => true
  | x :: f, ways => decide (x = ways.sum) && forceL (nextF m ways) fun w => chkD m f w
def chk24 : Nat → Nat → List Nat → Bool
  | 0, _, _ => true
  | r + 1, m, f => flF f 40 [1] fun f' => chkD m f'.tail [1] && chk24 r (m + 1) f'
/-! bounds -/
def fct : Nat → Nat
  | 0 => 1
  | n + 1 => (n + 1) * fct n
theorem fct_mul (t : Nat) : ∀ u, fct t * fct u ≤ fct (t + u)
  | 0 => by simp [fct]
  | u + 1 => by
    have ih := fct_mul t u
    show fct t * ((u + 1) * fct u) ≤ (t + u + 1) * fct (t + u)
    calc fct t * ((u + 1) * fct u) = (u + 1) * (fct t * fct u) := by rw [Nat.mul_left_comm]
      _ ≤ (u + 1) * fct (t + u) := Nat.mul_le_mul_left _ ih
      _ ≤ (t + u + 1) * fct (t + u) := Nat.mul_le_mul_right _ (by omega)
theorem fct_mono {a b : Nat} (h : a ≤ b) : fct a ≤ fct b := by
  induction b with
  | zero => obtain rfl : a = 0 := by omega
            exact Nat.le_refl _
  | succ b ih =>
    by_cases e : a = b + 1
    · subst e; exact Nat.le_refl _
    · refine Nat.le_trans (ih (by omega)) ?_
      show fct b ≤ (b + 1) * fct b
      exact Nat.le_mul_of_pos_left _ (by omega)
def FB (l : List Int) : Prop := ∀ i : Int, 0 ≤ i → i < l.length → 0 ≤ gt l i ∧ gt l i ≤ (fct i.toNat : Int)
theorem sum_le {α : Type} (c : Int) : ∀ (l : List α) (f : α → Int), (∀ x ∈ l, 0 ≤ f x ∧ f x ≤ c) → 0 ≤ (l.map f).sum ∧ (l.map f).sum ≤ l.length * c
  | [], _, _ => by simp
  | x :: l, f, h => by
    have ih := sum_le c l f fun y hy => h y (by simp [hy])
    have hx := h x (by simp)
    rw [List.map_cons, List.sum_cons, List.length_cons, Int.natCast_add, Int.add_mul]
    simp only [Int.natCast_one, Int.one_mul]
    omega
theorem FB.step {lower f : List Int} (h1 : FB lower) (h2 : FB f) (h : f.length ≤ lower.length) (h0 : 0 < f.length) : 0 ≤ fstep lower f ∧ fstep lower f ≤ (fct f.length : Int) := by
  have := sum_le (fct (f.length - 1) : Int) (rg 0 f.length) (fun top => gt lower top * gt f ((f.length : Int) - 1 - top)) fun t ht => by
    have ht2 := rg_mem.mp ht
    obtain ⟨a1, a2⟩ := h1 t (by omega) (by omega)
    obtain ⟨b1, b2⟩ := h2 ((f.length : Int) - 1 - t) (by omega) (by omega)
    refine ⟨Int.mul_nonneg a1 b1, ?_⟩
    refine Int.le_trans (Int.mul_le_mul a2 b2 b1 (by omega)) ?_
    rw [← Int.natCast_mul]
    have := fct_mul t.toNat ((f.length : Int) - 1 - t).toNat
    rw [show t.toNat + ((f.length : Int) - 1 - t).toNat = f.length - 1 by omega] at this
    omega
  refine ⟨this.1, Int.le_trans this.2 ?_⟩
  rw [rg_len, show ((f.length : Int) - 0).toNat = f.length by omega, ← Int.natCast_mul]
  obtain ⟨j, hj⟩ : ∃ j, f.length = j + 1 := ⟨f.length - 1, by omega⟩
  rw [hj]; exact Int.le_refl _
theorem FB.snoc {f : List Int} {x : Int} (h : FB f) (hx : 0 ≤ x ∧ x ≤ (fct f.length : Int)) : FB (f ++ [x]) := fun i h0 h1 => by
  rw [List.length_append, List.length_singleton] at h1
  unfold gt
  by_cases e : i < f.length
  · have := h i h0 e
    unfold gt at this
    rw [List.getD_eq_getElem?_getD] at this ⊢
    rw [List.getElem?_append_left (by omega)]; exact this
  · have : i.toNat = f.length := by omega
    rw [List.getD_eq_getElem?_getD, this, List.getElem?_append_right (Nat.le_refl _), Nat.sub_self]; exact hx
theorem FB.one : FB [1] := fun i h0 h1 => by
  obtain rfl : i = 0 := by simp at h1; omega
  decide
theorem FB.flatO {lower : List Int} (h : FB lower) : ∀ {n : Nat}, n + 1 ≤ lower.length → FB (flatO lower n)
  | 0, _ => FB.one
  | n + 1, hn => by
    rw [TM.flatO]
    have := FB.flatO h (n := n) (by omega)
    exact this.snoc (h.step this (by rw [flatO_len]; omega) (by rw [flatO_len]; omega))
theorem FB.flIt (n : Nat) : ∀ k, FB (flIt n k)
  | 0 => fun i h0 h1 => by
    rw [TM.flIt] at h1 ⊢
    unfold gt
    rw [List.getD_eq_getElem?_getD]
    cases e : i.toNat with
    | zero => exact ⟨show (0 : Int) ≤ 1 by decide, show (1 : Int) ≤ 1 by decide⟩
    | succ j =>
      show 0 ≤ ((List.replicate n (0 : Int))[j]?).getD default ∧ ((List.replicate n (0 : Int))[j]?).getD default ≤ _
      rw [List.getElem?_replicate]
      split <;> exact ⟨by decide, by show (0 : Int) ≤ _; omega⟩
  | k + 1 => (FB.flIt n k).flatO (by rw [flIt_len]; exact Nat.le_refl _)
/-- one of two factors is small -/
theorem FB.mul {l m : List Int} (h1 : FB l) (h2 : FB m) {i j : Int} (hi : 0 ≤ i ∧ i < l.length) (hj : 0 ≤ j ∧ j < m.length) (hs : i + j ≤ 39) : CMul (gt l i) (gt m j) := by
  have big : (fct 19 : Int) < 2 ^ 64 := by decide
  by_cases e : i ≤ 19
  · obtain ⟨a, b⟩ := h1 i hi.1 hi.2
    have := fct_mono (show i.toNat ≤ 19 by omega)
    exact .inl ⟨by omega, by omega⟩
  · obtain ⟨a, b⟩ := h2 j hj.1 hj.2
    have := fct_mono (show j.toNat ≤ 19 by omega)
    exact .inr ⟨by omega, by omega⟩
end TM


set_option Elab.async false
set_option linter.all false
/-! ### trees hung by drops -/
namespace TM
open GL
theorem T.same {t t' : List Int} {a b : Nat} {e : Int} (h : T t a b e) : (∀ p, a ≤ p → p < b → nb t p = nb t' p) → T t' a b e := by
  induction h with
  | nil a e => intro _; exact .nil a e
  | node h1 h2 h3 h4 h5 i1 i2 =>
    intro g
    exact .node h1 h2 (by rw [← g _ h1 h2]; exact h3) (i1 fun p p1 p2 => g p p1 (by omega)) (i2 fun p p1 p2 => g p (by omega) p2)
/-- what stands open, from the bottom: each with what hangs at it on its left -/
inductive Ch (t : List Int) : Nat → Int → List Nat → Nat → Prop
  | nil (a : Nat) (e : Int) : Ch t a e [] a
  | cons {a h i : Nat} {e : Int} {s : List Nat} : a ≤ h → nb t h = e → T t a h h → Ch t (h + 1) h s i → Ch t a e (h :: s) i
theorem Ch.le {t : List Int} {a i : Nat} {e : Int} {s : List Nat} (h : Ch t a e s i) : a ≤ i := by
  induction h with
  | nil => exact Nat.le_refl _
  | cons h1 _ _ _ ih => omega
theorem Ch.fold {t : List Int} {a i : Nat} {e : Int} {s : List Nat} (h : Ch t a e s i) : T t a i e := by
  induction h with
  | nil a e => exact .nil a e
  | cons h1 h2 h3 h4 ih => exact .node h1 (by have := h4.le; omega) h2 h3 ih
theorem Ch.same {t t' : List Int} {a i : Nat} {e : Int} {s : List Nat} (h : Ch t a e s i) : (∀ p, a ≤ p → p < i → nb t p = nb t' p) → Ch t' a e s i := by
  induction h with
  | nil a e => intro _; exact .nil a e
  | cons h1 h2 h3 h4 ih =>
    intro g
    have := h4.le
    exact .cons h1 (by rw [← g _ h1 (by omega)]; exact h2) (h3.same fun p p1 p2 => g p p1 (by omega)) (ih fun p p1 p2 => g p (by omega) p2)
theorem Ch.split {t : List Int} : ∀ {s1 : List Nat} {a i : Nat} {e : Int} {s2 : List Nat}, Ch t a e (s1 ++ s2) i →
    ∃ m e', Ch t a e s1 m ∧ Ch t m e' s2 i ∧ (s1 = [] → e' = e) ∧ (∀ h : s1 ≠ [], e' = (s1.getLast h : Int))
  | [], a, i, e, s2, h => ⟨a, e, .nil a e, h, fun _ => rfl, fun z => absurd rfl z⟩
  | x :: s1, a, i, e, s2, h => by
    cases h with
    | cons h1 h2 h3 h4 =>
      obtain ⟨m, e', c1, c2, c3, c4⟩ := Ch.split h4
      refine ⟨m, e', .cons h1 h2 h3 c1, c2, fun z => by simp at z, fun _ => ?_⟩
      cases s1 with
      | nil => rw [c3 rfl]; rfl
      | cons y l => rw [c4 (by simp)]; simp
theorem Ch.app {t : List Int} : ∀ {s1 : List Nat} {a m i : Nat} {e : Int} {s2 : List Nat}, Ch t a e s1 m → Ch t m (match s1.getLast? with | none => e | some x => (x : Int)) s2 i → Ch t a e (s1 ++ s2) i
  | [], a, m, i, e, s2, h1, h2 => by cases h1; exact h2
  | x :: s1, a, m, i, e, s2, h1, h2 => by
    cases h1 with
    | cons g1 g2 g3 g4 =>
      refine .cons g1 g2 g3 (Ch.app g4 ?_)
      cases s1 with
      | nil => exact h2
      | cons y l => rw [List.getLast?_cons_cons] at h2; exact h2
theorem Ch.in {t : List Int} {a i : Nat} {e : Int} {s : List Nat} (h : Ch t a e s i) : ∀ x ∈ s, a ≤ x ∧ x < i := by
  induction h with
  | nil => intro x hx; cases hx
  | cons h1 _ _ h4 ih =>
    intro x hx
    have := h4.le
    rcases List.mem_cons.mp hx with rfl | hx
    · omega
    · have := ih x hx; omega
/-- one place, after so many drops -/
def hone (p : List Int × List Int) (i : Nat) (d : Int) : List Int × List Int :=
  let left : Int := (p.2.length : Int) - d
  let E1 := if 0 < d then p.1.set (gt p.2 left).toNat i else p.1
  let S1 := p.2.take left.toNat
  (if 0 < left then E1.set i (gtB S1 1) else E1, S1 ++ [(i : Int)])
def hst (drops : List Int) : Nat → List Int × List Int
  | 0 => (List.replicate drops.length (-1), [])
  | i + 1 => hone (hst drops i) i (nb drops i)
def okD (drops : List Int) (i : Nat) : Prop := ∀ j, j < i → 0 ≤ nb drops j ∧ nb drops j ≤ ((hst drops j).2.length : Int)
structure HI (E : List Int) (S : List Int) (n i : Nat) : Prop where
  len : E.length = n
  rest : ∀ p, i ≤ p → p < n → nb E p = -1
  ch : ∃ s : List Nat, S = s.map (fun x : Nat => (x : Int)) ∧ Ch E 0 (-1) s i
theorem nb_set {l : List Int} {i p : Nat} {x : Int} (h : i < l.length) : nb (l.set i x) p = if p = i then x else nb l p := by
  unfold nb
  rw [List.getD_eq_getElem?_getD, List.getElem?_set, List.getD_eq_getElem?_getD]
  by_cases e : i = p
  · rw [if_pos e, if_pos e.symm, if_pos h]; rfl
  · rw [if_neg e, if_neg (Ne.symm e)]
theorem nb_rep {n p : Nat} (h : p < n) : nb (List.replicate n (-1)) p = -1 := by
  unfold nb; rw [List.getD_eq_getElem?_getD, List.getElem?_replicate, if_pos h]; rfl
theorem hi_init (n : Nat) : HI (List.replicate n (-1)) [] n 0 := ⟨List.length_replicate .., fun p _ h => nb_rep h, [], rfl, .nil _ _⟩
theorem hi_step {E S : List Int} {n i : Nat} {d : Int} (h : HI E S n i) (hi : i < n) (hd : 0 ≤ d ∧ d ≤ S.length) : HI (hone (E, S) i d).1 (hone (E, S) i d).2 n (i + 1) := by
  obtain ⟨s, rfl, hc⟩ := h.ch
  have hlen := h.len
  rw [List.length_map] at hd
  obtain ⟨L, hL⟩ : ∃ L : Nat, (s.length : Int) - d = L := ⟨((s.length : Int) - d).toNat, by omega⟩
  have hsp : s.take L ++ s.drop L = s := List.take_append_drop L s
  rw [← hsp] at hc
  obtain ⟨m, e', c1, c2, c3, c4⟩ := hc.split
  have hm1 := c1.le
  have hm2 := c2.le
  have hl1 : (s.take L).length = L := by rw [List.length_take]; omega
  -- the first change
  obtain ⟨E1, hE1, t1, f1, l1⟩ : ∃ E1, E1 = (if 0 < d then E.set (gt (s.map fun x : Nat => (x : Int)) (L : Int)).toNat i else E) ∧ T E1 m i i ∧ (∀ p, p < m ∨ i ≤ p → nb E1 p = nb E p) ∧ E1.length = n := by
    refine ⟨_, rfl, ?_⟩
    by_cases hz : 0 < d
    · rw [if_pos hz]
      cases hd2 : s.drop L with
      | nil =>
        have := congrArg List.length hd2
        rw [List.length_drop] at this
        simp at this; omega
      | cons x s2 =>
        rw [hd2] at c2
        have hx : gt (s.map fun x : Nat => (x : Int)) (L : Int) = (x : Int) := by
          unfold gt
          have : s[L]? = some x := by
            have := congrArg (fun l => l[0]?) hd2
            simpa using this
          rw [List.getD_eq_getElem?_getD, List.getElem?_map, Int.toNat_natCast, this]; rfl
        rw [hx, Int.toNat_natCast]
        cases c2 with
        | cons g1 g2 g3 g4 =>
          have hxi := g4.le
          have hxl : x < E.length := by omega
          refine ⟨.node g1 (by omega) (by rw [nb_set hxl, if_pos rfl]) (g3.same fun p p1 p2 => by rw [nb_set hxl, if_neg (by omega)]) (g4.fold.same fun p p1 p2 => by rw [nb_set hxl, if_neg (by omega)]), fun p hp => by rw [nb_set hxl, if_neg (by omega)], by rw [List.length_set]; exact hlen⟩
    · rw [if_neg hz]
      have hd0 : s.drop L = [] := by
        apply List.eq_nil_of_length_eq_zero
        rw [List.length_drop]; omega
      rw [hd0] at c2
      cases c2
      exact ⟨.nil _ _, fun _ _ => rfl, hlen⟩
  have hleft : (((s.map fun x : Nat => (x : Int)).length : Nat) : Int) - d = L := by rw [List.length_map]; exact hL
  unfold hone
  simp only [hleft, Int.toNat_natCast, ← hE1]
  have hS1 : (s.map fun x : Nat => (x : Int)).take L = (s.take L).map fun x : Nat => (x : Int) := List.map_take.symm
  -- the second change
  obtain ⟨E2, hE2, q1, q2, l2⟩ : ∃ E2, E2 = (if (0 : Int) < L then E1.set i (gtB ((s.map fun x : Nat => (x : Int)).take L) 1) else E1) ∧ nb E2 i = e' ∧ (∀ p, p ≠ i → nb E2 p = nb E1 p) ∧ E2.length = n := by
    refine ⟨_, rfl, ?_⟩
    by_cases hz : (0 : Int) < L
    · rw [if_pos hz, hS1]
      have hne : s.take L ≠ [] := fun z => by rw [z] at hl1; simp at hl1; omega
      have hg : gtB ((s.take L).map fun x : Nat => (x : Int)) 1 = e' := by
        rw [c4 hne]
        unfold gtB
        rw [List.getD_eq_getElem?_getD, List.getElem?_map, List.length_map, ← List.getLast?_eq_getElem?, List.getLast?_eq_some_getLast hne]; rfl
      rw [hg]
      exact ⟨by rw [nb_set (by omega), if_pos rfl], fun p hp => by rw [nb_set (by omega), if_neg hp], by rw [List.length_set]; exact l1⟩
    · rw [if_neg hz]
      have h0 : s.take L = [] := List.eq_nil_of_length_eq_zero (by omega)
      have := c3 h0
      rw [this]
      have hr := h.rest i (Nat.le_refl _) hi
      exact ⟨by rw [f1 i (.inr (Nat.le_refl _))]; exact hr, fun _ _ => rfl, l1⟩
  simp only [← hE2]
  refine ⟨l2, fun p p1 p2 => by rw [q2 p (by omega), f1 p (.inr (by omega))]; exact h.rest p (by omega) p2, s.take L ++ [i], by rw [hS1, List.map_append]; rfl, ?_⟩
  have c1' : Ch E2 0 (-1) (s.take L) m := c1.same fun p _ p2 => by rw [q2 p (by omega), f1 p (.inl p2)]
  refine c1'.app ?_
  have he : (match (s.take L).getLast? with | none => (-1 : Int) | some x => (x : Int)) = e' := by
    cases hs : s.take L with
    | nil => rw [c3 hs]; rfl
    | cons y l =>
      have hne : s.take L ≠ [] := by rw [hs]; simp
      rw [← hs, List.getLast?_eq_some_getLast hne, c4 hne]
  rw [he]
  exact .cons hm2 q1 (t1.same fun p p1 p2 => by rw [q2 p (by omega)]) (.nil _ _)
theorem hst_HI {drops : List Int} : ∀ {i : Nat}, i ≤ drops.length → okD drops i → HI (hst drops i).1 (hst drops i).2 drops.length i
  | 0, _, _ => hi_init _
  | i + 1, h, ho => by
    have ih := hst_HI (i := i) (by omega) fun j hj => ho j (by omega)
    exact hi_step ih (by omega) (ho i (by omega))
def hungF (drops : List Int) : List Int := (hst drops drops.length).1
theorem hungF_T {drops : List Int} (h : okD drops drops.length) : IsT (hungF drops) ∧ (hungF drops).length = drops.length := by
  have := hst_HI (Nat.le_refl _) h
  obtain ⟨s, _, hc⟩ := this.ch
  refine ⟨?_, this.len⟩
  unfold IsT
  rw [show (hungF drops).length = drops.length from this.len]
  exact hc.fold
theorem hungF_tree {drops : List Int} (h : okD drops drops.length) (hl : drops.length ≤ 40) : isTree (hungF drops) = true :=
  isTree_iff.mpr ⟨by rw [(hungF_T h).2]; exact hl, (hungF_T h).1⟩
theorem hst_size {drops : List Int} : ∀ {i : Nat}, okD drops i → ((hst drops i).2.length : Int) = i - ((drops.take i).sum) ∨ drops.length < i
  | 0, _ => .inl (by simp [hst])
  | i + 1, h => by
    by_cases hi : drops.length < i + 1
    · exact .inr hi
    rcases hst_size (i := i) fun j hj => h j (by omega) with e | e
    · left
      have hb := h i (by omega)
      have ht : (drops.take (i + 1)).sum = (drops.take i).sum + nb drops i := by
        refine take_sum ?_
        unfold nb
        rw [List.getD_eq_getElem?_getD, List.getElem?_eq_getElem (by omega)]; rfl
      rw [ht]
      show ((((hst drops i).2.take _) ++ [(i : Int)]).length : Int) = _
      rw [List.length_append, List.length_take, List.length_singleton]
      show ((min ((((hst drops i).2.length : Int) - nb drops i)).toNat _ + 1 : Nat) : Int) = _
      omega
    · omega
end TM


set_option Elab.async false
set_option linter.all false
/-! ### rows that a tree fits -/
namespace TM
open GL
/-- each number is no less than its elder's, and greater where the elder stands behind -/
def Fits (t row : List Int) : Prop := ∀ p : Nat, p < t.length → 0 ≤ nb t p → nb row (nb t p).toNat + (if (p : Int) < nb t p then 1 else 0) ≤ nb row p
theorem T.above {t row : List Int} (hf : Fits t row) {a b : Nat} {e : Int} (h : T t a b e) : b ≤ t.length → 0 ≤ e → (e < a ∨ (b : Int) ≤ e) → ∀ j, a ≤ j → j < b → nb row e.toNat + (if (j : Int) < e then 1 else 0) ≤ nb row j := by
  induction h with
  | nil a e => intro _ _ _ j h1 h2; omega
  | @node a b h e h1 h2 h3 h4 h5 i1 i2 =>
    intro hb he ho j j1 j2
    have hh := hf h (by omega) (by rw [h3]; exact he)
    rw [h3] at hh
    rcases Nat.lt_trichotomy j h with z | z | z
    · have := i1 (by omega) (by omega) (.inr (Int.le_refl _)) j j1 z
      rw [if_pos (by omega), Int.toNat_natCast] at this
      split at hh <;> split <;> omega
    · subst z; exact hh
    · have := i2 hb (by omega) (.inl (by omega)) j z j2
      rw [if_neg (by omega), Int.toNat_natCast] at this
      split at hh <;> split <;> omega
theorem T.fitR {t row : List Int} (hf : Fits t row) {a b : Nat} {e : Int} (h : T t a b e) : b ≤ t.length → TR t row a b e := by
  induction h with
  | nil a e => intro _; exact .nil a e
  | @node a b h e h1 h2 h3 h4 h5 i1 i2 =>
    intro hb
    refine .node h1 h2 h3 (fun j j1 j2 => ?_) (fun j j1 j2 => ?_) (i1 (by omega)) (i2 hb)
    · have := h4.above hf (by omega) (by omega) (.inr (Int.le_refl _)) j j1 j2
      rw [if_pos (by omega), Int.toNat_natCast] at this; omega
    · have := h5.above hf hb (by omega) (.inl (by omega)) j j1 j2
      rw [if_neg (by omega), Int.toNat_natCast] at this; omega
theorem fits_tree {t row : List Int} (ht : isTree t = true) (hl : row.length = t.length) (hf : Fits t row) : treeOf row = t := by
  refine tree_of_TR hl ?_
  rw [hl]
  exact T.fitR hf (isTree_iff.mp ht).2 (Nat.le_refl _)
end TM


set_option Elab.async false
set_option linter.all false
/-! ### the laws' own hanging, ways and trees (the laws with pools) -/
namespace TM
open GL
/-! drops that can be hung -/
def dok (l : List Int) : Prop := ∀ j, j < l.length → 0 ≤ nb l j ∧ nb l j ≤ (j : Int) - (l.take j).sum
theorem hst_in {drops : List Int} {i : Nat} (hi : i ≤ drops.length) (h : okD drops i) : ∀ x ∈ (hst drops i).2, 0 ≤ x ∧ x < i := by
  obtain ⟨s, e, hc⟩ := (hst_HI hi h).ch
  intro x hx
  rw [e] at hx
  obtain ⟨y, hy, rfl⟩ := List.mem_map.mp hx
  have := hc.in y hy
  omega
theorem hst_len {drops : List Int} {i : Nat} (hi : i ≤ drops.length) (h : okD drops i) : (hst drops i).1.length = drops.length := (hst_HI hi h).len
/-- amid the popping -/
def hmid (E S : List Int) (d : Int) (place : Int) (t : Nat) : List Int := if 0 < d ∧ (t : Int) = d then E.set (gt S ((S.length : Int) - d)).toNat place else E
/-! ways, with so much breath -/
def upM (t : List Int) (p : Int) : Option (List Int) := up t (t.length + 1) (gt t p)
def flatAtM (t : List Int) (p : Nat) : Option Int := (upM t p).map fun w => behind w p
def flatM (t : List Int) : Option (List Int) := if (List.range t.length).all (fun p => (flatAtM t p).isSome) then some ((List.range t.length).map fun p => (flatAtM t p).getD 0) else none
/-! the law's elders -/
theorem sl_last {l : List Int} : sl l (some (-1)) none = if l = [] then [] else [gtB l 1] := by
  unfold sl
  have e2 : HT.sIx l.length l.length none = l.length := rfl
  cases hl : l.length with
  | zero =>
    have := List.eq_nil_of_length_eq_zero hl
    subst this
    rfl
  | succ n =>
    have hne : l ≠ [] := fun z => by rw [z] at hl; cases hl
    have e1 : HT.sIx (n + 1) 0 (some (-1)) = n := by unfold HT.sIx; simp only; rw [if_pos (by omega)]; omega
    rw [hl] at e2
    rw [if_neg hne, e1, e2]
    have : l.drop n = [gtB l 1] := by
      unfold gtB
      rw [hl]
      refine List.ext_getElem? fun k => ?_
      rw [List.getElem?_drop]
      cases k with
      | zero =>
        rw [List.getD_eq_getElem?_getD, Nat.add_sub_cancel, Nat.add_zero, List.getElem?_eq_getElem (by omega)]; rfl
      | succ k => rw [List.getElem?_eq_none (by omega)]; rfl
    rw [this]
    exact List.take_of_length_le (by simp)
end TM


set_option Elab.async false
set_option linter.all false
/-! ### a row of a tree, drawn place by place in the order of the ranks -/
namespace TM
open GL
theorem ups_cons {t : List Int} (h : isTree t = true) {p : Int} (hp : 0 ≤ p ∧ p < t.length) (he : ¬ gt t p = -1) : (0 ≤ gt t p ∧ gt t p < t.length) ∧ ups t p = gt t p :: ups t (gt t p) := by
  have h1 := oget_some (ups_some h hp)
  change up t t.length (gt t p) = some (ups t p) at h1
  obtain ⟨n, hn⟩ : ∃ n, t.length = n + 1 := ⟨t.length - 1, by omega⟩
  have hin : 0 ≤ gt t p ∧ gt t p < t.length := by
    refine Decidable.byContradiction fun z => ?_
    rw [up_none he (by omega)] at h1; cases h1
  refine ⟨hin, ?_⟩
  rw [hn, up_step hin] at h1
  cases e : up t n (gt t (gt t p)) with
  | none => rw [e] at h1; cases h1
  | some w =>
    rw [e] at h1
    have h2 := up_more t n 1 _ _ e
    rw [← hn] at h2
    have h3 : ups t (gt t p) = w := by unfold ups; rw [h2]; rfl
    rw [h3]
    exact (Option.some.inj h1).symm
def rk (t : List Int) (p : Int) : Int := ((ups t p).length : Int)
def ranksB (t : List Int) (i : Nat) : List (Int × Int) := (List.range i).map fun p : Nat => (rk t (p : Int), (p : Int))
/-- the ranks, in order -/
structure RL (t : List Int) (L : List (Int × Int)) : Prop where
  it : ∀ q ∈ L, q.1 = rk t q.2 ∧ 0 ≤ q.2 ∧ q.2 < t.length
  all : ∀ p : Nat, p < t.length → (rk t p, (p : Int)) ∈ L
  up : L.Pairwise fun a b => a.1 ≤ b.1 ∧ a.2 ≠ b.2
theorem RL.lt {t : List Int} {L : List (Int × Int)} (h : RL t L) {k i : Nat} {a b : Int × Int} (hk : k < i) (ha : L[k]? = some a) (hb : L[i]? = some b) : a.1 ≤ b.1 ∧ a.2 ≠ b.2 := by
  obtain ⟨k1, e1⟩ := List.getElem?_eq_some_iff.mp ha
  obtain ⟨i1, e2⟩ := List.getElem?_eq_some_iff.mp hb
  have := List.pairwise_iff_getElem.mp h.up k i k1 i1 hk
  rw [e1, e2] at this; exact this
def KR (t : List Int) (L : List (Int × Int)) (found : List Int) (i : Nat) : Prop := found.length = t.length ∧ ∀ k, k < i → ∀ q, L[k]? = some q → 0 ≤ gt t q.2 → gt found (gt t q.2) + (if q.2 < gt t q.2 then 1 else 0) ≤ gt found q.2
/-! the law's hanging, step by step -/
end TM


set_option Elab.async false
set_option linter.all false
/-! ### lows by a tree alone -/
namespace TM
open GL
def lowBy (t : List Int) (a b : Int) : Int := gtB (([a] ++ ups t a).filter fun p => decide (a ≤ p ∧ p ≤ b)) 1
end TM


set_option Elab.async false
set_option linter.all false
/-! ### spans by a tree -/
namespace TM
open GL
/-- p hangs under o, or is it -/
def Dsc (t : List Int) (o p : Int) : Prop := o ∈ [p] ++ ups t p
instance (t : List Int) (o p : Int) : Decidable (Dsc t o p) := inferInstanceAs (Decidable (o ∈ [p] ++ ups t p))
def spF (t : List Int) (o : Int) : Nat → Int
  | 0 => o
  | i + 1 => if Dsc t o i then min (spF t o i) i else spF t o i
def spG (t : List Int) (o : Int) : Nat → Int
  | 0 => o
  | i + 1 => if Dsc t o i then max (spG t o i) i else spG t o i
def spanT (t : List Int) (o : Int) : Int × Int := (spF t o t.length, spG t o t.length)
theorem spFG {t : List Int} {o a b : Int} {n : Nat} (ha : 0 ≤ a ∧ a ≤ o ∧ o ≤ b) (h : ∀ p : Nat, p < n → (Dsc t o p ↔ a ≤ p ∧ (p : Int) ≤ b)) : ∀ i, i ≤ n → spF t o i = (if a < i then a else o) ∧ spG t o i = max o (min ((i : Int) - 1) b)
  | 0, _ => ⟨by rw [if_neg (by omega)]; rfl, by show o = _; omega⟩
  | i + 1, hi => by
    obtain ⟨h1, h2⟩ := spFG ha h i (by omega)
    have hd := h i (by omega)
    rw [spF, spG, h1, h2]
    by_cases d : Dsc t o i
    · rw [if_pos d, if_pos d]
      have := hd.mp d
      constructor
      · split <;> split <;> omega
      · omega
    · rw [if_neg d, if_neg d]
      have : ¬ (a ≤ i ∧ (i : Int) ≤ b) := fun z => d (hd.mpr z)
      constructor
      · split <;> split <;> omega
      · omega
theorem dsc_anc {row : List Int} {o p : Nat} (ho : o < row.length) (hp : p < row.length) : Dsc (treeOf row) o p ↔ o = p ∨ Anc row p o := by
  unfold Dsc
  rw [List.mem_append, List.mem_singleton, ups_mem hp ho]
  constructor
  · rintro (z | z)
    · exact .inl (by omega)
    · exact .inr z
  · rintro (z | z)
    · exact .inl (by omega)
    · exact .inr z
/-- how far a place reaches -/
structure Sn (row : List Int) (p a b : Int) : Prop where
  a0 : 0 ≤ a
  ap : a ≤ p
  pb : p ≤ b
  bn : b < row.length
  l : ∀ j : Nat, a ≤ j → (j : Int) < p → nb row p.toNat < nb row j
  r : ∀ j : Nat, p < j → (j : Int) ≤ b → nb row p.toNat ≤ nb row j
  la : 0 < a → nb row (a - 1).toNat ≤ nb row p.toNat
  rb : b + 1 < row.length → nb row (b + 1).toNat < nb row p.toNat
theorem Sn.dsc {row : List Int} {p a b : Int} (h : Sn row p a b) {q : Nat} (hq : q < row.length) : Dsc (treeOf row) p q ↔ a ≤ q ∧ (q : Int) ≤ b := by
  have h1 := h.a0; have h2 := h.ap; have h3 := h.pb; have h4 := h.bn
  have e : p = (p.toNat : Int) := by omega
  rw [e, dsc_anc (by omega) hq]
  constructor
  · rintro (z | z | z)
    · omega
    · refine ⟨by omega, ?_⟩
      refine Decidable.byContradiction fun y => ?_
      have k := h.rb (by omega)
      have := z.2 (b + 1).toNat (by omega) (by omega)
      omega
    · refine ⟨?_, by omega⟩
      refine Decidable.byContradiction fun y => ?_
      have k := h.la (by omega)
      have := z.2 (a - 1).toNat (by omega) (by omega)
      omega
  · rintro ⟨y1, y2⟩
    rcases Nat.lt_trichotomy q p.toNat with z | z | z
    · exact .inr (.inr ⟨z, fun j j1 j2 => h.l j (by omega) (by omega)⟩)
    · exact .inl z.symm
    · refine .inr (.inl ⟨z, fun j j1 j2 => ?_⟩)
      by_cases e2 : j = p.toNat
      · rw [e2]; exact Int.le_refl _
      · exact h.r j (by omega) (by omega)
theorem Sn.span {row : List Int} {p a b : Int} (h : Sn row p a b) : spanT (treeOf row) p = (a, b) := by
  have h1 := h.a0; have h2 := h.ap; have h3 := h.pb; have h4 := h.bn
  have := spFG (t := treeOf row) (o := p) (a := a) (b := b) (n := row.length) ⟨h1, h2, h3⟩ (fun q hq => h.dsc hq) row.length (Nat.le_refl _)
  unfold spanT
  rw [treeOf_len, this.1, this.2, if_pos (by omega)]
  congr 1
  omega
/-! the walk of the chains -/
/-- the lists, amid a chain -/
def spL (f : Int → Int → Int) (t L : List Int) (g : Int → Nat → Int) (i j : Nat) (o : Int) : Int := if o ∈ L.take j then f (g o i) i else g o i
def spRow (n : Nat) (v : Int → Int) : List Int := (rg 0 n).map v
end TM


set_option Elab.async false
set_option linter.all false
/-! ### starts and partings judged -/
namespace TM
open GL
def rises (l : List Int) : Bool := ((rg 0 ((l.length : Int) - 1)).map fun p => decide (gt l p < gt l (p + 1))).all id
theorem rg_sorted (a b : Int) : (rg a b).Pairwise (· < ·) := by
  unfold rg
  refine List.pairwise_map.mpr (List.pairwise_lt_range.imp fun {x y} h => ?_)
  omega
/-- where no start stands -/
def begs (row text : List Int) : List Int := (rg 0 ((text.length : Int) - row.length + 1)).filter fun z => decide (z ∉ starts row text)
def partsB (row other : List Int) (a b : Int) : Bool := decide (0 ≤ a ∧ a ≤ b ∧ b < row.length) && !decide (low row a b = low other a b)
theorem starts_in {row text : List Int} {s : Int} (h : s ∈ starts row text) : 0 ≤ s ∧ s + row.length ≤ text.length ∧ kinB row (sl text (some s) (some (s + row.length))) = true := by
  unfold starts stB at h
  obtain ⟨h1, h2⟩ := List.mem_filter.mp h
  have := rg_mem.mp h1
  exact ⟨by omega, by omega, of_decide_eq_true h2⟩
/-- the sizes found so far -/
structure SB (row : List Int) (many : Nat) (sizes : List Int) (i : Nat) : Prop where
  ne : sizes ≠ []
  lo : 0 ≤ gtB sizes 1 ∧ gtB sizes 1 < i + 1
  k : K row (gtB sizes 1).toNat many
  mx : ∀ t : Nat, t < i + 1 → K row t many → (t : Int) ≤ gtB sizes 1
end TM


set_option Elab.async false
set_option linter.all false
/-! ### rows alike by moving, by flat numbers -/
namespace TM
open GL
theorem fits_self {row : List Int} (hl : row.length ≤ 40) : Fits (treeOf row) row := fun p hp he => by
  rw [treeOf_len] at hp
  have ht := isTree_treeOf hl
  have hin := (ups_cons ht (p := (p : Int)) (by rw [treeOf_len]; omega) (by rw [gt_nb]; omega))
  rw [gt_nb] at hin
  obtain ⟨h1, h2⟩ := hin
  rw [treeOf_len] at h1
  have hm : ((nb (treeOf row) p).toNat : Int) ∈ ups (treeOf row) p := by
    rw [h2, Int.toNat_of_nonneg he]; simp
  have ha := (ups_mem (row := row) (p := p) (q := (nb (treeOf row) p).toNat) hp (by omega)).mp hm
  rcases ha with ⟨y, z⟩ | ⟨y, z⟩
  · rw [if_neg (by omega)]
    have := z p (by omega) (Nat.le_refl _); omega
  · rw [if_pos (by omega)]
    have := z p (Nat.le_refl _) y; omega
end TM


set_option Elab.async false
set_option linter.all false
/-! ### the drops of a row hang its tree -/
namespace TM
open GL
def dropsOf (row : List Int) : List Int := (List.range row.length).map fun k => ((opens row k).length : Int) - dep row k
theorem dropsOf_len (row : List Int) : (dropsOf row).length = row.length := by simp [dropsOf]
theorem nb_dropsOf {row : List Int} {k : Nat} (h : k < row.length) : nb (dropsOf row) k = ((opens row k).length : Int) - dep row k := by
  unfold nb dropsOf
  rw [List.getD_eq_getElem?_getD, List.getElem?_map, List.getElem?_range h]; rfl
theorem opens_cut (row : List Int) (i : Nat) : (opens row i).filter (fun q => decide (nb row q ≤ nb row i)) = (opens row i).take (dep row i) := filter_is_take (opens_mono row i)
theorem take_dep {row : List Int} {i q : Nat} (h : q ∈ (opens row i).take (dep row i)) : nb row q ≤ nb row i := by
  rw [← opens_cut] at h
  exact of_decide_eq_true (List.mem_filter.mp h).2
theorem drop_dep {row : List Int} {i q : Nat} (h : q ∈ (opens row i).drop (dep row i)) : nb row i < nb row q := by
  have e := opens_cut row i
  have h1 : (opens row i).take (dep row i) ++ (opens row i).drop (dep row i) = opens row i := List.take_append_drop ..
  have h2 := congrArg (fun l => (l.filter fun q => decide (nb row q ≤ nb row i)).length) h1
  simp only [List.filter_append, List.length_append] at h2
  have h3 : ((opens row i).take (dep row i)).filter (fun q => decide (nb row q ≤ nb row i)) = (opens row i).take (dep row i) := List.filter_eq_self.mpr fun x hx => decide_eq_true (take_dep hx)
  rw [h3, e] at h2
  have h4 : ((opens row i).drop (dep row i)).filter (fun q => decide (nb row q ≤ nb row i)) = [] := List.eq_nil_of_length_eq_zero (by omega)
  have := List.filter_eq_nil_iff.mp h4 q h
  rw [decide_eq_true_iff] at this; omega
theorem hst_of (row : List Int) : ∀ i, i ≤ row.length → hst (dropsOf row) i = (treeB row i, (opens row i).map fun (q : Nat) => (q : Int)) ∧ okD (dropsOf row) i
  | 0, _ => ⟨by
      rw [hst, dropsOf_len, treeB_0, opens_zero]; rfl, fun j hj => absurd hj (Nat.not_lt_zero _)⟩
  | i + 1, h => by
    obtain ⟨ih, ok⟩ := hst_of row i (by omega)
    have hd := nb_dropsOf (row := row) (k := i) (by omega)
    have hdl := dep_le row i
    have ok2 : okD (dropsOf row) (i + 1) := fun j hj => by
      by_cases e : j < i
      · exact ok j e
      · have : j = i := by omega
        subst this
        rw [ih, hd, List.length_map]; omega
    refine ⟨?_, ok2⟩
    rw [hst, ih, hd]
    obtain ⟨x, hx⟩ : ∃ x, (enu row)[i]? = some x := ⟨_, List.getElem?_eq_getElem (by rw [enu_len]; omega)⟩
    obtain ⟨x1, x2, x3⟩ := enu_num hx
    have x4 : x.2 = nb row i := by rw [x3, x1, gt_nb]
    have hl : (((opens row i).map fun (q : Nat) => (q : Int)).length : Int) - (((opens row i).length : Int) - dep row i) = (dep row i : Int) := by rw [List.length_map]; omega
    have hS : (((opens row i).map fun (q : Nat) => (q : Int)).take (dep row i)).length = dep row i := by rw [List.length_take, List.length_map]; omega
    have key := tree_turn (row := row) (E := treeB row i) (S0 := (opens row i).map fun (q : Nat) => (q : Int)) (S := ((opens row i).map fun (q : Nat) => (q : Int)).take (dep row i)) (i := i) (x := x)
      (g := ((opens row i).map fun (q : Nat) => (q : Int))[(((opens row i).map fun (q : Nat) => (q : Int)).take (dep row i)).length]?)
      (E1 := setO (treeB row i) (((opens row i).map fun (q : Nat) => (q : Int))[(((opens row i).map fun (q : Nat) => (q : Int)).take (dep row i)).length]?) x.1)
      (E2 := if ((opens row i).map fun (q : Nat) => (q : Int)).take (dep row i) ≠ [] then (setO (treeB row i) (((opens row i).map fun (q : Nat) => (q : Int))[(((opens row i).map fun (q : Nat) => (q : Int)).take (dep row i)).length]?) x.1).set x.1.toNat (gtB (((opens row i).map fun (q : Nat) => (q : Int)).take (dep row i)) 1) else setO (treeB row i) (((opens row i).map fun (q : Nat) => (q : Int))[(((opens row i).map fun (q : Nat) => (q : Int)).take (dep row i)).length]?) x.1)
      rfl rfl (by rw [hS, List.length_map]; omega) (by rw [hS]) (fun j hj q hq => by
        rw [hS] at hj
        rw [List.getElem?_map] at hq
        obtain ⟨q', hq', rfl⟩ := Option.map_eq_some_iff.mp hq
        rw [x4, gt_nb]
        refine drop_dep (List.mem_of_getElem? (i := j - dep row i) ?_)
        rw [List.getElem?_drop, show dep row i + (j - dep row i) = j by omega]; exact hq')
      rfl (fun ⟨z1, z2⟩ => by
        have hm := gtB_mem (n := 1) ⟨by decide, List.length_pos_iff.mpr z1⟩
        rw [← List.map_take] at hm
        obtain ⟨q', hq', e⟩ := List.mem_map.mp hm
        rw [← List.map_take, ← e, x4, gt_nb] at z2
        have := take_dep hq'; omega)
      rfl (fun z => if_pos z) (fun z => if_neg (fun y => y z)) hx
    rw [← key.1, ← key.2]
    unfold hone
    simp only [hl, Int.toNat_natCast, x1]
    refine Prod.ext ?_ rfl
    have hE1 : (if (0 : Int) < ((opens row i).length : Int) - dep row i then (treeB row i).set (gt ((opens row i).map fun (q : Nat) => (q : Int)) (dep row i : Int)).toNat (i : Int) else treeB row i) = setO (treeB row i) (((opens row i).map fun (q : Nat) => (q : Int))[(((opens row i).map fun (q : Nat) => (q : Int)).take (dep row i)).length]?) (i : Int) := by
      rw [hS]
      by_cases z : dep row i < (opens row i).length
      · rw [if_pos (by omega), List.getElem?_eq_getElem (by rw [List.length_map]; exact z)]
        unfold setO gt
        rw [List.getD_eq_getElem?_getD, Int.toNat_natCast, List.getElem?_eq_getElem (by rw [List.length_map]; exact z)]; rfl
      · rw [if_neg (by omega), List.getElem?_eq_none (by rw [List.length_map]; omega)]; rfl
    show (if (0 : Int) < (dep row i : Int) then _ else _) = _
    rw [hE1]
    by_cases z : ((opens row i).map fun (q : Nat) => (q : Int)).take (dep row i) = []
    · have : dep row i = 0 := by rw [z] at hS; simpa using hS.symm
      rw [if_neg (by omega), if_neg (fun y => y z)]
    · have : 0 < dep row i := by rw [← hS]; exact List.length_pos_iff.mpr z
      rw [if_pos (by omega), if_pos z]
theorem hungF_row (row : List Int) : hungF (dropsOf row) = treeOf row ∧ okD (dropsOf row) (dropsOf row).length := by
  obtain ⟨h1, h2⟩ := hst_of row row.length (Nat.le_refl _)
  refine ⟨?_, by rw [dropsOf_len]; exact h2⟩
  unfold hungF
  rw [dropsOf_len, h1]; exact treeB_all row
end TM


set_option Elab.async false
set_option linter.all false
/-! ### hung, told with its failure; rows behind their distances -/
namespace TM
open GL
def hungO (drops : List Int) : Option (List Int) := if (List.range drops.length).all (fun j => decide (0 ≤ nb drops j ∧ nb drops j ≤ ((hst drops j).2.length : Int))) then some (hungF drops) else none
theorem hungO_some {drops : List Int} (h : okD drops drops.length) : hungO drops = some (hungF drops) := by
  unfold hungO
  rw [if_pos (List.all_eq_true.mpr fun j hj => decide_eq_true (h j (List.mem_range.mp hj)))]
theorem hungO_none {drops : List Int} {i : Nat} (hi : i < drops.length) (h : ¬ (0 ≤ nb drops i ∧ nb drops i ≤ ((hst drops i).2.length : Int))) : hungO drops = none := by
  unfold hungO
  rw [if_neg]
  intro z
  exact h (of_decide_eq_true (List.all_eq_true.mp z i (List.mem_range.mpr hi)))
noncomputable def rowOf (told : List Int) : List Int := open Classical in if h : ∃ row, told = backs row then h.choose else []
theorem hung_two {drops E1 E2 S1 : List Int} {i : Nat} {d left : Int} (hd : 0 ≤ d ∧ d ≤ ((hst drops i).2.length : Int)) (hdn : d = nb drops i) (hleft : left = ((hst drops i).2.length : Int) - d)
    (j1 : 0 < d → E1 = (hst drops i).1.set (gt (hst drops i).2 left).toNat i) (j2 : ¬ 0 < d → E1 = (hst drops i).1) (hS : S1 = sl (hst drops i).2 none (some left))
    (k1 : 0 < left → E2 = E1.set i (gtB S1 1)) (k2 : ¬ 0 < left → E2 = E1) : E2 = (hst drops (i + 1)).1 ∧ S1 ++ [(i : Int)] = (hst drops (i + 1)).2 := by
  have e : hst drops (i + 1) = hone (hst drops i) i d := by rw [hst, ← hdn]
  have e1 : E1 = if 0 < d then (hst drops i).1.set (gt (hst drops i).2 left).toNat i else (hst drops i).1 := by
    by_cases z : 0 < d
    · rw [if_pos z]; exact j1 z
    · rw [if_neg z]; exact j2 z
  have e2 : S1 = (hst drops i).2.take left.toNat := by rw [hS, sl_take (by omega)]
  rw [e]
  unfold hone
  simp only [← hleft, ← e1, ← e2]
  refine ⟨?_, trivial⟩
  by_cases z : 0 < left
  · rw [if_pos z]; exact k1 z
  · rw [if_neg z]; exact k2 z
end TM


set_option Elab.async false
set_option linter.all false
/-! ### distances, as a law tells them -/
namespace TM
open GL
theorem backs_flat {row : List Int} (hl : row.length ≤ 40) : backs (flatF (treeOf row)) = backs row := by
  have ht := isTree_treeOf hl
  have hfl : (flatF (treeOf row)).length = row.length := by rw [flatF_len, treeOf_len]
  have h := (tree_iff_bk hfl).mp (flat_of_tree ht).2
  unfold backs
  rw [hfl]
  exact List.map_congr_left fun p hp => h p (by rw [hfl]; exact List.mem_range.mp hp)
end TM


set_option Elab.async false
set_option linter.all false
/-! ### drops as laws tell them; brackets -/
namespace TM
open GL
open PySem (Str)
theorem dropsOf_dep {r s : List Int} (hl : r.length = s.length) (h : ∀ p, p < r.length → dep r p = dep s p) : dropsOf r = dropsOf s := by
  unfold dropsOf
  rw [← hl]
  refine List.map_congr_left fun k hk => ?_
  have hk := List.mem_range.mp hk
  rw [h k hk, dep_opens (n := r.length) h k (by omega)]
theorem kin_drops {r s : List Int} (h : kinB r s = true) : dropsOf r = dropsOf s := dropsOf_dep (kinB_iff.mp h).1 (kinB_iff.mp h).2
theorem kin_flat {row : List Int} (hl : row.length ≤ 40) : kinB row (flatF (treeOf row)) = true :=
  kinB_tree.mpr ⟨by rw [flatF_len, treeOf_len], (flat_of_tree (isTree_treeOf hl)).2.symm⟩
theorem drops_flat {row : List Int} (hl : row.length ≤ 40) : dropsOf (flatF (treeOf row)) = dropsOf row := (kin_drops (kin_flat hl)).symm
theorem dropsOf_ok (row : List Int) : okD (dropsOf row) (dropsOf row).length := (hungF_row row).2
theorem hungO_row (row : List Int) : hungO (dropsOf row) = some (treeOf row) := by rw [hungO_some (dropsOf_ok row), (hungF_row row).1]
theorem hungO_tree {t : List Int} (h : isTree t = true) : hungO (dropsOf (flatF t)) = some t := by rw [hungO_row, (flat_of_tree h).2]
theorem okD_nn {d : List Int} (h : okD d d.length) : ∀ x ∈ d, 0 ≤ x := fun x hx => by
  obtain ⟨j, hj, rfl⟩ := List.mem_iff_getElem.mp hx
  have := (h j hj).1
  unfold nb at this
  rw [List.getD_eq_getElem?_getD, List.getElem?_eq_getElem hj] at this
  exact this
theorem okD_sum {d : List Int} (h : okD d d.length) : d.sum ≤ d.length := by
  rcases hst_size (drops := d) (i := d.length) h with e | e
  · rw [List.take_length] at e; omega
  · omega
/-! brackets -/
def brS (st : Option (List Int × Int)) (c : Nat) : Option (List Int × Int) := match st with
  | none => none
  | some (d, m) => if c = 40 then some (d ++ [m], 0) else if c = 41 then some (d, m + 1) else none
def brk (l : List Nat) : Option (List Int × Int) := l.foldl brS (some ([], 0))
def brT (l : List Nat) : Option (List Int) := match brk l with
  | none => none
  | some (d, m) => if 40 < (d.length : Int) ∨ d.sum + m ≠ d.length then none else hungO d
def brOf (d : List Int) : List Nat := (d.map fun x => List.replicate x.toNat 41 ++ [40]).flatten ++ List.replicate ((d.length : Int) - d.sum).toNat 41
def dropT (told : List Int) : Option (List Int) := if told.length ≤ 40 then hungO told else none
theorem brS_none : ∀ l : List Nat, l.foldl brS none = none
  | [] => rfl
  | _ :: l => brS_none l
theorem brk_step {l : List Nat} {i c : Nat} (h : l[i]? = some c) : brk (l.take (i + 1)) = brS (brk (l.take i)) c := by
  unfold brk
  rw [List.take_add_one, h]
  show List.foldl brS _ (l.take i ++ [c]) = _
  rw [List.foldl_append]; rfl
theorem brk_bad {l : List Nat} {i c : Nat} (h : l[i]? = some c) (h2 : brS (brk (l.take i)) c = none) : brk l = none := by
  rw [← brk_step h] at h2
  unfold brk at h2 ⊢
  conv => lhs; rw [← List.take_append_drop (i + 1) l]
  rw [List.foldl_append, h2, brS_none]
theorem brT_bad {l : List Nat} (h : brk l = none) : brT l = none := by unfold brT; rw [h]
theorem brT_out {l : List Nat} {d : List Int} {m : Int} (h : brk l = some (d, m)) (h2 : 40 < (d.length : Int) ∨ ¬ d.sum + m = (d.length : Int) ∨ hungO d = none) : brT l = none := by
  unfold brT; rw [h]
  show (if _ then _ else _) = _
  split
  · rfl
  · rename_i z
    rcases h2 with h2 | h2 | h2
    · exact absurd (.inl h2) z
    · exact absurd (.inr h2) z
    · exact h2
theorem brT_in {l : List Nat} {d : List Int} {m : Int} (h : brk l = some (d, m)) (h2 : ¬ (40 < (d.length : Int) ∨ ¬ d.sum + m = (d.length : Int) ∨ hungO d = none)) : brT l = hungO d := by
  unfold brT; rw [h]
  show (if _ then _ else _) = _
  rw [if_neg]
  intro z
  exact h2 (z.elim .inl fun y => .inr (.inl y))
theorem dropT_of {d : List Int} (h : okD d d.length) (hl : d.length ≤ 40) : dropT d = some (hungF d) := by unfold dropT; rw [if_pos hl, hungO_some h]
theorem tl_rb : tl (")" : Str) = [41] := by rw [show tl (")" : Str) = _ from TL.tl_ofString ")"]; rfl
theorem tl_lb : tl ("(" : Str) = [40] := by rw [show tl ("(" : Str) = _ from TL.tl_ofString "("]; rfl
theorem tl_em : tl ("" : Str) = [] := by rw [show tl ("" : Str) = _ from TL.tl_ofString ""]; rfl
theorem br_text (d : List Int) : Str.join ("" : Str) (d.map fun many => smul (")" : Str) many ++ ("(" : Str)) ++ smul (")" : Str) ((d.length : Int) - d.sum) = TS_ (brOf d) := by
  apply str_ext
  rw [tl_app, tl_smul1 tl_rb, tl_join, tl_em, joinL_nil, List.map_map]
  show _ = brOf d
  unfold brOf
  congr 3
  funext x
  show tl (smul (")" : Str) x ++ ("(" : Str)) = _
  rw [tl_app, tl_smul1 tl_rb, tl_lb]
theorem join_small {d : List Int} (h : ∀ x ∈ d, x ≤ 100) (hl : d.length ≤ 1000) : ((d.map fun many => smul (")" : Str) many ++ ("(" : Str)).map (·.length)).sum + (d.map fun many => smul (")" : Str) many ++ ("(" : Str)).length * ("" : Str).length ≤ 1000000 := by
  have h1 : ("" : Str).length = 0 := by rw [len_tl, tl_em]; rfl
  have h2 : ∀ x ∈ ((d.map fun many => smul (")" : Str) many ++ ("(" : Str)).map (·.length)), x ≤ 101 := by
    intro x hx
    obtain ⟨y, hy, rfl⟩ := List.mem_map.mp hx
    obtain ⟨z, hz, rfl⟩ := List.mem_map.mp hy
    have := h z hz
    rw [len_app, len_tl, len_tl ("(" : Str), tl_smul1 tl_rb, tl_lb, List.length_replicate, List.length_singleton]
    omega
  have h3 := sum_le_of h2
  rw [List.length_map, List.length_map] at h3
  rw [h1, Nat.mul_zero, Nat.add_zero]
  omega
theorem br_len1 : (")" : Str).length = 1 := by rw [len_tl, tl_rb]; rfl
theorem br_len2 : ("(" : Str).length = 1 := by rw [len_tl, tl_lb]; rfl
theorem smul_len {n : Int} : (smul (")" : Str) n).length = n.toNat := by rw [len_tl, tl_smul1 tl_rb, List.length_replicate]
theorem join_len {d : List Int} (h : ∀ x ∈ d, x ≤ 100) (hl : d.length ≤ 1000) : (Str.join ("" : Str) (d.map fun many => smul (")" : Str) many ++ ("(" : Str))).length ≤ 200000 := by
  rw [len_tl, tl_join, tl_em, joinL_nil, List.length_flatten, List.map_map]
  have h2 : ∀ x ∈ ((d.map fun many => smul (")" : Str) many ++ ("(" : Str)).map tl).map List.length, x ≤ 101 := by
    intro x hx
    obtain ⟨y, hy, rfl⟩ := List.mem_map.mp hx
    obtain ⟨w, hw, rfl⟩ := List.mem_map.mp hy
    obtain ⟨z, hz, rfl⟩ := List.mem_map.mp hw
    have := h z hz
    rw [tl_app, tl_smul1 tl_rb, tl_lb, List.length_append, List.length_replicate, List.length_singleton]
    omega
  have h3 := sum_le_of h2
  rw [List.length_map, List.length_map, List.length_map] at h3
  rw [List.map_map, List.map_map] at h3
  rw [List.map_map]
  omega
end TM
namespace TM
open GL
open PySem (Str)
theorem mem_le_sum : ∀ {d : List Int}, (∀ x ∈ d, 0 ≤ x) → 0 ≤ d.sum ∧ ∀ x ∈ d, x ≤ d.sum
  | [], _ => ⟨Int.le_refl _, fun x hx => by cases hx⟩
  | y :: d, h => by
    obtain ⟨i1, i2⟩ := mem_le_sum (d := d) fun x hx => h x (by simp [hx])
    have hy := h y (by simp)
    rw [List.sum_cons]
    refine ⟨by omega, fun x hx => ?_⟩
    rcases List.mem_cons.mp hx with rfl | hx
    · omega
    · have := i2 x hx; omega
theorem drops_small {d : List Int} (h : okD d d.length) : (∀ x ∈ d, 0 ≤ x ∧ x ≤ d.length) ∧ 0 ≤ d.sum ∧ d.sum ≤ d.length := by
  have h1 := okD_nn h
  have h2 := okD_sum h
  obtain ⟨h3, h4⟩ := mem_le_sum h1
  exact ⟨fun x hx => ⟨h1 x hx, Int.le_trans (h4 x hx) h2⟩, h3, h2⟩
end TM
namespace TM
open GL
open PySem (Str)
theorem sign_at {a : Str} {i : Nat} {s : Str} (h : (signs a)[i]? = some s) : ∃ c, (tl a)[i]? = some c ∧ s = sg c := by
  unfold signs at h
  rw [List.getElem?_map] at h
  obtain ⟨c, h1, h2⟩ := Option.map_eq_some_iff.mp h
  exact ⟨c, h1, h2.symm⟩
end TM
namespace TM
open GL
open PySem (Str)
theorem sg_lb {c : Nat} {s : Str} (h : s = sg c) : s = ("(" : Str) ↔ c = 40 := by
  rw [h, str_inj, tl_lb]
  show [c] = [40] ↔ _
  simp
theorem sg_rb {c : Nat} {s : Str} (h : s = sg c) : s = (")" : Str) ↔ c = 41 := by
  rw [h, str_inj, tl_rb]
  show [c] = [41] ↔ _
  simp
theorem brS_lb {d : List Int} {m : Int} {c : Nat} (h : c = 40) : brS (some (d, m)) c = some (d ++ [m], 0) := by subst h; rfl
theorem brS_rb {d : List Int} {m : Int} {c : Nat} (h : c = 41) : brS (some (d, m)) c = some (d, m + 1) := by subst h; rfl
theorem brS_no {d : List Int} {m : Int} {c : Nat} (h : ¬ c = 40) (h2 : ¬ c = 41) : brS (some (d, m)) c = none := by
  show (if c = 40 then _ else if c = 41 then _ else none) = none
  rw [if_neg h, if_neg h2]
end TM
namespace TM
open GL
end TM


set_option Elab.async false
set_option linter.all false
/-! ### texts of trees, written and read -/
namespace TM
open GL
open PySem (Str)
def trText (d : List Int) : Str := orS (TS_ (brOf d)) ("-" : Str)
def readT (text : Str) : Option (List Int) := if text = ("-" : Str) then some [] else match brT (tl text) with
  | none => none
  | some t => if t = [] then none else some t
end TM
namespace TM
open GL
open PySem (Str)
end TM


set_option Elab.async false
set_option linter.all false
/-! ### which places clash -/
namespace TM
open GL
def clP (t row : List Int) (b a : Int) : Bool := decide (gt row b < gt row a + gt (flatF t) b - gt (flatF t) a)
def clAt (t row : List Int) (b : Int) : List (Int × Int) := ((ups t b).filter (clP t row b)).map fun a => (a, b)
def clB (t row : List Int) (n : Nat) : List (Int × Int) := (List.range n).flatMap fun (b : Nat) => clAt t row (b : Int)
def clash (t row : List Int) : List (Int × Int) := psort (clB t row t.length)
end TM
namespace TM
open GL
end TM


set_option Elab.async false
set_option linter.all false
/-! ### a row for any drops; ranks -/
namespace TM
open GL
theorem nb_pre {row : List Int} {x : Int} {q : Nat} (h : q < row.length) : nb (row ++ [x]) q = nb row q := by rw [nb_app rfl, if_pos h]
theorem opens_pre {row : List Int} {x : Int} {m : Nat} (h : m ≤ row.length) : opens (row ++ [x]) m = opens row m := by
  unfold opens
  refine List.filter_congr fun q hq => ?_
  have hq := List.mem_range.mp hq
  rw [Bool.eq_iff_iff, List.all_eq_true, List.all_eq_true]
  refine forall_congr' fun j => forall_congr' fun hj => ?_
  have hj := List.mem_range.mp hj
  rw [nb_pre (by omega), nb_pre (by omega)]
theorem dep_pre {row : List Int} {x : Int} {m : Nat} (h : m < row.length) : dep (row ++ [x]) m = dep row m := by
  unfold dep
  rw [opens_pre (by omega)]
  congr 1
  refine List.filter_congr fun q hq => ?_
  have hq : q < m := (mem_opens.mp hq).1
  rw [nb_pre (by omega), nb_pre h]
theorem dropsOf_snoc (row : List Int) (x : Int) : dropsOf (row ++ [x]) = dropsOf row ++ [((opens row row.length).length : Int) - ((opens row row.length).filter fun q => decide (nb row q ≤ x)).length] := by
  unfold dropsOf
  rw [List.length_append, List.length_singleton, List.range_succ, List.map_append]
  congr 1
  · refine List.map_congr_left fun k hk => ?_
    have hk := List.mem_range.mp hk
    rw [opens_pre (by omega), dep_pre hk]
  · have e : dep (row ++ [x]) row.length = ((opens row row.length).filter fun q => decide (nb row q ≤ x)).length := by
      unfold dep
      rw [opens_pre (Nat.le_refl _)]
      congr 1
      refine List.filter_congr fun q hq => ?_
      have hq : q < row.length := (mem_opens.mp hq).1
      rw [nb_pre hq, nb_app rfl, if_neg (by omega), if_pos rfl]
    show [((opens (row ++ [x]) row.length).length : Int) - dep (row ++ [x]) row.length] = [_]
    rw [opens_pre (Nat.le_refl _), e]
/-- the numbers that are open stand at least g apart -/
def Gap (row : List Int) (g : Int) : Prop := (opens row row.length).Pairwise fun p q => nb row p + g ≤ nb row q
theorem gap_snoc {row : List Int} {g : Int} (hg : 0 < g) (h : Gap row (2 * g)) {k : Nat} (hk : k ≤ (opens row row.length).length) :
    ∃ x, ((opens row row.length).filter fun q => decide (nb row q ≤ x)) = (opens row row.length).take k ∧ Gap (row ++ [x]) g := by
  obtain ⟨x, hx1, hx2⟩ : ∃ x : Int, (∀ p ∈ (opens row row.length).take k, nb row p + g ≤ x) ∧ (∀ p ∈ (opens row row.length).drop k, x < nb row p) := by
    have hpw : ∀ i j (hi : i < (opens row row.length).length) (hj : j < (opens row row.length).length), i < j → nb row (opens row row.length)[i] + 2 * g ≤ nb row (opens row row.length)[j] := fun i j hi hj hij => List.pairwise_iff_getElem.mp h i j hi hj hij
    have hmt : ∀ p ∈ (opens row row.length).take k, ∃ i, ∃ hi : i < (opens row row.length).length, i < k ∧ (opens row row.length)[i] = p := fun p hp => by
      obtain ⟨i, hi⟩ := List.mem_iff_getElem?.mp hp
      rw [List.getElem?_take] at hi
      split at hi
      · rename_i z
        obtain ⟨z1, z2⟩ := List.getElem?_eq_some_iff.mp hi
        exact ⟨i, z1, z, z2⟩
      · cases hi
    have hmd : ∀ p ∈ (opens row row.length).drop k, ∃ i, ∃ hi : i < (opens row row.length).length, k ≤ i ∧ (opens row row.length)[i] = p := fun p hp => by
      obtain ⟨i, hi⟩ := List.mem_iff_getElem?.mp hp
      rw [List.getElem?_drop] at hi
      obtain ⟨z1, z2⟩ := List.getElem?_eq_some_iff.mp hi
      exact ⟨k + i, z1, by omega, z2⟩
    by_cases hd : k < (opens row row.length).length
    · refine ⟨nb row (opens row row.length)[k] - g, fun p hp => ?_, fun p hp => ?_⟩
      · obtain ⟨i, hi, hik, rfl⟩ := hmt p hp
        have := hpw i k hi hd hik
        omega
      · obtain ⟨i, hi, hik, rfl⟩ := hmd p hp
        by_cases e : i = k
        · subst e; omega
        · have := hpw k i hd hi (by omega); omega
    · by_cases h0 : (opens row row.length).length = 0
      · refine ⟨0, fun p hp => ?_, fun p hp => ?_⟩
        · obtain ⟨i, hi, _⟩ := hmt p hp; omega
        · obtain ⟨i, hi, _⟩ := hmd p hp; omega
      · refine ⟨nb row ((opens row row.length)[(opens row row.length).length - 1]'(by omega)) + g, fun p hp => ?_, fun p hp => ?_⟩
        · obtain ⟨i, hi, hik, rfl⟩ := hmt p hp
          by_cases e : i = (opens row row.length).length - 1
          · subst e; omega
          · have := hpw i ((opens row row.length).length - 1) hi (by omega) (by omega); omega
        · obtain ⟨i, hi, hik, rfl⟩ := hmd p hp; omega
  have hf : ((opens row row.length).filter fun q => decide (nb row q ≤ x)) = (opens row row.length).take k := by
    conv => lhs; rw [← List.take_append_drop k (opens row row.length), List.filter_append]
    rw [List.filter_eq_self.mpr, List.filter_eq_nil_iff.mpr, List.append_nil]
    · intro p hp z
      have := hx2 p hp
      have := of_decide_eq_true z
      omega
    · intro p hp
      have := hx1 p hp
      exact decide_eq_true (by omega)
  refine ⟨x, hf, ?_⟩
  unfold Gap
  rw [List.length_append, List.length_singleton, opens_succ, opens_pre (Nat.le_refl _)]
  have e : ((opens row row.length).filter fun q => decide (nb (row ++ [x]) q ≤ nb (row ++ [x]) row.length)) = (opens row row.length).take k := by
    rw [← hf]
    refine List.filter_congr fun q hq => ?_
    have hq : q < row.length := (mem_opens.mp hq).1
    rw [nb_pre hq, nb_app rfl, if_neg (by omega), if_pos rfl]
  rw [e]
  refine List.pairwise_append.mpr ⟨?_, List.pairwise_singleton _ _, fun p hp q hq => ?_⟩
  · refine List.Pairwise.imp_of_mem (fun {p q} hp hq hpq => ?_) ((List.Pairwise.sublist (List.take_sublist _ _) h))
    have hp : p < row.length := (mem_opens.mp (List.mem_of_mem_take hp)).1
    have hq : q < row.length := (mem_opens.mp (List.mem_of_mem_take hq)).1
    rw [nb_pre hp, nb_pre hq]; omega
  · obtain rfl := List.mem_singleton.mp hq
    have h1 : p < row.length := (mem_opens.mp (List.mem_of_mem_take hp)).1
    rw [nb_pre h1, nb_app rfl, if_neg (by omega), if_pos rfl]
    exact hx1 p hp
theorem opens_size (row : List Int) : ∀ i, i ≤ row.length → ((opens row i).length : Int) = i - ((dropsOf row).take i).sum := fun i hi => by
  obtain ⟨h1, h2⟩ := hst_of row i hi
  rcases hst_size (drops := dropsOf row) (i := i) h2 with e | e
  · rw [h1, List.length_map] at e; exact e
  · rw [dropsOf_len] at e; omega
theorem row_for {d : List Int} (h : dok d) : ∀ i, i ≤ d.length → ∃ row : List Int, row.length = i ∧ dropsOf row = d.take i ∧ Gap row (2 ^ (d.length - i))
  | 0, _ => ⟨[], rfl, rfl, List.Pairwise.nil⟩
  | i + 1, hi => by
    obtain ⟨row, h1, h2, h3⟩ := row_for h i (by omega)
    subst h1
    have hos := opens_size row row.length (Nat.le_refl _)
    have hdi := h row.length (by omega)
    have e2 : (dropsOf row).take row.length = d.take row.length := by rw [h2, List.take_take, Nat.min_self]
    rw [e2] at hos
    have hp : (2 : Int) ^ (d.length - row.length) = 2 * 2 ^ (d.length - (row.length + 1)) := by
      rw [show d.length - row.length = (d.length - (row.length + 1)) + 1 by omega, Int.pow_succ]; omega
    rw [hp] at h3
    obtain ⟨k, hk⟩ : ∃ k : Nat, ((opens row row.length).length : Int) - nb d row.length = k := ⟨(((opens row row.length).length : Int) - nb d row.length).toNat, by omega⟩
    obtain ⟨x, hx1, hx2⟩ := gap_snoc (Int.pow_pos (by decide)) h3 (k := k) (by omega)
    refine ⟨row ++ [x], by simp, ?_, hx2⟩
    rw [dropsOf_snoc, hx1, h2, List.take_add_one]
    congr 1
    rw [List.getElem?_eq_getElem (by omega)]
    show [_] = [_]
    congr 1
    have hn : nb d row.length = d[row.length] := by unfold nb; rw [List.getD_eq_getElem?_getD, List.getElem?_eq_getElem (by omega)]; rfl
    rw [List.length_take, ← hn]
    omega
theorem drops_hung {d : List Int} (h : dok d) (hl : d.length ≤ 40) : dropsOf (flatF (hungF d)) = d := by
  obtain ⟨row, h1, h2, _⟩ := row_for h d.length (Nat.le_refl _)
  rw [List.take_length] at h2
  have h3 := (hungF_row row).1
  rw [h2] at h3
  rw [h3, drops_flat (by omega), h2]
/-! how many drops go on -/
def psum (l : List Int) : List Int := (List.range l.length).map fun k => (l.take (k + 1)).sum
def waysR (n : Nat) : Nat → List Int
  | 0 => List.replicate (n + 2) 1
  | r + 1 => psum ((waysR n r).drop 1)
def waysL (n : Int) : List (List Int) := (List.range (n.toNat + 1)).map (waysR n.toNat)
def stillAt (d : List Int) (i : Nat) : Int := i - (d.take i).sum
/-- how many drops are lesser: those that drop less at place j -/
def rkAt (d : List Int) (j : Nat) (k : Nat) : Int := ((List.range k).map fun (f : Nat) => gt (waysR d.length (d.length - 1 - j)) (stillAt d j - f + 1)).sum
def rkB (d : List Int) : Nat → Int
  | 0 => 0
  | j + 1 => rkB d j + rkAt d j (nb d j).toNat
def rank (d : List Int) : Int := rkB d d.length
end TM


set_option Elab.async false
set_option linter.all false
/-! ### drops at a rank -/
namespace TM
open GL
def rs (W : List Int) (s : Int) (k : Nat) : Int := ((List.range k).map fun (f : Nat) => gt W (s - f + 1)).sum
theorem nb_take {d : List Int} {j k : Nat} (h : j < k) : nb (d.take k) j = nb d j := by
  unfold nb
  rw [List.getD_eq_getElem?_getD, List.getD_eq_getElem?_getD, List.getElem?_take, if_pos h]
noncomputable def unrank (n number : Int) : List Int := open Classical in if h : ∃ d : List Int, (d.length : Int) = n ∧ dok d ∧ rank d = number then h.choose else []
/-! how it is reckoned -/
def rkN (n : Nat) (d : List Int) : Nat → Int
  | 0 => 0
  | j + 1 => rkN n d j + rs (waysR n (n - 1 - j)) (stillAt d j) (nb d j).toNat
structure UR (n number0 : Int) (d : List Int) (i : Nat) (number still : Int) : Prop where
  len : d.length = i
  dk : dok d
  st : still = i - d.sum
  num : number0 = rkN n.toNat d i + number
  lo : 0 ≤ number
  hi : number < gt (waysR n.toNat (n.toNat - i)) still
/-- within a turn -/
structure UI (n : Int) (i : Nat) (number1 still : Int) (number drop : Int) : Prop where
  num : number1 = rs (waysR n.toNat (n.toNat - 1 - i)) still drop.toNat + number
  lo : 0 ≤ number
  hi : number < gt (waysR n.toNat (n.toNat - i)) (still - drop)
  d0 : 0 ≤ drop
  d1 : drop ≤ still
end TM


set_option Elab.async false
set_option linter.all false
/-! ### as many drops as trees -/
namespace TM
open GL
def psF : List Nat → Nat → List Nat
  | [], _ => []
  | x :: l, t => (t + x) :: psF l (t + x)
def chk25 : Nat → Nat → List Nat → Bool
  | 0, _, _ => true
  | r + 1, n, row => decide (chN (2 * n) n / (n + 1) = row.headD 0) && forceL (psF (row.drop 1) 0) fun row' => chk25 r (n + 1) row'
end TM
namespace TM
open GL
end TM
namespace TM
open GL
end TM


set_option Elab.async false
set_option linter.all false
/-! ### no row is flatter than the flattest -/
namespace TM
open GL
/-! all rows of numbers from 0 to 3 -/
def rows4 (n : Int) : List (List Int) := (rg 0 (2 ^ (2 * n).toNat)).map fun code => (rg 0 n).map fun place => code / 2 ^ (2 * place).toNat % 2 ^ 2
def enc4 : List Int → Int
  | [] => 0
  | x :: l => x + 4 * enc4 l
end TM
namespace TM
open GL
end TM


set_option Elab.async false
set_option linter.all false
/-! ### ladders of lows -/
namespace TM
open GL
def rungs (n : Nat) : Nat := if n = 0 then 0 else n.log2 + 1
def ladder (row : List Int) : List (List Int) := (List.range (rungs row.length)).map fun k => lowsOf row (2 ^ k)
end TM


set_option Elab.async false
set_option linter.all false
/-! ### rows written and read -/
namespace TM
open GL
open PySem (Str)
open PySem.NumText (AllDigits digitsVal)
def isD (c : Nat) : Bool := decide (48 ≤ c ∧ c ≤ 57)
/-- the figures of a word -/
def figs (l : List Nat) : List Nat := if l.head? = some 45 then l.drop 1 else l
def readN (l : List Nat) : Option Int :=
  if figs l = [] ∨ 60 < (figs l).length ∨ (figs l).all isD = false then none
  else if (figs l).head? = some 48 ∧ l ≠ [48] then none
  else some (if l.head? = some 45 then -((digitsVal (figs l) : Nat) : Int) else ((digitsVal (figs l) : Nat) : Int))
def numT (i : Int) : List Nat := if i < 0 then 45 :: TL.numL i.natAbs else TL.numL i.natAbs
def numS (i : Int) : Str := Str.ofString (toString i)
def rowText (row : List Int) : Str := if row = [] then ("-" : Str) else Str.join (" " : Str) (row.map numS)
def readRow (text : Str) : Option (List Int) := if text = ("-" : Str) then some [] else
  if none ∈ ((PySem.Txt.split text (" " : Str)).map fun w => readN (tl w)) ∨ 40 < (PySem.Txt.split text (" " : Str)).length then none else some (((PySem.Txt.split text (" " : Str)).map fun w => readN (tl w)).map oget)
/-! as the program looks -/
/-! texts cut at blanks -/
end TM


set_option Elab.async false
set_option linter.all false
/-! ### texts of no row, no tree -/
namespace TM
open GL
open PySem (Str)
open PySem.NumText (AllDigits digitsVal)
/-! brackets, looked at -/
def balS (o : Option Int) (c : Nat) : Option Int := match o with
  | none => none
  | some m => if c = 40 then some (m + 1) else if c = 41 then (if m = 0 then none else some (m - 1)) else none
def bal (l : List Nat) : Option Int := l.foldl balS (some 0)
def okS (d : List Int) : Prop := ∀ j, j < d.length → 0 ≤ nb d j ∧ nb d j ≤ (j : Int) - (d.take j).sum
theorem okD_okS {d : List Int} : okD d d.length ↔ okS d := by
  have key : ∀ i, i ≤ d.length → (okD d i ↔ ∀ j, j < i → 0 ≤ nb d j ∧ nb d j ≤ (j : Int) - (d.take j).sum) := by
    intro i
    induction i with
    | zero => intro _; exact ⟨fun _ j hj => absurd hj (Nat.not_lt_zero _), fun _ j hj => absurd hj (Nat.not_lt_zero _)⟩
    | succ i ih =>
      intro hi
      have ih := ih (by omega)
      constructor
      · intro h j hj
        by_cases z : j < i
        · exact ih.mp (fun k hk => h k (by omega)) j z
        · have e : j = i := by omega
          subst e
          have := hst_size (drops := d) (i := j) fun k hk => h k (by omega)
          have h2 := h j (by omega)
          omega
      · intro h j hj
        by_cases z : j < i
        · exact ih.mpr (fun k hk => h k (by omega)) j z
        · have e : j = i := by omega
          subst e
          have := hst_size (drops := d) (i := j) (ih.mpr fun k hk => h k (by omega))
          have h2 := h j (by omega)
          omega
  exact key d.length (Nat.le_refl _)
theorem nb_sn0 {d : List Int} {m : Int} {j : Nat} (h : j < d.length) : nb (d ++ [m]) j = nb d j := by
  unfold nb; rw [List.getD_eq_getElem?_getD, List.getD_eq_getElem?_getD, List.getElem?_append_left h]
theorem nb_snL {d : List Int} {m : Int} : nb (d ++ [m]) d.length = m := by
  unfold nb; rw [List.getD_eq_getElem?_getD, List.getElem?_append_right (Nat.le_refl _)]; simp
theorem okS_snoc {d : List Int} {m : Int} : okS (d ++ [m]) ↔ okS d ∧ 0 ≤ m ∧ m ≤ (d.length : Int) - d.sum := by
  constructor
  · intro h
    refine ⟨fun j hj => ?_, ?_⟩
    · have := h j (by rw [List.length_append]; omega)
      rw [nb_sn0 hj, List.take_append_of_le_length (by omega)] at this
      exact this
    · have := h d.length (by simp)
      rw [nb_snL, List.take_append_of_le_length (Nat.le_refl _), List.take_length] at this
      exact this
  · rintro ⟨h, h2⟩ j hj
    rw [List.length_append, List.length_singleton] at hj
    by_cases z : j < d.length
    · rw [nb_sn0 z, List.take_append_of_le_length (by omega)]; exact h j z
    · have e : j = d.length := by omega
      subst e
      rw [nb_snL, List.take_append_of_le_length (Nat.le_refl _), List.take_length]
      exact h2
def badB (s : Option (List Int × Int)) : Prop := s = none ∨ ∃ d m, s = some (d, m) ∧ (¬ okS d ∨ (d.length : Int) - d.sum < m)
theorem badB_step {s : Option (List Int × Int)} {c : Nat} (h : badB s) : badB (brS s c) := by
  rcases h with h | ⟨d, m, h, hb⟩
  · subst h; exact .inl rfl
  · subst h
    show badB (if c = 40 then some (d ++ [m], 0) else if c = 41 then some (d, m + 1) else none)
    split
    · refine .inr ⟨_, _, rfl, .inl fun z => ?_⟩
      have z := okS_snoc.mp z
      rcases hb with hb | hb
      · exact hb z.1
      · omega
    · split
      · exact .inr ⟨_, _, rfl, hb.imp id fun z => by omega⟩
      · exact .inl rfl
theorem badB_all {l : List Nat} : ∀ {s : Option (List Int × Int)}, badB s → badB (l.foldl brS s) := by
  induction l with
  | nil => intro s h; exact h
  | cons c l ih => intro s h; exact ih (badB_step h)
theorem balS_none : ∀ l : List Nat, l.foldl balS none = none
  | [] => rfl
  | _ :: l => balS_none l
def goodB (s : Option (List Int × Int)) (o : Int) : Prop := ∃ d m, s = some (d, m) ∧ okS d ∧ 0 ≤ m ∧ 0 ≤ o ∧ o = (d.length : Int) - d.sum - m
theorem bal_brk : ∀ (l : List Nat) (s : Option (List Int × Int)) (o : Int), goodB s o →
    match l.foldl balS (some o) with
    | some o' => goodB (l.foldl brS s) o'
    | none => badB (l.foldl brS s)
  | [], s, o, h => h
  | c :: l, s, o, ⟨d, m, hs, h1, h2, h3, h4⟩ => by
    subst hs
    rw [List.foldl_cons, List.foldl_cons]
    show (match l.foldl balS (if c = 40 then some (o + 1) else if c = 41 then (if o = 0 then none else some (o - 1)) else none) with
      | some o' => goodB (l.foldl brS (if c = 40 then some (d ++ [m], 0) else if c = 41 then some (d, m + 1) else none)) o'
      | none => badB (l.foldl brS (if c = 40 then some (d ++ [m], 0) else if c = 41 then some (d, m + 1) else none)))
    by_cases z : c = 40
    · rw [if_pos z, if_pos z]
      refine bal_brk l _ _ ⟨_, _, rfl, okS_snoc.mpr ⟨h1, h2, by omega⟩, by omega, by omega, ?_⟩
      rw [List.length_append, List.sum_append, List.length_singleton, List.sum_singleton]; omega
    · rw [if_neg z, if_neg z]
      by_cases y : c = 41
      · rw [if_pos y, if_pos y]
        by_cases x : o = 0
        · rw [if_pos x, balS_none]
          exact badB_all (.inr ⟨_, _, rfl, .inr (by omega)⟩)
        · rw [if_neg x]
          exact bal_brk l _ _ ⟨_, _, rfl, h1, by omega, by omega, by omega⟩
      · rw [if_neg y, if_neg y, balS_none]
        exact badB_all (.inl rfl)
theorem goodB_0 : goodB (some ([], 0)) 0 := ⟨[], 0, rfl, fun j hj => absurd hj (Nat.not_lt_zero _), by omega, by omega, by simp⟩
theorem hungO_bad {d : List Int} (h : ¬ okS d) : hungO d = none := by
  have h2 : ¬ okD d d.length := fun z => h (okD_okS.mp z)
  unfold hungO
  rw [if_neg]
  intro z
  exact h2 fun j hj => of_decide_eq_true (List.all_eq_true.mp z j (List.mem_range.mpr hj))
/-- what the signs were -/
theorem brk_text : ∀ (l : List Nat) (D : List Int) (M : Int) (d : List Int) (m : Int), 0 ≤ M → (∀ x ∈ D, 0 ≤ x) → l.foldl brS (some (D, M)) = some (d, m) →
    (D.map fun x => List.replicate x.toNat 41 ++ [40]).flatten ++ List.replicate M.toNat 41 ++ l = (d.map fun x => List.replicate x.toNat 41 ++ [40]).flatten ++ List.replicate m.toNat 41
      ∧ 0 ≤ m ∧ (∀ x ∈ d, 0 ≤ x) ∧ (D.length : Int) + D.sum + M + l.length = d.length + d.sum + m
  | [], D, M, d, m, hM, hD, h => by
    cases (show some (D, M) = some (d, m) from h)
    exact ⟨by rw [List.append_nil], hM, hD, by simp⟩
  | c :: l, D, M, d, m, hM, hD, h => by
    rw [List.foldl_cons] at h
    replace h : l.foldl brS (if c = 40 then some (D ++ [M], 0) else if c = 41 then some (D, M + 1) else none) = some (d, m) := h
    by_cases z : c = 40
    · rw [if_pos z] at h
      obtain ⟨h1, h2, h3, h4⟩ := brk_text l _ _ d m (by omega) (fun x hx => by
        rcases List.mem_append.mp hx with y | y
        · exact hD x y
        · rw [List.mem_singleton.mp y]; exact hM) h
      refine ⟨?_, h2, h3, ?_⟩
      · rw [← h1, z]; simp
      · rw [← h4, List.length_append, List.sum_append, List.length_singleton, List.sum_singleton, List.length_cons]; omega
    · rw [if_neg z] at h
      by_cases y : c = 41
      · rw [if_pos y] at h
        obtain ⟨h1, h2, h3, h4⟩ := brk_text l _ _ d m (by omega) hD h
        refine ⟨?_, h2, h3, ?_⟩
        · rw [← h1, y, show (M + 1).toNat = M.toNat + 1 by omega, List.replicate_succ']; simp
        · rw [← h4, List.length_cons]; omega
      · rw [if_neg y] at h
        have : ∀ l : List Nat, l.foldl brS none = none := brS_none
        rw [this] at h; cases h
def areBr (l : List Nat) : Bool := decide (bal l = some 0 ∧ l.length ≤ 80)
theorem areBr_yes {l : List Nat} (h : areBr l = true) (hl : l ≠ []) : ∃ t, brT l = some t ∧ t ≠ [] ∧ isTree t = true ∧ brOf (dropsOf (flatF t)) = l := by
  obtain ⟨h1, h2⟩ := of_decide_eq_true h
  have k := bal_brk l _ _ goodB_0
  unfold bal at h1
  rw [h1] at k
  obtain ⟨d, m, hk, g1, g2, g3, g4⟩ := k
  obtain ⟨e1, e2, e3, e4⟩ := brk_text l [] 0 d m (by omega) (fun x hx => absurd hx List.not_mem_nil) hk
  simp only [List.map_nil, List.flatten_nil, List.nil_append, Int.toNat_zero, List.replicate_zero, List.length_nil, List.sum_nil] at e1 e4
  have hd : d.length ≤ 40 := by omega
  have hok := okD_okS.mpr g1
  have hne : d ≠ [] := by
    intro z; subst z
    simp only [List.length_nil, List.sum_nil] at g4 e4
    exact hl (List.eq_nil_of_length_eq_zero (by omega))
  have hT := hungF_T hok
  refine ⟨hungF d, ?_, ?_, hungF_tree hok hd, ?_⟩
  · rw [brT_in (show brk l = some (d, m) from hk), hungO_some hok]
    rw [hungO_some hok]
    rintro (z | z | z)
    · omega
    · exact z (by omega)
    · cases z
  · intro z
    rw [z] at hT
    exact hne (List.eq_nil_of_length_eq_zero hT.2.symm)
  · rw [drops_hung g1 hd, e1]
    unfold brOf
    rw [show (d.length : Int) - d.sum = m by omega]
theorem areBr_no {l : List Nat} (h : ¬ areBr l = true) : brT l = none := by
  have h : ¬ (bal l = some 0 ∧ l.length ≤ 80) := fun z => h (decide_eq_true z)
  have k := bal_brk l _ _ goodB_0
  unfold bal at h
  cases e : l.foldl balS (some 0) with
  | none =>
    rw [e] at k
    rcases k with k | ⟨d, m, k, hb⟩
    · exact brT_bad k
    · refine brT_out k ?_
      rcases hb with hb | hb
      · exact .inr (.inr (hungO_bad hb))
      · exact .inr (.inl (by omega))
  | some o =>
    rw [e] at k h
    obtain ⟨d, m, hk, g1, g2, g3, g4⟩ := k
    obtain ⟨e1, e2, e3, e4⟩ := brk_text l [] 0 d m (by omega) (fun x hx => absurd hx List.not_mem_nil) hk
    simp only [List.length_nil, List.sum_nil] at e4
    refine brT_out hk ?_
    by_cases z : o = 0
    · subst z
      have : ¬ l.length ≤ 80 := fun y => h ⟨rfl, y⟩
      left; omega
    · right; left; omega
/-! rows, read sign by sign -/
theorem pre1 {s c : Nat} {r : List Nat} : TL.pre [s] (c :: r) = true ↔ c = s := by
  show ((c :: r).take 1 == [s]) = true ↔ _
  simp
/-- whether a text writes a row (0), a tree (1) -/
def wrt (way : Int) (text : Str) : Bool := if way = 0 then (readRow text).isSome else (readT text).isSome
def askd (x : Addr) (way : Int) (text : Str) : Option (Sum Addr Str) := some (if wrt way text = true then Sum.inr text else Sum.inl x)
end TM


set_option Elab.async false
set_option linter.all false
/-! ### ways up that end; trees as the deal laws look at them -/
namespace TM
open GL
def rooted (t : List Int) : Prop := ∀ p : Int, 0 ≤ p ∧ p < t.length → up t t.length (gt t p) ≠ none
/-! the climb of a place, turn by turn -/
structure CL (t : List Int) (p here : Int) (j : Nat) : Prop where
  inn : -1 ≤ here ∧ here < t.length
  same : up t (t.length - j) here = none ↔ up t t.length p = none
/-- the tree within a stretch, or what refuses it -/
noncomputable def withinR (xT xP : Addr) (t : List Int) (a b : Int) : Option (Sum Addr (List Int)) :=
  some (if isTree t = false then Sum.inl xT else if 0 ≤ a ∧ a ≤ b ∧ b < t.length then Sum.inr (treeOf (sl (flatF t) (some a) (some (b + 1)))) else Sum.inl xP)
end TM


set_option Elab.async false
set_option linter.all false
/-! ### of how many stretches a place is the low; the sum of all least numbers -/
namespace TM
open GL
def sharesT (t : List Int) : List Int := (enu ((rg 0 t.length).map (spanT t))).map fun c => (c.1 - c.2.1 + 1) * (c.2.2 - c.1 + 1)
def leastsSum (row : List Int) : Int := ((row.zip (sharesT (treeOf row))).map fun c => c.1 * c.2).sum
/-- how many of the stretches that begin below i have the low p -/
def cA (t : List Int) (i : Nat) (p : Int) : Int := max 0 (min (i : Int) (p + 1) - (spanT t p).1) * ((spanT t p).2 - p + 1)
/-- and of those that begin at a and end below b -/
def cB (t : List Int) (a b : Int) (p : Int) : Int := if (spanT t p).1 ≤ a ∧ a ≤ p then max 0 (min (b - 1) (spanT t p).2 - p + 1) else 0
/-- row times counts -/
def zsum (row many : List Int) : Int := ((row.zip many).map fun c => c.1 * c.2).sum
end TM


set_option Elab.async false
set_option linter.all false
/-! ### stretches of trees: lows, spans, starts -/
namespace TM
open GL
end TM


set_option Elab.async false
set_option linter.all false
/-! ### ladders built rung by rung; all stretches gone through -/
namespace TM
open GL
def lwr (row : List Int) (one other : Int) : Int := if gt row other < gt row one then other else one
/-- all stretches, one by one, k of n * n -/
def cK (t : List Int) (n : Nat) (k : Int) (p : Int) : Int := cA t (k / n).toNat p + cB t (k / n) (k % n) p
end TM


set_option Elab.async false
set_option linter.all false
/-! ### all tellings of a row tell its tree -/
namespace TM
open GL
open PySem (Str)
theorem spl_cnt (c : Nat) : ∀ (l acc : List Nat), (TL.spl [c] 0 acc l).length = l.count c + 1
  | [], acc => by rw [TL.spl_nil]; rfl
  | d :: r, acc => by
    by_cases z : TL.pre [c] (d :: r) = true
    · rw [TL.spl_hit z]
      have e := pre1.mp z
      subst e
      show (TL.spl [d] 0 [] r).length + 1 = _
      rw [spl_cnt d r [], List.count_cons_self]
    · rw [TL.spl_miss (by simpa using z), spl_cnt c r _, List.count_cons_of_ne]
      intro e; exact z (pre1.mpr e)
open PySem PySem.StrLaws in
theorem parts_cnt (x : Str) (w : Nat) : ∀ (cuts : List Nat) (a : Nat), (partsFrom x w a cuts).length = cuts.length + 1
  | [], _ => rfl
  | c :: r, a => by show (partsFrom x w (c + w) r).length + 1 = _; rw [parts_cnt x w r, List.length_cons]
open PySem PySem.StrLaws in
theorem count_sg {x y : Str} {c : Nat} (hy : tl y = [c]) : Txt.count x y = (((tl x).count c : Nat) : Int) := by
  have hy' : TL.tl y ≠ [] := by show tl y ≠ []; rw [hy]; simp
  obtain ⟨f, g, hn⟩ := occ_tight x y (TL.len1 hy')
  have key := congrArg List.length (TL.parts_spl hy' _ 0 f (Nat.zero_le _) g hn)
  rw [List.length_map, parts_cnt, List.drop_zero] at key
  have e : TL.spl (TL.tl y) 0 [] (TL.tl x) = TL.spl [c] 0 [] (tl x) := by show TL.spl (tl y) 0 [] (tl x) = _; rw [hy]
  rw [e, spl_cnt] at key
  unfold PySem.Txt.count
  congr 1
  omega
end TM


set_option linter.all false
set_option maxHeartbeats 1000000
namespace TM
open GL
/-! ### trees of places, and how they are filled -/
inductive BT where
  | nil : BT
  | node (l : BT) (p : Nat) (r : BT) : BT
def BT.root : BT → Option Int
  | .nil => none
  | .node _ p _ => some (p : Int)
def BT.height : BT → Nat
  | .nil => 0
  | .node l _ r => max l.height r.height + 1
def BT.size : BT → Nat
  | .nil => 0
  | .node l _ r => l.size + r.size + 1
theorem BT.hs : ∀ b : BT, b.height ≤ b.size
  | .nil => Nat.le_refl _
  | .node l _ r => by
    have h1 := l.hs
    have h2 := r.hs
    show max l.height r.height + 1 ≤ l.size + r.size + 1
    omega
/-- the tree that hands tell -/
inductive HB (n : Nat) (f : Int → Option Int × Option Int) : Option Int → BT → Prop
  | nil : HB n f none .nil
  | node {l r : BT} {p : Nat} : p < n → HB n f (f p).1 l → HB n f (f p).2 r → HB n f (some (p : Int)) (.node l p r)
def btF (f : Int → Option Int × Option Int) : Nat → Option Int → BT
  | 0, _ => .nil
  | _ + 1, none => .nil
  | n + 1, some h => .node (btF f n (f h).1) h.toNat (btF f n (f h).2)
theorem HB.bt {n : Nat} {f : Int → Option Int × Option Int} {o : Option Int} {b : BT} (h : HB n f o b) : ∀ k, b.height ≤ k → btF f k o = b := by
  induction h with
  | nil => intro k _; cases k <;> rfl
  | @node l r p hp _ _ i1 i2 =>
    intro k hk
    have hk' : max l.height r.height + 1 ≤ k := hk
    cases k with
    | zero => omega
    | succ k =>
      show BT.node (btF f k (f (p : Int)).1) ((p : Int).toNat) (btF f k (f (p : Int)).2) = _
      rw [i1 k (by omega), i2 k (by omega), Int.toNat_natCast]
theorem HB.congr {n : Nat} {f g : Int → Option Int × Option Int} {o : Option Int} {b : BT} (h : HB n f o b) (e : ∀ p : Nat, p < n → f p = g p) : HB n g o b := by
  induction h with
  | nil => exact .nil
  | node hp _ _ i1 i2 => exact .node hp (by rw [← e _ hp]; exact i1) (by rw [← e _ hp]; exact i2)
def bth (hands : List (Option Int × Option Int)) (o : Option Int) : BT := btF (gt hands) 60 o
def HOk (hands : List (Option Int × Option Int)) (o : Option Int) : Prop := HB hands.length (gt hands) o (bth hands o) ∧ (bth hands o).size ≤ 12
theorem HOk.of {hands : List (Option Int × Option Int)} {o : Option Int} {b : BT} (h : HB hands.length (gt hands) o b) (hz : b.size ≤ 12) : HOk hands o ∧ bth hands o = b := by
  have e := h.bt 60 (by have := b.hs; omega)
  unfold HOk bth
  rw [e]
  exact ⟨⟨h, hz⟩, rfl⟩
theorem HOk.node {hands : List (Option Int × Option Int)} {o : Option Int} {g : Int} (h : HOk hands o) (e : o = some g) :
    (0 ≤ g ∧ g < hands.length) ∧ HOk hands (gt hands g).1 ∧ HOk hands (gt hands g).2 ∧ bth hands o = .node (bth hands (gt hands g).1) g.toNat (bth hands (gt hands g).2) := by
  obtain ⟨hb, hz⟩ := h
  generalize hB : bth hands o = B at hb hz ⊢
  cases hb with
  | nil => cases e
  | @node l r p hp h1 h2 =>
    cases e
    have z : l.size + r.size + 1 ≤ 12 := hz
    obtain ⟨k1, e1⟩ := HOk.of h1 (by omega)
    obtain ⟨k2, e2⟩ := HOk.of h2 (by omega)
    exact ⟨⟨by omega, by omega⟩, k1, k2, by rw [e1, e2, Int.toNat_natCast]⟩
theorem HOk.nil {hands : List (Option Int × Option Int)} : bth hands none = .nil := rfl
/-- a number may stand at a place -/
def okf (fx : List (Int × Int)) (p j : Int) : Bool := match dget fx p with
  | none => true
  | some x => decide (x = j)
theorem okf_iff {fx : List (Int × Int)} {p j : Int} : okf fx p j = true ↔ (dget fx p = none ∨ dgetV fx p = j) := by
  unfold okf dgetV
  cases dget fx p with
  | none => simp
  | some x => simp
/-- in how many ways a place and those under it are filled, its number k at least -/
def fF (m : Int) (fx : List (Int × Int)) : BT → Int → Int
  | .nil, _ => 1
  | .node l p r, k => ((rg k m).map fun j => if okf fx p j = true then fF m fx l (j + 1) * fF m fx r j else 0).sum
def fG (m : Int) (fx : List (Int × Int)) (l : BT) (p : Nat) (r : BT) (j : Int) : Int := if okf fx p j = true then fF m fx l (j + 1) * fF m fx r j else 0
def fillL (m : Int) (fx : List (Int × Int)) (b : BT) : List Int := (rg 0 (m + 2)).map (fF m fx b)
/-- .. as far as it is told, from behind -/
def parL (g : Int → Int) (m : Int) (i : Nat) : List Int := (rg 0 (m + 2)).map fun k => if m - i ≤ k then g k else 0
/-! ### a tree's hands -/
def hA (t : List Int) : Nat → Int → Option Int
  | 0, _ => none
  | i + 1, h => if nb t i = h ∧ (i : Int) < nb t i then some (i : Int) else hA t i h
def hBb (t : List Int) : Nat → Int → Option Int
  | 0, _ => none
  | i + 1, h => if nb t i = h ∧ ¬ (i : Int) < nb t i then some (i : Int) else hBb t i h
def hT (t : List Int) (h : Int) : Option Int × Option Int := (hA t t.length h, hBb t t.length h)
theorem hA_some {t : List Int} {h : Int} : ∀ {i q : Nat}, q < i → nb t q = h → (q : Int) < h → (∀ j, j < i → nb t j = h → (j : Int) < h → j = q) → hA t i h = some (q : Int)
  | i + 1, q, hq, h1, h2, hu => by
    unfold hA
    by_cases z : nb t i = h ∧ (i : Int) < nb t i
    · rw [if_pos z, hu i (Nat.lt_succ_self _) z.1 (by rw [← z.1]; exact z.2)]
    · rw [if_neg z]
      have hne : q ≠ i := fun e => by
        subst e
        exact z ⟨h1, by rw [h1]; exact h2⟩
      exact hA_some (by omega) h1 h2 fun j hj => hu j (by omega)
theorem hA_none {t : List Int} {h : Int} : ∀ {i : Nat}, (∀ j, j < i → nb t j = h → ¬ (j : Int) < h) → hA t i h = none
  | 0, _ => rfl
  | i + 1, hu => by
    unfold hA
    rw [if_neg fun z => hu i (Nat.lt_succ_self _) z.1 (by rw [← z.1]; exact z.2)]
    exact hA_none fun j hj => hu j (by omega)
theorem hB_some {t : List Int} {h : Int} : ∀ {i q : Nat}, q < i → nb t q = h → ¬ (q : Int) < h → (∀ j, j < i → nb t j = h → ¬ (j : Int) < h → j = q) → hBb t i h = some (q : Int)
  | i + 1, q, hq, h1, h2, hu => by
    unfold hBb
    by_cases z : nb t i = h ∧ ¬ (i : Int) < nb t i
    · rw [if_pos z, hu i (Nat.lt_succ_self _) z.1 (by rw [← z.1]; exact z.2)]
    · rw [if_neg z]
      have hne : q ≠ i := fun e => by
        subst e
        exact z ⟨h1, by rw [h1]; exact h2⟩
      exact hB_some (by omega) h1 h2 fun j hj => hu j (by omega)
theorem hB_none {t : List Int} {h : Int} : ∀ {i : Nat}, (∀ j, j < i → nb t j = h → (j : Int) < h) → hBb t i h = none
  | 0, _ => rfl
  | i + 1, hu => by
    unfold hBb
    rw [if_neg fun z => z.2 (by rw [z.1]; exact hu i (Nat.lt_succ_self _) z.1)]
    exact hB_none fun j hj => hu j (by omega)
theorem T.inn {t : List Int} {a b : Nat} {e : Int} (h : T t a b e) : ∀ q : Nat, a ≤ q → q < b → nb t q = e ∨ ((a : Int) ≤ nb t q ∧ nb t q < b) := by
  induction h with
  | nil a e => intro q h1 h2; omega
  | @node a b h e h1 h2 h3 _ _ i1 i2 =>
    intro q q1 q2
    rcases Nat.lt_trichotomy q h with z | z | z
    · rcases i1 q q1 z with y | y
      · right; rw [y]; omega
      · right; omega
    · subst z; exact .inl h3
    · rcases i2 q z q2 with y | y
      · right; rw [y]; omega
      · right; omega
/-- places one behind the other -/
def PL : Nat → BT → Prop
  | _, .nil => True
  | a, .node l p r => PL a l ∧ p = a + l.size ∧ PL (p + 1) r
/-- the shape of a stretch -/
inductive BTr (t : List Int) : Nat → Nat → Int → BT → Prop
  | nil (a : Nat) (e : Int) : BTr t a a e .nil
  | node {a b h : Nat} {e : Int} {l r : BT} : a ≤ h → h < b → nb t h = e → BTr t a h h l → BTr t (h + 1) b h r → BTr t a b e (.node l h r)
theorem T.bt {t : List Int} {a b : Nat} {e : Int} (h : T t a b e) : b ≤ t.length → (e < a ∨ (b : Int) ≤ e) → (∀ q, q < t.length → (q < a ∨ b ≤ q) → ¬ ((a : Int) ≤ nb t q ∧ nb t q < b)) →
    ∃ B : BT, HB t.length (hT t) B.root B ∧ B.size = b - a ∧ PL a B ∧ (∀ q, a ≤ q → q < b → nb t q = e → B.root = some (q : Int)) ∧ (∀ x, B.root = some x → (a : Int) ≤ x ∧ x < b ∧ nb t x.toNat = e) ∧ (B.root = none → a = b) ∧ BTr t a b e B := by
  induction h with
  | nil a e => intro _ _ _; exact ⟨.nil, .nil, by simp [BT.size], trivial, fun q h1 h2 => by omega, fun x h => (by cases h), fun _ => rfl, .nil a e⟩
  | @node a b h e h1 h2 h3 t1 t2 i1 i2 =>
    intro hb he ho
    obtain ⟨L, l1, l2, l3, l4, l5, l6, l7⟩ := i1 (by omega) (.inr (by omega)) fun q hq hz hn => by
      rcases hz with z | z
      · exact ho q hq (.inl z) (by omega)
      · by_cases y : q < b
        · by_cases x : q = h
          · subst x; rw [h3] at hn; omega
          · rcases t2.inn q (by omega) y with w | w <;> omega
        · exact ho q hq (.inr (by omega)) (by omega)
    obtain ⟨R, r1, r2, r3, r4, r5, r6, r7⟩ := i2 hb (.inl (by omega)) fun q hq hz hn => by
      rcases hz with z | z
      · by_cases y : a ≤ q
        · by_cases x : q = h
          · subst x; rw [h3] at hn; omega
          · rcases t1.inn q y (by omega) with w | w <;> omega
        · exact ho q hq (.inl (by omega)) (by omega)
      · exact ho q hq (.inr z) (by omega)
    have inside : ∀ q, q < t.length → nb t q = h → (a ≤ q ∧ q < b) ∧ q ≠ h := fun q hq hn => by
      refine ⟨Classical.byContradiction fun z => ho q hq (by omega) (by rw [hn]; omega), fun z => ?_⟩
      subst z; rw [h3] at hn; omega
    have eA : (hT t h).1 = L.root := by
      cases hL : L.root with
      | none =>
        refine hA_none fun j hj hn hlt => ?_
        have := l6 hL
        have := inside j hj hn
        omega
      | some x =>
        obtain ⟨x1, x2, x3⟩ := l5 x hL
        have ex : x = ((x.toNat : Nat) : Int) := by omega
        rw [ex]
        refine hA_some (by omega) x3 (by omega) fun j hj hn hlt => ?_
        have hi := inside j hj hn
        have := l4 j hi.1.1 (by omega) hn
        rw [hL] at this
        have := Option.some.inj this
        omega
    have eB : (hT t h).2 = R.root := by
      cases hR : R.root with
      | none =>
        refine hB_none fun j hj hn => ?_
        have := r6 hR
        have := inside j hj hn
        omega
      | some x =>
        obtain ⟨x1, x2, x3⟩ := r5 x hR
        have ex : x = ((x.toNat : Nat) : Int) := by omega
        rw [ex]
        refine hB_some (by omega) x3 (by omega) fun j hj hn hlt => ?_
        have hi := inside j hj hn
        have := r4 j (by omega) hi.1.2 hn
        rw [hR] at this
        have := Option.some.inj this
        omega
    refine ⟨.node L h R, .node (by omega) (by rw [eA]; exact l1) (by rw [eB]; exact r1), ?_, ⟨l3, by rw [l2]; omega, r3⟩, fun q q1 q2 hn => ?_, fun x hx => ?_, (fun hx => by cases hx), .node h1 h2 h3 l7 r7⟩
    · show L.size + R.size + 1 = _
      omega
    · rcases Nat.lt_trichotomy q h with z | z | z
      · rcases t1.inn q q1 z with w | w <;> omega
      · subst z; rfl
      · rcases t2.inn q z q2 with w | w <;> omega
    · cases hx
      rw [Int.toNat_natCast]
      exact ⟨by omega, by omega, h3⟩
def topO (t : List Int) : Option Int := if t.length = 0 then none else some ((t.idxOf (-1) : Nat) : Int)
def btT (t : List Int) : BT := btF (hT t) 60 (topO t)
theorem nb_idx {t : List Int} {q : Nat} (hq : q < t.length) {x : Int} (h : nb t q = x) : x ∈ t := by
  subst h
  unfold nb
  rw [List.getD_eq_getElem?_getD, List.getElem?_eq_getElem hq]
  exact List.getElem_mem hq
theorem nb_idxOf {t : List Int} {x : Int} (h : x ∈ t) : nb t (t.idxOf x) = x ∧ t.idxOf x < t.length := by
  have hl := List.idxOf_lt_length_of_mem h
  refine ⟨?_, hl⟩
  unfold nb
  rw [List.getD_eq_getElem?_getD, List.getElem?_eq_getElem hl]
  exact List.getElem_idxOf hl
theorem tree_bt {t : List Int} (h : isTree t = true) : HB t.length (hT t) (topO t) (btT t) ∧ (btT t).size = t.length ∧ PL 0 (btT t) ∧ BTr t 0 t.length (-1) (btT t) := by
  obtain ⟨h40, hT'⟩ := isTree_iff.mp h
  obtain ⟨B, b1, b2, b3, b4, b5, b6, b7⟩ := T.bt hT' (Nat.le_refl _) (.inl (by decide)) fun q hq hz _ => by omega
  have er : B.root = topO t := by
    unfold topO
    by_cases z : t.length = 0
    · rw [if_pos z]
      cases hB : B.root with
      | none => rfl
      | some x => have := b5 x hB; omega
    · rw [if_neg z]
      cases hB : B.root with
      | none => exact absurd (b6 hB).symm z
      | some x =>
        obtain ⟨x1, x2, x3⟩ := b5 x hB
        have hm := nb_idx (t := t) (q := x.toNat) (by omega) x3
        obtain ⟨k1, k2⟩ := nb_idxOf hm
        rw [← hB, b4 _ (Nat.zero_le _) k2 k1]
  rw [er] at b1
  have eb : btT t = B := b1.bt 60 (by have := B.hs; omega)
  rw [eb]
  exact ⟨b1, by omega, b3, b7⟩
/-- the count of the rows of a tree, some numbers fixed -/
def fC (t : List Int) (m : Int) (fx : List (Int × Int)) : Int := fF m fx (btT t) 0
def handsL (t : List Int) : List (Option Int × Option Int) := (rg 0 t.length).map (hT t)
theorem handsL_len (t : List Int) : (handsL t).length = t.length := by
  unfold handsL
  rw [List.length_map, rg_len]; omega
theorem gt_handsL {t : List Int} {p : Nat} (h : p < t.length) : gt (handsL t) p = hT t p := gt_map_rg (by omega)
end TM


set_option linter.all false
set_option maxHeartbeats 1000000
namespace TM
open GL
/-! ### the walk of filled -/
/-! ### .. of hands_of -/
end TM


set_option linter.all false
set_option maxHeartbeats 1000000
namespace TM
open GL
/-! ### rows of a tree, counted -/
def rowsB (m : Int) : BT → Int → List (List Int)
  | .nil, _ => [[]]
  | .node l _ r, k => (rg k m).flatMap fun j => (rowsB m l (j + 1)).flatMap fun x => (rowsB m r j).map fun y => x ++ j :: y
/-- the numbers that are fixed are so -/
def agr (fx : List (Int × Int)) : Nat → List Int → Bool
  | _, [] => true
  | a, x :: xs => okf fx a x && agr fx (a + 1) xs
theorem agr_app {fx : List (Int × Int)} : ∀ {a : Nat} {x y : List Int}, agr fx a (x ++ y) = (agr fx a x && agr fx (a + x.length) y)
  | a, [], y => by simp [agr]
  | a, z :: x, y => by
    rw [List.cons_append, agr, agr, agr_app, List.length_cons, Bool.and_assoc, Nat.add_assoc, Nat.add_comm 1]
theorem rowsB_len {m : Int} : ∀ {b : BT} {k : Int} {r : List Int}, r ∈ rowsB m b k → r.length = b.size
  | .nil, k, r, h => by
    cases List.mem_singleton.mp h; rfl
  | .node l p r', k, r, h => by
    obtain ⟨j, _, h⟩ := List.mem_flatMap.mp h
    obtain ⟨x, hx, h⟩ := List.mem_flatMap.mp h
    obtain ⟨y, hy, rfl⟩ := List.mem_map.mp h
    rw [List.length_append, List.length_cons, rowsB_len hx, rowsB_len hy]
    show _ = l.size + r'.size + 1
    omega
theorem prod_count {f : List Int → List Int → List Int} {px py : List Int → Bool} {c : Bool} {p : List Int → Bool} {ys : List (List Int)} : ∀ {xs : List (List Int)}, (∀ x ∈ xs, ∀ y ∈ ys, p (f x y) = (px x && (c && py y))) →
    ((xs.flatMap fun x => ys.map (f x)).filter p).length = if c = true then (xs.filter px).length * (ys.filter py).length else 0
  | [], _ => by simp
  | x :: xs, h => by
    rw [List.flatMap_cons, List.filter_append, List.length_append, prod_count fun x' hx => h x' (List.mem_cons_of_mem _ hx)]
    have e : ((ys.map (f x)).filter p).length = if px x = true ∧ c = true then (ys.filter py).length else 0 := by
      rw [List.filter_map, List.length_map]
      by_cases z : px x = true ∧ c = true
      · rw [if_pos z]
        congr 1
        refine List.filter_congr fun y hy => ?_
        rw [Function.comp_apply, h x List.mem_cons_self y hy, z.1, z.2, Bool.true_and, Bool.true_and]
      · rw [if_neg z]
        rw [List.length_eq_zero_iff, List.filter_eq_nil_iff]
        intro y hy
        rw [Function.comp_apply, h x List.mem_cons_self y hy]
        intro q
        simp only [Bool.and_eq_true] at q
        exact z ⟨q.1, q.2.1⟩
    rw [e, List.filter_cons]
    by_cases hc : c = true
    · by_cases hx : px x = true
      · rw [if_pos ⟨hx, hc⟩, if_pos hc, if_pos hc, if_pos hx, List.length_cons, Nat.succ_mul, Nat.add_comm]
      · rw [if_neg (fun z => hx z.1), if_pos hc, if_pos hc, if_neg hx, Nat.zero_add]
    · rw [if_neg (fun z => hc z.2), if_neg hc, if_neg hc]
theorem fF_count {m : Int} {fx : List (Int × Int)} : ∀ {b : BT} {a : Nat} {k : Int}, PL a b → fF m fx b k = (((rowsB m b k).filter (agr fx a)).length : Int)
  | .nil, a, k, _ => by
    show (1 : Int) = ((List.filter (agr fx a) [[]]).length : Int)
    rw [List.filter_cons_of_pos rfl]; rfl
  | .node l p r, a, k, ⟨h1, h2, h3⟩ => by
    have e : fF m fx (.node l p r) k = ((rg k m).map (fG m fx l p r)).sum := rfl
    rw [e]
    show _ = ((((rg k m).flatMap fun j => (rowsB m l (j + 1)).flatMap fun x => (rowsB m r j).map fun y => x ++ j :: y).filter (agr fx a)).length : Int)
    generalize rg k m = L
    induction L with
    | nil => rfl
    | cons j L ih =>
      rw [List.map_cons, List.sum_cons, List.flatMap_cons, List.filter_append, List.length_append, ih, Int.natCast_add]
      congr 1
      rw [prod_count (px := agr fx a) (py := agr fx (p + 1)) (c := okf fx p j) fun x hx y hy => by
        rw [agr_app, agr, rowsB_len hx, h2]]
      unfold fG
      rw [fF_count h1, fF_count h3]
      split <;> simp
/-- a row fits, numbers k at least at the top -/
def FBt (m : Int) (row : List Int) : BT → Int → Prop
  | .nil, _ => True
  | .node l p r, k => k ≤ nb row p ∧ nb row p < m ∧ FBt m row l (nb row p + 1) ∧ FBt m row r (nb row p)
theorem take_split {row : List Int} {a n p : Nat} (hp : p = a + n) {q : Nat} (hl : p + 1 + q ≤ row.length) : (row.drop a).take (n + q + 1) = (row.drop a).take n ++ nb row p :: (row.drop (p + 1)).take q := by
  refine List.ext_getElem? fun i => ?_
  rw [List.getElem?_take, List.getElem?_drop]
  by_cases h1 : i < n
  · rw [if_pos (by omega), List.getElem?_append_left (by rw [List.length_take, List.length_drop]; omega), List.getElem?_take, if_pos h1, List.getElem?_drop]
  · rw [List.getElem?_append_right (by rw [List.length_take, List.length_drop]; omega), List.length_take, List.length_drop, Nat.min_eq_left (by omega)]
    by_cases h2 : i = n
    · subst h2
      rw [if_pos (by omega), Nat.sub_self, ← hp, List.getElem?_eq_getElem (by omega)]
      show some _ = some _
      unfold nb
      rw [List.getD_eq_getElem?_getD, List.getElem?_eq_getElem (by omega)]; rfl
    · obtain ⟨d, hd⟩ : ∃ d, i - n = d + 1 := ⟨i - n - 1, by omega⟩
      rw [hd, List.getElem?_cons_succ, List.getElem?_take, List.getElem?_drop]
      by_cases h3 : d < q
      · rw [if_pos h3, if_pos (by omega)]; congr 1; omega
      · rw [if_neg h3, if_neg (by omega)]
theorem mem_rowsB {m : Int} {row : List Int} : ∀ {b : BT} {a : Nat} {k : Int}, PL a b → a + b.size ≤ row.length → ((row.drop a).take b.size ∈ rowsB m b k ↔ FBt m row b k)
  | .nil, a, k, _, _ => by
    show (row.drop a).take 0 ∈ [[]] ↔ True
    simp
  | .node l p r, a, k, ⟨h1, h2, h3⟩, hl => by
    have hz : (BT.node l p r).size = l.size + r.size + 1 := rfl
    rw [hz] at hl ⊢
    rw [take_split h2 (by omega)]
    have i1 := fun k => mem_rowsB (m := m) (row := row) (k := k) h1 (by omega)
    have i2 := fun k => mem_rowsB (m := m) (row := row) (k := k) h3 (by omega)
    have el : ((row.drop a).take l.size).length = l.size := by rw [List.length_take, List.length_drop]; omega
    constructor
    · intro h
      obtain ⟨j, hj, h⟩ := List.mem_flatMap.mp h
      obtain ⟨x, hx, h⟩ := List.mem_flatMap.mp h
      obtain ⟨y, hy, h⟩ := List.mem_map.mp h
      obtain ⟨e1, e2⟩ := List.append_inj h (by rw [el, rowsB_len hx])
      obtain ⟨e3, e4⟩ := List.cons.inj e2
      have hj' := rg_mem.mp hj
      subst e1 e3 e4
      exact ⟨hj'.1, hj'.2, (i1 _).mp hx, (i2 _).mp hy⟩
    · rintro ⟨g1, g2, g3, g4⟩
      exact List.mem_flatMap.mpr ⟨nb row p, rg_mem.mpr ⟨g1, g2⟩, List.mem_flatMap.mpr ⟨_, (i1 _).mpr g3, List.mem_map.mpr ⟨_, (i2 _).mpr g4, rfl⟩⟩⟩
theorem FBt.tr {m : Int} {t row : List Int} {a b : Nat} {e : Int} {B : BT} (h : BTr t a b e B) : ∀ {k : Int}, FBt m row B k → TR t row a b e ∧ ∀ j, a ≤ j → j < b → k ≤ nb row j ∧ nb row j < m := by
  induction h with
  | nil a e => intro k _; exact ⟨.nil a e, fun j h1 h2 => by omega⟩
  | @node a b h e l r h1 h2 h3 _ _ i1 i2 =>
    intro k ⟨g1, g2, g3, g4⟩
    obtain ⟨t1, b1⟩ := i1 g3
    obtain ⟨t2, b2⟩ := i2 g4
    refine ⟨.node h1 h2 h3 (fun j q1 q2 => by have := b1 j q1 q2; omega) (fun j q1 q2 => by have := b2 j q1 q2; omega) t1 t2, fun j q1 q2 => ?_⟩
    rcases Nat.lt_trichotomy j h with z | z | z
    · have := b1 j q1 z; omega
    · subst z; exact ⟨g1, g2⟩
    · have := b2 j z q2; omega
theorem BTr.t {t : List Int} {a b : Nat} {e : Int} {B : BT} (h : BTr t a b e B) : T t a b e := by
  induction h with
  | nil a e => exact .nil a e
  | node h1 h2 h3 _ _ i1 i2 => exact .node h1 h2 h3 i1 i2
theorem TR.fb {m : Int} {t row : List Int} {a b : Nat} {e : Int} {B : BT} (h : BTr t a b e B) : (e < a ∨ (b : Int) ≤ e) → TR t row a b e → ∀ {k : Int}, (∀ j, a ≤ j → j < b → k ≤ nb row j ∧ nb row j < m) → FBt m row B k := by
  induction h with
  | nil a e => intro _ _ k _; trivial
  | @node a b h e l r h1 h2 h3 t1 t2 i1 i2 =>
    intro he hT k hk
    cases hT with
    | nil => omega
    | @node _ _ h' _ g1 g2 g3 g4 g5 g6 g7 =>
      have eh : h' = h := by
        rcases Nat.lt_trichotomy h' h with z | z | z
        · rcases t1.t.inn h' g1 z with y | y <;> omega
        · exact z
        · rcases t2.t.inn h' z g2 with y | y <;> omega
      subst eh
      refine ⟨(hk h' h1 h2).1, (hk h' h1 h2).2, i1 (.inr (by omega)) g6 fun j q1 q2 => ?_, i2 (.inl (by omega)) g7 fun j q1 q2 => ?_⟩
      · have := g4 j q1 q2
        have := hk j q1 (by omega)
        omega
      · have := g5 j (by omega) q2
        have := hk j (by omega) q2
        omega
theorem all_nb {row : List Int} {P : Int → Prop} : (∀ x ∈ row, P x) ↔ ∀ j, j < row.length → P (nb row j) := by
  constructor
  · intro h j hj
    exact h _ (nb_idx hj rfl)
  · intro h x hx
    obtain ⟨j, hj, e⟩ := List.getElem_of_mem hx
    have := h j hj
    unfold nb at this
    rw [List.getD_eq_getElem?_getD, List.getElem?_eq_getElem hj] at this
    rw [← e]; exact this
/-- the rows that the filling goes through are the rows of the tree -/
theorem mem_rowsT {t : List Int} (h : isTree t = true) {m : Int} {row : List Int} : row ∈ rowsB m (btT t) 0 ↔ row.length = t.length ∧ (∀ x ∈ row, 0 ≤ x ∧ x < m) ∧ treeOf row = t := by
  obtain ⟨h1, h2, h3, h4⟩ := tree_bt h
  have hT := isTree_iff.mp h
  have key : row.length = t.length → (row ∈ rowsB m (btT t) 0 ↔ FBt m row (btT t) 0) := fun hl => by
    have := mem_rowsB (m := m) (row := row) (k := 0) h3 (by omega)
    rwa [List.drop_zero, List.take_of_length_le (by omega)] at this
  constructor
  · intro hr
    have hl : row.length = t.length := by rw [rowsB_len hr, h2]
    obtain ⟨k1, k2⟩ := FBt.tr h4 ((key hl).mp hr)
    refine ⟨hl, all_nb.mpr fun j hj => k2 j (Nat.zero_le _) (by omega), tree_of_TR hl (by rw [hl]; exact k1)⟩
  · rintro ⟨hl, hb, he⟩
    refine (key hl).mpr (TR.fb h4 (.inl (by decide)) ?_ fun j _ hj => all_nb.mp hb j (by omega))
    have := TR_of row row.length 0 row.length (-1) (by omega) (good_all row)
    rw [he, hl] at this
    exact this
theorem rowsB_nodup {m : Int} : ∀ {b : BT} {k : Int}, (rowsB m b k).Nodup
  | .nil, k => by simp [rowsB]
  | .node l p r, k => by
    show ((rg k m).flatMap _).Nodup
    have hrg : (rg k m).Nodup := by
      unfold rg
      exact (List.nodup_range).map _ (fun a b hab h => hab (by omega))
    refine List.pairwise_flatMap.mpr ⟨?_, ?_⟩
    · intro j _
      refine List.pairwise_flatMap.mpr ⟨?_, ?_⟩
      · intro x _
        refine List.pairwise_map.mpr ((rowsB_nodup (m := m) (b := r) (k := j)).imp fun {y y'} hy e => hy ?_)
        exact (List.cons.inj (List.append_cancel_left e)).2
      · refine (rowsB_nodup (m := m) (b := l) (k := j + 1)).imp_of_mem fun {x x'} hx hx' hne => ?_
        intro z hz z' hz' hzz
        subst hzz
        obtain ⟨y, hy, rfl⟩ := List.mem_map.mp hz
        obtain ⟨y', hy', e⟩ := List.mem_map.mp hz'
        exact hne (List.append_inj e (by rw [rowsB_len hx, rowsB_len hx'])).1.symm
    · refine hrg.imp_of_mem fun {j j'} hj hj' hne => ?_
      intro z hz z' hz' hzz
      subst hzz
      obtain ⟨x, hx, hz⟩ := List.mem_flatMap.mp hz
      obtain ⟨y, hy, rfl⟩ := List.mem_map.mp hz
      obtain ⟨x', hx', hz'⟩ := List.mem_flatMap.mp hz'
      obtain ⟨y', hy', e⟩ := List.mem_map.mp hz'
      exact hne (List.cons.inj (List.append_inj e (by rw [rowsB_len hx, rowsB_len hx'])).2).1.symm
/-- how many rows of a list without any twice have the tree -/
theorem fC_any {t : List Int} (h : isTree t = true) {m : Int} {fx : List (Int × Int)} {L : List (List Int)} (hn : L.Nodup) (hL : ∀ row, row ∈ L ↔ row.length = t.length ∧ (∀ x ∈ row, 0 ≤ x ∧ x < m) ∧ treeOf row = t ∧ agr fx 0 row = true) : fC t m fx = (L.length : Int) := by
  obtain ⟨h1, h2, h3, h4⟩ := tree_bt h
  unfold fC
  rw [fF_count h3]
  congr 1
  refine List.Perm.length_eq ?_
  refine (List.perm_ext_iff_of_nodup (rowsB_nodup.filter _) hn).mpr fun row => ?_
  rw [List.mem_filter, mem_rowsT h, hL]
  constructor
  · rintro ⟨⟨a, b, c⟩, d⟩; exact ⟨a, b, c, d⟩
  · rintro ⟨a, b, c, d⟩; exact ⟨⟨a, b, c⟩, d⟩
/-- all rows of so many numbers from 0 to m - 1, in order -/
def ar (m : Int) : Nat → List (List Int)
  | 0 => [[]]
  | n + 1 => (ar m n).flatMap fun r => (rg 0 m).map fun x => r ++ [x]
theorem mem_ar {m : Int} : ∀ {n : Nat} {row : List Int}, row ∈ ar m n ↔ row.length = n ∧ ∀ x ∈ row, 0 ≤ x ∧ x < m
  | 0, row => by
    show row ∈ [[]] ↔ _
    rw [List.mem_singleton]
    constructor
    · rintro rfl; exact ⟨rfl, fun x hx => by cases hx⟩
    · rintro ⟨h, _⟩; exact List.eq_nil_of_length_eq_zero h
  | n + 1, row => by
    show row ∈ (ar m n).flatMap _ ↔ _
    rw [List.mem_flatMap]
    constructor
    · rintro ⟨r, hr, h⟩
      obtain ⟨x, hx, rfl⟩ := List.mem_map.mp h
      obtain ⟨h1, h2⟩ := mem_ar.mp hr
      refine ⟨by rw [List.length_append, h1]; rfl, fun y hy => ?_⟩
      rcases List.mem_append.mp hy with z | z
      · exact h2 y z
      · cases List.mem_singleton.mp z; exact rg_mem.mp hx
    · rintro ⟨h1, h2⟩
      have hne : row ≠ [] := fun z => by rw [z] at h1; cases h1
      have e := List.dropLast_concat_getLast hne
      refine ⟨row.dropLast, mem_ar.mpr ⟨by rw [List.length_dropLast, h1]; rfl, fun x hx => h2 x (List.dropLast_subset _ hx)⟩, List.mem_map.mpr ⟨row.getLast hne, rg_mem.mpr (h2 _ (List.getLast_mem hne)), e⟩⟩
theorem ar_nodup {m : Int} : ∀ {n : Nat}, (ar m n).Nodup
  | 0 => by simp [ar]
  | n + 1 => by
    show ((ar m n).flatMap _).Nodup
    have rgN : (rg 0 m).Nodup := by
      unfold rg
      exact (List.nodup_range).map _ (fun a b hab h => hab (by omega))
    refine List.pairwise_flatMap.mpr ⟨fun r _ => rgN.map _ fun x y hxy e => hxy (List.singleton_inj.mp (List.append_cancel_left e)), ?_⟩
    refine (ar_nodup (m := m) (n := n)).imp_of_mem fun {x x'} hx hx' hne => ?_
    intro z hz z' hz' hzz
    subst hzz
    obtain ⟨y, hy, rfl⟩ := List.mem_map.mp hz
    obtain ⟨y', hy', e⟩ := List.mem_map.mp hz'
    exact hne (List.append_inj e (by rw [(mem_ar.mp hx).1, (mem_ar.mp hx').1])).1.symm
end TM


set_option linter.all false
set_option maxHeartbeats 1000000
namespace TM
open GL
/-! ### the law's own filling -/
def btL (t : List Int) (o : Option Int) : BT := btF (hT t) 60 o
def HOt (t : List Int) (o : Option Int) : Prop := HB t.length (hT t) o (btL t o) ∧ (btL t o).size ≤ 12
theorem HOt.node {t : List Int} {o : Option Int} {g : Int} (h : HOt t o) (e : o = some g) :
    (0 ≤ g ∧ g < t.length) ∧ HOt t (hT t g).1 ∧ HOt t (hT t g).2 ∧ btL t o = .node (btL t (hT t g).1) g.toNat (btL t (hT t g).2) := by
  obtain ⟨hb, hz⟩ := h
  generalize hB : btL t o = B at hb hz ⊢
  cases hb with
  | nil => cases e
  | @node l r p hp h1 h2 =>
    cases e
    have z : l.size + r.size + 1 ≤ 12 := hz
    have e1 : btL t (hT t p).1 = l := h1.bt 60 (by have := l.hs; omega)
    have e2 : btL t (hT t p).2 = r := h2.bt 60 (by have := r.hs; omega)
    refine ⟨⟨by omega, by omega⟩, ⟨by rw [e1]; exact h1, by rw [e1]; omega⟩, ⟨by rw [e2]; exact h2, by rw [e2]; omega⟩, by rw [e1, e2, Int.toNat_natCast]⟩
theorem HOt.top {t : List Int} (h : isTree t = true) (hl : t.length ≤ 12) (h0 : t.length ≠ 0) : HOt t (some ((t.idxOf (-1) : Nat) : Int)) ∧ btL t (some ((t.idxOf (-1) : Nat) : Int)) = btT t := by
  have e : topO t = some ((t.idxOf (-1) : Nat) : Int) := by unfold topO; rw [if_neg h0]
  obtain ⟨h1, h2, h3, h4⟩ := tree_bt h
  have e2 : btL t (some ((t.idxOf (-1) : Nat) : Int)) = btT t := by unfold btL btT; rw [e]
  refine ⟨⟨?_, ?_⟩, e2⟩
  · rw [e2, ← e]; exact h1
  · rw [e2, h2]; exact hl
end TM


set_option linter.all false
set_option maxHeartbeats 1000000
namespace TM
open GL
/-! ### rows of a tree by their numbers -/
/-- the rows of a tree over m, in order -/
def rT (t : List Int) (m : Int) : List (List Int) := (ar m t.length).filter fun r => decide (treeOf r = t)
theorem mem_rT {t row : List Int} {m : Int} : row ∈ rT t m ↔ row.length = t.length ∧ (∀ x ∈ row, 0 ≤ x ∧ x < m) ∧ treeOf row = t := by
  unfold rT
  rw [List.mem_filter, mem_ar, decide_eq_true_iff]
  exact ⟨fun ⟨⟨a, b⟩, c⟩ => ⟨a, b, c⟩, fun ⟨a, b, c⟩ => ⟨⟨a, b⟩, c⟩⟩
theorem lexB_irr : ∀ l : List Int, lexB l l = false
  | [] => rfl
  | a :: l => by simp [lexB, lexB_irr l]
theorem lexB_trans : ∀ {a b c : List Int}, lexB a b = true → lexB b c = true → lexB a c = true
  | [], [], _, h, _ => by simp [lexB] at h
  | [], _ :: _, [], _, h => by simp [lexB] at h
  | [], _ :: _, _ :: _, _, _ => rfl
  | _ :: _, [], _, h, _ => by simp [lexB] at h
  | _ :: _, _ :: _, [], _, h => by simp [lexB] at h
  | x :: a, y :: b, z :: c, h1, h2 => by
    simp only [lexB, Bool.or_eq_true, Bool.and_eq_true, decide_eq_true_eq] at h1 h2 ⊢
    rcases h1 with h1 | ⟨h1, k1⟩ <;> rcases h2 with h2 | ⟨h2, k2⟩
    · left; omega
    · left; omega
    · left; omega
    · right; exact ⟨by omega, lexB_trans k1 k2⟩
theorem lexB_snoc : ∀ {a b : List Int} {x y : Int}, a.length = b.length → (lexB (a ++ [x]) (b ++ [y]) = true ↔ lexB a b = true ∨ (a = b ∧ x < y))
  | [], [], x, y, _ => by simp [lexB]
  | z :: a, w :: b, x, y, h => by
    simp only [List.cons_append, lexB, Bool.or_eq_true, Bool.and_eq_true, decide_eq_true_eq, lexB_snoc (a := a) (b := b) (x := x) (y := y) (by simpa using h), List.cons.injEq]
    constructor
    · rintro (k | ⟨k, k2 | k2⟩)
      · exact .inl (.inl k)
      · exact .inl (.inr ⟨k, k2⟩)
      · exact .inr ⟨⟨k, k2.1⟩, k2.2⟩
    · rintro ((k | ⟨k, k2⟩) | ⟨⟨k, k2⟩, k3⟩)
      · exact .inl k
      · exact .inr ⟨k, .inl k2⟩
      · exact .inr ⟨k, .inr ⟨k2, k3⟩⟩
theorem ar_sorted {m : Int} : ∀ {n : Nat}, (ar m n).Pairwise fun a b => lexB a b = true
  | 0 => by simp [ar]
  | n + 1 => by
    show ((ar m n).flatMap _).Pairwise _
    refine List.pairwise_flatMap.mpr ⟨?_, ?_⟩
    · intro r _
      exact List.pairwise_map.mpr ((rg_sorted 0 m).imp fun {x y} hxy => (lexB_snoc rfl).mpr (.inr ⟨rfl, hxy⟩))
    · refine (ar_sorted (m := m) (n := n)).imp_of_mem fun {x x'} hx hx' hlt => ?_
      intro z hz z' hz'
      obtain ⟨y, hy, rfl⟩ := List.mem_map.mp hz
      obtain ⟨y', hy', rfl⟩ := List.mem_map.mp hz'
      exact (lexB_snoc (by rw [(mem_ar.mp hx).1, (mem_ar.mp hx').1])).mpr (.inl hlt)
theorem rT_sorted {t : List Int} {m : Int} : (rT t m).Pairwise fun a b => lexB a b = true := ar_sorted.filter _
theorem rT_nodup {t : List Int} {m : Int} : (rT t m).Nodup := ar_nodup.filter _
/-- rows ahead of those that begin with p | with p -/
def cBf (S : List (List Int)) (p : List Int) : Nat := S.countP fun r => lexB (r.take p.length) p
def cCe (S : List (List Int)) (p : List Int) : Nat := S.countP fun r => decide (r.take p.length = p)
theorem take_snoc {r : List Int} {k : Nat} (h : k < r.length) : r.take (k + 1) = r.take k ++ [nb r k] := by
  rw [List.take_succ_eq_append_getElem h]
  congr 2
  unfold nb
  rw [List.getD_eq_getElem?_getD, List.getElem?_eq_getElem h]; rfl
theorem countP_or {α : Type} {p q r : α → Bool} : ∀ {l : List α}, (∀ x ∈ l, (r x = true ↔ p x = true ∨ q x = true) ∧ ¬ (p x = true ∧ q x = true)) → l.countP r = l.countP p + l.countP q
  | [], _ => rfl
  | x :: l, h => by
    obtain ⟨h1, h2⟩ := h x List.mem_cons_self
    have ih := countP_or fun y hy => h y (List.mem_cons_of_mem _ hy)
    rw [List.countP_cons, List.countP_cons, List.countP_cons, ih]
    by_cases hp : p x = true
    · have hq : ¬ q x = true := fun z => h2 ⟨hp, z⟩
      rw [if_pos (h1.mpr (.inl hp)), if_pos hp, if_neg hq]; omega
    · by_cases hq : q x = true
      · rw [if_pos (h1.mpr (.inr hq)), if_neg hp, if_pos hq]; omega
      · rw [if_neg (fun z => by rcases h1.mp z with y | y; exact hp y; exact hq y), if_neg hp, if_neg hq]; omega
theorem snoc_inj {a b : List Int} {x y : Int} : a ++ [x] = b ++ [y] ↔ a = b ∧ x = y := by
  constructor
  · intro h
    obtain ⟨h1, h2⟩ := List.append_inj' h rfl
    exact ⟨h1, List.singleton_inj.mp h2⟩
  · rintro ⟨rfl, rfl⟩; rfl
theorem cBf_next {S : List (List Int)} {p : List Int} {d : Int} (h : ∀ r ∈ S, p.length < r.length) : cBf S (p ++ [d + 1]) = cBf S (p ++ [d]) + cCe S (p ++ [d]) := by
  unfold cBf cCe
  refine countP_or fun r hr => ?_
  have hl := h r hr
  have hlen : (r.take p.length).length = p.length := by rw [List.length_take]; omega
  rw [List.length_append, List.length_append]
  show (lexB (r.take (p.length + 1)) _ = true ↔ lexB (r.take (p.length + 1)) _ = true ∨ decide (r.take (p.length + 1) = _) = true) ∧ ¬ (lexB (r.take (p.length + 1)) _ = true ∧ decide (r.take (p.length + 1) = _) = true)
  rw [decide_eq_true_iff, take_snoc hl, lexB_snoc hlen, lexB_snoc hlen, snoc_inj]
  constructor
  · constructor
    · rintro (k | ⟨k, k2⟩)
      · exact .inl (.inl k)
      · by_cases z : nb r p.length = d
        · exact .inr ⟨k, z⟩
        · exact .inl (.inr ⟨k, by omega⟩)
    · rintro ((k | ⟨k, k2⟩) | ⟨k, k2⟩)
      · exact .inl k
      · exact .inr ⟨k, by omega⟩
      · exact .inr ⟨k, by omega⟩
  · rintro ⟨k | ⟨k, k2⟩, k3, k4⟩
    · rw [k3, lexB_irr] at k; cases k
    · omega
theorem cBf_end {S : List (List Int)} {p : List Int} {m : Int} (h : ∀ r ∈ S, p.length < r.length ∧ ∀ x ∈ r, x < m) : cBf S (p ++ [m]) = cBf S p + cCe S p := by
  unfold cBf cCe
  refine countP_or fun r hr => ?_
  obtain ⟨hl, hx⟩ := h r hr
  have hlen : (r.take p.length).length = p.length := by rw [List.length_take]; omega
  rw [List.length_append]
  show (lexB (r.take (p.length + 1)) _ = true ↔ _) ∧ _
  rw [take_snoc hl, lexB_snoc hlen, decide_eq_true_iff]
  constructor
  · constructor
    · rintro (k | ⟨k, _⟩)
      · exact .inl k
      · exact .inr k
    · rintro (k | k)
      · exact .inl k
      · exact .inr ⟨k, hx _ (nb_idx hl rfl)⟩
  · rintro ⟨k, k2⟩
    rw [k2, lexB_irr] at k; cases k
/-- where a row stands in its sorted list -/
theorem cBf_idx : ∀ {S : List (List Int)} {p : List Int}, S.Pairwise (fun a b => lexB a b = true) → (∀ r ∈ S, r.length = p.length) → p ∈ S → S[cBf S p]? = some p ∧ S.idxOf p = cBf S p
  | [], p, _, _, h => by cases h
  | r :: S, p, hs, hl, h => by
    obtain ⟨h1, h2⟩ := List.pairwise_cons.mp hs
    have hr := hl r List.mem_cons_self
    have er : ∀ s : List Int, s.length = p.length → s.take p.length = s := fun s e => List.take_of_length_le (by omega)
    by_cases z : r = p
    · subst z
      have e0 : cBf (r :: S) r = 0 := by
        unfold cBf
        rw [List.countP_eq_zero]
        intro s hs'
        rcases List.mem_cons.mp hs' with y | y
        · rw [y, List.take_length, lexB_irr]; decide
        · rw [er s (hl s (List.mem_cons_of_mem _ y))]
          intro k
          have := lexB_trans (h1 s y) k
          rw [lexB_irr] at this; cases this
      rw [e0]
      exact ⟨rfl, by simp⟩
    · have hp : p ∈ S := by
        rcases List.mem_cons.mp h with y | y
        · exact absurd y.symm z
        · exact y
      obtain ⟨i1, i2⟩ := cBf_idx h2 (fun s hs' => hl s (List.mem_cons_of_mem _ hs')) hp
      have e1 : cBf (r :: S) p = cBf S p + 1 := by
        unfold cBf
        rw [List.countP_cons, er r hr, if_pos (h1 p hp)]
      rw [e1]
      refine ⟨by rw [List.getElem?_cons_succ]; exact i1, ?_⟩
      rw [List.idxOf_cons, i2, beq_false_of_ne z]; rfl
theorem cCe_all {S : List (List Int)} {p : List Int} (hl : ∀ r ∈ S, r.length = p.length) (h : 0 < cCe S p) : p ∈ S := by
  unfold cCe at h
  obtain ⟨r, hr, e⟩ := List.countP_pos_iff.mp h
  have e' := of_decide_eq_true e
  rw [List.take_of_length_le (Nat.le_of_eq (hl r hr))] at e'
  exact e' ▸ hr
/-! ### the dict of fixed numbers -/
/-- the first numbers are fixed, and no others -/
def Fx (fx : List (Int × Int)) (p : List Int) : Prop := ∀ i : Int, dget fx i = if 0 ≤ i ∧ i < p.length then some (nb p i.toNat) else none
theorem Fx.nil : Fx [] [] := fun i => by rw [if_neg (by simp)]; rfl
theorem Fx.put {fx : List (Int × Int)} {p : List Int} {d : Int} (h : Fx fx p) : Fx (dput fx p.length d) (p ++ [d]) := fun i => by
  rw [dget_dput, h i, List.length_append]
  by_cases z : (p.length : Int) = i
  · rw [if_pos z, if_pos (by simp; omega), show i.toNat = p.length by omega, nb_snL]
  · rw [if_neg z]
    by_cases y : 0 ≤ i ∧ i < p.length
    · rw [if_pos y, if_pos (by simp; omega), nb_sn0 (by omega)]
    · rw [if_neg y, if_neg (by simp; omega)]
theorem Fx.put2 {fx : List (Int × Int)} {p : List Int} {d e : Int} (h : Fx fx (p ++ [d])) : Fx (dput fx p.length e) (p ++ [e]) := fun i => by
  rw [dget_dput, h i, List.length_append, List.length_append]
  by_cases z : (p.length : Int) = i
  · rw [if_pos z, if_pos (by simp; omega), show i.toNat = p.length by omega, nb_snL]
  · rw [if_neg z]
    by_cases y : 0 ≤ i ∧ i < p.length
    · rw [if_pos (by simp; omega), if_pos (by simp; omega), nb_sn0 (by omega), nb_sn0 (by omega)]
    · rw [if_neg (by simp; omega), if_neg (by simp; omega)]
theorem Fx.okf {fx : List (Int × Int)} {p : List Int} (h : Fx fx p) {i : Nat} {j : Int} : okf fx i j = true ↔ (i < p.length → nb p i = j) := by
  rw [okf_iff, h i]
  unfold dgetV
  rw [h i]
  by_cases z : i < p.length
  · rw [if_pos (by omega)]
    simp [z]
  · rw [if_neg (by omega)]
    simp [z]
theorem Fx.agr {fx : List (Int × Int)} {p : List Int} (h : Fx fx p) : ∀ {a : Nat} {row : List Int}, agr fx a row = true ↔ ∀ i, i < row.length → a + i < p.length → nb p (a + i) = nb row i
  | a, [] => by
    constructor
    · intro _ i hi; cases hi
    · intro _; rfl
  | a, x :: row => by
    rw [TM.agr, Bool.and_eq_true, h.okf, Fx.agr h]
    constructor
    · rintro ⟨h1, h2⟩ i hi hp
      cases i with
      | zero => exact h1 hp
      | succ i =>
        have := h2 i (by simpa using hi) (by omega)
        rw [show a + 1 + i = a + (i + 1) by omega] at this
        exact this
    · intro k
      refine ⟨fun hp => k 0 (Nat.succ_pos _) hp, fun i hi hp => ?_⟩
      have := k (i + 1) (by simpa using hi) (by omega)
      rw [show a + (i + 1) = a + 1 + i by omega] at this
      exact this
theorem nb_ext {a b : List Int} (hl : a.length = b.length) (h : ∀ i, i < a.length → nb a i = nb b i) : a = b := by
  refine List.ext_getElem hl fun i h1 h2 => ?_
  have := h i h1
  unfold nb at this
  rw [List.getD_eq_getElem?_getD, List.getD_eq_getElem?_getD, List.getElem?_eq_getElem h1, List.getElem?_eq_getElem h2] at this
  exact this
theorem Fx.take {fx : List (Int × Int)} {p row : List Int} (h : Fx fx p) (hl : p.length ≤ row.length) : TM.agr fx 0 row = true ↔ row.take p.length = p := by
  rw [h.agr]
  constructor
  · intro k
    refine nb_ext (by rw [List.length_take]; omega) fun i hi => ?_
    rw [List.length_take] at hi
    have := k i (by omega) (by omega)
    rw [Nat.zero_add] at this
    rw [this, nb_take (by omega)]
  · intro k i hi hp
    rw [Nat.zero_add] at hp ⊢
    rw [← k, nb_take hp]
/-- the count with the first numbers fixed -/
theorem fC_pre {t : List Int} (h : isTree t = true) {m : Int} {fx : List (Int × Int)} {p : List Int} (hf : Fx fx p) (hl : p.length ≤ t.length) : fC t m fx = (cCe (rT t m) p : Int) := by
  unfold cCe
  rw [List.countP_eq_length_filter]
  refine fC_any h (rT_nodup.filter _) fun row => ?_
  rw [List.mem_filter, mem_rT, decide_eq_true_iff]
  constructor
  · rintro ⟨⟨a, b, c⟩, d⟩; exact ⟨a, b, c, (hf.take (by omega)).mpr d⟩
  · rintro ⟨a, b, c, d⟩; exact ⟨⟨a, b, c⟩, (hf.take (by omega)).mp d⟩
end TM


set_option linter.all false
set_option maxHeartbeats 1000000
namespace TM
open GL
/-! ### the walks of row_at and number_of_row -/
theorem rT_in {t : List Int} {m : Int} : ∀ r ∈ rT t m, r.length = t.length ∧ ∀ x ∈ r, 0 ≤ x ∧ x < m := fun r hr => ⟨(mem_rT.mp hr).1, (mem_rT.mp hr).2.1⟩
/-- what holds at a place of row_at, d being tried -/
structure RA (t : List Int) (m n0 : Int) (fx : List (Int × Int)) (p : List Int) (d number many : Int) : Prop where
  hfx : Fx fx (p ++ [d])
  pl : p.length < t.length
  d0 : 0 ≤ d
  dm : d ≤ m
  hn : 0 ≤ number
  num : n0 = (cBf (rT t m) (p ++ [d]) : Int) + number
  hmany : many = fC t m fx
  lt : n0 < (cBf (rT t m) p : Int) + cCe (rT t m) p
/-- what holds between the places -/
structure RB (t : List Int) (m n0 : Int) (fx : List (Int × Int)) (p : List Int) (number : Int) : Prop where
  hfx : Fx fx p
  pl : p.length ≤ t.length
  hn : 0 ≤ number
  num : n0 = (cBf (rT t m) p : Int) + number
  lt : number < (cCe (rT t m) p : Int)
theorem RA.cnt {t : List Int} (h : isTree t = true) {m n0 : Int} {fx : List (Int × Int)} {p : List Int} {d number many : Int} (r : RA t m n0 fx p d number many) : many = (cCe (rT t m) (p ++ [d]) : Int) := by
  rw [r.hmany, fC_pre h r.hfx (by rw [List.length_append]; exact r.pl)]
theorem RA.next {t : List Int} (h : isTree t = true) {m n0 : Int} {fx fx2 : List (Int × Int)} {p : List Int} {d number many : Int} (r : RA t m n0 fx p d number many) (hw : many ≤ number) (hf : fx2 = dput fx p.length (d + 1)) : RA t m n0 fx2 p (d + 1) (number - many) (fC t m fx2) ∧ d < m := by
  have ec := r.cnt h
  have e1 : cBf (rT t m) (p ++ [d + 1]) = cBf (rT t m) (p ++ [d]) + cCe (rT t m) (p ++ [d]) := cBf_next fun q hq => by rw [(rT_in q hq).1]; exact r.pl
  have hd : d < m := by
    have e2 : cBf (rT t m) (p ++ [m]) = cBf (rT t m) p + cCe (rT t m) p := cBf_end fun q hq => ⟨by rw [(rT_in q hq).1]; exact r.pl, fun x hx => ((rT_in q hq).2 x hx).2⟩
    refine Classical.byContradiction fun z => ?_
    have := r.dm
    have ed : d = m := by omega
    have h1 := r.num
    have h2 := r.lt
    have h3 := r.hn
    rw [ed, e2] at h1
    omega
  refine ⟨⟨by rw [hf]; exact r.hfx.put2, r.pl, by have := r.d0; omega, by omega, by omega, ?_, rfl, r.lt⟩, hd⟩
  rw [e1, r.num]
  omega
theorem RA.leave {t : List Int} (h : isTree t = true) {m n0 : Int} {fx : List (Int × Int)} {p : List Int} {d number many : Int} (r : RA t m n0 fx p d number many) (hw : number < many) : RB t m n0 fx (p ++ [d]) number :=
  ⟨r.hfx, by rw [List.length_append]; exact r.pl, r.hn, r.num, by rw [← r.cnt h]; exact hw⟩
theorem RB.done {t : List Int} {m n0 : Int} {fx : List (Int × Int)} {p : List Int} {number : Int} (r : RB t m n0 fx p number) (hp : p.length = t.length) : (rT t m)[n0.toNat]? = some p := by
  have hl : ∀ q ∈ rT t m, q.length = p.length := fun q hq => by rw [(rT_in q hq).1, hp]
  have h0 := r.hn
  have h1 := r.lt
  have hin : p ∈ rT t m := cCe_all hl (by omega)
  have hc : cCe (rT t m) p ≤ 1 := by
    unfold cCe
    have e : (rT t m).countP (fun q => decide (q.take p.length = p)) = (rT t m).count p := by
      unfold List.count
      refine List.countP_congr fun q hq => ?_
      rw [decide_eq_true_iff, List.take_of_length_le (Nat.le_of_eq (hl q hq))]
      exact beq_iff_eq.symm
    rw [e]
    exact List.nodup_iff_count.mp rT_nodup p
  have h2 := r.num
  rw [show n0.toNat = cBf (rT t m) p by omega]
  exact (cBf_idx rT_sorted hl hin).1
theorem Fx.get {fx : List (Int × Int)} {p : List Int} (h : Fx fx p) {i : Int} (hi : 0 ≤ i ∧ i < p.length) : (dget fx i).isSome = true ∧ dgetV fx i = nb p i.toNat := by
  unfold dgetV
  rw [h i, if_pos hi]
  exact ⟨rfl, rfl⟩
theorem Fx.out {fx : List (Int × Int)} {p : List Int} (h : Fx fx p) : (rg 0 p.length).map (fun c => dgetV fx c) = p := by
  refine List.ext_getElem? fun j => ?_
  rw [List.getElem?_map]
  by_cases hj : j < p.length
  · rw [rg_get 0 _ j (by omega)]
    show some (dgetV fx (0 + (j : Int))) = _
    rw [Int.zero_add, (h.get (i := (j : Int)) (by omega)).2, Int.toNat_natCast, List.getElem?_eq_getElem hj]
    unfold nb
    rw [List.getD_eq_getElem?_getD, List.getElem?_eq_getElem hj]; rfl
  · rw [List.getElem?_eq_none (by rw [rg_len]; omega), List.getElem?_eq_none (by omega)]; rfl
/-- number_of_row: the rows ahead -/
structure NR (t row : List Int) (m : Int) (fx : List (Int × Int)) (i : Nat) (number : Int) : Prop where
  hfx : Fx fx (row.take i)
  num : number = (cBf (rT t m) (row.take i) : Int)
/-- .. with a lesser number at the place -/
structure NS (t row : List Int) (m : Int) (fx0 fx : List (Int × Int)) (i j : Nat) (number : Int) : Prop where
  hfx : (j = 0 → fx = fx0) ∧ (0 < j → Fx fx (row.take i ++ [(j : Int) - 1]))
  f0 : Fx fx0 (row.take i)
  num : number = (cBf (rT t m) (row.take i ++ [(j : Int)]) : Int)
theorem NS.step {t row : List Int} (h : isTree t = true) {m : Int} {fx0 fx fx2 : List (Int × Int)} {i j : Nat} {number : Int} (r : NS t row m fx0 fx i j number) (hi : i < row.length) (hl : row.length = t.length) {pl le : Int} (hp : pl = i) (hle : le = j) (hf : fx2 = dput fx pl le) :
    NS t row m fx0 fx2 i (j + 1) (number + fC t m fx2) := by
  have hlen : (row.take i).length = i := by rw [List.length_take]; omega
  subst hp hle
  have f2 : Fx fx2 (row.take i ++ [(j : Int)]) := by
    rw [hf]
    by_cases z : j = 0
    · rw [r.hfx.1 z]
      have := r.f0.put (d := (j : Int))
      rwa [hlen] at this
    · have := (r.hfx.2 (by omega)).put2 (e := (j : Int))
      rwa [hlen] at this
  refine ⟨⟨fun z => by omega, fun _ => ?_⟩, r.f0, ?_⟩
  · rw [show ((j + 1 : Nat) : Int) - 1 = j by omega]; exact f2
  · have e1 : cBf (rT t m) (row.take i ++ [(j : Int) + 1]) = cBf (rT t m) (row.take i ++ [(j : Int)]) + cCe (rT t m) (row.take i ++ [(j : Int)]) := cBf_next fun q hq => by rw [(rT_in q hq).1, hlen]; omega
    rw [show ((j + 1 : Nat) : Int) = (j : Int) + 1 by omega, e1, r.num, fC_pre h f2 (by rw [List.length_append, hlen]; show i + 1 ≤ _; omega)]
    omega
theorem NS.leave {t row : List Int} {m : Int} {fx0 fx fx2 : List (Int × Int)} {i j : Nat} {number : Int} (r : NS t row m fx0 fx i j number) (hi : i < row.length) (hj : (j : Int) = nb row i) {pl du : Int} (hp : pl = i) (hd : du = nb row i) (hf : fx2 = dput fx pl du) : NR t row m fx2 (i + 1) number := by
  have hlen : (row.take i).length = i := by rw [List.length_take]; omega
  subst hp hd
  refine ⟨?_, by rw [r.num, hj, take_snoc hi]⟩
  rw [take_snoc hi, hf]
  by_cases z : j = 0
  · rw [r.hfx.1 z]
    have := r.f0.put (d := nb row i)
    rwa [hlen] at this
  · have := (r.hfx.2 (by omega)).put2 (e := nb row i)
    rwa [hlen] at this
theorem NR.done {t row : List Int} {m : Int} {fx : List (Int × Int)} {number : Int} {i : Nat} (r : NR t row m fx i number) (hi : i = row.length) (hin : row ∈ rT t m) : number = (((rT t m).idxOf row : Nat) : Int) := by
  rw [r.num, hi, List.take_length]
  congr 1
  exact (cBf_idx rT_sorted (fun q hq => by rw [(rT_in q hq).1, (rT_in row hin).1]) hin).2.symm
end TM
namespace TM
open GL
theorem dput_same {l : List (Int × Int)} {k a : Int} (h : (dget l k).isSome = true) : (dput l k a).length = l.length := by rw [dput_len, if_pos h]
theorem RB.out {t : List Int} {m n0 : Int} {fx : List (Int × Int)} {p : List Int} {number : Int} (r : RB t m n0 fx p number) (hp : p.length = t.length) : (rg 0 t.length).map (fun c => dgetV fx c) = gt (rT t m) n0 := by
  rw [← hp, r.hfx.out]
  have := r.done hp
  have h0 := r.hn
  have h1 := r.num
  unfold gt
  rw [List.getD_eq_getElem?_getD, this]; rfl
end TM
namespace TM
open GL
theorem NS.len {t row : List Int} {m : Int} {fx0 fx : List (Int × Int)} {i j : Nat} {number : Int} (r : NS t row m fx0 fx i j number) (hi : i < row.length) (h0 : fx0.length ≤ i) (h1 : fx.length ≤ i + 1) {pl le : Int} (hp : pl = i) : (dput fx pl le).length ≤ i + 1 := by
  by_cases z : j = 0
  · rw [r.hfx.1 z]
    exact Nat.le_trans dput_le (by omega)
  · have hlen : (row.take i).length = i := by rw [List.length_take]; omega
    rw [dput_same ((r.hfx.2 (by omega)).get (i := pl) (by rw [List.length_append, hlen]; simp; omega)).1]
    exact h1
end TM
namespace TM
open GL
end TM


set_option linter.all false
set_option maxHeartbeats 1000000
namespace TM
open GL
/-! ### few rows of a tree -/
end TM
namespace TM
open GL
end TM


set_option linter.all false
set_option maxHeartbeats 1000000
namespace TM
open GL
/-! ### all trees of so many places; orders -/
def nodeT (top : Nat) (ah be : List Int) : List Int := ah.map (fun e => if 0 ≤ e then e else (top : Int)) ++ [-1] ++ be.map (fun e => if 0 ≤ e then e + (top : Int) + 1 else (top : Int))
def allF : Nat → Nat → List (List Int)
  | 0, _ => [[]]
  | f + 1, n => if n = 0 then [[]] else (List.range n).flatMap fun top => (allF f top).flatMap fun ah => (allF f (n - 1 - top)).map fun be => nodeT top ah be
def allT (n : Nat) : List (List Int) := allF n n
theorem fmap_congr {α β : Type} {f g : α → List β} : ∀ {l : List α}, (∀ x ∈ l, f x = g x) → l.flatMap f = l.flatMap g
  | [], _ => rfl
  | x :: l, h => by rw [List.flatMap_cons, List.flatMap_cons, h x List.mem_cons_self, fmap_congr fun y hy => h y (List.mem_cons_of_mem _ hy)]
theorem allF_eq : ∀ {f g n : Nat}, n ≤ f → n ≤ g → allF f n = allF g n
  | 0, 0, n, _, _ => rfl
  | 0, g + 1, n, h, _ => by
    have : n = 0 := by omega
    subst this; rfl
  | f + 1, 0, n, _, h => by
    have : n = 0 := by omega
    subst this; rfl
  | f + 1, g + 1, n, h1, h2 => by
    unfold allF
    by_cases z : n = 0
    · rw [if_pos z, if_pos z]
    · rw [if_neg z, if_neg z]
      refine fmap_congr fun top ht => ?_
      have ht' := List.mem_range.mp ht
      rw [allF_eq (f := f) (g := g) (n := top) (by omega) (by omega), allF_eq (f := f) (g := g) (n := n - 1 - top) (by omega) (by omega)]
theorem allT_node {n : Nat} (h : n ≠ 0) : allT n = (List.range n).flatMap fun top => (allT top).flatMap fun ah => (allT (n - 1 - top)).map fun be => nodeT top ah be := by
  cases n with
  | zero => exact absurd rfl h
  | succ n =>
    show allF (n + 1) (n + 1) = _
    rw [allF, if_neg h]
    refine fmap_congr fun top ht => ?_
    have ht' := List.mem_range.mp ht
    rw [show allF n top = allT top from allF_eq (by omega) (Nat.le_refl _), show allF n (n + 1 - 1 - top) = allT (n + 1 - 1 - top) from allF_eq (by omega) (Nat.le_refl _)]
/-- every tree is among them -/
def nrm (a : Nat) (e x : Int) : Int := if x = e then -1 else x - a
theorem seg_split {t : List Int} {a b h : Nat} (h1 : a ≤ h) (h2 : h < b) (hb : b ≤ t.length) : (t.drop a).take (b - a) = (t.drop a).take (h - a) ++ [nb t h] ++ (t.drop (h + 1)).take (b - (h + 1)) := by
  have := take_split (row := t) (a := a) (n := h - a) (p := h) (by omega) (q := b - (h + 1)) (by omega)
  rw [show h - a + (b - (h + 1)) + 1 = b - a by omega] at this
  rw [this, List.append_assoc]; rfl
theorem mem_seg {t : List Int} {a n : Nat} {x : Int} (h : x ∈ (t.drop a).take n) (hl : a + n ≤ t.length) : ∃ q, a ≤ q ∧ q < a + n ∧ nb t q = x := by
  obtain ⟨i, hi, e⟩ := List.getElem_of_mem h
  rw [List.length_take, List.length_drop] at hi
  refine ⟨a + i, by omega, by omega, ?_⟩
  rw [List.getElem_take, List.getElem_drop] at e
  unfold nb
  rw [List.getD_eq_getElem?_getD, List.getElem?_eq_getElem (by omega)]
  exact e
theorem T.all {t : List Int} {a b : Nat} {e : Int} (h : T t a b e) : b ≤ t.length → (e < a ∨ (b : Int) ≤ e) → ((t.drop a).take (b - a)).map (nrm a e) ∈ allT (b - a) := by
  induction h with
  | nil a e => intro _ _; rw [Nat.sub_self, List.take_zero]; exact List.mem_singleton.mpr rfl
  | @node a b h e h1 h2 h3 t1 t2 i1 i2 =>
    intro hb he
    rw [allT_node (by omega)]
    have k2 : ((t.drop (h + 1)).take (b - (h + 1))).map (nrm (h + 1) h) ∈ allT (b - a - 1 - (h - a)) := by
      have := i2 hb (.inl (by omega))
      rwa [show b - (h + 1) = b - a - 1 - (h - a) by omega] at this ⊢
    refine List.mem_flatMap.mpr ⟨h - a, List.mem_range.mpr (by omega), List.mem_flatMap.mpr ⟨_, i1 (by omega) (.inr (by omega)), List.mem_map.mpr ⟨_, k2, ?_⟩⟩⟩
    · rw [seg_split h1 h2 hb]
      unfold nodeT
      rw [List.map_append, List.map_append, List.map_map, List.map_map]
      congr 1
      · congr 1
        · refine List.map_congr_left fun x hx => ?_
          obtain ⟨q, q1, q2, q3⟩ := mem_seg hx (by omega)
          have hi := t1.inn q q1 (by omega)
          rw [q3] at hi
          simp only [Function.comp_apply]
          have hne : x ≠ e := by rcases hi with z | z <;> omega
          have e2 : nrm a e x = x - a := if_neg hne
          by_cases z : x = h
          · have e1 : nrm a h x = -1 := if_pos z
            rw [e1, e2, if_neg (by decide)]; omega
          · have e1 : nrm a h x = x - a := if_neg z
            rw [e1, e2, if_pos (by rcases hi with y | y; exact absurd y z; omega)]
        · show [(-1 : Int)] = [nrm a e (nb t h)]
          rw [h3]; simp [nrm]
      · refine List.map_congr_left fun x hx => ?_
        obtain ⟨q, q1, q2, q3⟩ := mem_seg hx (by omega)
        have hi := t2.inn q q1 (by omega)
        rw [q3] at hi
        simp only [Function.comp_apply]
        have hne : x ≠ e := by rcases hi with z | z <;> omega
        have e2 : nrm a e x = x - a := if_neg hne
        by_cases z : x = h
        · have e1 : nrm (h + 1) h x = -1 := if_pos z
          rw [e1, e2, if_neg (by decide)]; omega
        · have e1 : nrm (h + 1) h x = x - (h + 1 : Nat) := if_neg z
          rw [e1, e2, if_pos (by rcases hi with y | y; exact absurd y z; omega)]; omega
def okT (n : Nat) : Bool := decide (allT n).Nodup && (allT n).all fun t => decide (t.length = n) && decide (treeOf (flatF t) = t)
end TM


set_option linter.all false
set_option maxHeartbeats 1000000
namespace TM
open GL
/-! ### orders -/
/-- how many places are under a place, with it, as far as the first i places and j on the way of the next are told -/
def szN (t : List Int) (i : Nat) (o : Int) : Int := 1 + (((List.range i).countP fun p : Nat => decide (o ∈ ups t (p : Int)) : Nat) : Int)
def szs (t : List Int) : List Int := (rg 0 t.length).map (szN t t.length)
def mo (t : List Int) : Int := (szs t).foldl (· / ·) ((((List.range t.length).map fun k : Nat => ((k : Int) + 1)).foldl (· * ·) 1))
def fac (n : Nat) : Int := ((List.range n).map fun k : Nat => ((k : Int) + 1)).foldl (· * ·) 1
/-- along a way -/
def szP (t L : List Int) (i j : Nat) : List Int := (rg 0 t.length).map fun o => szN t i o + if o ∈ L.take j then 1 else 0
/-- the orders of all trees of up to five places -/
def ordT (n : Nat) : Bool := decide (((allT n).map mo).sum = fac n)
end TM
namespace TM
open GL
def lenT : Bool := (List.range 6).all fun n => decide ((allT n).length ≤ 42)
end TM
namespace TM
open GL
end TM
namespace TM
open GL
theorem map_take {α β : Type} {l : List α} {i : Nat} {x : α} {f : α → β} (h : l[i]? = some x) : (l.take (i + 1)).map f = (l.take i).map f ++ [f x] := by
  rw [List.take_succ, List.map_append, h]; rfl
end TM


set_option Elab.async false
set_option linter.all false
set_option maxRecDepth 100000
set_option maxHeartbeats 1000000
namespace TM
open GL
section
variable {t : List Int} {m at_ many : Int} {numbers : List Int} {told : List (List Int)}
end
end TM


set_option Elab.async false
set_option linter.all false
set_option maxRecDepth 100000
set_option maxHeartbeats 1000000
namespace TM
open GL PySem L2
def okB (t : List Int) (m : Int) : Prop := t.length ≤ 12 ∧ 0 ≤ m ∧ m ≤ 12
instance {t : List Int} {m : Int} : Decidable (okB t m) := by unfold okB; infer_instance
noncomputable def duF (way : Int) (t : List Int) (m number : Int) : Option Int :=
  if way ≠ 2 ∧ isTree t = false then some 3
  else if way < 3 ∧ ¬ okB t m then some 2
  else if way = 1 ∧ ¬ (0 ≤ number ∧ number < fC t m []) then some 6
  else if way = 2 ∧ ¬ (∀ x ∈ t, 0 ≤ x ∧ x < m) then some 6 else none
noncomputable def okF (way : Int) (t : List Int) (m number : Int) : Sum Int (List Int) :=
  if way = 0 then .inl (fC t m []) else if way = 1 then .inr (gt (rT t m) number) else if way = 2 then .inl (((rT (treeOf t) m).idxOf t : Nat) : Int) else .inl (mo t)
noncomputable def heF {α : Type} (xs : Int → α) (way : Int) (t : List Int) (m number : Int) : Option (Sum α (Sum Int (List Int))) :=
  match duF way t m number with
  | some d => some (.inl (xs d))
  | none => some (.inr (okF way t m number))
section
variable {way : Int} {t : List Int} {m number d : Int} {α : Type} {xs : Int → α}
noncomputable def okI (way : Int) (t : List Int) (m number : Int) : Int := match okF way t m number with | .inl k => k | .inr _ => 0
end
end TM
namespace TM
open GL PySem L2
section
variable {way : Int} {t : List Int} {m number : Int} {α : Type} {xs : Int → α} {y : Int} {r : List Int}
end
end TM
namespace TM
open GL PySem L2
end TM


set_option Elab.async false
set_option linter.all false
set_option maxRecDepth 100000
set_option maxHeartbeats 1000000
namespace TM
open GL
def pr (l : List Int) : Int := l.foldr (· * ·) 1
structure Seg (t : List Int) (a b : Nat) (e : Int) : Prop where
  T : T t a b e
  out : e < a ∨ (b : Int) ≤ e
  bn : b ≤ t.length
  sep : ∀ q : Nat, q < t.length → (q < a ∨ b ≤ q) → (nb t q < a ∨ (b : Int) ≤ nb t q)
theorem Seg.all {t : List Int} (ht : isTree t = true) : Seg t 0 t.length (-1) :=
  ⟨(isTree_iff.mp ht).2, .inl (by omega), Nat.le_refl _, fun q h1 h2 => by omega⟩
theorem Seg.head {t : List Int} {a b : Nat} {e : Int} (s : Seg t a b e) (hab : a < b) : ∃ h : Nat, a ≤ h ∧ h < b ∧ nb t h = e ∧ (∀ q : Nat, a ≤ q → q < b → q ≠ h → (a : Int) ≤ nb t q ∧ nb t q < b) ∧ Seg t a h h ∧ Seg t (h + 1) b h := by
  obtain ⟨h, h1, h2, h3, h4, t1, t2⟩ := s.T.one hab s.out
  have ho := s.out
  have hb := s.bn
  refine ⟨h, h1, h2, h3, fun q q1 q2 q3 => ?_, ⟨t1, .inr (Int.le_refl _), by omega, fun q q1 q2 => ?_⟩, ⟨t2, .inl (by omega), s.bn, fun q q1 q2 => ?_⟩⟩
  · rcases s.T.in q q1 q2 with z | z
    · exact absurd (h4 q q1 q2 z) q3
    · exact z
  · by_cases y : q < a ∨ b ≤ q
    · rcases s.sep q q1 y with z | z <;> omega
    · by_cases y2 : q = h
      · subst y2; omega
      · rcases t2.in q (by omega) (by omega) with z | z <;> omega
  · by_cases y : q < a ∨ b ≤ q
    · rcases s.sep q q1 y with z | z <;> omega
    · by_cases y2 : q = h
      · subst y2; omega
      · rcases t1.in q (by omega) (by omega) with z | z <;> omega
def tms (t : List Int) : Int := pr (((rg 0 t.length).map (spanT t)).map fun c => c.2 - c.1 + 1)
end TM
namespace TM
open GL
theorem perm_sub {α : Type} [DecidableEq α] : ∀ {L T : List α}, L.Nodup → (∀ x ∈ L, x ∈ T) → ∃ T', T.Perm (L ++ T')
  | [], T, _, _ => ⟨T, List.Perm.refl _⟩
  | x :: L, T, hn, hs => by
    obtain ⟨n1, n2⟩ := List.nodup_cons.mp hn
    obtain ⟨T', h⟩ := perm_sub (T := T.erase x) n2 fun y hy => (List.mem_erase_of_ne (fun (e : y = x) => n1 (by rw [← e]; exact hy))).mpr (hs y (List.mem_cons_of_mem _ hy))
    exact ⟨T', (List.perm_cons_erase (hs x List.mem_cons_self)).trans (h.cons x)⟩
def catT : Bool := (List.range 6).all fun n => decide (catal (n : Int) = ((allT n).length : Int))
noncomputable def atL (n : Int) : List (List Int) := (rg 0 (catal n)).map fun i => hungF (unrank n i)
end TM
namespace TM
open GL
def facT : Bool := (List.range 41).all fun n => decide (fac n ≤ 10 ^ 50)
end TM
namespace TM
open GL
end TM


set_option Elab.async false
set_option linter.all false
set_option maxRecDepth 100000
set_option maxHeartbeats 1000000
namespace L2
open PySem PySem.Spec PyProof.Rows
section
variable {X : Cx} {a b c d : Expr} {ta tb tc td : TE} {pos : Pos}
end
end L2
namespace GL
open PySem L2
variable {C : Cn} {Γ : List Ent} {ta tb tc td : TE} {ℓ : Lv}
end GL

namespace TM
open GL
/-! ### the order of drops is the order of their numbers -/
end TM
namespace TM
open GL
end TM

namespace TM
open GL
def cntT (n : Int) : Bool :=
  decide (((rg 0 (n + 1)).map (openAt n)).sum = catal n) && decide (manyF n n = catal n) && decide (((rg 0 n).map (falls n)).sum = catal n) && decide ((rg 0 n).map (falls n) = ((rg 0 n).map (falls n)).reverse) &&
  decide (manyF n 0 = 1) && (rg 0 n).all (fun k => decide (manyF n k ≤ manyF n (k + 1)) && decide (manyF n (k + 1) ≤ manyF n (n - 1))) && decide (manyF n (n - 1) = catal n)
theorem cntT_ok : ((rg 1 13).all cntT) = true := by decide +kernel
theorem cnt {n : Int} (hn : 1 ≤ n ∧ n ≤ 12) : ((rg 0 (n + 1)).map (openAt n)).sum = catal n ∧ manyF n n = catal n ∧ ((rg 0 n).map (falls n)).sum = catal n ∧ (rg 0 n).map (falls n) = ((rg 0 n).map (falls n)).reverse ∧ manyF n 0 = 1 ∧
    (∀ k, 0 ≤ k → k < n → manyF n k ≤ manyF n (k + 1) ∧ manyF n (k + 1) ≤ manyF n (n - 1)) ∧ manyF n (n - 1) = catal n := by
  have h := List.all_eq_true.mp cntT_ok n (rg_mem.mpr (by omega))
  unfold cntT at h
  simp only [Bool.and_eq_true, decide_eq_true_iff] at h
  obtain ⟨⟨⟨⟨⟨⟨h1, h2⟩, h3⟩, h4⟩, h5⟩, h6⟩, h7⟩ := h
  refine ⟨h1, h2, h3, h4, h5, fun k k0 k1 => ?_, h7⟩
  have := List.all_eq_true.mp h6 k (rg_mem.mpr (by omega))
  simpa only [Bool.and_eq_true, decide_eq_true_iff] using this
end TM


set_option Elab.async false
set_option linter.all false
set_option maxRecDepth 100000
set_option maxHeartbeats 1000000
namespace TM
open GL
def fallsF (row : List Int) : Int := (((rg 1 row.length).filter fun k => decide (gt row k < gt row (k - 1))).length : Int)
def shp (n : Int) (t : List Int) : Int × Int × Int := (n - (dropsOf (flatF t)).sum, fallsF (flatF t), dmax (flatF t) (-1))
def shK (n : Nat) (k : Int) : Bool :=
  decide (openAt n k = ((((allT n).map (shp n)).filter fun s => decide (s.1 = k)).length : Int)) && decide (falls n k = ((((allT n).map (shp n)).filter fun s => decide (s.2.1 = k)).length : Int)) &&
  decide (manyF n k = ((((allT n).map (shp n)).filter fun s => decide (s.2.2 ≤ k)).length : Int))
def shT : Bool := (List.range 7).all fun n => decide (catal (n : Int) = ((allT n).length : Int)) && (rg (-1) ((n : Int) + 2)).all (shK n)
end TM
namespace TM
open GL
end TM
namespace TM
open GL
def c6T : Bool := (List.range 7).all fun n => decide (catal (n : Int) ≤ 132)
end TM


set_option Elab.async false
set_option linter.all false
set_option maxRecDepth 100000
set_option maxHeartbeats 1000000
namespace TM
open GL
/-! ### fitted: the least row of a tree above given bounds -/
def demP (t ls : List Int) (p o : Int) : Int × Int := (gt ls o + gt (flatF t) p - gt (flatF t) o, o)
def dmL (t ls : List Int) (p : Int) : List (Int × Int) := ([p] ++ ups t p).map (demP t ls p)
def dm (t ls : List Int) (p : Int) : Int × Int := bestL (dmL t ls p)
def rst (t ls : List Int) : List Int := (rg 0 t.length).map fun p => (dm t ls p).1
end TM
namespace TM
open GL PySem
/-- what fitted answers -/
def fitOk (t ls gs : List Int) (x : Sum (Str × Int × Int) (Str × List Int)) : Prop :=
  match x with
  | .inl a => a.1 = Str.ofString "clash" ∧ (0 ≤ a.2.2 ∧ a.2.2 < t.length) ∧ a.2.1 = (dm t ls a.2.2).2 ∧ gt gs a.2.2 < (dm t ls a.2.2).1
  | .inr a => a.1 = Str.ofString "row" ∧ a.2 = rst t ls ∧ ∀ p : Int, 0 ≤ p → p < t.length → (dm t ls p).1 ≤ gt gs p
instance : Inhabited Str := ⟨Str.ofString ""⟩
end TM
namespace TM
open GL PySem
end TM


set_option Elab.async false
set_option linter.all false
set_option maxRecDepth 100000
set_option maxHeartbeats 1000000
namespace TM
open GL PySem
def within (ls r ms : List Int) : Bool := ((ls.zip (r.zip ms)).map fun c => decide (c.1 ≤ c.2.1 ∧ c.2.1 ≤ c.2.2)).all id
section
variable {t rows ls ms : List Int} {R some_ : List (List Int)} {m : Int} {x : Sum (Str × Int × Int) (Str × List Int)}
end
end TM


set_option Elab.async false
set_option linter.all false
namespace TM
open GL L2 PySem
/-! ### the laws that draw rows of a tree -/
end TM
namespace TM
open GL L2 PySem
end TM
namespace TM
end TM
namespace TM
open GL L2 PySem
variable {t ls gs : List Int}
/-- what fitted tells -/
def fitF (t ls gs : List Int) : Sum (Str × Int × Int) (Str × List Int) := match (rg 0 t.length).find? fun p => decide (gt gs p < (dm t ls p).1) with
  | some p => .inl (Str.ofString "clash", (dm t ls p).2, p)
  | none => .inr (Str.ofString "row", rst t ls)
end TM


set_option Elab.async false
set_option linter.all false
namespace TM
open GL L2 PySem
variable {t ls gs r row least greatest : List Int}
/-! ### places by their depth -/
def lamL (t : List Int) : List Int := (rg 0 t.length).mergeSort fun x y => decide (((ups t x).length : Int) ≤ ((ups t y).length : Int))
def lamP (t : List Int) : List (Int × Int) := (lamL t).map fun p => (rk t p, p)
/-- how great the numbers are -/
def KM (t : List Int) (L : List (Int × Int)) (row : List Int) (i : Nat) : Prop := ∀ k q, L[k]? = some q →
  (k < i → -(3000000000000000000000000000000000000000000000000000000000 + q.1 * 6000000000000000000000000000000000000000000000000000000001) ≤ gt row q.2 ∧ gt row q.2 ≤ 3000000000000000000000000000000000000000000000000000000000 + q.1 * 6000000000000000000000000000000000000000000000000000000001) ∧
  (i ≤ k → -3000000000000000000000000000000000000000000000000000000000 ≤ gt row q.2 ∧ gt row q.2 ≤ 3000000000000000000000000000000000000000000000000000000000)
/-! ### what fitted tells, of changed bounds -/
def liesB (row least greatest : List Int) : Bool := ((rg 0 row.length).map fun k => decide (gt least k ≤ gt row k ∧ gt row k ≤ gt greatest k)).all id
end TM
namespace TM
open GL L2 PySem
end TM
namespace TM
open GL L2 PySem
variable {t ls gs : List Int}
/-- what fitted tells, with the words out of the way -/
def isRow (t ls gs row : List Int) : Prop := fitF t ls gs = .inr (Str.ofString "row", row)
def isClash (t ls gs : List Int) (a b : Int) : Prop := fitF t ls gs = .inl (Str.ofString "clash", a, b)
end TM


set_option Elab.async false
set_option linter.all false
namespace TM
open GL L2 PySem
variable {t row made : List Int}
/-! ### the nearest row of a tree -/
def ovB (t row : List Int) (a b : Int) : Int := gt row a + gt (flatF t) b - gt (flatF t) a - gt row b
def demA (t row : List Int) (b : Int) : List I3 := (ups t b).map fun a => (ovB t row a b, a, b)
def demL (t row : List Int) : List I3 := ((rg 0 t.length).map fun b => demA t row b).flatten
def mxF (t row : List Int) : I3 := bestL3 ((0, 0, 0) :: demL t row)
def farF (t row : List Int) : Int := ((mxF t row).1 + 1) / 2
def nearF (t row : List Int) : Int × List Int × Option (Int × Int) := (farF t row, rst t (row.map fun x => x - farF t row), if farF t row = 0 then none else some ((mxF t row).2.1, (mxF t row).2.2))
end TM
namespace TM
open GL L2 PySem
def onWay (t : List Int) (a b : Int) : Bool := decide ((0 ≤ a ∧ a < t.length) ∧ (0 ≤ b ∧ b < t.length) ∧ (a = b ∨ a ∈ ups t b))
def isNear (t row : List Int) (far : Int) (made : List Int) : Bool := decide (treeOf made = t) && ((made.zip row).map fun c => decide (((c.1 - c.2).natAbs : Int) ≤ far)).all id
def nearR (t row : List Int) (far : Int) (made : List Int) (pair : Option (Int × Int)) : Bool := decide (0 ≤ far) && isNear t row far made && (match pair with
  | none => decide (far = 0)
  | some p => !decide (far = 0) && !decide (p.1 = p.2) && onWay t p.1 p.2 && decide (ovB t row p.1 p.2 = 2 * far ∨ ovB t row p.1 p.2 = 2 * far - 1))
end TM


set_option Elab.async false
set_option linter.all false
namespace TM
open GL L2 PySem
variable {t ls gs row : List Int}
end TM


set_option Elab.async false
set_option linter.all false
namespace TM
open GL L2 PySem
variable {t ls gs row : List Int}
/-! ### fitted rows told: the law's own judge -/
def clashB (t ls gs : List Int) (a b : Int) : Bool := onWay t a b && decide (gt gs b < gt ls a + gt (flatF t) b - gt (flatF t) a)
def byAll (t ls gs : List Int) : Option (List Int) := match fitF t ls gs with
  | .inr x => some x.2
  | .inl _ => none
theorem digits {B : Int} (hB : 0 < B) : ∀ l : List Int, (∀ x ∈ l, 0 ≤ x ∧ x < B) → ∃ x : Int, 0 ≤ x ∧ x < B ^ l.length ∧ ∀ k : Nat, k < l.length → x / B ^ k % B = l.getD k 0
  | [], _ => ⟨0, Int.le_refl _, by simp, fun k h => absurd h (by simp)⟩
  | a :: l, h => by
    obtain ⟨x, x0, x1, hx⟩ := digits hB l fun y hy => h y (List.mem_cons_of_mem _ hy)
    obtain ⟨a0, a1⟩ := h a List.mem_cons_self
    have hBx : 0 ≤ B * x := Int.mul_nonneg (Int.le_of_lt hB) x0
    refine ⟨a + B * x, by omega, ?_, fun k hk => ?_⟩
    · rw [List.length_cons, Int.pow_succ]
      have : B * (x + 1) ≤ B * B ^ l.length := Int.mul_le_mul_of_nonneg_left (by omega) (Int.le_of_lt hB)
      rw [Int.mul_add, Int.mul_one] at this
      rw [Int.mul_comm (B ^ l.length) B]
      omega
    · cases k with
      | zero =>
        rw [Int.pow_zero, Int.ediv_one, Int.add_mul_emod_self_left, Int.emod_eq_of_lt a0 a1]; rfl
      | succ k =>
        have e : (a + B * x) / B ^ (k + 1) = x / B ^ k := by
          have h3 : (a + B * x) / B / B ^ k = (a + B * x) / (B * B ^ k) := by
            have := @Int.ediv_ediv (a + B * x) B (B ^ k)
            rw [if_neg (fun z => by omega), Int.sub_zero] at this
            exact this
          rw [Int.pow_succ, Int.mul_comm (B ^ k) B, ← h3, Int.add_mul_ediv_left _ _ (by omega), Int.ediv_eq_zero_of_lt a0 a1, Int.zero_add]
        rw [e, hx k (by rw [List.length_cons] at hk; omega)]
        rfl
end TM


set_option Elab.async false
set_option linter.all false
namespace TM
open GL L2 PySem
variable {t way : List Int} {p here : Int}
/-! ### which tuples are trees, by chains that stop at an elder met before -/
structure WT (t : List Int) (p : Int) (way : List Int) (here : Int) : Prop where
  run : ∀ k, up t (way.length + k) (gt t p) = (up t k here).map (way ++ ·)
  nd : way.Nodup
  ins : ∀ o ∈ way, 0 ≤ o ∧ o < (t.length : Int)
end TM


set_option Elab.async false
set_option linter.all false
namespace TM
open GL L2 PySem
variable {t row other : List Int} {w : Int} {nt un c : Addr}
/-! ### what is refused (k59) -/
noncomputable def asked59 (nt un : Addr) (w : Int) (t row other : List Int) : Option (Sum Addr Unit) :=
  if isTree t = true then (if row.length = t.length ∧ (w < 2 → other.length = t.length) then some (.inr ()) else some (.inl un)) else some (.inl nt)
noncomputable def due59 (w : Int) (t row other : List Int) : Int :=
  if isTree t = true then (if row.length = t.length ∧ (w < 2 → other.length = t.length) then -1 else 0) else 3
end TM


set_option Elab.async false
set_option linter.all false
/-! ### stretches that come twice: trees by start, groups, the first two -/
namespace TM
open GL
/-- the trees of all stretches of so many places -/
def trs (row : List Int) (size : Int) : List (List Int) := (rg 0 ((row.length : Int) - size + 1)).map fun s => treeOf (sl row (some s) (some (s + size)))
theorem trs_len (row : List Int) (size : Int) : (trs row size).length = ((row.length : Int) - size + 1).toNat := by
  unfold trs; rw [List.length_map, rg_len]; congr 1; omega
section
variable {ts us : List (List Int)} {i : Nat} {t : List Int}
/-- where a tree stands among the first so many -/
def posF (ts : List (List Int)) (n : Int) (t : List Int) : List Int := (rg 0 n).filter fun i => decide (gt ts i = t)
/-- the places that have a tree not there before -/
def fstF (ts : List (List Int)) (n : Int) : List Int := (rg 0 n).filter fun i => decide (gt ts i ∉ sl ts none (some i))
def grp (ts : List (List Int)) (n : Int) : List (List Int × List Int) := (fstF ts n).map fun one => (gt ts one, posF ts n (gt ts one))
/-- the groups -/
def gps (ts : List (List Int)) : List (List Int) := (fstF ts ts.length).map fun one => posF ts ts.length (gt ts one)
/-! the first two -/
def later (ts : List (List Int)) (one : Int) : List Int := (rg (one + 1) ts.length).filter fun o => decide (gt ts o = gt ts one)
def ftF (ts : List (List Int)) : Option (List Int) := ((rg 0 ts.length).find? fun one => decide (later ts one ≠ [])).map fun one => [one, gt (later ts one) 0]
theorem ft_len {r : List Int} (h : ftF ts = some r) : r.length = 2 ∧ 2 ≤ ts.length := by
  unfold ftF at h
  cases hf : (rg 0 ts.length).find? fun one => decide (later ts one ≠ []) with
  | none => rw [hf] at h; cases h
  | some o =>
    rw [hf] at h
    have hr : [o, gt (later ts o) 0] = r := by simpa using h
    have hp := List.find?_some hf
    have hm := rg_mem.mp (List.mem_of_find?_eq_some hf)
    have hl := of_decide_eq_true hp
    obtain ⟨x, hx⟩ := List.exists_mem_of_ne_nil _ hl
    unfold later at hx
    rw [List.mem_filter, rg_mem] at hx
    subst hr
    exact ⟨rfl, by omega⟩
/-- what the longest is -/
def LT (row res : List Int) : Prop := ∃ size a b : Int, res = [size, a, b] ∧ 1 ≤ size ∧ ftF (trs row size) = some [a, b] ∧ ftF (trs row (size + 1)) = none ∧ ∀ s, 1 ≤ s → s < size → ftF (trs row (s + 1)) ≠ none
theorem LT.uniq {row r r' : List Int} (h : LT row r) (h' : LT row r') : r = r' := by
  obtain ⟨s, a, b, e, h1, h2, h3, h4⟩ := h
  obtain ⟨s', a', b', e', h1', h2', h3', h4'⟩ := h'
  have : s = s' := by
    rcases Int.lt_trichotomy s s' with z | z | z
    · exact absurd h3 (h4' s h1 z)
    · exact z
    · exact absurd h3' (h4 s' h1' z)
  subst this
  rw [h2] at h2'
  have e2 : [a, b] = [a', b'] := by simpa using h2'
  cases e2
  rw [e, e']
theorem LT.mk {row : List Int} {size : Int} {r : List Int} (h1 : 1 ≤ size) (h2 : ftF (trs row size) = some r) (h3 : ftF (trs row (size + 1)) = none) (h4 : ∀ s, 1 ≤ s → s < size → ftF (trs row (s + 1)) ≠ none) : LT row (size :: r) := by
  have hl := (ft_len h2).1
  match r, hl with
  | [a, b], _ => exact ⟨size, a, b, rfl, h1, h2, h3, h4⟩
theorem LT.out {row r : List Int} (h : LT row r) : (r.length = 3 ∧ 0 < gt r 0) ∧ ftF (trs row (gt r 0)) = some (sl r (some 1) none) ∧ ftF (trs row (gt r 0 + 1)) = none := by
  obtain ⟨s, a, b, e, h1, h2, h3, h4⟩ := h
  subst e
  have e0 : gt [s, a, b] 0 = s := rfl
  rw [e0]
  exact ⟨⟨rfl, by omega⟩, h2, h3⟩
/-! in two rows -/
def fbF (ts us : List (List Int)) : Option (List Int) := ((rg 0 ts.length).find? fun one => decide (gt ts one ∈ us)).map fun one => [one, ((us.idxOf (gt ts one) : Nat) : Int)]
theorem fb_len {r : List Int} (h : fbF ts us = some r) : r.length = 2 ∧ 1 ≤ ts.length := by
  unfold fbF at h
  cases hf : (rg 0 ts.length).find? fun one => decide (gt ts one ∈ us) with
  | none => rw [hf] at h; cases h
  | some o =>
    rw [hf] at h
    have hr : [o, ((us.idxOf (gt ts o) : Nat) : Int)] = r := by simpa using h
    have hm := rg_mem.mp (List.mem_of_find?_eq_some hf)
    subst hr
    exact ⟨rfl, by omega⟩
def LB2 (one other res : List Int) : Prop := ∃ size a b : Int, res = [size, a, b] ∧ 1 ≤ size ∧ fbF (trs one size) (trs other size) = some [a, b] ∧ fbF (trs one (size + 1)) (trs other (size + 1)) = none ∧ ∀ s, 1 ≤ s → s < size → fbF (trs one (s + 1)) (trs other (s + 1)) ≠ none
theorem LB2.uniq {one other r r' : List Int} (h : TM.LB2 one other r) (h' : TM.LB2 one other r') : r = r' := by
  obtain ⟨s, a, b, e, h1, h2, h3, h4⟩ := h
  obtain ⟨s', a', b', e', h1', h2', h3', h4'⟩ := h'
  have : s = s' := by
    rcases Int.lt_trichotomy s s' with z | z | z
    · exact absurd h3 (h4' s h1 z)
    · exact z
    · exact absurd h3' (h4 s' h1' z)
  subst this
  rw [h2] at h2'
  have e2 : [a, b] = [a', b'] := by simpa using h2'
  cases e2
  rw [e, e']
open Classical in
noncomputable def ltF (row : List Int) : List Int := if h : ∃ r, LT row r then Classical.choose h else []
open Classical in
noncomputable def lbF (one other : List Int) : List Int := if h : ∃ r, LB2 one other r then Classical.choose h else []
theorem LB2.mk {one other : List Int} {size : Int} {r : List Int} (h1 : 1 ≤ size) (h2 : fbF (trs one size) (trs other size) = some r) (h3 : fbF (trs one (size + 1)) (trs other (size + 1)) = none) (h4 : ∀ s, 1 ≤ s → s < size → fbF (trs one (s + 1)) (trs other (s + 1)) ≠ none) : LB2 one other (size :: r) := by
  have hl := (fb_len h2).1
  match r, hl with
  | [a, b], _ => exact ⟨size, a, b, rfl, h1, h2, h3, h4⟩
theorem LB2.out {one other r : List Int} (h : LB2 one other r) : (r.length = 3 ∧ 0 < gt r 0) ∧ fbF (trs one (gt r 0)) (trs other (gt r 0)) = some (sl r (some 1) none) ∧ fbF (trs one (gt r 0 + 1)) (trs other (gt r 0 + 1)) = none := by
  obtain ⟨s, a, b, e, h1, h2, h3, h4⟩ := h
  subst e
  have e0 : gt [s, a, b] 0 = s := rfl
  rw [e0]
  exact ⟨⟨rfl, by omega⟩, h2, h3⟩
theorem LT.big {row r : List Int} (h : LT row r) : gt r 0 ≤ row.length := by
  obtain ⟨s, a, b, e, h1, h2, h3, h4⟩ := h
  subst e
  have h5 := (ft_len h2).2
  rw [trs_len] at h5
  show s ≤ _
  omega
theorem LB2.big {one other r : List Int} (h : LB2 one other r) : gt r 0 ≤ one.length := by
  obtain ⟨s, a, b, e, h1, h2, h3, h4⟩ := h
  subst e
  have h5 := (fb_len h2).2
  rw [trs_len] at h5
  show s ≤ _
  omega
/-! where each tree came first -/
section
variable {d : List (List Int × Int)}
end
end
end TM


set_option Elab.async false
set_option linter.all false
set_option maxRecDepth 100000
set_option maxHeartbeats 1000000
/-! ### orders of a tree, reckoned span by span from the deepest places on -/
namespace TM
open GL
/-- the ways that p things and q things pass one another -/
def wy (p : Nat) : Nat → Int
  | 0 => 1
  | i + 1 => wy p i * ((p : Int) + i + 1) / ((i : Int) + 1)
def wyT : Bool := (List.range 41).all fun p => (List.range 41).all fun q => decide (40 < p + q) || (decide (1 ≤ wy p q) && decide (wy p q ≤ 2 ^ 62))
def wyF (p q : Int) : Int := wy p.toNat q.toNat
/-! places and their stretches -/
structure Pl (t : List Int) (p a b : Nat) : Prop where
  s : Seg t a b (nb t p)
  h1 : a ≤ p
  h2 : p < b
  hi : ∀ q : Nat, a ≤ q → q < b → q ≠ p → (a : Int) ≤ nb t q ∧ nb t q < b
  l : Seg t a p p
  r : Seg t (p + 1) b p
theorem place {t : List Int} : ∀ (n a b : Nat) (e : Int), b - a ≤ n → Seg t a b e → ∀ p, a ≤ p → p < b → ∃ a' b', Pl t p a' b'
  | 0, a, b, e, hn, s, p, h1, h2 => by omega
  | n + 1, a, b, e, hn, s, p, h1, h2 => by
    obtain ⟨h, k1, k2, k3, k4, k5, k6⟩ := s.head (by omega)
    rcases Nat.lt_trichotomy p h with z | z | z
    · exact place n a h h (by omega) k5 p h1 z
    · subst z
      exact ⟨a, b, by rw [k3]; exact s, k1, k2, k4, k5, k6⟩
    · exact place n (h + 1) b h (by omega) k6 p z h2
def lo (t : List Int) (p : Nat) : Nat := (spanT t (p : Int)).1.toNat
def hiP (t : List Int) (p : Nat) : Nat := ((spanT t (p : Int)).2 + 1).toNat
theorem Pl.left {t : List Int} {e A B c : Nat} (P : Pl t e A B) (hc : c < t.length) (h : nb t c = e) (hlt : c < e) : Pl t c A e := by
  have hAc : A ≤ c := by
    rcases Nat.lt_or_ge c A with z | z
    · have h1 := P.h1
      have h2 := P.h2
      rcases P.s.sep c hc (.inl z) with y | y <;> omega
    · exact z
  obtain ⟨h', k1, k2, k3, k4, k5, k6⟩ := P.l.head (by omega)
  have : c = h' := by
    apply Classical.byContradiction
    intro z
    have := k4 c hAc hlt z
    omega
  subst this
  exact ⟨by rw [h]; exact P.l, k1, k2, k4, k5, k6⟩
theorem Pl.right {t : List Int} {e A B c : Nat} (P : Pl t e A B) (hc : c < t.length) (h : nb t c = e) (hlt : e < c) : Pl t c (e + 1) B := by
  have hcB : c < B := by
    rcases Nat.lt_or_ge c B with z | z
    · exact z
    · have h1 := P.h1
      have h2 := P.h2
      rcases P.s.sep c hc (.inr z) with y | y <;> omega
  obtain ⟨h', k1, k2, k3, k4, k5, k6⟩ := P.r.head (by omega)
  have : c = h' := by
    apply Classical.byContradiction
    intro z
    have := k4 c hlt hcB z
    omega
  subst this
  exact ⟨by rw [h]; exact P.r, k1, k2, k4, k5, k6⟩
/-- how many orders a stretch has -/
def prs (t : List Int) (a b : Nat) : Int := pr ((List.range' a (b - a)).map fun p : Nat => szN t t.length (p : Int))
def Fs (t : List Int) (a b : Nat) : Int := ((fct (b - a) : Nat) : Int) / prs t a b
end TM


set_option Elab.async false
set_option linter.all false
set_option maxRecDepth 100000
set_option maxHeartbeats 1000000
/-! ### .. the state of that reckoning -/
namespace TM
open GL
def rkU (t : List Int) (q : Nat) : Nat := (ups t (q : Int)).length
/-- those that are done -/
def pc (t : List Int) (deep : Int) (i q : Nat) : Bool := decide (deep < (rkU t q : Int) ∨ ((rkU t q : Int) = deep ∧ q < i))
def lf (t : List Int) (D : Nat → Bool) (p : Nat) : Bool := (List.range t.length).any fun c => D c && decide (nb t c = (p : Int) ∧ c < p)
def rt (t : List Int) (D : Nat → Bool) (p : Nat) : Bool := (List.range t.length).any fun c => D c && decide (nb t c = (p : Int) ∧ p < c)
def sdP (t : List Int) (D : Nat → Bool) (p : Nat) : List Int := [if lf t D p = true then (p : Int) - lo t p else 0, if rt t D p = true then (hiP t p : Int) - p - 1 else 0]
def mnP (t : List Int) (D : Nat → Bool) (p : Nat) : Int := (if D p = true then wy (p - lo t p) (hiP t p - (p + 1)) else 1) * (if lf t D p = true then Fs t (lo t p) p else 1) * (if rt t D p = true then Fs t (p + 1) (hiP t p) else 1)
def sdF (t : List Int) (D : Nat → Bool) : List (List Int) := (List.range t.length).map (sdP t D)
def mnF (t : List Int) (D : Nat → Bool) : List Int := (List.range t.length).map (mnP t D)
def FsP (t : List Int) (p : Nat) : Int := Fs t (lo t p) (hiP t p)
def szQ (t : List Int) (p : Nat) : Int := (hiP t p : Int) - lo t p
section
variable {t : List Int} (ht : isTree t = true) {D D' : Nat → Bool} {p : Nat} (hp : p < t.length)
include ht hp
end
end TM


set_option Elab.async false
set_option linter.all false
set_option maxRecDepth 100000
set_option maxHeartbeats 1000000
/-! ### .. its loops -/
namespace TM
open GL
section
variable {t : List Int} {D D' : Nat → Bool}
end
/-! all orders of few places -/
def ordN : Nat → List (List Int)
  | 0 => [[]]
  | n + 1 => (ordN n).flatMap fun row => (rg 0 ((n : Int) + 1)).map fun a => sl row none (some a) ++ [(n : Int)] ++ sl row (some a) none
def ordC (n : Nat) : Bool := (allT n).all fun t => decide (mo t = (((ordN n).filter fun row => decide (treeOf row = t)).length : Int))
end TM
namespace TM
open GL
def ordL (n : Nat) : Bool := decide ((ordN n).length ≤ 120) && (ordN n).all fun r => decide (r.length ≤ 5)
def ordX (number : Int) (row : List Int) : List (List Int) := (rg 0 (number + 1)).map fun a => sl row none (some a) ++ [number] ++ sl row (some a) none
end TM
namespace TM
open GL
end TM


set_option linter.all false
set_option maxHeartbeats 1000000
namespace TM
open GL
/-! ### rows grown and shrunk -/
def mel (begin e : Int) : Option Int := if e < 0 then none else some (begin + e)
def marked (numbers : List Int) (begin : Int) : List (Int × Option Int) := (enu (treeOf numbers)).map fun z => (begin + z.1, mel begin z.2)
def markedT (numbers : List Int) (begin : Int) (i : Nat) : List (Int × Option Int) := ((enu (treeOf numbers)).take i).map fun z => (begin + z.1, mel begin z.2)
def chgP (ahead behind : List (Int × Option Int)) (m : Int) : Bool := decide ((dget behind m).isSome = true ∧ ¬ dgetV ahead m = dgetV behind m)
def chgL (ahead behind : List (Int × Option Int)) (ms : List Int) : List (Int × Option Int × Option Int) := (ms.filter (chgP ahead behind)).map fun m => (m, dgetV ahead m, dgetV behind m)
def chg (ahead behind : List (Int × Option Int)) : List (Int × Option Int × Option Int) := chgL ahead behind (isort (ahead.map Prod.fst))
def fm (n : List Int) (m : Int) : Int := if n.length = 0 then 0 else m
abbrev GS := List Int × Int × List (List Int × Int) × Unit
def led (n : List Int) (b way x : Int) : List Int × Int :=
  if way = 0 then ([x] ++ n, b - (if decide (0 < (n.length : Int)) = true then 1 else 0)) else if way = 1 then (n ++ [x], b) else if way = 2 then (sl n (some 1) none, (b + 1) * (if decide (1 < (n.length : Int)) = true then 1 else 0)) else (sl n none (some (-1)), b * (if decide (1 < (n.length : Int)) = true then 1 else 0))
def done (g : GS) (way x : Int) : GS :=
  if way = 0 then ([x] ++ g.1, fm g.1 g.2.1 - (if decide ((0 : Int) < (g.1.length : Int)) = true then 1 else 0), g.2.2.1 ++ [(g.1, g.2.1)], ()) else if way = 1 then (g.1 ++ [x], fm g.1 g.2.1, g.2.2.1 ++ [(g.1, g.2.1)], ()) else if way = 2 then (sl g.1 (some 1) none, g.2.1 + 1, g.2.2.1 ++ [(g.1, g.2.1)], ()) else (sl g.1 none (some (-1)), g.2.1, g.2.2.1 ++ [(g.1, g.2.1)], ())
def backed (g : GS) : GS := if g.2.2.1 = [] then g else ((gtB g.2.2.1 1).1, (gtB g.2.2.1 1).2, g.2.2.1.dropLast, ())
def Gone (g p : List (List Int × Int)) : Prop := p = g.map fun z => (z.1, fm z.1 z.2)
/-- from b to a at most one mark has another elder -/
def Nb (a b : List Int × Int) : Prop := (chg (marked b.1 b.2) (marked a.1 a.2)).length ≤ 1 ∧ a.1.length ≤ 40
def Near (p : List (List Int × Int)) (c : List Int × Int) : Prop := p ≠ [] → Nb (gtB p 1) c
def Lin (p : List (List Int × Int)) (c : List Int × Int) : Prop := ∀ (i : Nat) (a b : List Int × Int), p[i]? = some a → (p ++ [c])[i + 1]? = some b → Nb a b
def J (g : GS) (p : List (List Int × Int)) (n : List Int) (b : Int) : Prop := g.1 = n ∧ fm g.1 g.2.1 = b ∧ Gone g.2.2.1 p ∧ Lin p (n, b) ∧ n.length ≤ 40
/-- a mark in both, with another elder -/
def Dif (n' : List Int) (b' : Int) (n : List Int) (b m : Int) : Prop := (b' ≤ m ∧ m < b' + n'.length) ∧ (b ≤ m ∧ m < b + n.length) ∧ mel b' (eld n' n'.length (m - b').toNat) ≠ mel b (eld n n.length (m - b).toNat)
theorem Dif.symm {n' n : List Int} {b' b m : Int} (h : Dif n' b' n b m) : Dif n b n' b' m := ⟨h.2.1, h.1, fun z => h.2.2 z.symm⟩
/-! a number behind -/
/-! a number ahead -/
end TM


set_option linter.all false
set_option maxHeartbeats 1000000
namespace TM
open GL
end TM
namespace TM
open GL
end TM


set_option linter.all false
set_option maxHeartbeats 1000000
namespace TM
open GL
/-! ### deeds that may be refused (k74) -/
abbrev CHL := List (Int × Option Int × Option Int)
inductive Heard (xT xE xP xN : Addr) (g : GS) (way x : Int) : Option (Sum Addr (Sum CHL (List (Option Int)))) → GS → Prop where
  | big : way < 2 → 40 ≤ g.1.length → Heard xT xE xP xN g way x (some (Sum.inl xT)) g
  | small : 2 ≤ way → way < 4 → g.1 = [] → Heard xT xE xP xN g way x (some (Sum.inl xE)) g
  | past : way = 4 → g.2.2.1 = [] → Heard xT xE xP xN g way x (some (Sum.inl xP)) g
  | place : 4 < way → dget (marked g.1 g.2.1) x = none → Heard xT xE xP xN g way x (some (Sum.inl xN)) g
  | elder : 4 < way → dget (marked g.1 g.2.1) x ≠ none → Heard xT xE xP xN g way x (some (Sum.inr (Sum.inr [dgetV (marked g.1 g.2.1) x]))) g
  | deed (l : CHL) : way < 4 → ¬ (way < 2 ∧ 40 ≤ g.1.length) → ¬ (2 ≤ way ∧ g.1 = []) → Heard xT xE xP xN g way x (some (Sum.inr (Sum.inl l))) (done g way x)
  | back (l : CHL) : way = 4 → g.2.2.1 ≠ [] → Heard xT xE xP xN g way x (some (Sum.inr (Sum.inl l))) (backed g)
def dueN (way many : Int) (past : List (List Int × Int)) : Option Int :=
  if way < 2 ∧ many = 40 then some 2 else if (way = 2 ∨ way = 3) ∧ many = 0 then some 1 else if way = 4 ∧ past = [] then some 7 else none
end TM


set_option linter.all false
set_option maxHeartbeats 1000000
namespace TM
open GL
/-! ### the watch -/
def dbk (given : List Int) (x : Int) : Int := bk (given ++ [x]) given.length
def rcGo (b bd : List Int) (far : Int) : Nat → Int → Int
  | 0, m => m
  | f + 1, m => if gt b m = cutb far m then m else rcGo b bd far f (gt bd (m - 1))
def rc0 (b bd : List Int) (m : Int) : Int := if m = b.length then gt bd (m - 1) else m
def rc (b bd : List Int) (far m : Int) : Int := rcGo b bd far (b.length + 1) (rc0 b bd m) + 1
abbrev Wst := List (List Int) × List (List Int) × List Int × List (List Int) × Unit
def lens (s : Wst) (x : Int) : List Int := (rg 0 s.1.length).map fun at_ => rc (gt s.1 at_) (gt s.2.1 at_) (dbk s.2.2.1 x) (gt (gtB s.2.2.2.1 1) at_)
def tells (s : Wst) (x : Int) : List Int := (rg 0 (lens s x).length).filter fun at_ => decide (gt (lens s x) at_ = ((gt s.1 at_).length : Int))
def given1 (s : Wst) (x : Int) : Wst := (s.1, s.2.1, s.2.2.1 ++ [x], s.2.2.2.1 ++ [lens s x], ())
def back1 (s : Wst) : Wst := (s.1, s.2.1, s.2.2.1.dropLast, s.2.2.2.1.dropLast, ())
structure RowOk (b bd : List Int) (m : Int) : Prop where
  b0 : 0 < b.length
  bl : b.length ≤ 12
  dl : bd.length = b.length
  g0 : gt b 0 = 0
  m0 : 0 ≤ m
  ml : m ≤ b.length
  go : ∀ t : Int, 1 ≤ t → t ≤ b.length → 0 ≤ gt bd (t - 1) ∧ gt bd (t - 1) < t
structure WOk (s : Wst) : Prop where
  l2 : s.2.1.length = s.1.length
  ne : s.2.2.2.1 ≠ []
  l3 : (gtB s.2.2.2.1 1).length = s.1.length
  few : s.1.length ≤ 12
  big : s.2.2.1.length ≤ 1000
  lb : s.2.2.2.1.length ≤ 2000
  row : ∀ i : Int, 0 ≤ i → i < s.1.length → RowOk (gt s.1 i) (gt s.2.1 i) (gt (gtB s.2.2.2.1 1) i)
/-- the loop's word -/
def RcI (b bd : List Int) (far m0 m : Int) : Prop := (0 ≤ m ∧ m < b.length) ∧ ∃ f : Nat, m < f ∧ rcGo b bd far (b.length + 1) m0 = rcGo b bd far f m
/-! ### what the watch knows, by rows and numbers -/
def rchGo (row text : List Int) : Nat → Nat
  | 0 => 0
  | n + 1 => if n + 1 ≤ text.length ∧ kinB (row.take (n + 1)) (text.drop (text.length - (n + 1))) = true then n + 1 else rchGo row text n
/-- the most numbers of the row's beginning that the text's end is kin to -/
def rch (row text : List Int) : Int := rchGo row text row.length
/-- the watch of these rows with these numbers given -/
noncomputable def wS (rows : List (List Int)) (given : List Int) : Wst := (rows.map backs, rows.map borders, given, (List.range (given.length + 1)).map fun i => rows.map fun r => rch r (given.take i), ())
def RowsOk (rows : List (List Int)) : Prop := (0 < rows.length ∧ rows.length ≤ 12) ∧ ∀ r ∈ rows, 1 ≤ r.length ∧ r.length ≤ 12
/-- the rows that end here -/
def ended (rows : List (List Int)) (text : List Int) : List Int := (rg 0 rows.length).filter fun at_ => decide (rch (gt rows at_) text = ((gt rows at_).length : Int))
def reachNow (s : Wst) : Int := lmax (gtB s.2.2.2.1 1)
end TM
namespace TM
open GL
end TM


set_option linter.all false
set_option maxHeartbeats 1000000
namespace TM
open GL
/-! ### k49: watched, sought and grouped -/
/-- where a row ends in a text's first numbers -/
def endsB (row text : List Int) (i : Nat) : List Int := ((List.range i).filter fun j => decide (rch row (text.take (j + 1)) = (row.length : Int))).map fun (j : Nat) => (j : Int) + 1
def mostB (row text : List Int) : Nat → Int
  | 0 => 0
  | i + 1 => max (mostB row text i) (rch row (text.take (i + 1)))
/-! the row itself -/
/-! windows -/
end TM
namespace TM
open GL
structure Own (row : List Int) (w : Wst) (x : Int) : Prop where
  g : given1 w x = wS [row] (row ++ [x])
  b : back1 (wS [row] (row ++ [x])) = wS [row] row
  b2 : back1 (wS [row] row) = wS [row] row.dropLast
  k0 : WOk w
  k1 : WOk (wS [row] row)
  k2 : WOk (wS [row] (row ++ [x]))
  k3 : WOk (wS [row] row.dropLast)
  r1 : reachNow (wS [row] row) = row.length
  r2 : reachNow (wS [row] (row ++ [x])) ≤ gtB (borders row) 1 + 1
  r3 : reachNow (wS [row] row.dropLast) = (row.length : Int) - 1
end TM
namespace TM
open GL
end TM
namespace TM
open GL
end TM


set_option linter.all false
set_option maxHeartbeats 1000000
namespace TM
open GL
/-! ### k92: starts by a watch -/
/-- what a watch of the rows tells, number by number -/
def toldW (rows : List (List Int)) (text : List Int) (n : Nat) : List (List Int) := (List.range n).map fun i => ended rows (text.take (i + 1))
/-! reached -/
/-- the sizes that are found, of the first rows -/
structure Szs (rows : List (List Int)) (text : List Int) (n : Nat) (sizes : List Int) : Prop where
  z : 0 ∈ sizes
  nn : ∀ s ∈ sizes, 0 ≤ s
  lt : ∀ s ∈ sizes, s = 0 ∨ ∃ r ∈ rows.take n, s ≤ rch r text
  has : ∀ r ∈ rows.take n, rch r text ∈ sizes
  len : sizes.length ≤ 1 + 12 * n
structure Sz1 (rows : List (List Int)) (text row : List Int) (n : Nat) (k : Nat) (sizes : List Int) : Prop where
  z : 0 ∈ sizes
  nn : ∀ s ∈ sizes, 0 ≤ s
  lt : ∀ s ∈ sizes, s = 0 ∨ (∃ r ∈ rows.take n, s ≤ rch r text) ∨ s ≤ rch row text
  has : ∀ r ∈ rows.take n, rch r text ∈ sizes
  own : rch row text ≤ k → rch row text ∈ sizes
  len : sizes.length ≤ 1 + 12 * n + k
/-! the row itself, from its second number on -/
end TM
namespace TM
open GL
end TM


set_option linter.all false
set_option maxHeartbeats 1000000
namespace TM
open GL
/-! ### k95: a grown row and a watch -/
/-- the trees of the last numbers -/
def lastsT (numbers : List Int) : List (List Int) := (rg 1 (min 12 (numbers.length : Int) + 1)).map fun size => treeOf (sl (flatF (treeOf numbers)) (some ((numbers.length : Int) - size)) (some ((numbers.length : Int) - 1 + 1)))
/-- the most that is reached, of the first rows -/
structure MR (rows : List (List Int)) (numbers : List Int) (n : Nat) (m : Int) : Prop where
  nn : 0 ≤ m
  at_ : m = 0 ∨ ∃ r ∈ rows.take n, m ≤ rch r numbers
  all : ∀ r ∈ rows.take n, rch r numbers ≤ m
structure MR1 (rows : List (List Int)) (numbers row : List Int) (n k : Nat) (m : Int) : Prop where
  nn : 0 ≤ m
  at_ : m = 0 ∨ (∃ r ∈ rows.take n, m ≤ rch r numbers) ∨ m ≤ rch row numbers
  all : ∀ r ∈ rows.take n, rch r numbers ≤ m
  own : rch row numbers ≤ k → rch row numbers ≤ m
/-! both -/
structure WG (rows : List (List Int)) (w : Wst) (g : GS) (n : Nat) : Prop where
  w : w = wS rows g.1
  len : g.1.length ≤ n
  past : g.2.2.1.length ≤ 2 * n
end TM
namespace TM
open GL
structure WG2 (rows : List (List Int)) (w : Wst) (g : GS) (n : Nat) : Prop where
  w : w = wS rows g.1
  len : g.1.length ≤ n
  past : g.2.2.1.length ≤ 2 * n + 1
end TM


set_option linter.all false
set_option maxHeartbeats 1000000
namespace TM
open GL
/-! ### k44: numbers taken back -/
def begT (row : List Int) : List (List Int) := (rg 1 ((row.length : Int) + 1)).map fun k => treeOf (sl row none (some k))
def begsT (rows : List (List Int)) : List (List (List Int)) := rows.map begT
/-- how many of a row's beginnings' trees the given numbers' end reaches -/
def rcTGo (begun : List (List Int)) (given : List Int) : Nat → Nat
  | 0 => 0
  | n + 1 => if n + 1 ≤ given.length ∧ gt begun (n : Int) = treeOf (given.drop (given.length - (n + 1))) then n + 1 else rcTGo begun given n
def rcT (begun : List (List Int)) (given : List Int) : Int := rcTGo begun given begun.length
def endT (trees : List (List (List Int))) (given : List Int) (n : Nat) : List Int := (rg 0 (n : Int)).filter fun at_ => decide (rcT (gt trees at_) given = ((gt trees at_).length : Int))
def mostT (trees : List (List (List Int))) (given : List Int) : Int := lmax (trees.map fun b => rcT b given)
/-! the loops -/
def lastT (given : List Int) : List (List Int) := (rg 1 (min 12 (given.length : Int) + 1)).map fun k => treeOf (sl given (some (-k)) none)
structure ET (trees : List (List (List Int))) (given : List Int) (n : Nat) (ended_ : List Int) (m : Int) : Prop where
  e : ended_ = endT trees given n
  nn : 0 ≤ m
  at_ : m = 0 ∨ ∃ b ∈ trees.take n, m ≤ rcT b given
  all : ∀ b ∈ trees.take n, rcT b given ≤ m
structure ET1 (trees : List (List (List Int))) (given : List Int) (begun : List (List Int)) (n k : Nat) (ended_ : List Int) (m : Int) : Prop where
  e : ended_ = endT trees given n ++ (if begun.length ≤ k ∧ rcT begun given = (begun.length : Int) then [(n : Int)] else [])
  nn : 0 ≤ m
  at_ : m = 0 ∨ (∃ b ∈ trees.take n, m ≤ rcT b given) ∨ m ≤ rcT begun given
  all : ∀ b ∈ trees.take n, rcT b given ≤ m
  own : rcT begun given ≤ k → rcT begun given ≤ m
/-! numbers taken back -/
def backW (w : Wst) : Wst := if w.2.2.1 = [] then w else back1 w
structure WV (rows : List (List Int)) (w : Wst) (given : List Int) (n : Nat) : Prop where
  w : w = wS rows given
  len : given.length ≤ n
end TM
namespace TM
open GL
end TM


set_option linter.all false
set_option maxHeartbeats 1000000
namespace TM
open GL
/-! ### places paired anew -/
variable {B : List (List Int)} {u u' : List (Option Int)} {a b x : Int} {seen seen' : List Int}
def BOk (B : List (List Int)) : Prop := B.length ≤ 40 ∧ ∀ a : Int, ∀ b ∈ gt B a, 0 ≤ b ∧ b < B.length
def UOk (B : List (List Int)) (u : List (Option Int)) : Prop := u.length = B.length ∧ ∀ b : Int, 0 ≤ b → b < B.length → ∀ a, gt u b = some a → (0 ≤ a ∧ a < B.length) ∧ b ∈ gt B a
def InR (B : List (List Int)) (seen : List Int) : Prop := seen.Nodup ∧ ∀ x ∈ seen, 0 ≤ x ∧ x < B.length
structure PIn (B : List (List Int)) (u : List (Option Int)) (a : Int) (seen : List Int) : Prop where
  bo : BOk B
  uo : UOk B u
  ar : 0 ≤ a ∧ a < B.length
  sr : InR B seen
def Cl (B : List (List Int)) (u : List (Option Int)) (U S : Int → Prop) : Prop := (∀ a, U a → ∀ b ∈ gt B a, S b) ∧ ∀ b, S b → (0 ≤ b ∧ b < B.length) ∧ ∃ v, gt u b = some v ∧ U v
structure POut (B : List (List Int)) (u : List (Option Int)) (a : Int) (seen : List Int) (res : Bool) (u' : List (Option Int)) (seen' : List Int) : Prop where
  uo : UOk B u'
  sr : InR B seen'
  sub : (∀ x ∈ seen, x ∈ seen') ∧ seen.length ≤ seen'.length
  keep : ∀ x ∈ seen, gt u' x = gt u x
  yes : res = true → ∀ v, u'.count (some v) = u.count (some v) + if v = a then 1 else 0
  no : res = false → u' = u ∧ (∀ b ∈ gt B a, b ∈ seen') ∧ ∀ b ∈ seen', b ∉ seen → ∃ v, gt u b = some v ∧ ∀ c ∈ gt B v, c ∈ seen'
  cl : ∀ U S, Cl B u U S → (U a → res = false) ∧ ∀ b, S b → gt u' b = gt u b
structure PLoop (B : List (List Int)) (u : List (Option Int)) (a : Int) (seen0 : List Int) (i : Nat) (seen : List Int) : Prop where
  sr : InR B seen
  sub : (∀ x ∈ seen0, x ∈ seen) ∧ seen0.length ≤ seen.length
  done : ∀ b ∈ (gt B a).take i, b ∈ seen
  mate : ∀ b ∈ seen, b ∉ seen0 → ∃ v, gt u b = some v ∧ ∀ c ∈ gt B v, c ∈ seen
/-! ### each place paired -/
structure UpI (B : List (List Int)) (u : List (Option Int)) (i : Nat) : Prop where
  bo : BOk B
  uo : UOk B u
  one : ∀ v, u.count (some v) ≤ 1
  late : ∀ v : Int, (i : Int) ≤ v → u.count (some v) = 0
  cl : ∀ v : Int, 0 ≤ v → v < i → u.count (some v) = 0 → ∃ U S, Cl B u U S ∧ U v
structure UpOk (B : List (List Int)) (u : List (Option Int)) : Prop where
  bo : BOk B
  uo : UOk B u
  one : ∀ v, u.count (some v) ≤ 1
  cl : ∀ v : Int, 0 ≤ v → v < B.length → u.count (some v) = 0 → ∃ U S, Cl B u U S ∧ U v
end TM


set_option linter.all false
set_option maxHeartbeats 1000000
namespace TM
open GL
variable {B : List (List Int)} {u : List (Option Int)} {a b x at_ : Int} {above met : List Int}
/-! ### unpaired -/
def UU (B : List (List Int)) (u : List (Option Int)) (v : Int) : Prop := ∃ U S, Cl B u U S ∧ U v
def SS (B : List (List Int)) (u : List (Option Int)) (b : Int) : Prop := ∃ U S, Cl B u U S ∧ S b
def ab0 (u : List (Option Int)) : List Int := (rg 0 (u.length : Int)).filter fun c => decide (¬ some c ∈ u)
structure AbI (B : List (List Int)) (u : List (Option Int)) (above met : List Int) (at_ : Int) : Prop where
  h0 : 0 ≤ at_
  e : above = ab0 u ++ met.map fun b => oget (gt u b)
  m : InR B met
  ss : ∀ b ∈ met, SS B u b
  fr : ∀ b ∈ met, ∃ a ∈ above, b ∈ gt B a
  done : ∀ (k : Nat) v, (k : Int) < at_ → above[k]? = some v → ∀ c ∈ gt B v, c ∈ met
structure AbL (B : List (List Int)) (u : List (Option Int)) (a : Int) (i : Nat) (above met : List Int) (at_ : Int) : Prop where
  ai : AbI B u above met at_
  at_ : above[at_.toNat]? = some a
  r : ∀ c ∈ (gt B a).take i, c ∈ met
def Trn (B : List (List Int)) : Prop := ∀ a b c : Int, (0 ≤ a ∧ a < B.length) → b ∈ gt B a → c ∈ gt B b → c ∈ gt B a
structure UnOk (B : List (List Int)) (u : List (Option Int)) (kept : List Int) : Prop where
  rise : kept.Pairwise (· < ·)
  r : ∀ p ∈ kept, 0 ≤ p ∧ p < B.length
  no : ∀ a ∈ kept, ∀ b ∈ gt B a, b ∉ kept
  many : Trn B → kept.length = (ab0 u).length
/-! ### chains -/
structure UOne (u : List (Option Int)) : Prop where
  len : u.length ≤ 40
  r : ∀ b : Int, 0 ≤ b → b < u.length → ∀ a, gt u b = some a → 0 ≤ a ∧ a < u.length
  one : ∀ v, u.count (some v) ≤ 1
def LwI (u lw : List (Option Int)) (i : Nat) : Prop := lw.length = u.length ∧ ∀ a : Int, 0 ≤ a → a < u.length → ∀ b, gt lw a = some b ↔ (0 ≤ b ∧ b < (i : Int) ∧ gt u b = some a)
structure ChW (u : List (Option Int)) (h : Int) (chain : List Int) : Prop where
  hd : chain[0]? = some h
  nn : gt u h = none
  nd : chain.Nodup
  r : ∀ x ∈ chain, 0 ≤ x ∧ x < u.length
  ln : ∀ (k : Nat) x y, chain[k]? = some x → chain[k + 1]? = some y → gt u y = some x
def GoodC (u : List (Option Int)) (c : List Int) : Prop := ∃ h, ChW u h c ∧ ∀ b : Int, 0 ≤ b → b < u.length → ¬ gt u b = some (gtB c 1)
structure ChI (u : List (Option Int)) (cs : List (List Int)) (i : Nat) : Prop where
  hd : cs.map (fun c => gt c 0) = (rg 0 (i : Int)).filter fun b => decide (gt u b = none)
  good : ∀ c ∈ cs, GoodC u c
def ChOk (u : List (Option Int)) (cs : List (List Int)) : Prop := ChI u cs u.length
/-! ### the row made -/
def leastK (row kept : List Int) : List Int := (rg 0 (row.length : Int)).map fun c => gt [dmin row 0 - (row.length : Int), gt row c] (if decide (c ∈ kept) = true then (1 : Int) else 0)
end TM


set_option linter.all false
set_option maxHeartbeats 1000000
namespace TM
open GL
variable {t row kept made : List Int} {a b c : Int} {chains : List (List Int)} {u : List (Option Int)}
/-! ### what clashes beneath each place -/
def benF (t row : List Int) : List (List Int) := (rg 0 (t.length : Int)).map fun c => ((clash t row).filter fun p => decide (p.1 = c)).map fun p => p.2
def MostR (t row : List Int) (r : List Int × List Int × List (List Int)) : Prop := isTree t = true ∧ row.length = t.length ∧ ∃ u, UpOk (benF t row) u ∧ UnOk (benF t row) u r.1 ∧ r.2.1 = rst t (leastK row r.1) ∧ ChOk u r.2.2
end TM
namespace TM
open GL
end TM


set_option linter.all false
set_option maxHeartbeats 1000000
namespace TM
open GL
variable {t row kept made : List Int} {a b c x : Int} {cs chains : List (List Int)} {u : List (Option Int)} {B : List (List Int)}
/-! ### chains part the places -/
/-! ### the row made keeps the kept numbers -/
end TM


set_option linter.all false
set_option maxHeartbeats 1000000
namespace TM
open GL PySem
variable {t row kept made S ls gs : List Int} {a b c x : Int} {cs chains : List (List Int)} {u : List (Option Int)} {B : List (List Int)} {r : List Int × List Int × List (List Int)}
/-! ### no more places without a clash than chains -/
def Ind (t row S : List Int) : Prop := ∀ a b : Int, (a, b) ∈ clash t row → a ∈ S → b ∈ S → False
structure Most (t row kept : List Int) (chains : List (List Int)) : Prop where
  rise : kept.Pairwise (· < ·)
  r : ∀ p ∈ kept, 0 ≤ p ∧ p < t.length
  ind : Ind t row kept
  all : ∀ S : List Int, S.Nodup → (∀ p ∈ S, 0 ≤ p ∧ p < t.length) → Ind t row S → S.length ≤ kept.length
  ch : ∀ c ∈ chains, c ≠ [] ∧ c.Nodup ∧ (∀ p ∈ c, 0 ≤ p ∧ p < t.length) ∧ ∀ (k : Nat) x y, c[k]? = some x → c[k + 1]? = some y → (x, y) ∈ clash t row
  places : chains.flatten.Perm (rg 0 (t.length : Int))
  many : chains.length = kept.length
/-! ### with bounds at some places -/
def lsK (row kept : List Int) (f : Int) : List Int := (rg 0 (row.length : Int)).map fun p => if p ∈ kept then gt row p else 0 - f
def gsK (row kept : List Int) (f : Int) : List Int := (rg 0 (row.length : Int)).map fun p => if p ∈ kept then gt row p else f
end TM
namespace TM
open GL PySem
variable {t row kept made S ls gs : List Int} {a b c x : Int} {cs chains : List (List Int)}
def indB (t row S : List Int) : Bool := !((clash t row).map fun c => decide (c.1 ∈ S) && decide (c.2 ∈ S)).any id
def PairsOf (t row kept : List Int) (pairs : List (Int × Int)) : Prop := ∀ a b : Int, (a, b) ∈ clash t row → a ∈ kept → b ∈ kept → (a, b) ∈ pairs
def farK (row : List Int) : Int := lmax (row.map fun x => ((x.natAbs : Nat) : Int)) + 100
end TM
namespace TM
open GL PySem
variable {t row kept made S ls gs c : List Int} {a b x y : Int}
end TM


set_option linter.all false
set_option maxHeartbeats 1000000
namespace TM
open GL PySem
variable {t row kept made S m2 : List Int} {a b c x most : Int} {chains : List (List Int)}
/-! ### all sets of places -/
def someF (n : Nat) (x : Int) : List Int := (rg 0 (n : Int)).filter fun c => decide ((x / 2 ^ c.toNat) % 2 ^ 1 = (1 : Int))
structure MostI (t kept : List Int) (i : Nat) (most : Int) : Prop where
  r : 0 ≤ most ∧ most ≤ kept.length
  done : ∀ j : Nat, j < i → someF t.length (j : Int) = kept → (kept.length : Int) ≤ most
/-! ### a row with some numbers -/
def mdB (t row kept : List Int) (b : Int) (L : List Int) (i : Nat) : List Int := (lmin row - 50 + gt (flatF t) b) :: (((L.take i).filter fun a => decide (a ∈ kept)).map fun a => gt row a + gt (flatF t) b - gt (flatF t) a)
def mdF (t row kept : List Int) : List Int := (rg 0 (t.length : Int)).map fun b => lmax (mdB t row kept b ([b] ++ ups t b) ([b] ++ ups t b).length)
end TM
namespace TM
open GL PySem
end TM


set_option linter.all false
set_option maxHeartbeats 1000000
namespace TM
open GL
/-! ### k48: that no longer stretch comes twice, shown -/
def pr2 (p : Int × Int) : List Int := [p.1, p.2]
def twosT (many : Int) (n : Nat) : List (List Int) := ((rg 0 many).take n).flatMap fun a => (rg (a + 1) many).map fun b => [a, b]
def twosB (many : Int) : List (List Int) := (rg 0 many).flatMap fun a => (rg (a + 1) many).map fun b => [a, b]
def win (row : List Int) (x size : Int) : List Int := sl row (some x) (some (x + size))
noncomputable def nlE (row : List Int) (size : Int) (t : List Int) : List Int := t ++ pr2 (oget (parted (win row (gt t 0) size) (win row (gt t 1) size)))
noncomputable def nlF (row : List Int) (size : Int) : List (List Int) := (twosB ((row.length : Int) - size + 1)).map (nlE row size)
def shB (row : List Int) (size : Int) (e : List Int) : Bool := decide (0 ≤ gt e 2 ∧ gt e 2 ≤ gt e 3 ∧ gt e 3 < size) && decide (low row (gt e 0 + gt e 2) (gt e 0 + gt e 3) - gt e 0 ≠ low row (gt e 1 + gt e 2) (gt e 1 + gt e 3) - gt e 1)
def nrB (row : List Int) (size : Int) (shown : List (List Int)) : Bool := decide ((shown.map fun e => sl e none (some 2)) = twosB ((row.length : Int) - size + 1)) && shown.all (shB row size)
end TM
namespace TM
open GL
end TM


set_option linter.all false
set_option maxHeartbeats 1000000
namespace TM
open GL
end TM
namespace TM
open GL
end TM
namespace TM
open GL
theorem sl_memB {α : Type} {l : List α} {o1 o2 : Option Int} {x : α} (h : x ∈ sl l o1 o2) : x ∈ l := by
  unfold sl at h
  exact List.mem_of_mem_drop (List.mem_of_mem_take h)
theorem sl1 {b : List (List Int)} {e : List Int} {o1 o2 : Option Int} (h : b.length ≤ 900000) : b.length + (sl [e] o1 o2).length ≤ 1000000 := by
  have := sl_len_le (l := [e]) o1 o2
  rw [List.length_singleton] at this
  omega
end TM


set_option linter.all false
set_option maxHeartbeats 1000000
namespace TM
open GL
/-! ### k65: the matching told as a relation, and told one alone -/
inductive Run (B : List (List Int)) : Int → List Int → List (Option Int) → List Int → Bool × List (Option Int) × List Int → Prop
  | nil {a u s} : Run B a [] u s (false, u, s)
  | skip {a b l u s o} : b ∈ s → Run B a l u s o → Run B a (b :: l) u s o
  | free {a b l u s} : b ∉ s → gt u b = none → Run B a (b :: l) u s (true, u.set b.toNat (some a), s ++ [b])
  | yes {a b l u s v u' s'} : b ∉ s → gt u b = some v → Run B v (gt B v) u (s ++ [b]) (true, u', s') → Run B a (b :: l) u s (true, u'.set b.toNat (some a), s')
  | no {a b l u s v u' s' o} : b ∉ s → gt u b = some v → Run B v (gt B v) u (s ++ [b]) (false, u', s') → Run B a l u' s' o → Run B a (b :: l) u s o
inductive UpR (B : List (List Int)) : Nat → List (Option Int) → Prop
  | zero : UpR B 0 (B.map fun _ => none)
  | step {i u r u' s'} : UpR B i u → Run B (i : Int) (gt B (i : Int)) u [] (r, u', s') → UpR B (i + 1) u'
/-! what the rest of the loop answers -/
def Lft (B : List (List Int)) (a : Int) (i : Nat) (u0 : List (Option Int)) (s0 : List Int) (u : List (Option Int)) (s : List Int) : Prop := ∀ o, Run B a ((gt B a).drop i) u s o → Run B a (gt B a) u0 s0 o
section
variable {B : List (List Int)} {a b v : Int} {i : Nat} {u0 u u' : List (Option Int)} {s0 s s' : List Int}
end
/-! which stay, told alone -/
def ClM (B : List (List Int)) (u : List (Option Int)) (M : Int → Prop) : Prop := ∀ a, (a ∈ ab0 u ∨ ∃ c, M c ∧ oget (gt u c) = a) → ∀ b ∈ gt B a, M b
def AbM (B : List (List Int)) (u : List (Option Int)) (met : List Int) : Prop := ∀ M : Int → Prop, ClM B u M → ∀ b ∈ met, M b
section
variable {B : List (List Int)} {u : List (Option Int)} {above met : List Int} {at_ a x : Int} {i : Nat}
/-- the stayers of a matching -/
def KeptR (B : List (List Int)) (u : List (Option Int)) (kept : List Int) : Prop := ∃ above met, above = ab0 u ++ (met.map fun b => oget (gt u b)) ∧ met.Nodup ∧ ClM B u (· ∈ met) ∧ AbM B u met ∧ kept = (isort above).filter fun c => decide (¬ c ∈ met)
end
end TM


set_option linter.all false
set_option maxHeartbeats 1000000
namespace TM
open GL
structure PO2 (B : List (List Int)) (u : List (Option Int)) (a : Int) (seen : List Int) (res : Bool) (u' : List (Option Int)) (seen' : List Int) : Prop where
  po : POut B u a seen res u' seen'
  run : Run B a (gt B a) u seen (res, u', seen')
section
variable {B : List (List Int)} {a x : Int} {i : Nat} {u u' : List (Option Int)} {s0 s s' : List Int} {r : Bool}
end
end TM


set_option linter.all false
set_option maxHeartbeats 1000000
namespace TM
open GL
/-- the rows of what is beneath, after some of the pairs -/
structure BnI (t row : List Int) (i : Nat) (b : List (List Int)) : Prop where
  len : b.length = t.length
  eq : ∀ a : Int, 0 ≤ a → a < t.length → gt b a = (((clash t row).take i).filter fun p => decide (p.1 = a)).map fun p => p.2
end TM
namespace TM
open GL
end TM
namespace TM
open GL
end TM
namespace TM
open GL
end TM
namespace TM
open GL
end TM
namespace TM
open GL
end TM
namespace TM
open GL
end TM


set_option linter.all false
set_option maxHeartbeats 1000000
namespace TM
namespace Lo
open GL
/-! ### where a tree's numbers can stand in a text with gaps -/
def _root_.TM.BT.isN : BT → Bool
  | .nil => true
  | _ => false
def okA (tx : List Int) (at_ j : Int) (o : Option (Int × Int)) : Bool := match o with
  | none => false
  | some q => decide (gt tx at_ < gt tx j) && decide (q.2 < at_)
def okB (tx : List Int) (at_ j : Int) (o : Option (Int × Int)) : Bool := match o with
  | none => false
  | some q => decide (gt tx at_ ≤ gt tx j) && decide (at_ < q.1)
def fsT (tx : List Int) (g : Int → Option (Int × Int)) (at_ : Int) : List Int := ((rg 0 at_).filter fun j => okA tx at_ j (g j)).map fun j => (oget (g j)).1
def lsT (tx : List Int) (g : Int → Option (Int × Int)) (at_ : Int) : List Int := ((rg (at_ + 1) tx.length).filter fun j => okB tx at_ j (g j)).map fun j => (oget (g j)).2
def comb (F L : List Int) : Option (Int × Int) := if F = [] ∨ L = [] then none else some (lmax F, lmin L)
def pr (tx : List Int) : BT → Int → Option (Int × Int)
  | .nil, _ => none
  | .node l _ r, at_ => comb (if l.isN then [at_] else fsT tx (pr tx l) at_) (if r.isN then [at_] else lsT tx (pr tx r) at_)
theorem okA_iff {tx : List Int} {a j : Int} {o : Option (Int × Int)} : okA tx a j o = true ↔ ∃ F E, o = some (F, E) ∧ gt tx a < gt tx j ∧ E < a := by
  unfold okA
  cases o with
  | none => simp
  | some q =>
    rw [Bool.and_eq_true, decide_eq_true_iff, decide_eq_true_iff]
    exact ⟨fun h => ⟨q.1, q.2, rfl, h⟩, fun ⟨F, E, e, h⟩ => by cases e; exact h⟩
theorem okB_iff {tx : List Int} {a j : Int} {o : Option (Int × Int)} : okB tx a j o = true ↔ ∃ F E, o = some (F, E) ∧ gt tx a ≤ gt tx j ∧ a < F := by
  unfold okB
  cases o with
  | none => simp
  | some q =>
    rw [Bool.and_eq_true, decide_eq_true_iff, decide_eq_true_iff]
    exact ⟨fun h => ⟨q.1, q.2, rfl, h⟩, fun ⟨F, E, e, h⟩ => by cases e; exact h⟩
theorem mem_fsT {tx : List Int} {g : Int → Option (Int × Int)} {a x : Int} : x ∈ fsT tx g a ↔ ∃ j E, 0 ≤ j ∧ j < a ∧ g j = some (x, E) ∧ gt tx a < gt tx j ∧ E < a := by
  unfold fsT
  rw [List.mem_map]
  constructor
  · rintro ⟨j, hj, e⟩
    obtain ⟨h1, h2⟩ := List.mem_filter.mp hj
    obtain ⟨F, E, e1, e2, e3⟩ := okA_iff.mp h2
    rw [e1] at e
    have h3 := rg_mem.mp h1
    exact ⟨j, E, h3.1, h3.2, by rw [e1, ← e]; rfl, e2, e3⟩
  · rintro ⟨j, E, h0, h1, e, h2, h3⟩
    exact ⟨j, List.mem_filter.mpr ⟨rg_mem.mpr ⟨h0, h1⟩, okA_iff.mpr ⟨x, E, e, h2, h3⟩⟩, by rw [e]; rfl⟩
theorem mem_lsT {tx : List Int} {g : Int → Option (Int × Int)} {a x : Int} : x ∈ lsT tx g a ↔ ∃ j F, a < j ∧ j < tx.length ∧ g j = some (F, x) ∧ gt tx a ≤ gt tx j ∧ a < F := by
  unfold lsT
  rw [List.mem_map]
  constructor
  · rintro ⟨j, hj, e⟩
    obtain ⟨h1, h2⟩ := List.mem_filter.mp hj
    obtain ⟨F, E, e1, e2, e3⟩ := okB_iff.mp h2
    rw [e1] at e
    have h3 := rg_mem.mp h1
    exact ⟨j, F, by omega, h3.2, by rw [e1, ← e]; rfl, e2, e3⟩
  · rintro ⟨j, F, h0, h1, e, h2, h3⟩
    exact ⟨j, List.mem_filter.mpr ⟨rg_mem.mpr ⟨by omega, h1⟩, okB_iff.mpr ⟨F, x, e, h2, h3⟩⟩, by rw [e]; rfl⟩
theorem comb_some {F L : List Int} {q : Int × Int} : comb F L = some q ↔ F ≠ [] ∧ L ≠ [] ∧ q = (lmax F, lmin L) := by
  unfold comb
  by_cases h : F = [] ∨ L = []
  · rw [if_pos h]
    exact ⟨fun z => (by cases z), fun z => h.elim (fun y => absurd y z.1) fun y => absurd y z.2.1⟩
  · rw [if_neg h]
    exact ⟨fun z => ⟨fun y => h (.inl y), fun y => h (.inr y), (Option.some.inj z).symm⟩, fun z => by rw [z.2.2]⟩
/-- the numbers at a tree's places, each against its elder -/
def FB (g : Nat → Int) : BT → Prop
  | .nil => True
  | .node l p r => (∀ x, l.root = some x → g p < g x.toNat) ∧ (∀ x, r.root = some x → g p ≤ g x.toNat) ∧ FB g l ∧ FB g r
theorem FB.congr {g g' : Nat → Int} : ∀ {s : BT} {c : Nat}, PL c s → (∀ q, c ≤ q → q < c + s.size → g q = g' q) → FB g s → FB g' s
  | .nil, _, _, _, _ => trivial
  | .node l p r, c, ⟨hl, hp, hr⟩, he, ⟨h1, h2, h3, h4⟩ => by
    have hz : (BT.node l p r).size = l.size + r.size + 1 := rfl
    rw [hz] at he
    have ep : g p = g' p := he p (by omega) (by omega)
    have rin : ∀ {s : BT} {c : Nat} {x : Int}, PL c s → s.root = some x → c ≤ x.toNat ∧ x.toNat < c + s.size := fun {s c x} hp hx => by
      cases s with
      | nil => cases hx
      | node a b d =>
        obtain ⟨_, e, _⟩ := hp
        cases hx
        have : (BT.node a b d).size = a.size + d.size + 1 := rfl
        rw [Int.toNat_natCast]; omega
    refine ⟨fun x hx => ?_, fun x hx => ?_, h3.congr hl fun q q1 q2 => he q q1 (by omega), h4.congr hr fun q q1 q2 => he q (by omega) (by omega)⟩
    · have := rin hl hx
      rw [← ep, ← he _ (by omega) (by omega)]; exact h1 x hx
    · have := rin hr hx
      rw [← ep, ← he _ (by omega) (by omega)]; exact h2 x hx
theorem root_in {s : BT} {c : Nat} {x : Int} (hp : PL c s) (hx : s.root = some x) : c ≤ x.toNat ∧ x.toNat < c + s.size ∧ x = (x.toNat : Int) := by
  cases s with
  | nil => cases hx
  | node a b d =>
    obtain ⟨_, e, _⟩ := hp
    cases hx
    have : (BT.node a b d).size = a.size + d.size + 1 := rfl
    rw [Int.toNat_natCast]; omega
/-- the places of a tree put at places of a text, rising, so that the numbers there have the tree -/
structure Emb (tx : List Int) (s : BT) (c : Nat) (f : Nat → Int) : Prop where
  r : ∀ q, c ≤ q → q < c + s.size → 0 ≤ f q ∧ f q < tx.length
  up : ∀ q q', c ≤ q → q < q' → q' < c + s.size → f q < f q'
  ok : FB (fun q => gt tx (f q)) s
theorem Emb.left {tx : List Int} {l r : BT} {p c : Nat} {f : Nat → Int} (h : Emb tx (.node l p r) c f) : Emb tx l c f := ⟨fun q a b => h.r q a (by show q < c + (l.size + r.size + 1); omega), fun q q' a b d => h.up q q' a b (by show q' < c + (l.size + r.size + 1); omega), h.ok.2.2.1⟩
theorem Emb.right {tx : List Int} {l r : BT} {p c : Nat} {f : Nat → Int} (hp : PL c (.node l p r)) (h : Emb tx (.node l p r) c f) : Emb tx r (p + 1) f := by
  obtain ⟨_, e, _⟩ := hp
  exact ⟨fun q a b => h.r q (by omega) (by show q < c + (l.size + r.size + 1); omega), fun q q' a b d => h.up q q' (by omega) b (by show q' < c + (l.size + r.size + 1); omega), h.ok.2.2.2⟩
/-- no tuple begins later or ends sooner than the pair tells -/
theorem pr_ge {tx : List Int} : ∀ (s : BT) {c : Nat} {f : Nat → Int}, PL c s → Emb tx s c f → ∀ {x : Int}, s.root = some x → ∃ F E, pr tx s (f x.toNat) = some (F, E) ∧ f c ≤ F ∧ E ≤ f (c + s.size - 1)
  | .nil, _, _, _, _, _, hx => by cases hx
  | .node l p r, c, f, hp, he, x, hx => by
    have hp' := hp
    obtain ⟨hl, e, hr⟩ := hp'
    have ex : x.toNat = p := by cases hx; exact Int.toNat_natCast _
    have hz : (BT.node l p r).size = l.size + r.size + 1 := rfl
    rw [ex]
    have hpin := he.r p (by omega) (by omega)
    have hL : ∃ F, F ∈ (if l.isN then [f p] else fsT tx (pr tx l) (f p)) ∧ f c ≤ F := by
      cases l with
      | nil => exact ⟨f p, List.mem_singleton.mpr rfl, by rw [show p = c by rw [e]; rfl]; exact Int.le_refl _⟩
      | node a b d =>
        obtain ⟨F, E, h1, h2, h3⟩ := pr_ge (.node a b d) hl he.left (x := (b : Int)) rfl
        obtain ⟨b1, b2, _⟩ := root_in (x := (b : Int)) hl rfl
        rw [Int.toNat_natCast] at h1 b1 b2
        have hs : 0 < (BT.node a b d).size := Nat.succ_pos _
        have k1 := he.up b p b1 (by omega) (by omega)
        have k2 := he.up (c + (BT.node a b d).size - 1) p (by omega) (by omega) (by omega)
        have k3 := he.ok.1 (b : Int) rfl
        rw [Int.toNat_natCast] at k3
        exact ⟨F, mem_fsT.mpr ⟨f b, E, (he.r b b1 (by omega)).1, k1, h1, k3, by omega⟩, h2⟩
    have hR : ∃ E, E ∈ (if r.isN then [f p] else lsT tx (pr tx r) (f p)) ∧ E ≤ f (c + (BT.node l p r).size - 1) := by
      cases r with
      | nil => exact ⟨f p, List.mem_singleton.mpr rfl, by rw [show c + (BT.node l p .nil).size - 1 = p by rw [hz, e]; show c + (l.size + 0 + 1) - 1 = c + l.size; omega]; exact Int.le_refl _⟩
      | node a b d =>
        obtain ⟨F, E, h1, h2, h3⟩ := pr_ge (.node a b d) hr (he.right hp) (x := (b : Int)) rfl
        obtain ⟨b1, b2, _⟩ := root_in (x := (b : Int)) hr rfl
        rw [Int.toNat_natCast] at h1 b1 b2
        have hs : 0 < (BT.node a b d).size := Nat.succ_pos _
        have k1 := he.up p b (by omega) (by omega) (by omega)
        have k2 := he.up p (p + 1) (by omega) (by omega) (by omega)
        have k3 := he.ok.2.1 (b : Int) rfl
        rw [Int.toNat_natCast] at k3
        refine ⟨E, mem_lsT.mpr ⟨f b, F, k1, (he.r b (by omega) (by omega)).2, h1, k3, by omega⟩, ?_⟩
        rw [show c + (BT.node l p (.node a b d)).size - 1 = p + 1 + (BT.node a b d).size - 1 by rw [hz, e]; omega]
        exact h3
    obtain ⟨F, f1, f2⟩ := hL
    obtain ⟨E, e1, e2⟩ := hR
    have nF : (if l.isN then [f p] else fsT tx (pr tx l) (f p)) ≠ [] := List.ne_nil_of_mem f1
    have nE : (if r.isN then [f p] else lsT tx (pr tx r) (f p)) ≠ [] := List.ne_nil_of_mem e1
    refine ⟨_, _, comb_some.mpr ⟨nF, nE, rfl⟩, ?_, ?_⟩
    · have := (lmax_spec _ nF).2 F f1; omega
    · have := (lmin_spec _ nE).2 E e1; omega
/-- and one does as it tells -/
theorem pr_le {tx : List Int} : ∀ (s : BT) {c : Nat} {a F E : Int}, PL c s → 0 ≤ a → a < tx.length → pr tx s a = some (F, E) →
    ∃ f, Emb tx s c f ∧ (∀ x, s.root = some x → f x.toNat = a) ∧ f c = F ∧ f (c + s.size - 1) = E ∧ 0 ≤ F ∧ F ≤ a ∧ a ≤ E ∧ E < tx.length
  | .nil, _, _, _, _, _, _, _, h => by cases h
  | .node l p r, c, a, F, E, hp, a0, an, h => by
    have hp' := hp
    obtain ⟨hl, e, hr⟩ := hp'
    have hz : (BT.node l p r).size = l.size + r.size + 1 := rfl
    obtain ⟨nF, nE, hq⟩ := comb_some.mp h
    have eF : F = lmax (if l.isN then [a] else fsT tx (pr tx l) a) := congrArg Prod.fst hq
    have eE : E = lmin (if r.isN then [a] else lsT tx (pr tx r) a) := congrArg Prod.snd hq
    have mF := (lmax_spec _ nF).1
    have mE := (lmin_spec _ nE).1
    rw [← eF] at mF
    rw [← eE] at mE
    have hL : ∃ fl, Emb tx l c fl ∧ (∀ x, l.root = some x → gt tx a < gt tx (fl x.toNat)) ∧ (∀ q, c ≤ q → q < p → fl q < a) ∧ (if c < p then fl c else a) = F ∧ 0 ≤ F ∧ F ≤ a := by
      cases l with
      | nil =>
        have : F = a := List.mem_singleton.mp mF
        have ep : p = c := by rw [e]; rfl
        exact ⟨fun _ => 0, ⟨fun q q1 q2 => absurd q2 (by show ¬ q < c + 0; omega), fun q q' q1 q2 q3 => absurd q3 (by show ¬ q' < c + 0; omega), trivial⟩, fun x hx => (by cases hx), fun q q1 q2 => by omega, by rw [if_neg (by omega)]; exact this.symm, by omega, by omega⟩
      | node b d g =>
        obtain ⟨j, E1, j0, j1, h1, h2, h3⟩ := mem_fsT.mp mF
        obtain ⟨fl, k1, k2, k3, k4, k5, k6, k7, k8⟩ := pr_le (.node b d g) hl j0 (by omega) h1
        have hs : 0 < (BT.node b d g).size := Nat.succ_pos _
        refine ⟨fl, k1, fun x hx => by rw [k2 x hx]; exact h2, fun q q1 q2 => ?_, by rw [if_pos (by omega)]; exact k3, k5, by omega⟩
        by_cases z : q = c + (BT.node b d g).size - 1
        · rw [z, k4]; exact h3
        · have := k1.up q (c + (BT.node b d g).size - 1) q1 (by omega) (by omega)
          omega
    have hR : ∃ fr, Emb tx r (p + 1) fr ∧ (∀ x, r.root = some x → gt tx a ≤ gt tx (fr x.toNat)) ∧ (∀ q, p < q → q < p + 1 + r.size → a < fr q) ∧ (if 0 < r.size then fr (p + r.size) else a) = E ∧ a ≤ E ∧ E < tx.length := by
      cases r with
      | nil =>
        have : E = a := List.mem_singleton.mp mE
        exact ⟨fun _ => 0, ⟨fun q q1 q2 => absurd q2 (by show ¬ q < p + 1 + 0; omega), fun q q' q1 q2 q3 => absurd q3 (by show ¬ q' < p + 1 + 0; omega), trivial⟩, fun x hx => (by cases hx), fun q q1 q2 => absurd q2 (by show ¬ q < p + 1 + 0; omega), by rw [if_neg (by show ¬ 0 < 0; omega)]; exact this.symm, by omega, by omega⟩
      | node b d g =>
        obtain ⟨j, F1, j0, j1, h1, h2, h3⟩ := mem_lsT.mp mE
        obtain ⟨fr, k1, k2, k3, k4, k5, k6, k7, k8⟩ := pr_le (.node b d g) hr (by omega) j1 h1
        have hs : 0 < (BT.node b d g).size := Nat.succ_pos _
        refine ⟨fr, k1, fun x hx => by rw [k2 x hx]; exact h2, fun q q1 q2 => ?_, by rw [if_pos hs, ← k4]; congr 1; omega, by omega, k8⟩
        by_cases z : q = p + 1
        · rw [z, k3]; exact h3
        · have := k1.up (p + 1) q (Nat.le_refl _) (by omega) q2
          omega
    obtain ⟨fl, l1, l2, l3, l4, l5, l6⟩ := hL
    obtain ⟨fr, r1, r2, r3, r4, r5, r6⟩ := hR
    let f : Nat → Int := fun q => if q < p then fl q else if q = p then a else fr q
    have fL : ∀ q, q < p → f q = fl q := fun q h => if_pos h
    have fP : f p = a := (if_neg (Nat.lt_irrefl _)).trans (if_pos rfl)
    have fR : ∀ q, p < q → f q = fr q := fun q h => (if_neg (by omega)).trans (if_neg (by omega))
    refine ⟨f, ⟨fun q q1 q2 => ?_, fun q q' q1 q2 q3 => ?_, ?_⟩, fun x hx => ?_, ?_, ?_, l5, l6, r5, r6⟩
    · rcases Nat.lt_trichotomy q p with z | z | z
      · rw [fL q z]; exact l1.r q q1 (by omega)
      · rw [z, fP]; exact ⟨a0, an⟩
      · rw [fR q z]; exact r1.r q (by omega) (by omega)
    · rcases Nat.lt_trichotomy q p with z | z | z
      · rw [fL q z]
        rcases Nat.lt_trichotomy q' p with y | y | y
        · rw [fL q' y]; exact l1.up q q' q1 q2 (by omega)
        · rw [y, fP]; exact l3 q q1 z
        · rw [fR q' y]
          have := l3 q q1 z
          have := r3 q' y (by omega)
          omega
      · rw [z, fP, fR q' (by omega)]; exact r3 q' (by omega) (by omega)
      · rw [fR q z, fR q' (by omega)]; exact r1.up q q' (by omega) q2 (by omega)
    · refine ⟨fun x hx => ?_, fun x hx => ?_, l1.ok.congr hl fun q q1 q2 => ?_, r1.ok.congr hr fun q q1 q2 => ?_⟩
      · obtain ⟨x1, x2, _⟩ := root_in hl hx
        show gt tx (f p) < gt tx (f x.toNat)
        rw [fP, fL _ (by omega)]; exact l2 x hx
      · obtain ⟨x1, x2, _⟩ := root_in hr hx
        show gt tx (f p) ≤ gt tx (f x.toNat)
        rw [fP, fR _ (by omega)]; exact r2 x hx
      · show gt tx (fl q) = gt tx (f q)
        rw [fL q (by omega)]
      · show gt tx (fr q) = gt tx (f q)
        rw [fR q (by omega)]
    · cases hx
      rw [Int.toNat_natCast]; exact fP
    · rw [← l4]
      by_cases z : c < p
      · rw [if_pos z, fL c z]
      · rw [if_neg z, show c = p by omega, fP]
    · rw [← r4]
      by_cases z : 0 < r.size
      · rw [if_pos z, show c + (BT.node l p r).size - 1 = p + r.size by rw [hz, e]; omega, fR _ (by omega)]
      · rw [if_neg z, show c + (BT.node l p r).size - 1 = p by rw [hz, e]; omega, fP]
end Lo
end TM


set_option linter.all false
set_option maxHeartbeats 1000000
namespace TM
namespace Lo
open GL
/-! ### the stretch under a place, its tree -/
def Out (t : List Int) (a b : Nat) : Prop := ∀ q, q < t.length → (q < a ∨ b ≤ q) → ¬ ((a : Int) ≤ nb t q ∧ nb t q < b)
structure SubG (row : List Int) (q a b : Nat) (e : Int) : Prop where
  good : Good row a b e
  aq : a ≤ q
  qb : q < b
  out : Out (treeOf row) a b
  l : ∀ j, a ≤ j → j < q → nb row q < nb row j
  r : ∀ j, q < j → j < b → nb row q ≤ nb row j
  e1 : e < a ∨ (b : Int) ≤ e
  nb : nb (treeOf row) q = e
theorem good_sub (row : List Int) : ∀ (n a b : Nat) (e : Int), b - a ≤ n → Good row a b e → Out (treeOf row) a b → (e < a ∨ (b : Int) ≤ e) → ∀ q, a ≤ q → q < b → ∃ a' b' e', a ≤ a' ∧ b' ≤ b ∧ SubG row q a' b' e'
  | 0, a, b, e, h, g, _, _, q, q1, q2 => by omega
  | n + 1, a, b, e, h, g, ho, he, q, q1, q2 => by
    obtain ⟨p, p1, p2, p3, p4⟩ := low_ex row (show a < b by omega)
    have hbn := g.bn
    have gl := good_l g p1 p2 p3
    have gr := good_r g p1 p2 p4
    have tl := (TR_of row n a p p (by omega) gl).T
    have tr := (TR_of row n (p + 1) b p (by omega) gr).T
    have ep : nb (treeOf row) p = e := by
      rw [nb_treeOf (by omega)]
      exact eld_tv g p1 p2 p3 fun j j1 j2 => by
        rcases Nat.lt_trichotomy j p with z | z | z
        · exact Int.le_of_lt (p3 j j1 z)
        · rw [z]; exact Int.le_refl _
        · exact p4 j z j2
    rcases Nat.lt_trichotomy q p with z | z | z
    · obtain ⟨a', b', e', h1, h2, h3⟩ := good_sub row n a p p (by omega) gl (fun j hj hz hn => by
        by_cases y : j = p
        · subst y; rw [ep] at hn; omega
        · by_cases w : p < j ∧ j < b
          · rcases tr.inn j (by omega) w.2 with x | x <;> omega
          · exact ho j hj (by omega) (by omega)) (.inr (Int.le_refl _)) q q1 z
      exact ⟨a', b', e', h1, by omega, h3⟩
    · subst z
      exact ⟨a, b, e, Nat.le_refl _, Nat.le_refl _, ⟨g, p1, p2, ho, p3, p4, he, ep⟩⟩
    · obtain ⟨a', b', e', h1, h2, h3⟩ := good_sub row n (p + 1) b p (by omega) gr (fun j hj hz hn => by
        by_cases y : j = p
        · subst y; rw [ep] at hn; omega
        · by_cases w : a ≤ j ∧ j < p
          · rcases tl.inn j w.1 w.2 with x | x <;> omega
          · exact ho j hj (by omega) (by omega)) (.inl (by omega)) q (by omega) q2
      exact ⟨a', b', e', by omega, h2, h3⟩
def sub (t : List Int) (p : Int) : BT := btF (hT t) 60 (some p)
theorem HB.root {n : Nat} {f : Int → Option Int × Option Int} {o : Option Int} {b : BT} (h : HB n f o b) : b.root = o := by
  cases h with
  | nil => rfl
  | node _ _ _ => rfl
structure SubT (row : List Int) (q a b : Nat) (s : BT) : Prop where
  aq : a ≤ q
  qb : q < b
  bn : b ≤ row.length
  root : s.root = some (q : Int)
  pl : PL a s
  size : s.size = b - a
  hb : HB row.length (hT (treeOf row)) (some (q : Int)) s
  eq : sub (treeOf row) q = s
  bt : BTr (treeOf row) a b (nb (treeOf row) q) s
  t : T (treeOf row) a b (nb (treeOf row) q)
  e1 : nb (treeOf row) q < a ∨ (b : Int) ≤ nb (treeOf row) q
  under : ∀ j, j < row.length → (Dsc (treeOf row) q j ↔ a ≤ j ∧ j < b)
theorem sub_at {row : List Int} (hl : row.length ≤ 40) {q : Nat} (hq : q < row.length) : ∃ a b s, SubT row q a b s := by
  obtain ⟨a, b, e, h1, h2, h⟩ := good_sub row row.length 0 row.length (-1) (by omega) (good_all row) (fun j hj hz => by rw [treeOf_len] at hj; omega) (.inl (by decide)) q (Nat.zero_le _) hq
  have hT := (TR_of row (b - a) a b e (Nat.le_refl _) h.good).T
  have tl := treeOf_len row
  obtain ⟨B, b1, b2, b3, b4, b5, b6, b7⟩ := T.bt hT (by rw [tl]; exact h2) h.e1 h.out
  have hr := b4 q h.aq h.qb h.nb
  have aq := h.aq
  have qb := h.qb
  rw [hr, tl] at b1
  have hsn : Sn row q a ((b : Int) - 1) := ⟨by omega, by omega, by omega, by omega, fun j j1 j2 => by rw [Int.toNat_natCast]; exact h.l j (by omega) (by omega), fun j j1 j2 => by rw [Int.toNat_natCast]; exact h.r j (by omega) (by omega), fun z => by
    rw [Int.toNat_natCast, show ((a : Int) - 1).toNat = a - 1 by omega]; exact h.good.l (by omega) q aq qb, fun z => by
    rw [Int.toNat_natCast, show ((b : Int) - 1 + 1).toNat = b by omega]; exact h.good.r (by omega) q aq qb⟩
  refine ⟨a, b, B, aq, qb, h2, hr, b3, b2, b1, b1.bt 60 (by have := B.hs; omega), by rw [h.nb]; exact b7, by rw [h.nb]; exact hT, by rw [h.nb]; exact h.e1, fun j hj => ?_⟩
  rw [hsn.dsc hj]
  omega
/-! what tells the tree of the stretch -/
def cutT (t : List Int) (a b : Nat) : List Int := (List.range (b - a)).map fun i => if (a : Int) ≤ nb t (a + i) ∧ nb t (a + i) < b then nb t (a + i) - a else -1
theorem cutT_len (t : List Int) (a b : Nat) : (cutT t a b).length = b - a := by unfold cutT; rw [List.length_map, List.length_range]
theorem nb_cutT {t : List Int} {a b q : Nat} (h1 : a ≤ q) (h2 : q < b) : nb (cutT t a b) (q - a) = if (a : Int) ≤ nb t q ∧ nb t q < b then nb t q - a else -1 := by
  unfold nb cutT
  rw [List.getD_eq_getElem?_getD, List.getElem?_map, List.getElem?_range (by omega)]
  show (if (a : Int) ≤ t.getD (a + (q - a)) 0 ∧ t.getD (a + (q - a)) 0 < b then t.getD (a + (q - a)) 0 - a else -1) = _
  rw [show a + (q - a) = q by omega]
theorem T.cut {t : List Int} {a b : Nat} {x y : Nat} {e : Int} (h : T t x y e) : a ≤ x → y ≤ b → T (cutT t a b) (x - a) (y - a) (if (a : Int) ≤ e ∧ e < b then e - a else -1) := by
  induction h with
  | nil x e => intro _ _; exact .nil _ _
  | @node x y h e h1 h2 h3 _ _ i1 i2 =>
    intro hx hy
    have j1 := i1 hx (by omega)
    have j2 := i2 (by omega) hy
    rw [if_pos (by omega)] at j1 j2
    have eh : (h : Int) - a = ((h - a : Nat) : Int) := by omega
    rw [eh] at j1 j2
    rw [show h + 1 - a = h - a + 1 by omega] at j2
    refine .node (by omega) (by omega) ?_ j1 j2
    rw [nb_cutT (by omega) (by omega), h3]
/-- each place against its elder, of a stretch -/
def Cq (t : List Int) (a b : Nat) (g : Nat → Int) (q : Nat) : Prop := (a : Int) ≤ nb t q ∧ nb t q < b → g (nb t q).toNat + (if (q : Int) < nb t q then 1 else 0) ≤ g q
theorem cq_FB {t : List Int} {a b : Nat} {g : Nat → Int} {x y : Nat} {e : Int} {s : BT} (h : BTr t x y e s) : a ≤ x → y ≤ b → PL x s → s.size = y - x →
    ((∀ q, x ≤ q → q < y → Cq t a b g q) ↔ FB g s ∧ ∀ z, s.root = some z → ((a : Int) ≤ e ∧ e < b) → g e.toNat + (if z < e then 1 else 0) ≤ g z.toNat) := by
  induction h with
  | nil x e => exact fun _ _ _ _ => ⟨fun _ => ⟨trivial, fun z hz => (by cases hz)⟩, fun _ q h1 h2 => by omega⟩
  | @node x y h e l r h1 h2 h3 _ _ i1 i2 =>
    rintro hx hy ⟨p1, p2, p3⟩ hs
    have hs' : l.size + r.size + 1 = y - x := hs
    have k1 := i1 hx (by omega) p1 (by omega)
    have k2 := i2 (by omega) hy p3 (by omega)
    have hh : (a : Int) ≤ (h : Int) ∧ (h : Int) < b := by omega
    constructor
    · intro hc
      obtain ⟨c1, c2⟩ := k1.mp fun q q1 q2 => hc q q1 (by omega)
      obtain ⟨c3, c4⟩ := k2.mp fun q q1 q2 => hc q (by omega) q2
      refine ⟨⟨fun z hz => ?_, fun z hz => ?_, c1, c3⟩, fun z hz he => ?_⟩
      · have := c2 z hz hh
        obtain ⟨z1, z2, z3⟩ := root_in p1 hz
        rw [if_pos (by omega), Int.toNat_natCast] at this
        omega
      · have := c4 z hz hh
        obtain ⟨z1, z2, z3⟩ := root_in p3 hz
        rw [if_neg (by omega), Int.toNat_natCast] at this
        omega
      · cases hz
        have := hc h h1 h2
        unfold Cq at this
        rw [h3] at this
        rw [Int.toNat_natCast]; exact this he
    · rintro ⟨⟨d1, d2, d3, d4⟩, d5⟩ q q1 q2
      rcases Nat.lt_trichotomy q h with z | z | z
      · refine k1.mpr ⟨d3, fun z hz _ => ?_⟩ q q1 z
        obtain ⟨z1, z2, z3⟩ := root_in p1 hz
        have := d1 z hz
        rw [if_pos (by omega), Int.toNat_natCast]
        omega
      · subst z
        intro he
        have := d5 (q : Int) rfl
        rw [Int.toNat_natCast] at this
        rw [h3] at he ⊢
        exact this he
      · refine k2.mpr ⟨d4, fun z hz _ => ?_⟩ q (by omega) q2
        obtain ⟨z1, z2, z3⟩ := root_in p3 hz
        have := d2 z hz
        rw [if_neg (by omega), Int.toNat_natCast]
        omega
theorem fits_cut {t v : List Int} {a b : Nat} (hab : a ≤ b) : Fits (cutT t a b) v ↔ ∀ q, a ≤ q → q < b → Cq t a b (fun q => nb v (q - a)) q := by
  unfold Fits
  rw [cutT_len]
  constructor
  · intro h q q1 q2 he
    have := h (q - a) (by omega)
    rw [nb_cutT q1 q2, if_pos he] at this
    have := this (by omega)
    show nb v ((nb t q).toNat - a) + _ ≤ nb v (q - a)
    rw [show (nb t q - (a : Int)).toNat = (nb t q).toNat - a by omega] at this
    by_cases z : (q : Int) < nb t q
    · rw [if_pos z]; rw [if_pos (by omega)] at this; exact this
    · rw [if_neg z]; rw [if_neg (by omega)] at this; exact this
  · intro h i hi he
    have e1 : i = (a + i) - a := by omega
    rw [e1, nb_cutT (by omega) (by omega)] at he ⊢
    by_cases z : (a : Int) ≤ nb t (a + i) ∧ nb t (a + i) < b
    · rw [if_pos z]
      have := h (a + i) (by omega) (by omega) z
      have this : nb v ((nb t (a + i)).toNat - a) + _ ≤ nb v (a + i - a) := this
      rw [show (nb t (a + i) - (a : Int)).toNat = (nb t (a + i)).toNat - a by omega]
      by_cases y : ((a + i : Nat) : Int) < nb t (a + i)
      · rw [if_pos y] at this; rw [if_pos (by omega)]; exact this
      · rw [if_neg y] at this; rw [if_neg (by omega)]; exact this
    · rw [if_neg z] at he; omega
theorem SubT.tree {row v : List Int} (hl : row.length ≤ 40) {q a b : Nat} {s : BT} (h : SubT row q a b s) (hv : v.length = b - a) : treeOf v = cutT (treeOf row) a b ↔ FB (fun q => nb v (q - a)) s := by
  have hb := h.bn
  have haq := h.aq
  have hqb := h.qb
  have ht : isTree (cutT (treeOf row) a b) = true := by
    refine isTree_iff.mpr ⟨by rw [cutT_len]; omega, ?_⟩
    unfold IsT
    have := T.cut (a := a) (b := b) h.t (Nat.le_refl _) (Nat.le_refl _)
    rw [if_neg (by have := h.e1; omega), Nat.sub_self] at this
    rw [cutT_len]; exact this
  have e1 : treeOf v = cutT (treeOf row) a b ↔ Fits (cutT (treeOf row) a b) v := ⟨fun z => by rw [← z]; exact fits_self (by omega), fun z => fits_tree ht (by rw [cutT_len]; exact hv) z⟩
  rw [e1, fits_cut (by omega), cq_FB h.bt (Nat.le_refl _) (Nat.le_refl _) h.pl h.size]
  exact ⟨fun z => z.1, fun z => ⟨z, fun _ _ y => absurd y (by have := h.e1; omega)⟩⟩
/-- the numbers of the stretch have it -/
theorem SubT.own {row : List Int} (hl : row.length ≤ 40) {q a b : Nat} {s : BT} (h : SubT row q a b s) : treeOf (sl row (some (a : Int)) (some (b : Int))) = cutT (treeOf row) a b := by
  have hb := h.bn
  have haq := h.aq
  have hqb := h.qb
  have es : sl row (some (a : Int)) (some (b : Int)) = (row.drop a).take (b - a) := by
    unfold sl
    have e1 : HT.sIx row.length 0 (some (a : Int)) = a := by unfold HT.sIx; simp only; rw [if_neg (by omega)]; omega
    have e2 : HT.sIx row.length row.length (some (b : Int)) = b := by unfold HT.sIx; simp only; rw [if_neg (by omega)]; omega
    rw [e1, e2]
  have hlen : (sl row (some (a : Int)) (some (b : Int))).length = b - a := by rw [es, List.length_take, List.length_drop]; omega
  refine (h.tree hl hlen).mpr ?_
  have hf := fits_self hl
  refine ((cq_FB (g := nb row) h.bt (Nat.le_refl _) (Nat.le_refl _) h.pl h.size).mp fun q q1 q2 he => hf q (by rw [treeOf_len]; omega) (by omega)).1.congr h.pl fun j j1 j2 => ?_
  rw [h.size] at j2
  rw [es]
  unfold nb
  rw [List.getD_eq_getElem?_getD, List.getD_eq_getElem?_getD, List.getElem?_take, if_pos (by omega), List.getElem?_drop, show a + (j - a) = j by omega]
end Lo
end TM


set_option linter.all false
set_option maxHeartbeats 1000000
namespace TM
namespace Lo
open GL
/-! ### all tuples of places -/
def tups (n : Int) : Nat → List (List Int)
  | 0 => [[]]
  | m + 1 => (tups n m).flatMap fun one => (rg (gtB (if one = [] then [-1] else one) 1 + 1) n).map fun p => one ++ [p]
theorem pw_snoc {l : List Int} {x : Int} : (l ++ [x]).Pairwise (· < ·) ↔ l.Pairwise (· < ·) ∧ (l = [] ∨ gtB l 1 < x) := by
  rw [List.pairwise_append]
  constructor
  · rintro ⟨h1, _, h2⟩
    refine ⟨h1, ?_⟩
    by_cases z : l = []
    · exact .inl z
    · exact .inr (h2 _ (gtB_mem ⟨by decide, List.length_pos_iff.mpr z⟩) x (List.mem_singleton.mpr rfl))
  · rintro ⟨h1, h2⟩
    refine ⟨h1, List.pairwise_singleton _ _, fun y hy z hz => ?_⟩
    rw [List.mem_singleton.mp hz]
    rcases h2 with h2 | h2
    · rw [h2] at hy; cases hy
    · obtain ⟨i, hi⟩ := List.getElem?_of_mem hy
      have hlt := (List.getElem?_eq_some_iff.mp hi).1
      have e := gtB_get (l := l) (k := 1) ⟨by decide, by omega⟩
      by_cases w : i = l.length - 1
      · rw [w, e] at hi
        rw [← Option.some.inj hi]; exact h2
      · have := (List.pairwise_iff_getElem.mp h1) i (l.length - 1) hlt (by omega) (by omega)
        have e1 := (List.getElem?_eq_some_iff.mp hi).2
        have e2 := (List.getElem?_eq_some_iff.mp e).2
        omega
theorem mem_tups {n : Int} : ∀ {m : Nat} {one : List Int}, one ∈ tups n m ↔ one.length = m ∧ one.Pairwise (· < ·) ∧ ∀ x ∈ one, 0 ≤ x ∧ x < n
  | 0, one => by
    show one ∈ [[]] ↔ _
    rw [List.mem_singleton]
    constructor
    · intro e; subst e; exact ⟨rfl, List.Pairwise.nil, fun x hx => by cases hx⟩
    · intro ⟨h, _⟩; exact List.eq_nil_of_length_eq_zero h
  | m + 1, one => by
    show one ∈ (tups n m).flatMap _ ↔ _
    rw [List.mem_flatMap]
    constructor
    · rintro ⟨o, ho, hm⟩
      obtain ⟨p, hp, e⟩ := List.mem_map.mp hm
      obtain ⟨h1, h2, h3⟩ := mem_tups.mp ho
      have hp' := rg_mem.mp hp
      subst e
      have key : (o = [] ∨ gtB o 1 < p) ∧ 0 ≤ p := by
        by_cases z : o = []
        · rw [if_pos z] at hp'
          have : gtB [(-1 : Int)] 1 = -1 := rfl
          exact ⟨.inl z, by omega⟩
        · rw [if_neg z] at hp'
          have := (h3 _ (gtB_mem (l := o) (n := 1) ⟨by decide, List.length_pos_iff.mpr z⟩)).1
          exact ⟨.inr (by omega), by omega⟩
      refine ⟨by rw [List.length_append, h1]; rfl, pw_snoc.mpr ⟨h2, key.1⟩, fun x hx => ?_⟩
      rcases List.mem_append.mp hx with y | y
      · exact h3 x y
      · rw [List.mem_singleton.mp y]; exact ⟨key.2, hp'.2⟩
    · rintro ⟨h1, h2, h3⟩
      have hne : one ≠ [] := fun z => by rw [z] at h1; cases h1
      have e := List.dropLast_concat_getLast hne
      have hd : one.dropLast.length = m := by rw [List.length_dropLast, h1]; rfl
      rw [← e] at h2
      obtain ⟨k1, k2⟩ := pw_snoc.mp h2
      have hl := h3 _ (List.getLast_mem hne)
      refine ⟨one.dropLast, mem_tups.mpr ⟨hd, k1, fun x hx => h3 x ((List.dropLast_sublist _).mem hx)⟩, List.mem_map.mpr ⟨one.getLast hne, rg_mem.mpr ⟨?_, hl.2⟩, e⟩⟩
      by_cases z : one.dropLast = []
      · rw [if_pos z]
        have : gtB [(-1 : Int)] 1 = -1 := rfl
        omega
      · rw [if_neg z]
        rcases k2 with k2 | k2
        · exact absurd k2 z
        · omega
theorem nb_map' {v : List Int} {f : Int → Int} {i : Nat} (h : i < v.length) : nb (v.map f) i = f (nb v i) := nb_map h
theorem pw_nb {l : List Int} (h : l.Pairwise (· < ·)) {i j : Nat} (hij : i < j) (hj : j < l.length) : nb l i < nb l j := by
  have := (List.pairwise_iff_getElem.mp h) i j (by omega) hj hij
  unfold nb
  rw [List.getD_eq_getElem?_getD, List.getD_eq_getElem?_getD, List.getElem?_eq_getElem (by omega), List.getElem?_eq_getElem hj]
  exact this
theorem nb_mem {l : List Int} {i : Nat} (h : i < l.length) : nb l i ∈ l := by
  unfold nb
  rw [List.getD_eq_getElem?_getD, List.getElem?_eq_getElem h]
  exact List.getElem_mem h
/-- a tuple that has the numbers' tree is one that the tree is put at -/
theorem emb_of {row tx one : List Int} (hl : row.length ≤ 40) {q a b : Nat} {s : BT} (h : SubT row q a b s) (h1 : one.length = b - a) (h2 : one.Pairwise (· < ·)) (h3 : ∀ x ∈ one, 0 ≤ x ∧ x < tx.length)
    (ht : treeOf (one.map fun p => gt tx p) = treeOf (sl row (some (a : Int)) (some (b : Int)))) : Emb tx s a (fun j => nb one (j - a)) := by
  have hs := h.size
  refine ⟨fun j j1 j2 => h3 _ (nb_mem (by omega)), fun j j' j1 j2 j3 => pw_nb h2 (by omega) (by omega), ?_⟩
  rw [h.own hl] at ht
  refine ((h.tree hl (by rw [List.length_map]; exact h1)).mp ht).congr h.pl fun j j1 j2 => ?_
  exact nb_map' (by omega)
theorem of_emb {row tx : List Int} (hl : row.length ≤ 40) {q a b : Nat} {s : BT} (h : SubT row q a b s) {f : Nat → Int} (he : Emb tx s a f) :
    let one := (List.range (b - a)).map fun i => f (a + i)
    one ∈ tups tx.length (b - a) ∧ treeOf (one.map fun p => gt tx p) = treeOf (sl row (some (a : Int)) (some (b : Int))) ∧ ∀ j, a ≤ j → j < b → nb one (j - a) = f j := by
  intro one
  have hs := h.size
  have hn : ∀ j, a ≤ j → j < b → nb one (j - a) = f j := fun j j1 j2 => by
    show List.getD ((List.range (b - a)).map fun i => f (a + i)) (j - a) 0 = _
    rw [List.getD_eq_getElem?_getD, List.getElem?_map, List.getElem?_range (by omega)]
    show f (a + (j - a)) = f j
    congr 1; omega
  have hlen : one.length = b - a := by rw [List.length_map, List.length_range]
  refine ⟨mem_tups.mpr ⟨hlen, ?_, fun x hx => ?_⟩, ?_, hn⟩
  · refine List.pairwise_map.mpr ?_
    refine List.pairwise_lt_range.imp_of_mem ?_
    intro i j hi hj hij
    have := List.mem_range.mp hi
    have := List.mem_range.mp hj
    exact he.up _ _ (by omega) (by omega) (by omega)
  · obtain ⟨i, hi, e⟩ := List.mem_map.mp hx
    have := List.mem_range.mp hi
    rw [← e]; exact he.r _ (by omega) (by omega)
  · rw [h.own hl]
    refine (h.tree hl (by rw [List.length_map]; exact hlen)).mpr ?_
    refine he.ok.congr h.pl fun j j1 j2 => ?_
    rw [nb_map' (by omega), hn j j1 (by omega)]
theorem stood {row tx : List Int} (hl : row.length ≤ 40) {q a b : Nat} {s : BT} (h : SubT row q a b s) {at_ : Int} (h0 : 0 ≤ at_) (h1 : at_ < tx.length) {some_ : List (List Int)}
    (hs : ∀ one, one ∈ some_ ↔ (one ∈ tups tx.length (b - a) ∧ treeOf (one.map fun p => gt tx p) = treeOf (sl row (some (a : Int)) (some (b : Int)))) ∧ gt one ((q : Int) - a) = at_) :
    (if some_ = [] then none else some (lmax (some_.map fun one => gt one 0), lmin (some_.map fun one => gtB one 1))) = pr tx s at_ := by
  have aq := h.aq
  have qb := h.qb
  have hsz := h.size
  have hgt : ∀ {one : List Int}, one.length = b - a → gt one ((q : Int) - a) = nb one (q - a) ∧ gt one 0 = nb one (a - a) ∧ gtB one 1 = nb one (a + s.size - 1 - a) := fun {one} e => by
    refine ⟨?_, ?_, ?_⟩
    · rw [show (q : Int) - a = ((q - a : Nat) : Int) by omega]; exact gt_nb _ _
    · rw [Nat.sub_self]; exact gt_nb one 0
    · have := gtB_get (l := one) (k := 1) ⟨by decide, by omega⟩
      unfold nb
      rw [List.getD_eq_getElem?_getD, show a + s.size - 1 - a = one.length - 1 by omega, this]; rfl
  have fwd : ∀ one ∈ some_, ∃ F E, pr tx s at_ = some (F, E) ∧ gt one 0 ≤ F ∧ E ≤ gtB one 1 := fun one ho => by
    obtain ⟨⟨k1, k2⟩, k3⟩ := (hs one).mp ho
    obtain ⟨m1, m2, m3⟩ := mem_tups.mp k1
    have he := emb_of hl h m1 m2 m3 k2
    obtain ⟨F, E, e1, e2, e3⟩ := pr_ge s h.pl he h.root
    obtain ⟨g1, g2, g3⟩ := hgt m1
    rw [Int.toNat_natCast] at e1
    have e1 : pr tx s (nb one (q - a)) = some (F, E) := e1
    rw [← g1, k3] at e1
    exact ⟨F, E, e1, by rw [g2]; exact e2, by rw [g3]; exact e3⟩
  cases hp : pr tx s at_ with
  | none =>
    rw [if_pos ?_]
    cases hsm : some_ with
    | nil => rfl
    | cons x l =>
      obtain ⟨F, E, e, _⟩ := fwd x (by rw [hsm]; exact List.mem_cons_self)
      rw [hp] at e; cases e
  | some FE =>
    obtain ⟨F, E⟩ := FE
    obtain ⟨f, he, hr, hF, hE, _, _, _, _⟩ := pr_le s h.pl h0 h1 hp
    obtain ⟨o1, o2, o3⟩ := of_emb hl h he
    have hlen := (mem_tups.mp o1).1
    obtain ⟨g1, g2, g3⟩ := hgt hlen
    have hq := hr _ h.root
    rw [Int.toNat_natCast] at hq
    have hin : (List.range (b - a)).map (fun i => f (a + i)) ∈ some_ := (hs _).mpr ⟨⟨o1, o2⟩, by rw [g1, o3 q aq qb, hq]⟩
    rw [if_neg (List.ne_nil_of_mem hin)]
    have eF : F = lmax (some_.map fun one => gt one 0) := lmax_uniq (List.mem_map.mpr ⟨_, hin, by rw [g2, o3 a (Nat.le_refl _) (by omega), hF]⟩) fun y hy => by
      obtain ⟨one, ho, e⟩ := List.mem_map.mp hy
      obtain ⟨F', E', e1, e2, _⟩ := fwd one ho
      rw [hp] at e1; cases e1
      rw [← e]; exact e2
    have eE : E = lmin (some_.map fun one => gtB one 1) := lmin_uniq (List.mem_map.mpr ⟨_, hin, by rw [g3, o3 _ (by omega) (by omega), hE]⟩) fun y hy => by
      obtain ⟨one, ho, e⟩ := List.mem_map.mp hy
      obtain ⟨F', E', e1, _, e3⟩ := fwd one ho
      rw [hp] at e1; cases e1
      rw [← e]; exact e3
    rw [← eF, ← eE]
end Lo
end TM


set_option linter.all false
set_option maxHeartbeats 1000000
namespace TM
namespace Lo
open GL
/-! ### the table -/
def line (tx : List Int) (s : BT) : List (Option (Int × Int)) := (rg 0 tx.length).map (pr tx s)
theorem line_len (tx : List Int) (s : BT) : (line tx s).length = tx.length := by unfold line; rw [List.length_map, rg_len]; omega
theorem gt_line {tx : List Int} {s : BT} {j : Int} (h : 0 ≤ j ∧ j < tx.length) : gt (line tx s) j = pr tx s j := gt_map_rg h
def tabL (tx row : List Int) : List (List (Option (Int × Int))) := (rg 0 row.length).map fun p => line tx (sub (treeOf row) p)
theorem tabL_len (tx row : List Int) : (tabL tx row).length = row.length := by unfold tabL; rw [List.length_map, rg_len]; omega
theorem gt_tabL {tx row : List Int} {p : Int} (h : 0 ≤ p ∧ p < row.length) : gt (tabL tx row) p = line tx (sub (treeOf row) p) := gt_map_rg h
/-- as the program reckons it -/
def firstOf (tx : List Int) (ro : List (Option (Int × Int))) (at_ : Int) : Int := lmax ([-1] ++ fsT tx (gt ro) at_)
def lastOf (tx : List Int) (ro : List (Option (Int × Int))) (at_ : Int) : Int := lmin ([(tx.length : Int)] ++ lsT tx (gt ro) at_)
def bOf (tx : List Int) (tb : List (List (Option (Int × Int)))) (o : Option Int) (at_ : Int) : Int := match o with
  | none => at_
  | some x => firstOf tx (gt tb x) at_
def eOf (tx : List Int) (tb : List (List (Option (Int × Int)))) (o : Option Int) (at_ : Int) : Int := match o with
  | none => at_
  | some x => lastOf tx (gt tb x) at_
def pairAt (tx : List Int) (tb : List (List (Option (Int × Int)))) (h : Option Int × Option Int) (at_ : Int) : Option (Int × Int) :=
  if bOf tx tb h.1 at_ < 0 ∨ eOf tx tb h.2 at_ = tx.length then none else some (bOf tx tb h.1 at_, eOf tx tb h.2 at_)
/-- what hangs under a place stands in the table -/
def HL (tx : List Int) (tb : List (List (Option (Int × Int)))) (o : Option Int) (s : BT) : Prop := match o with
  | none => s = .nil
  | some x => s.isN = false ∧ gt tb x = line tx s ∧ ∃ c, PL c s
/-- as the law does -/
def fOf (tx : List Int) (tb : List (List (Option (Int × Int)))) (o : Option Int) (at_ : Int) : List Int := match o with
  | none => [at_]
  | some x => fsT tx (gt (gt tb x)) at_
def lOf (tx : List Int) (tb : List (List (Option (Int × Int)))) (o : Option Int) (at_ : Int) : List Int := match o with
  | none => [at_]
  | some x => lsT tx (gt (gt tb x)) at_
def ruledAt (tx : List Int) (tb : List (List (Option (Int × Int)))) (h : Option Int × Option Int) (at_ : Int) : Option (Int × Int) := comb (fOf tx tb h.1 at_) (lOf tx tb h.2 at_)
/-! in which order -/
def tabB (tx row ord : List Int) (i : Nat) : List (List (Option (Int × Int))) := (rg 0 row.length).map fun p => if p ∈ ord.take i then line tx (sub (treeOf row) p) else []
/-- an order in which what hangs under a place comes ahead of it -/
def Ord (row ord : List Int) : Prop := (∀ p : Int, p ∈ ord ↔ 0 ≤ p ∧ p < row.length) ∧ ∀ (i : Nat) (p c : Int), ord[i]? = some p → 0 ≤ c → c < row.length → gt (treeOf row) c = p → c ∈ ord.take i
/-- a place's own tree by its hands -/
theorem sub_node {row : List Int} (hl : row.length ≤ 40) {q : Nat} (hq : q < row.length) : ∃ l r, sub (treeOf row) q = .node l q r ∧ (∃ c, PL c (sub (treeOf row) q)) ∧
    (∀ x, (hT (treeOf row) q).1 = some x → 0 ≤ x ∧ x < row.length ∧ gt (treeOf row) x = q ∧ l = sub (treeOf row) x) ∧ ((hT (treeOf row) q).1 = none → l = .nil) ∧
    (∀ x, (hT (treeOf row) q).2 = some x → 0 ≤ x ∧ x < row.length ∧ gt (treeOf row) x = q ∧ r = sub (treeOf row) x) ∧ ((hT (treeOf row) q).2 = none → r = .nil) := by
  obtain ⟨a, b, s, h⟩ := sub_at hl hq
  have hh := h.hb
  have hbt := h.bt
  have hr := h.root
  have he := h.eq
  have hpl := h.pl
  have hsz := h.size
  have hbn := h.bn
  rw [he]
  cases s with
  | nil => cases hr
  | node l p r =>
    have ep : p = q := by have := Option.some.inj hr; omega
    subst ep
    cases hh with
    | node hp1 hL hR =>
      cases hbt with
      | node b1 b2 b3 bl br =>
        have key : ∀ {x y : Nat} {s : BT}, BTr (treeOf row) x y p s → PL x s → y ≤ row.length → s.size = y - x → ∀ z, s.root = some z → 0 ≤ z ∧ z < row.length ∧ gt (treeOf row) z = p := fun {x y s} hb hpl hy hs z hz => by
          cases hb with
          | nil => cases hz
          | node c1 c2 c3 _ _ =>
            cases hz
            exact ⟨by omega, by omega, by rw [gt_nb]; exact c3⟩
        have hsz' : l.size + r.size + 1 = b - a := hsz
        obtain ⟨pl1, pl2, pl3⟩ := hpl
        refine ⟨l, r, rfl, ⟨a, h.pl⟩, fun x hx => ?_, fun hx => ?_, fun x hx => ?_, fun hx => ?_⟩
        · rw [hx] at hL
          obtain ⟨k1, k2, k3⟩ := key bl pl1 (by omega) (by omega) x (HB.root hL)
          exact ⟨k1, k2, k3, (hL.bt 60 (by have := l.hs; omega)).symm⟩
        · rw [hx] at hL; cases hL; rfl
        · rw [hx] at hR
          obtain ⟨k1, k2, k3⟩ := key br pl3 (by omega) (by omega) x (HB.root hR)
          exact ⟨k1, k2, k3, (hR.bt 60 (by have := r.hs; omega)).symm⟩
        · rw [hx] at hR; cases hR; rfl
end Lo
end TM


set_option linter.all false
set_option maxHeartbeats 1000000
namespace TM
namespace Lo
open GL
/-! ### for the walks of the table -/
/-! the places under a place -/
def und (t : List Int) (p : Int) : List Int := (rg 0 t.length).filter fun o => decide (o = p ∨ p ∈ ups t o)
/-! the law's hands -/
end Lo
end TM


set_option linter.all false
set_option maxHeartbeats 1000000
namespace TM
namespace Lo
open GL
/-! ### the law's tuples, and all of them that stand -/
theorem tabL_mem {tx row : List Int} {l : List (Option (Int × Int))} (h : l ∈ tabL tx row) : l.length = tx.length := by
  unfold tabL at h
  obtain ⟨p, _, rfl⟩ := List.mem_map.mp h
  exact line_len _ _
/-- the stretch under a place, and the tuples that hold it -/
def stR (row : List Int) (q : Int) : List Int := sl row (some (gt (und (treeOf row) q) 0)) (some (gtB (und (treeOf row) q) 1 + 1))
def holdT (tx sr : List Int) : List (List Int) := (tups tx.length sr.length).filter fun one => decide (treeOf (one.map fun p => gt tx p) = treeOf sr)
end Lo
end TM


set_option linter.all false
set_option maxHeartbeats 1000000
namespace TM
namespace Lo
open GL
def topL (tx row : List Int) : List (Option (Int × Int)) := gt (tabL tx row) (((treeOf row).idxOf (-1) : Nat) : Int)
def somes (l : List (Option (Int × Int))) : List (Int × Int) := (l.filter fun o => decide (¬ o = none)).map fun o => oget o
def minB (ps : List (Int × Int)) (p : Int × Int) : Bool := !(ps.any fun one => decide (p.1 ≤ one.1) && (decide (one.2 ≤ p.2) && !decide (one = p)))
def leastL (ps : List (Int × Int)) : List (Int × Int) := pset (ps.filter fun p => decide (minB ps p = true))
theorem minB_iff {ps : List (Int × Int)} {p : Int × Int} : minB ps p = true ↔ ∀ one ∈ ps, p.1 ≤ one.1 → one.2 ≤ p.2 → one = p := by
  unfold minB
  rw [Bool.not_eq_true', List.any_eq_false]
  constructor
  · intro h one h1 h2 h3
    have z := h one h1
    by_cases e : one = p
    · exact e
    · exfalso; apply z
      rw [decide_eq_true h2, decide_eq_true h3, decide_eq_false e]; rfl
  · intro h one h1 z
    rw [Bool.and_eq_true, Bool.and_eq_true, decide_eq_true_iff, decide_eq_true_iff, Bool.not_eq_true', decide_eq_false_iff_not] at z
    exact z.2.2 (h one h1 z.1 z.2.1)
theorem mem_leastL {ps : List (Int × Int)} {x : Int × Int} : x ∈ leastL ps ↔ x ∈ ps ∧ ∀ one ∈ ps, x.1 ≤ one.1 → one.2 ≤ x.2 → one = x := by
  unfold leastL
  rw [pset_mem, List.mem_filter, decide_eq_true_iff, minB_iff]
theorem leastL_uniq {ps m : List (Int × Int)} (h : ∀ x, x ∈ m ↔ x ∈ ps ∧ minB ps x = true) (nd : m.Nodup) (so : m.Pairwise (fun a b => ple a b = true)) : m = leastL ps :=
  pset_uniq (fun x => by rw [h, List.mem_filter, decide_eq_true_iff]) nd so
structure Lw (ps : List (Int × Int)) (i : Nat) (told : List (Int × Int)) : Prop where
  nd : told.Nodup
  so : told.Pairwise (fun a b => ple a b = true)
  m : ∀ x, x ∈ told ↔ x ∈ (psort ps).take i ∧ minB ps x = true
  len : told.length ≤ i
theorem Lw.zero (ps : List (Int × Int)) : Lw ps 0 [] := ⟨List.nodup_nil, .nil, fun x => by simp, Nat.le_refl _⟩
theorem Lw.done {ps told : List (Int × Int)} (h : Lw ps (psort ps).length told) : told = leastL ps :=
  leastL_uniq (fun x => by rw [h.m, List.take_length, (psort_perm ps).mem_iff]) h.nd h.so
theorem Lw.step {ps told : List (Int × Int)} {i : Nat} {p : Int × Int} (h : Lw ps i told) (hp : (psort ps)[i]? = some p) :
    (¬ p ∈ told ∧ minB ps p = true → Lw ps (i + 1) (told ++ [p])) ∧ (¬ (¬ p ∈ told ∧ minB ps p = true) → Lw ps (i + 1) told) := by
  have ht : (psort ps).take (i + 1) = (psort ps).take i ++ [p] := by rw [List.take_succ, hp]; rfl
  refine ⟨fun hc => ⟨?_, ?_, fun x => ?_, by rw [List.length_append, List.length_singleton]; have := h.len; omega⟩, fun hc => ⟨h.nd, h.so, fun x => ?_, Nat.le_succ_of_le h.len⟩⟩
  · rw [List.nodup_append]
    exact ⟨h.nd, List.nodup_cons.mpr ⟨by simp, List.nodup_nil⟩, fun a ha b hb e => by rw [List.mem_singleton] at hb; subst hb; subst e; exact hc.1 ha⟩
  · rw [List.pairwise_append]
    refine ⟨h.so, List.pairwise_singleton _ _, fun a ha b hb => ?_⟩
    rw [List.mem_singleton] at hb
    subst hb
    have ha' := ((h.m a).mp ha).1
    have hs := psort_sorted ps
    have hs2 : ((psort ps).take (i + 1)).Pairwise (fun a b => ple a b = true) := hs.sublist (List.take_sublist _ _)
    rw [ht, List.pairwise_append] at hs2
    exact hs2.2.2 a ha' b (by simp)
  · rw [ht, List.mem_append, List.mem_append, h.m, List.mem_singleton]
    constructor
    · rintro (z | z)
      · exact ⟨.inl z.1, z.2⟩
      · exact ⟨.inr z, z ▸ hc.2⟩
    · rintro ⟨z | z, y⟩
      · exact .inl ⟨z, y⟩
      · exact .inr z
  · rw [ht, List.mem_append, h.m, List.mem_singleton]
    constructor
    · rintro ⟨z, y⟩; exact ⟨.inl z, y⟩
    · rintro ⟨z | z, y⟩
      · exact ⟨z, y⟩
      · subst z
        by_cases w : x ∈ told
        · exact (h.m x).mp w
        · exact absurd ⟨w, y⟩ hc
/-- two rows of pairs with the same least ones -/
theorem leastL_same {p1 p2 : List (Int × Int)} (h1 : ∀ x ∈ p2, x ∈ p1) (h2 : ∀ x ∈ p1, ∃ y ∈ p2, x.1 ≤ y.1 ∧ y.2 ≤ x.2) : leastL p1 = leastL p2 := by
  refine leastL_uniq (fun x => ?_) (pset_nd _) (psort_sorted _)
  show x ∈ leastL p1 ↔ _
  rw [mem_leastL, minB_iff]
  constructor
  · rintro ⟨m, hm⟩
    obtain ⟨y, y1, y2, y3⟩ := h2 x m
    have e := hm y (h1 y y1) y2 y3
    subst e
    exact ⟨y1, fun one o1 o2 o3 => hm one (h1 one o1) o2 o3⟩
  · rintro ⟨m, hm⟩
    refine ⟨h1 x m, fun one o1 o2 o3 => ?_⟩
    obtain ⟨y, y1, y2, y3⟩ := h2 one o1
    have e := hm y y1 (by omega) (by omega)
    subst e
    exact Prod.ext (by omega) (by omega)
theorem root_uniq {t : List Int} {a b : Nat} (h : T t a b (-1)) {p q : Nat} (p1 : a ≤ p) (p2 : p < b) (q1 : a ≤ q) (q2 : q < b) (hp : nb t p = -1) (hq : nb t q = -1) : p = q := by
  cases h with
  | nil => omega
  | @node _ _ h _ h1 h2 h3 tl tr =>
    have key : ∀ x, a ≤ x → x < b → nb t x = -1 → x = h := fun x x1 x2 hx => by
      rcases Nat.lt_trichotomy x h with z | z | z
      · rcases tl.inn x x1 z with y | y <;> omega
      · exact z
      · rcases tr.inn x z x2 with y | y <;> omega
    rw [key p p1 p2 hp, key q q1 q2 hq]
/-- the root's stretch is the whole row -/
theorem root_ex {row : List Int} (h0 : 1 ≤ row.length) : ∃ p, p < row.length ∧ nb (treeOf row) p = -1 ∧ Sn row p 0 ((row.length : Int) - 1) := by
  obtain ⟨p, p1, p2, p3, p4⟩ := low_ex row (show 0 < row.length by omega)
  have ep : nb (treeOf row) p = -1 := by
    rw [nb_treeOf (by omega)]
    exact eld_tv (good_all row) p1 p2 p3 fun j j1 j2 => by
      rcases Nat.lt_trichotomy j p with z | z | z
      · exact Int.le_of_lt (p3 j j1 z)
      · rw [z]; exact Int.le_refl _
      · exact p4 j z j2
  refine ⟨p, p2, ep, ⟨by omega, by omega, by omega, by omega, fun j j1 j2 => ?_, fun j j1 j2 => ?_, fun z => by omega, fun z => by omega⟩⟩
  · rw [Int.toNat_natCast]; exact p3 j (by omega) (by omega)
  · rw [Int.toNat_natCast]; exact p4 j (by omega) (by omega)
theorem sub_root {row : List Int} (hl : row.length ≤ 40) {q : Nat} (hq : q < row.length) (hn : nb (treeOf row) q = -1) : ∃ s, SubT row q 0 row.length s := by
  obtain ⟨a, b, s, h⟩ := sub_at hl hq
  have aq := h.aq; have qb := h.qb; have bn := h.bn
  have hT : T (treeOf row) 0 row.length (-1) := (TR_of row row.length 0 row.length (-1) (by omega) (good_all row)).T
  obtain ⟨p, p2, ep, hs⟩ := root_ex (row := row) (by omega)
  have e := root_uniq hT (Nat.zero_le _) hq (Nat.zero_le _) p2 hn ep
  subst e
  suffices hz : a = 0 ∧ b = row.length by
    obtain ⟨rfl, rfl⟩ := hz
    exact ⟨s, h⟩
  have h0 := (h.under 0 (by omega)).mp ((hs.dsc (by omega)).mpr (by omega))
  have h1 := (h.under (row.length - 1) (by omega)).mp ((hs.dsc (by omega)).mpr (by omega))
  omega
theorem top_in {row : List Int} (h0 : 1 ≤ row.length) : (-1) ∈ treeOf row := by
  obtain ⟨p, p2, ep, _⟩ := root_ex h0
  rw [← ep]; exact nb_mem (by rw [treeOf_len]; exact p2)
theorem top_lt {row : List Int} (h0 : 1 ≤ row.length) : (treeOf row).idxOf (-1) < row.length := by
  have := List.idxOf_lt_length_of_mem (top_in h0)
  rwa [treeOf_len] at this
theorem top_sub {row : List Int} (h0 : 1 ≤ row.length) (hl : row.length ≤ 40) : ∃ s, SubT row ((treeOf row).idxOf (-1)) 0 row.length s := by
  refine sub_root hl (top_lt h0) ?_
  have h := (idx_first (top_in h0)).1
  unfold nb
  rw [List.getD_eq_getElem?_getD, h]; rfl
theorem topL_is {row tx : List Int} (h0 : 1 ≤ row.length) {s : BT} (h : SubT row ((treeOf row).idxOf (-1)) 0 row.length s) : topL tx row = line tx s := by
  have := top_lt h0
  unfold topL
  rw [gt_tabL (by omega), h.eq]
theorem mem_somes {tx : List Int} {s : BT} {x : Int × Int} : x ∈ somes (line tx s) ↔ ∃ a : Int, (0 ≤ a ∧ a < tx.length) ∧ pr tx s a = some x := by
  unfold somes line
  rw [List.mem_map]
  constructor
  · rintro ⟨o, ho, rfl⟩
    obtain ⟨h1, h2⟩ := List.mem_filter.mp ho
    obtain ⟨a, ha, rfl⟩ := List.mem_map.mp h1
    have h3 := of_decide_eq_true h2
    refine ⟨a, by have := rg_mem.mp ha; omega, ?_⟩
    cases e : pr tx s a with
    | none => exact absurd e h3
    | some q => rfl
  · rintro ⟨a, ha, e⟩
    refine ⟨some x, List.mem_filter.mpr ⟨List.mem_map.mpr ⟨a, rg_mem.mpr (by omega), e⟩, decide_eq_true (by intro z; cases z)⟩, rfl⟩
theorem ddG_len {α : Type} [DecidableEq α] : ∀ l : List α, (ddG l).length ≤ l.length
  | [] => Nat.le_refl _
  | x :: l => by
    have := ddG_len l
    unfold ddG
    by_cases h : x ∈ ddG l
    · rw [if_pos h, List.length_cons]; omega
    · rw [if_neg h, List.length_cons, List.length_cons]; omega
theorem whole_sl (row : List Int) : sl row (some ((0 : Nat) : Int)) (some (row.length : Int)) = row := by
  rw [sl_mid (by omega)]
  show (row.drop 0).take _ = row
  rw [List.drop_zero, List.take_of_length_le (by omega)]
theorem same_pairs {row tx : List Int} (h0 : 1 ≤ row.length) (hl : row.length ≤ 40) : leastL ((holdT tx row).map fun one => (gt one 0, gtB one 1)) = leastL (somes (topL tx row)) := by
  obtain ⟨s, h⟩ := top_sub h0 hl
  have hsz := h.size
  rw [topL_is h0 h]
  have ge : ∀ {one : List Int}, one.length = row.length → gt one 0 = nb one 0 ∧ gtB one 1 = nb one (row.length - 1) := fun {one} e => by
    refine ⟨gt_nb one 0, ?_⟩
    unfold gtB nb
    rw [e, List.getD_eq_getElem?_getD, List.getD_eq_getElem?_getD]; rfl
  refine leastL_same (fun x hx => ?_) fun x hx => ?_
  · obtain ⟨a, ha, e⟩ := mem_somes.mp hx
    obtain ⟨f, he, _, f1, f2, _⟩ := pr_le s h.pl ha.1 ha.2 (show pr tx s a = some (x.1, x.2) from e)
    obtain ⟨o1, o2, o3⟩ := of_emb hl h he
    rw [whole_sl] at o2
    have hlen := (mem_tups.mp o1).1
    refine List.mem_map.mpr ⟨_, List.mem_filter.mpr ⟨o1, decide_eq_true o2⟩, ?_⟩
    obtain ⟨g1, g2⟩ := ge (one := (List.range (row.length - 0)).map fun i => f (0 + i)) hlen
    rw [g1, g2]
    have q1 := o3 0 (by omega) (by omega)
    have q2 := o3 (row.length - 1) (by omega) (by omega)
    simp only [Nat.sub_zero] at q1 q2
    refine Prod.ext ?_ ?_
    · show nb _ 0 = x.1
      exact (q1.trans f1)
    · show nb _ (row.length - 1) = x.2
      rw [← f2]
      refine Eq.trans q2 ?_
      congr 1; omega
  · obtain ⟨one, ho, rfl⟩ := List.mem_map.mp hx
    obtain ⟨m1, m2⟩ := List.mem_filter.mp ho
    obtain ⟨n1, n2, n3⟩ := mem_tups.mp m1
    have he := emb_of hl h (one := one) (by omega) n2 n3 (by rw [whole_sl]; exact of_decide_eq_true m2)
    obtain ⟨F, E, e1, e2, e3⟩ := pr_ge s h.pl he h.root
    obtain ⟨g1, g2⟩ := ge n1
    have qb := h.qb
    refine ⟨(F, E), mem_somes.mpr ⟨_, he.r _ (by omega) (by rw [Int.toNat_natCast]; omega), e1⟩, ?_, ?_⟩
    · show gt one 0 ≤ F
      rw [g1]; exact e2
    · show E ≤ gtB one 1
      rw [g2]
      have : nb one (0 + s.size - 1 - 0) = nb one (row.length - 1) := by congr 1; omega
      exact this ▸ e3
end Lo
end TM


set_option linter.all false
set_option maxHeartbeats 1000000
namespace TM
namespace Lo
open GL
abbrev OT := List (List (Option (Int × Int)))
def formB (row text : List Int) (table : OT) : Bool := decide ((table.length : Int) = row.length) && decide (∀ l ∈ table, (l.length : Int) = text.length)
theorem cat_mem {α : Type} {l : List α} {a b c d : Option Int} {x : α} (h : x ∈ sl l a b ++ sl l c d) : x ∈ l := by
  rcases List.mem_append.mp h with z | z
  · exact sl_memB z
  · exact sl_memB z
theorem set_mem {α : Type} {l : List α} {m : Nat} {x y : α} (h : y ∈ l.set m x) : y ∈ l ∨ y = x := List.mem_or_eq_of_mem_set h
def Gd (b : Nat) (L : OT) : Prop := ∀ l ∈ L, l.length ≤ b
theorem Gd.part {b : Nat} {L : OT} (h : Gd b L) {p q r s : Option Int} : Gd (b + 1) (sl L p q ++ sl L r s) := fun l hl => Nat.le_succ_of_le (h l (cat_mem hl))
theorem Gd.more {b : Nat} {L : OT} (h : Gd b L) {x : List (Option (Int × Int))} (hx : x.length ≤ b + 1) : Gd (b + 1) (L ++ [x]) := fun l hl => by
  rcases List.mem_append.mp hl with z | z
  · exact Nat.le_succ_of_le (h l z)
  · rw [List.mem_singleton.mp z]; exact hx
theorem Gd.put {b : Nat} {L : OT} (h : Gd b L) {x : List (Option (Int × Int))} {m : Nat} (hx : x.length ≤ b + 1) : Gd (b + 1) (L.set m x) := fun l hl => by
  rcases set_mem hl with z | z
  · exact Nat.le_succ_of_le (h l z)
  · rw [z]; exact hx
theorem gt_in {α : Type} [Inhabited α] {l : List α} {i : Int} (h : 0 ≤ i ∧ i < l.length) : gt l i ∈ l := List.mem_of_getElem? (gt_get h)
end Lo
end TM


set_option linter.all false
set_option maxHeartbeats 1000000
namespace TM
namespace Lo
open GL
/-! ### one stretch's places told -/
def okS (tx : List Int) (g : Int → Option (Int × Int)) (b e least : Int) (at_ : Int) : Bool := match g at_ with
  | none => false
  | some q => decide (least ≤ gt tx at_) && (decide (b ≤ q.1) && decide (q.2 ≤ e))
def spotF (tx : List Int) (g : Int → Option (Int × Int)) (b e least : Int) : Option Int := (rg b (e + 1)).find? (okS tx g b e least)
theorem okS_iff {tx : List Int} {g : Int → Option (Int × Int)} {b e least at_ : Int} : okS tx g b e least at_ = true ↔ ∃ F E, g at_ = some (F, E) ∧ least ≤ gt tx at_ ∧ b ≤ F ∧ E ≤ e := by
  unfold okS
  cases h : g at_ with
  | none => simp
  | some q =>
    simp only [Bool.and_eq_true, decide_eq_true_iff]
    constructor
    · rintro ⟨h1, h2, h3⟩; exact ⟨q.1, q.2, rfl, h1, h2, h3⟩
    · rintro ⟨F, E, h0, h1, h2, h3⟩; cases h0; exact ⟨h1, h2, h3⟩
theorem spotF_in {tx : List Int} {g : Int → Option (Int × Int)} {b e least x : Int} (h : spotF tx g b e least = some x) : (b ≤ x ∧ x ≤ e) ∧ ∃ F E, g x = some (F, E) ∧ least ≤ gt tx x ∧ b ≤ F ∧ E ≤ e := by
  have h1 := List.mem_of_find?_eq_some h
  have h2 := List.find?_some h
  have h3 := rg_mem.mp h1
  exact ⟨by omega, okS_iff.mp h2⟩
theorem spotF_ex {tx : List Int} {g : Int → Option (Int × Int)} {b e least x : Int} (hx : b ≤ x ∧ x ≤ e) (h : ∃ F E, g x = some (F, E) ∧ least ≤ gt tx x ∧ b ≤ F ∧ E ≤ e) : ∃ y, spotF tx g b e least = some y := by
  have : ((rg b (e + 1)).find? (okS tx g b e least)).isSome = true := by
    rw [List.find?_isSome]
    exact ⟨x, rg_mem.mpr (by omega), okS_iff.mpr h⟩
  exact Option.isSome_iff_exists.mp this
def plc (tx : List Int) : BT → Int → Int → Int → List Int
  | .nil, _, _, _ => []
  | .node l _ r, at_, b, e => (if l.isN then [] else plc tx l (oget (spotF tx (pr tx l) b (at_ - 1) (gt tx at_ + 1))) b (at_ - 1)) ++ [at_] ++ (if r.isN then [] else plc tx r (oget (spotF tx (pr tx r) (at_ + 1) e (gt tx at_))) (at_ + 1) e)
/-- the tree s can be put with its root at at_, within b .. e -/
structure Fit (tx : List Int) (s : BT) (at_ b e : Int) : Prop where
  b0 : 0 ≤ b
  en : e < tx.length
  a0 : 0 ≤ at_
  an : at_ < tx.length
  ex : ∃ F E, pr tx s at_ = some (F, E) ∧ b ≤ F ∧ E ≤ e
theorem lmax_mem {l : List Int} (h : l ≠ []) : lmax l ∈ l := (lmax_spec l h).1
theorem lmin_mem {l : List Int} (h : l ≠ []) : lmin l ∈ l := (lmin_spec l h).1
theorem Fit.left {tx : List Int} {l r : BT} {p c : Nat} {at_ b e : Int} (hp : PL c (.node l p r)) (h : Fit tx (.node l p r) at_ b e) (hl : l.isN = false) : ∃ j, spotF tx (pr tx l) b (at_ - 1) (gt tx at_ + 1) = some j ∧ Fit tx l j b (at_ - 1) ∧ gt tx at_ + 1 ≤ gt tx j ∧ b ≤ j ∧ j ≤ at_ - 1 := by
  obtain ⟨F, E, h1, h2, h3⟩ := h.ex
  have a0 := h.a0; have an := h.an; have b0 := h.b0
  have h4 := (comb_some.mp h1)
  rw [if_neg (by rw [hl]; decide)] at h4
  have hm := lmax_mem h4.1
  have hF : F = lmax (fsT tx (pr tx l) at_) := congrArg Prod.fst h4.2.2
  rw [← hF] at hm
  obtain ⟨j, E', j0, j1, hj, hj2, hj3⟩ := mem_fsT.mp hm
  obtain ⟨_, _, _, _, _, q1, q2, q3, q4⟩ := pr_le l hp.1 j0 (by omega) hj
  obtain ⟨y, hy⟩ := spotF_ex (tx := tx) (g := pr tx l) (b := b) (e := at_ - 1) (least := gt tx at_ + 1) (x := j) (by omega) ⟨F, E', hj, by omega, h2, by omega⟩
  obtain ⟨y1, F2, E2, y2, y3, y4, y5⟩ := spotF_in hy
  exact ⟨y, hy, ⟨b0, by omega, by omega, by omega, F2, E2, y2, y4, y5⟩, y3, y1.1, y1.2⟩
theorem Fit.right {tx : List Int} {l r : BT} {p c : Nat} {at_ b e : Int} (hp : PL c (.node l p r)) (h : Fit tx (.node l p r) at_ b e) (hr : r.isN = false) : ∃ j, spotF tx (pr tx r) (at_ + 1) e (gt tx at_) = some j ∧ Fit tx r j (at_ + 1) e ∧ gt tx at_ ≤ gt tx j ∧ at_ + 1 ≤ j ∧ j ≤ e := by
  obtain ⟨F, E, h1, h2, h3⟩ := h.ex
  have a0 := h.a0; have an := h.an; have en := h.en
  have h4 := (comb_some.mp h1)
  rw [if_neg (show ¬ r.isN = true by rw [hr]; decide)] at h4
  have hm := lmin_mem h4.2.1
  have hE : E = lmin (lsT tx (pr tx r) at_) := congrArg Prod.snd h4.2.2
  rw [← hE] at hm
  obtain ⟨j, F', j0, j1, hj, hj2, hj3⟩ := mem_lsT.mp hm
  obtain ⟨_, _, _, _, _, q1, q2, q3, q4⟩ := pr_le r hp.2.2 (by omega) j1 hj
  obtain ⟨y, hy⟩ := spotF_ex (tx := tx) (g := pr tx r) (b := at_ + 1) (e := e) (least := gt tx at_) (x := j) (by omega) ⟨F', E, hj, by omega, by omega, h3⟩
  obtain ⟨y1, F2, E2, y2, y3, y4, y5⟩ := spotF_in hy
  exact ⟨y, hy, ⟨by omega, en, by omega, by omega, F2, E2, y2, y4, y5⟩, y3, y1.1, y1.2⟩
theorem nb_app1 {l m : List Int} {i : Nat} (h : i < l.length) : nb (l ++ m) i = nb l i := by
  unfold nb; rw [List.getD_eq_getElem?_getD, List.getD_eq_getElem?_getD, List.getElem?_append_left h]
theorem nb_app2 {l m : List Int} {i : Nat} (h : l.length ≤ i) : nb (l ++ m) i = nb m (i - l.length) := by
  unfold nb; rw [List.getD_eq_getElem?_getD, List.getD_eq_getElem?_getD, List.getElem?_append_right h]
theorem isN_nil {s : BT} (h : s.isN = true) : s = .nil := by
  cases s with
  | nil => rfl
  | node => cases h
structure PlcOk (tx : List Int) (s : BT) (c : Nat) (at_ b e : Int) (one : List Int) : Prop where
  len : one.length = s.size
  inn : ∀ x ∈ one, b ≤ x ∧ x ≤ e
  up : one.Pairwise (· < ·)
  rt : ∀ x, s.root = some x → nb one (x.toNat - c) = at_
  fb : FB (fun q => gt tx (nb one (q - c))) s
theorem plc_ok {tx : List Int} : ∀ (s : BT) {c : Nat} {at_ b e : Int}, PL c s → Fit tx s at_ b e → PlcOk tx s c at_ b e (plc tx s at_ b e)
  | .nil, _, _, _, _, _, h => by obtain ⟨F, E, h1, _⟩ := h.ex; cases h1
  | .node l p r, c, at_, b, e, hp, h => by
    have hp' := hp
    obtain ⟨pl, ep, prr⟩ := hp'
    have hin : b ≤ at_ ∧ at_ ≤ e := by
      obtain ⟨F, E, h1, h2, h3⟩ := h.ex
      obtain ⟨_, _, _, _, _, q1, q2, q3, q4⟩ := pr_le (.node l p r) hp h.a0 h.an h1
      omega
    obtain ⟨L, hL, kL⟩ : ∃ L, L = (if l.isN then [] else plc tx l (oget (spotF tx (pr tx l) b (at_ - 1) (gt tx at_ + 1))) b (at_ - 1)) ∧ (L.length = l.size ∧ (∀ x ∈ L, b ≤ x ∧ x ≤ at_ - 1) ∧ L.Pairwise (· < ·) ∧ (∀ x, l.root = some x → gt tx at_ < gt tx (nb L (x.toNat - c))) ∧ FB (fun q => gt tx (nb L (q - c))) l) := by
      by_cases hn : l.isN = true
      · refine ⟨[], by rw [if_pos hn], ?_⟩
        rw [isN_nil hn]
        exact ⟨rfl, fun x hx => (by cases hx), .nil, fun x hx => (by cases hx), trivial⟩
      · obtain ⟨j, hj, hf, hg, _⟩ := h.left hp (by simpa using hn)
        have k := plc_ok l pl hf
        refine ⟨_, rfl, ?_⟩
        rw [if_neg hn, hj, show oget (some j) = j from rfl]
        exact ⟨k.len, k.inn, k.up, fun x hx => by rw [k.rt x hx]; omega, k.fb⟩
    obtain ⟨R, hR, kR⟩ : ∃ R, R = (if r.isN then [] else plc tx r (oget (spotF tx (pr tx r) (at_ + 1) e (gt tx at_))) (at_ + 1) e) ∧ (R.length = r.size ∧ (∀ x ∈ R, at_ + 1 ≤ x ∧ x ≤ e) ∧ R.Pairwise (· < ·) ∧ (∀ x, r.root = some x → gt tx at_ ≤ gt tx (nb R (x.toNat - (p + 1)))) ∧ FB (fun q => gt tx (nb R (q - (p + 1)))) r) := by
      by_cases hn : r.isN = true
      · refine ⟨[], by rw [if_pos hn], ?_⟩
        rw [isN_nil hn]
        exact ⟨rfl, fun x hx => (by cases hx), .nil, fun x hx => (by cases hx), trivial⟩
      · obtain ⟨j, hj, hf, hg, _⟩ := h.right hp (by simpa using hn)
        have k := plc_ok r prr hf
        refine ⟨_, rfl, ?_⟩
        rw [if_neg hn, hj, show oget (some j) = j from rfl]
        exact ⟨k.len, k.inn, k.up, fun x hx => by rw [k.rt x hx]; omega, k.fb⟩
    show PlcOk tx (.node l p r) c at_ b e (_ ++ [at_] ++ _)
    rw [← hL, ← hR]
    obtain ⟨L1, L2, L3, L4, L5⟩ := kL
    obtain ⟨R1, R2, R3, R4, R5⟩ := kR
    have hz : (BT.node l p r).size = l.size + r.size + 1 := rfl
    have eL : ∀ q, c ≤ q → q < c + l.size → nb (L ++ [at_] ++ R) (q - c) = nb L (q - c) := fun q q1 q2 => by
      rw [List.append_assoc, nb_app1 (by omega)]
    have eP : nb (L ++ [at_] ++ R) (p - c) = at_ := by
      rw [List.append_assoc, nb_app2 (by omega), show p - c - L.length = 0 by omega]; rfl
    have eR : ∀ q, p + 1 ≤ q → q < p + 1 + r.size → nb (L ++ [at_] ++ R) (q - c) = nb R (q - (p + 1)) := fun q q1 q2 => by
      rw [nb_app2 (by rw [List.length_append, List.length_singleton]; omega), List.length_append, List.length_singleton, show q - c - (L.length + 1) = q - (p + 1) by omega]
    refine ⟨by rw [List.length_append, List.length_append, List.length_singleton]; omega, fun x hx => ?_, ?_, fun x hx => ?_, fun x hx => ?_, fun x hx => ?_, ?_, ?_⟩
    · rcases List.mem_append.mp hx with hx | hx
      · rcases List.mem_append.mp hx with hx | hx
        · have := L2 x hx; omega
        · rw [List.mem_singleton.mp hx]; exact hin
      · have := R2 x hx; omega
    · rw [List.pairwise_append, List.pairwise_append]
      refine ⟨⟨L3, List.pairwise_singleton _ _, fun x hx y hy => ?_⟩, R3, fun x hx y hy => ?_⟩
      · rw [List.mem_singleton.mp hy]; have := L2 x hx; omega
      · have := R2 y hy
        rcases List.mem_append.mp hx with hx | hx
        · have := L2 x hx; omega
        · rw [List.mem_singleton.mp hx]; omega
    · have e0 : some (p : Int) = some x := hx
      cases e0
      rw [Int.toNat_natCast]; exact eP
    · have := root_in pl hx
      show gt tx (nb _ (p - c)) < gt tx (nb _ (x.toNat - c))
      rw [eP, eL _ (by omega) (by omega)]
      exact L4 x hx
    · have := root_in prr hx
      show gt tx (nb _ (p - c)) ≤ gt tx (nb _ (x.toNat - c))
      rw [eP, eR _ (by omega) (by omega)]
      exact R4 x hx
    · exact L5.congr pl fun q q1 q2 => by rw [eL q q1 q2]
    · exact R5.congr prr fun q q1 q2 => by rw [eR q q1 q2]
end Lo
end TM


set_option linter.all false
set_option maxHeartbeats 1000000
namespace TM
namespace Lo
open GL
/-! ### the finder's state -/
abbrev FS := List Int × List (Option Int × Option Int) × OT × Unit × Unit
def subF (h : List (Option Int × Option Int)) (p : Int) : BT := btF (gt h) 60 (some p)
theorem HB.cg {n : Nat} {f g : Int → Option Int × Option Int} {o : Option Int} {b : BT} (h : HB n f o b) (e : ∀ p : Nat, p < n → f p = g p) : HB n g o b := by
  induction h with
  | nil => exact .nil
  | node hp _ _ i1 i2 =>
    rw [e _ hp] at i1 i2
    exact .node hp i1 i2
theorem subF_is {row : List Int} (hl : row.length ≤ 40) {q : Int} (hq : 0 ≤ q ∧ q < row.length) : subF (handsL (treeOf row)) q = sub (treeOf row) q := by
  obtain ⟨a, b, s, h⟩ := sub_at hl (q := q.toNat) (by omega)
  have e := h.eq
  have hb := h.hb
  rw [show ((q.toNat : Nat) : Int) = q by omega] at e hb
  have hb' := HB.cg (g := gt (handsL (treeOf row))) hb fun p hp => (gt_handsL (by rw [treeOf_len]; exact hp)).symm
  rw [e]
  exact hb'.bt 60 (by have := s.hs; have := h.size; have := h.bn; omega)
def FOk (f : FS) : Prop := ∃ row : List Int, (1 ≤ row.length ∧ row.length ≤ 6) ∧ f.1.length ≤ 16 ∧ f.2.1 = handsL (treeOf row) ∧ f.2.2.1 = tabL f.1 row
theorem FOk.lens {f : FS} (h : FOk f) : f.1.length ≤ 16 ∧ f.2.2.1.length = f.2.1.length ∧ f.2.1.length ≤ 6 ∧ ∀ l ∈ f.2.2.1, l.length = f.1.length := by
  obtain ⟨row, h1, h2, h3, h4⟩ := h
  rw [h3, h4, tabL_len, handsL_len, treeOf_len]
  exact ⟨h2, rfl, h1.2, fun l hl => tabL_mem hl⟩
theorem FOk.line {f : FS} (h : FOk f) {p : Int} (hp : 0 ≤ p ∧ p < f.2.1.length) {a : Int} (ha : 0 ≤ a ∧ a < f.1.length) : gt (gt f.2.2.1 p) a = pr f.1 (subF f.2.1 p) a := by
  obtain ⟨row, h1, h2, h3, h4⟩ := h
  rw [h3, handsL_len, treeOf_len] at hp
  rw [h4, h3, gt_tabL hp, gt_line ha, subF_is (by omega) hp]
def kid (h : List (Option Int × Option Int)) (o : Option Int) : BT := match o with
  | none => .nil
  | some x => subF h x
theorem FOk.node {f : FS} (h : FOk f) {p : Int} (hp : 0 ≤ p ∧ p < f.2.1.length) : (∃ n, subF f.2.1 p = .node (kid f.2.1 (gt f.2.1 p).1) n (kid f.2.1 (gt f.2.1 p).2)) ∧ (∃ c, PL c (subF f.2.1 p)) ∧
    (∀ x, (gt f.2.1 p).1 = some x → 0 ≤ x ∧ x < f.2.1.length) ∧ (∀ x, (gt f.2.1 p).2 = some x → 0 ≤ x ∧ x < f.2.1.length) := by
  obtain ⟨row, h1, h2, h3, h4⟩ := h
  have hl : f.2.1.length = row.length := by rw [h3, handsL_len, treeOf_len]
  rw [hl] at hp ⊢
  obtain ⟨l, r, e1, e2, e3, e4, e5, e6⟩ := sub_node (row := row) (by omega) (q := p.toNat) (by omega)
  rw [show ((p.toNat : Nat) : Int) = p by omega] at e1 e2 e3 e4 e5 e6
  have hg : gt f.2.1 p = hT (treeOf row) p := by
    have := gt_handsL (t := treeOf row) (p := p.toNat) (by rw [treeOf_len]; omega)
    rw [show ((p.toNat : Nat) : Int) = p by omega] at this
    rw [h3]; exact this
  have es : subF f.2.1 p = sub (treeOf row) p := by rw [h3]; exact subF_is (by omega) hp
  rw [es, hg]
  have kl : kid f.2.1 (hT (treeOf row) p).1 = l := by
    cases e : (hT (treeOf row) p).1 with
    | none => exact (e4 e).symm
    | some x =>
      obtain ⟨x0, x1, _, el⟩ := e3 x e
      rw [el, h3]; exact subF_is (by omega) ⟨x0, x1⟩
  have kr : kid f.2.1 (hT (treeOf row) p).2 = r := by
    cases e : (hT (treeOf row) p).2 with
    | none => exact (e6 e).symm
    | some x =>
      obtain ⟨x0, x1, _, el⟩ := e5 x e
      rw [el, h3]; exact subF_is (by omega) ⟨x0, x1⟩
  rw [kl, kr]
  exact ⟨⟨_, e1⟩, e2, fun x hx => ⟨(e3 x hx).1, (e3 x hx).2.1⟩, fun x hx => ⟨(e5 x hx).1, (e5 x hx).2.1⟩⟩
def plcL (tx : List Int) (s : BT) (at_ b : Int) : List Int := if s.isN then [] else plc tx s (oget (spotF tx (pr tx s) b (at_ - 1) (gt tx at_ + 1))) b (at_ - 1)
def plcR (tx : List Int) (s : BT) (at_ e : Int) : List Int := if s.isN then [] else plc tx s (oget (spotF tx (pr tx s) (at_ + 1) e (gt tx at_))) (at_ + 1) e
theorem FOk.plc {f : FS} (h : FOk f) {p : Int} (hp : 0 ≤ p ∧ p < f.2.1.length) (a b e : Int) : plc f.1 (subF f.2.1 p) a b e = plcL f.1 (kid f.2.1 (gt f.2.1 p).1) a b ++ [a] ++ plcR f.1 (kid f.2.1 (gt f.2.1 p).2) a e := by
  obtain ⟨⟨n, e1⟩, _⟩ := h.node hp
  rw [e1]; rfl
theorem kid_some {h : List (Option Int × Option Int)} {x : Int} : (kid h (some x)).isN = false := rfl
theorem FOk.left {f : FS} (h : FOk f) {p : Int} (hp : 0 ≤ p ∧ p < f.2.1.length) {a b e : Int} (hf : Fit f.1 (subF f.2.1 p) a b e) {x : Int} (hx : (gt f.2.1 p).1 = some x) : (0 ≤ x ∧ x < f.2.1.length) ∧ (subF f.2.1 x).size < (subF f.2.1 p).size ∧
    ∃ j, spotF f.1 (pr f.1 (subF f.2.1 x)) b (a - 1) (gt f.1 a + 1) = some j ∧ Fit f.1 (subF f.2.1 x) j b (a - 1) ∧ plcL f.1 (kid f.2.1 (some x)) a b = Lo.plc f.1 (subF f.2.1 x) j b (a - 1) := by
  obtain ⟨⟨n, e1⟩, ⟨c, hc⟩, h1, _⟩ := h.node hp
  rw [e1] at hf hc
  rw [hx] at hf hc e1
  obtain ⟨j, j1, j2, _⟩ := hf.left hc (kid_some (h := f.2.1) (x := x))
  refine ⟨h1 x hx, ?_, j, j1, j2, ?_⟩
  · rw [e1]; show _ < (subF f.2.1 x).size + _ + 1; omega
  · unfold plcL
    rw [if_neg (by rw [kid_some]; decide)]
    show Lo.plc f.1 (subF f.2.1 x) (oget (spotF f.1 (pr f.1 (subF f.2.1 x)) _ _ _)) _ _ = _
    rw [show spotF f.1 (pr f.1 (subF f.2.1 x)) b (a - 1) (gt f.1 a + 1) = some j from j1]; rfl
theorem FOk.right {f : FS} (h : FOk f) {p : Int} (hp : 0 ≤ p ∧ p < f.2.1.length) {a b e : Int} (hf : Fit f.1 (subF f.2.1 p) a b e) {x : Int} (hx : (gt f.2.1 p).2 = some x) : (0 ≤ x ∧ x < f.2.1.length) ∧ (subF f.2.1 x).size < (subF f.2.1 p).size ∧
    ∃ j, spotF f.1 (pr f.1 (subF f.2.1 x)) (a + 1) e (gt f.1 a) = some j ∧ Fit f.1 (subF f.2.1 x) j (a + 1) e ∧ plcR f.1 (kid f.2.1 (some x)) a e = Lo.plc f.1 (subF f.2.1 x) j (a + 1) e := by
  obtain ⟨⟨n, e1⟩, ⟨c, hc⟩, _, h1⟩ := h.node hp
  rw [e1] at hf hc
  rw [hx] at hf hc e1
  obtain ⟨j, j1, j2, _⟩ := hf.right hc (kid_some (h := f.2.1) (x := x))
  refine ⟨h1 x hx, ?_, j, j1, j2, ?_⟩
  · rw [e1]; show _ < _ + (subF f.2.1 x).size + 1; omega
  · unfold plcR
    rw [if_neg (by rw [kid_some]; decide)]
    show Lo.plc f.1 (subF f.2.1 x) (oget (spotF f.1 (pr f.1 (subF f.2.1 x)) _ _ _)) _ _ = _
    rw [show spotF f.1 (pr f.1 (subF f.2.1 x)) (a + 1) e (gt f.1 a) = some j from j1]; rfl
theorem FOk.size {f : FS} (h : FOk f) {p : Int} (hp : 0 ≤ p ∧ p < f.2.1.length) : (subF f.2.1 p).size ≤ 6 := by
  obtain ⟨row, h1, h2, h3, h4⟩ := h
  rw [h3, handsL_len, treeOf_len] at hp
  rw [h3, subF_is (by omega) hp]
  obtain ⟨a, b, s, hs⟩ := sub_at (row := row) (by omega) (q := p.toNat) (by omega)
  have e := hs.eq
  rw [show ((p.toNat : Nat) : Int) = p by omega] at e
  rw [e, hs.size]
  have := hs.bn
  omega
theorem FOk.plen {f : FS} (h : FOk f) {p : Int} (hp : 0 ≤ p ∧ p < f.2.1.length) {a b e : Int} (hf : Fit f.1 (subF f.2.1 p) a b e) : (Lo.plc f.1 (subF f.2.1 p) a b e).length ≤ 6 := by
  obtain ⟨_, ⟨c, hc⟩, _⟩ := h.node hp
  rw [(plc_ok _ hc hf).len]
  exact h.size hp
end Lo
end TM


set_option linter.all false
set_option maxHeartbeats 1000000
namespace TM
namespace Lo
open GL
def placesIn (row text : List Int) (a b : Int) : Option (List Int) :=
  (spotF (sl text (some a) (some (b + 1))) (pr (sl text (some a) (some (b + 1))) (subF (handsL (treeOf row)) (((treeOf row).idxOf (-1) : Nat) : Int))) 0 ((sl text (some a) (some (b + 1))).length - 1) (lmin (sl text (some a) (some (b + 1))))).map fun x =>
    (plc (sl text (some a) (some (b + 1))) (subF (handsL (treeOf row)) (((treeOf row).idxOf (-1) : Nat) : Int)) x 0 ((sl text (some a) (some (b + 1))).length - 1)).map fun y => a + y
def asked53 (x : Addr) (row text : List Int) (a b : Int) : Option (Sum Addr (List Int)) := if 0 ≤ a ∧ a ≤ b ∧ b < text.length then (placesIn row text a b).map Sum.inr else some (.inl x)
structure HoldsP (row text : List Int) (a b : Int) (one : List Int) : Prop where
  len : one.length = row.length
  inn : ∀ x ∈ one, (a ≤ x ∧ x ≤ b) ∧ 0 ≤ x ∧ x < text.length
  up : one.Pairwise (· < ·)
  tree : treeOf (one.map fun x => gt text x) = treeOf row
theorem gtB_in {l : List Int} (h : 0 < l.length) : gtB l 1 ∈ l := by
  unfold gtB
  rw [List.getD_eq_getElem?_getD, List.getElem?_eq_getElem (by omega)]
  exact List.getElem_mem _
theorem gt_part {text : List Int} {a b j : Int} (h : 0 ≤ a ∧ a ≤ b ∧ b < text.length) (hj : 0 ≤ j ∧ j < b + 1 - a) : gt (sl text (some a) (some (b + 1))) j = gt text (a + j) := by
  rw [sl_mid (by omega)]
  unfold gt
  rw [List.getD_eq_getElem?_getD, List.getD_eq_getElem?_getD, List.getElem?_take, if_pos (by omega), List.getElem?_drop, show a.toNat + j.toNat = (a + j).toNat by omega]
theorem mono_le {s : BT} {tx : List Int} {f : Nat → Int} (h : Emb tx s 0 f) {q : Nat} (hq : q < s.size) : f 0 ≤ f q ∧ f q ≤ f (s.size - 1) := by
  constructor
  · rcases Nat.eq_zero_or_pos q with z | z
    · rw [z]; exact Int.le_refl _
    · exact Int.le_of_lt (h.up 0 q (Nat.le_refl _) z (by omega))
  · by_cases z : q = s.size - 1
    · rw [z]; exact Int.le_refl _
    · exact Int.le_of_lt (h.up q (s.size - 1) (Nat.zero_le _) (by omega) (by omega))
theorem places_main {row text : List Int} (hr : 1 ≤ row.length ∧ row.length ≤ 6 ∧ text.length ≤ 16) {a b : Int} (hab : 0 ≤ a ∧ a ≤ b ∧ b < text.length) :
    ((∃ x ∈ somes (topL text row), a ≤ x.1 ∧ x.2 ≤ b) → ∃ one, placesIn row text a b = some one ∧ HoldsP row text a b one) ∧ ((∃ one, placesIn row text a b = some one) → ∃ x ∈ somes (topL text row), a ≤ x.1 ∧ x.2 ≤ b) := by
  obtain ⟨s, h⟩ := top_sub hr.1 (by omega)
  have htl := top_lt hr.1
  have hsz := h.size
  have hpl := h.pl
  have es : subF (handsL (treeOf row)) (((treeOf row).idxOf (-1) : Nat) : Int) = s := (subF_is (by omega) (by omega)).trans h.eq
  obtain ⟨part, hpart⟩ : ∃ part, part = sl text (some a) (some (b + 1)) := ⟨_, rfl⟩
  have plen : (part.length : Int) = b + 1 - a := by rw [hpart]; exact sl_win2_len hab
  have hgp : ∀ {j : Int}, 0 ≤ j → j < b + 1 - a → gt part j = gt text (a + j) := fun h1 h2 => by rw [hpart]; exact gt_part hab ⟨h1, h2⟩
  have hpi : placesIn row text a b = (spotF part (pr part s) 0 ((part.length : Int) - 1) (lmin part)).map fun x => (plc part s x 0 ((part.length : Int) - 1)).map fun y => a + y := by
    rw [hpart, ← es]; rfl
  rw [topL_is hr.1 h]
  constructor
  · rintro ⟨x, hx, x1, x2⟩
    obtain ⟨at_, ha, e⟩ := mem_somes.mp hx
    obtain ⟨f, he, _, f1, f2, _⟩ := pr_le s hpl ha.1 ha.2 (show pr text s at_ = some (x.1, x.2) from e)
    rw [Nat.zero_add] at f2
    have hb : ∀ q, q < s.size → a ≤ f q ∧ f q ≤ b := fun q hq => by have := mono_le he hq; omega
    have he' : Emb part s 0 (fun q => f q - a) := ⟨fun q q1 q2 => by have := hb q (by omega); omega, fun q q' q1 q2 q3 => by have := he.up q q' q1 q2 q3; omega, he.ok.congr hpl fun q q1 q2 => by
      have := hb q (by omega)
      rw [hgp (by omega) (by omega)]; congr 1; omega⟩
    obtain ⟨F, E, g1, g2, g3⟩ := pr_ge s hpl he' h.root
    have hroot : (((treeOf row).idxOf (-1) : Nat) : Int).toNat < s.size := by rw [Int.toNat_natCast]; omega
    have hbr := hb _ hroot
    have hb0 := hb 0 (by omega)
    have hbz := hb (s.size - 1) (by omega)
    rw [Nat.zero_add] at g3
    obtain ⟨y, hy⟩ := spotF_ex (tx := part) (g := pr part s) (b := 0) (e := (part.length : Int) - 1) (least := lmin part) (x := f (((treeOf row).idxOf (-1) : Nat) : Int).toNat - a) (by omega) ⟨F, E, g1, (lmin_spec part (fun z => by rw [z] at plen; simp at plen; omega)).2 _ (gt_in (by omega)), by omega, by omega⟩
    obtain ⟨y1, F2, E2, y2, y3, y4, y5⟩ := spotF_in hy
    have k := plc_ok s hpl (show Fit part s y 0 ((part.length : Int) - 1) from ⟨Int.le_refl _, by omega, by omega, by omega, F2, E2, y2, y4, y5⟩)
    refine ⟨_, by rw [hpi, hy]; rfl, ?_, fun z hz => ?_, ?_, ?_⟩
    · rw [List.length_map, k.len]; omega
    · obtain ⟨w, hw, rfl⟩ := List.mem_map.mp hz
      have := k.inn w hw; omega
    · exact List.pairwise_map.mpr (k.up.imp fun h => by omega)
    · have hz : ((plc part s y 0 ((part.length : Int) - 1)).map fun y => a + y).map (fun x => gt text x) = (plc part s y 0 ((part.length : Int) - 1)).map fun x => gt part x := by
        rw [List.map_map]
        refine List.map_congr_left fun w hw => ?_
        have := k.inn w hw
        show gt text (a + w) = gt part w
        rw [hgp (by omega) (by omega)]
      rw [hz]
      have hown := h.own (row := row) (by omega)
      rw [whole_sl] at hown
      rw [hown]
      refine (h.tree (by omega) (by rw [List.length_map, k.len]; exact h.size)).mpr ?_
      refine k.fb.congr hpl fun q q1 q2 => ?_
      rw [nb_map' (by rw [k.len]; omega)]
  · rintro ⟨one, ho⟩
    rw [hpi] at ho
    cases hy : spotF part (pr part s) 0 ((part.length : Int) - 1) (lmin part) with
    | none => rw [hy] at ho; cases ho
    | some y =>
      obtain ⟨y1, F2, E2, y2, y3, y4, y5⟩ := spotF_in hy
      obtain ⟨f, he, _, f1, f2, q1, q2, q3, q4⟩ := pr_le s hpl (by omega) (by omega) y2
      have hm : ∀ q, q < s.size → 0 ≤ f q ∧ f q < part.length := fun q hq => he.r q (Nat.zero_le _) (by omega)
      have he' : Emb text s 0 (fun q => a + f q) := ⟨fun q q1 q2 => by have := hm q (by omega); omega, fun q q' q1 q2 q3 => by have := he.up q q' q1 q2 q3; omega, he.ok.congr hpl fun q q1 q2 => by
        have := hm q (by omega)
        rw [hgp (by omega) (by omega)]⟩
      obtain ⟨F, E, g1, g2, g3⟩ := pr_ge s hpl he' h.root
      have hroot : (((treeOf row).idxOf (-1) : Nat) : Int).toNat < s.size := by rw [Int.toNat_natCast]; omega
      have hmr := hm _ hroot
      have hm0 := hm 0 (by omega)
      rw [Nat.zero_add] at g3
      have hmz := hm (s.size - 1) (by omega)
      exact ⟨(F, E), mem_somes.mpr ⟨_, ⟨by omega, by omega⟩, g1⟩, by show a ≤ F; omega, by show E ≤ b; omega⟩
end Lo
end TM


set_option linter.all false
set_option maxHeartbeats 1000000
namespace TM
namespace Lo
open GL
/-! ### how many tuples: the count over a tree, and what is known of it -/
def mof (tx : List Int) : BT → Int → Int → Int → Int
  | .nil, _, _, _ => 1
  | .node l n r, b, e, least => (((rg b (e + 1)).filter fun a => decide (gt tx a ≥ least) && (pr tx (.node l n r) a).isSome).map fun a => mof tx l b (a - 1) (gt tx a + 1) * mof tx r (a + 1) e (gt tx a)).sum
def mat (tx : List Int) (t : BT) (a b e : Int) : Int := match t with
  | .nil => 1
  | .node l _ r => mof tx l b (a - 1) (gt tx a + 1) * mof tx r (a + 1) e (gt tx a)
def spots (tx : List Int) (t : BT) (b e least : Int) : List Int := (rg b (e + 1)).filter fun a => decide (gt tx a ≥ least) && (pr tx t a).isSome
/-! what is known -/
def lvls (tx : List Int) : List Int := 0 :: (tx ++ tx.map (· + 1))
def allK (tx : List Int) : List (List Int) := (rg 0 6).flatMap fun p => (rg 0 17).flatMap fun b => (rg (-1) 16).flatMap fun e => (lvls tx).map fun l => [p, b, e, l]
theorem flat_len {α β : Type} {f : α → List β} {n : Nat} : ∀ {l : List α}, (∀ x ∈ l, (f x).length = n) → (l.flatMap f).length = l.length * n
  | [], _ => by simp
  | x :: l, h => by rw [List.flatMap_cons, List.length_append, h x List.mem_cons_self, flat_len fun y hy => h y (List.mem_cons_of_mem _ hy), List.length_cons, Nat.add_mul, Nat.one_mul, Nat.add_comm]
theorem allK_len {tx : List Int} (h : tx.length ≤ 16) : (allK tx).length < 1000000 := by
  have hl : (lvls tx).length ≤ 33 := by unfold lvls; rw [List.length_cons, List.length_append, List.length_map]; omega
  unfold allK
  rw [flat_len (n := 17 * (17 * (lvls tx).length)) fun p _ => ?_, rg_len]
  · show 6 * (17 * (17 * (lvls tx).length)) < 1000000; omega
  · rw [flat_len (n := 17 * (lvls tx).length) fun b _ => ?_, rg_len]
    · rfl
    · rw [flat_len (n := (lvls tx).length) fun e _ => ?_, rg_len]
      · rfl
      · rw [List.length_map]
theorem allK_in {tx : List Int} {p b e l : Int} (h1 : 0 ≤ p ∧ p < 6) (h2 : 0 ≤ b ∧ b < 17) (h3 : -1 ≤ e ∧ e < 16) (h4 : l ∈ lvls tx) : [p, b, e, l] ∈ allK tx := by
  unfold allK
  simp only [List.mem_flatMap, List.mem_map]
  exact ⟨p, rg_mem.mpr h1, b, rg_mem.mpr h2, e, rg_mem.mpr h3, l, h4, rfl⟩
abbrev FM := List Int × List (Option Int × Option Int) × OT × List (List Int × Int) × Unit
def FM.st (f : FM) : FS := (f.1, f.2.1, f.2.2.1, (), ())
structure KOk (f : FM) : Prop where
  ok : FOk f.st
  nd : (f.2.2.2.1.map Prod.fst).Nodup
  inn : ∀ k ∈ f.2.2.2.1.map Prod.fst, k ∈ allK f.1
  val : ∀ p b e l v, dget f.2.2.2.1 [p, b, e, l] = some v → v = mof f.1 (subF f.2.1 p) b e l
structure Box (tx : List Int) (b e l : Int) : Prop where
  b0 : 0 ≤ b
  be : b ≤ e + 1
  en : e < tx.length
  lv : l ∈ lvls tx
theorem KOk.lens {f : FM} (h : KOk f) : f.1.length ≤ 16 ∧ f.2.2.1.length = f.2.1.length ∧ f.2.1.length ≤ 6 ∧ ∀ l ∈ f.2.2.1, l.length = f.1.length := h.ok.lens
theorem KOk.few {f : FM} (h : KOk f) : f.2.2.2.1.length < 1000000 := by
  obtain ⟨T, hT⟩ := perm_sub h.nd h.inn
  have := hT.length_eq
  rw [List.length_append, List.length_map] at this
  have := allK_len h.lens.1
  omega
theorem KOk.put {f : FM} (h : KOk f) {p b e l : Int} (hp : 0 ≤ p ∧ p < f.2.1.length) (hb : Box f.1 b e l) {v : Int} (hv : v = mof f.1 (subF f.2.1 p) b e l) : KOk (f.1, f.2.1, f.2.2.1, dput f.2.2.2.1 [p, b, e, l] v, f.2.2.2.2) := by
  have hl := h.lens
  have hb' := hb
  obtain ⟨b0, be, en, lv⟩ := hb'
  have hk : [p, b, e, l] ∈ allK f.1 := allK_in (by omega) (by omega) (by omega) lv
  refine ⟨h.ok, ?_, ?_, fun p' b' e' l' v' hg => ?_⟩
  · show ((dput f.2.2.2.1 [p, b, e, l] v).map Prod.fst).Nodup
    unfold dput
    split
    · rw [List.map_map, List.map_congr_left (g := Prod.fst)]
      · exact h.nd
      · intro q _; show (if q.1 = [p, b, e, l] then (q.1, v) else q).1 = q.1; split <;> rfl
    · rename_i hn
      rw [List.map_append]
      refine List.nodup_append.mpr ⟨h.nd, by simp, fun a ha c hc => ?_⟩
      rw [List.map_cons, List.map_nil, List.mem_singleton] at hc
      subst hc
      intro e'
      obtain ⟨q, hq, rfl⟩ := List.mem_map.mp ha
      exact hn (List.any_eq_true.mpr ⟨q, hq, decide_eq_true e'⟩)
  · intro k hk'
    have hk2 : k ∈ (dput f.2.2.2.1 [p, b, e, l] v).map Prod.fst := hk'
    unfold dput at hk2
    split at hk2
    · rw [List.map_map, List.map_congr_left (g := Prod.fst)] at hk2
      · exact h.inn k hk2
      · intro q _; show (if q.1 = [p, b, e, l] then (q.1, v) else q).1 = q.1; split <;> rfl
    · rw [List.map_append, List.mem_append] at hk2
      rcases hk2 with z | z
      · exact h.inn k z
      · rw [List.map_cons, List.map_nil, List.mem_singleton] at z
        rw [z]; exact hk
  · have hg' : dget (dput f.2.2.2.1 [p, b, e, l] v) [p', b', e', l'] = some v' := hg
    rw [dget_dput] at hg'
    split at hg'
    · rename_i he
      injection he with e1 he
      injection he with e2 he
      injection he with e3 he
      injection he with e4 _
      subst e1 e2 e3 e4
      cases hg'
      exact hv
    · exact h.val _ _ _ _ _ hg'
theorem KOk.node {f : FM} (h : KOk f) {p : Int} (hp : 0 ≤ p ∧ p < f.2.1.length) : (∃ n, subF f.2.1 p = .node (kid f.2.1 (gt f.2.1 p).1) n (kid f.2.1 (gt f.2.1 p).2)) ∧
    (∀ x, (gt f.2.1 p).1 = some x → 0 ≤ x ∧ x < f.2.1.length) ∧ (∀ x, (gt f.2.1 p).2 = some x → 0 ≤ x ∧ x < f.2.1.length) :=
  let z := h.ok.node hp
  ⟨z.1, z.2.2.1, z.2.2.2⟩
theorem KOk.size {f : FM} (h : KOk f) {p : Int} (hp : 0 ≤ p ∧ p < f.2.1.length) : (subF f.2.1 p).size ≤ 6 := h.ok.size hp
theorem KOk.sizes {f : FM} (h : KOk f) {p : Int} (hp : 0 ≤ p ∧ p < f.2.1.length) : (subF f.2.1 p).size = (kid f.2.1 (gt f.2.1 p).1).size + (kid f.2.1 (gt f.2.1 p).2).size + 1 := by
  obtain ⟨⟨n, e⟩, _⟩ := h.node hp
  rw [e]; rfl
theorem KOk.mat {f : FM} (h : KOk f) {p : Int} (hp : 0 ≤ p ∧ p < f.2.1.length) (a b e : Int) : Lo.mat f.1 (subF f.2.1 p) a b e = mof f.1 (kid f.2.1 (gt f.2.1 p).1) b (a - 1) (gt f.1 a + 1) * mof f.1 (kid f.2.1 (gt f.2.1 p).2) (a + 1) e (gt f.1 a) := by
  obtain ⟨⟨n, e1⟩, _⟩ := h.node hp
  rw [e1]; rfl
theorem KOk.line {f : FM} (h : KOk f) {p : Int} (hp : 0 ≤ p ∧ p < f.2.1.length) {a : Int} (ha : 0 ≤ a ∧ a < f.1.length) : gt (gt f.2.2.1 p) a = pr f.1 (subF f.2.1 p) a := h.ok.line hp ha
def Sm (f g : FM) : Prop := f.1 = g.1 ∧ f.2.1 = g.2.1
def Has (f : FM) (k : List Int) : Prop := (dget f.2.2.2.1 k).isSome = true
theorem Has.put {t : List Int} {h : List (Option Int × Option Int)} {o : OT} {d : List (List Int × Int)} {u : Unit} {k : List Int} {v : Int} : Has (t, h, o, dput d k v, u) k := by
  show (dget (dput d k v) k).isSome = true
  rw [dget_dput, if_pos rfl]; rfl
theorem KOk.get {f : FM} (h : KOk f) {p b e l : Int} (hs : Has f [p, b, e, l]) : dgetV f.2.2.2.1 [p, b, e, l] = mof f.1 (subF f.2.1 p) b e l := by
  obtain ⟨v, hv⟩ := Option.isSome_iff_exists.mp hs
  unfold dgetV
  rw [hv]
  exact h.val _ _ _ _ _ hv
theorem KOk.spots {f : FM} (h : KOk f) {p : Int} (hp : 0 ≤ p ∧ p < f.2.1.length) {b e l : Int} (hb : 0 ≤ b) (he : e < f.1.length) : (rg b (e + 1)).filter (fun c => decide ((l ≤ gt f.1 c) ∧ (¬ gt (gt f.2.2.1 p) c = none))) = Lo.spots f.1 (subF f.2.1 p) b e l := by
  unfold Lo.spots
  refine List.filter_congr fun c hc => ?_
  have hc' := rg_mem.mp hc
  rw [h.line hp (by omega)]
  cases e1 : pr f.1 (subF f.2.1 p) c with
  | none => simp
  | some q => simp
end Lo
end TM


set_option linter.all false
set_option maxHeartbeats 1000000
namespace TM
namespace Lo
open GL
def manyL (row text : List Int) : Int := mof text (kid (handsL (treeOf row)) (some (((treeOf row).idxOf (-1) : Nat) : Int))) 0 (text.length - 1) (dmin text 0)
theorem KOk.new {row text : List Int} (h : (1 ≤ row.length ∧ row.length ≤ 6) ∧ text.length ≤ 16) : KOk (text, handsL (treeOf row), tabL text row, [], ()) :=
  ⟨⟨row, h.1, h.2, rfl, rfl⟩, by show ([] : List (List Int)).Nodup; exact List.nodup_nil, fun k hk => (by cases (show k ∈ ([] : List (List Int)) from hk)), fun p b e l v hv => by cases (show (none : Option Int) = some v from hv)⟩
theorem Box.all {text : List Int} : Box text 0 (text.length - 1) (dmin text 0) := ⟨Int.le_refl _, by omega, by omega, by
  unfold dmin
  split
  · exact List.mem_cons_self
  · rename_i hn
    exact List.mem_cons_of_mem _ (List.mem_append_left _ (lmin_spec _ hn).1)⟩
end Lo
end TM


set_option linter.all false
set_option maxHeartbeats 1000000
namespace TM
namespace Lo
open GL
/-! ### the same words over the finder with its dict -/
def FOkK (f : FM) : Prop := FOk f.st
theorem FOkK.lens {f : FM} (h : FOkK f) : f.1.length ≤ 16 ∧ f.2.2.1.length = f.2.1.length ∧ f.2.1.length ≤ 6 ∧ ∀ l ∈ f.2.2.1, l.length = f.1.length := FOk.lens (f := f.st) h 
theorem FOkK.line {f : FM} (h : FOkK f) {p : Int} (hp : 0 ≤ p ∧ p < f.2.1.length) {a : Int} (ha : 0 ≤ a ∧ a < f.1.length) : gt (gt f.2.2.1 p) a = pr f.1 (subF f.2.1 p) a := FOk.line (f := f.st) h hp ha
theorem FOkK.node {f : FM} (h : FOkK f) {p : Int} (hp : 0 ≤ p ∧ p < f.2.1.length) : (∃ n, subF f.2.1 p = .node (kid f.2.1 (gt f.2.1 p).1) n (kid f.2.1 (gt f.2.1 p).2)) ∧ (∃ c, PL c (subF f.2.1 p)) ∧
    (∀ x, (gt f.2.1 p).1 = some x → 0 ≤ x ∧ x < f.2.1.length) ∧ (∀ x, (gt f.2.1 p).2 = some x → 0 ≤ x ∧ x < f.2.1.length) := FOk.node (f := f.st) h hp
theorem FOkK.plc {f : FM} (h : FOkK f) {p : Int} (hp : 0 ≤ p ∧ p < f.2.1.length) (a b e : Int) : plc f.1 (subF f.2.1 p) a b e = plcL f.1 (kid f.2.1 (gt f.2.1 p).1) a b ++ [a] ++ plcR f.1 (kid f.2.1 (gt f.2.1 p).2) a e := FOk.plc (f := f.st) h hp a b e
theorem FOkK.left {f : FM} (h : FOkK f) {p : Int} (hp : 0 ≤ p ∧ p < f.2.1.length) {a b e : Int} (hf : Fit f.1 (subF f.2.1 p) a b e) {x : Int} (hx : (gt f.2.1 p).1 = some x) : (0 ≤ x ∧ x < f.2.1.length) ∧ (subF f.2.1 x).size < (subF f.2.1 p).size ∧
    ∃ j, spotF f.1 (pr f.1 (subF f.2.1 x)) b (a - 1) (gt f.1 a + 1) = some j ∧ Fit f.1 (subF f.2.1 x) j b (a - 1) ∧ plcL f.1 (kid f.2.1 (some x)) a b = Lo.plc f.1 (subF f.2.1 x) j b (a - 1) := FOk.left (f := f.st) h hp hf hx
theorem FOkK.right {f : FM} (h : FOkK f) {p : Int} (hp : 0 ≤ p ∧ p < f.2.1.length) {a b e : Int} (hf : Fit f.1 (subF f.2.1 p) a b e) {x : Int} (hx : (gt f.2.1 p).2 = some x) : (0 ≤ x ∧ x < f.2.1.length) ∧ (subF f.2.1 x).size < (subF f.2.1 p).size ∧
    ∃ j, spotF f.1 (pr f.1 (subF f.2.1 x)) (a + 1) e (gt f.1 a) = some j ∧ Fit f.1 (subF f.2.1 x) j (a + 1) e ∧ plcR f.1 (kid f.2.1 (some x)) a e = Lo.plc f.1 (subF f.2.1 x) j (a + 1) e := FOk.right (f := f.st) h hp hf hx
theorem FOkK.size {f : FM} (h : FOkK f) {p : Int} (hp : 0 ≤ p ∧ p < f.2.1.length) : (subF f.2.1 p).size ≤ 6 := FOk.size (f := f.st) h hp
theorem FOkK.plen {f : FM} (h : FOkK f) {p : Int} (hp : 0 ≤ p ∧ p < f.2.1.length) {a b e : Int} (hf : Fit f.1 (subF f.2.1 p) a b e) : (Lo.plc f.1 (subF f.2.1 p) a b e).length ≤ 6 := FOk.plen (f := f.st) h hp hf
end Lo
end TM


set_option linter.all false
set_option maxHeartbeats 1000000
namespace TM
namespace Lo
open GL
/-! ### the tuples under a tree, one by one -/
def embs (tx : List Int) : BT → Int → Int → Int → List (List Int)
  | .nil, _, _, _ => [[]]
  | .node l _ r, b, e, k => ((rg b (e + 1)).filter fun a => decide (k ≤ gt tx a)).flatMap fun a => (embs tx l b (a - 1) (gt tx a + 1)).flatMap fun L => (embs tx r (a + 1) e (gt tx a)).map fun R => L ++ a :: R
end Lo
end TM


set_option linter.all false
set_option maxHeartbeats 1000000
namespace TM
namespace Lo
open GL
end Lo
end TM


set_option linter.all false
set_option maxHeartbeats 1000000
namespace TM
namespace Lo
open GL
end Lo
end TM


set_option linter.all false
set_option maxHeartbeats 1000000
namespace TM
namespace Lo
open GL
def holdL (row text : List Int) : List (List Int) := (tups text.length row.length).filter fun one => decide (treeOf (one.map fun p => gt text p) = treeOf row)
end Lo
end TM


set_option linter.all false
set_option maxHeartbeats 1000000
namespace TM
namespace Lo
open GL
/-! rows that rise or sink -/
abbrev Up (r : List Int) : Prop := r.Pairwise (· ≤ ·)
abbrev Dn (r : List Int) : Prop := r.Pairwise (fun a b => b < a)
abbrev Pl (r : List Int) (one : Int) : Prop := (one = 0 ∨ one = 1) ∧ (one = 0 → Up r) ∧ (one = 1 → Dn r)
theorem rg_up : ∀ {a b : Int}, (rg a b).Pairwise (· < ·) := by
  intro a b
  unfold rg
  exact List.pairwise_map.mpr (List.pairwise_lt_range.imp fun h => by omega)
end Lo
end TM


set_option linter.all false
set_option maxHeartbeats 1000000
namespace TM
namespace Lo
open GL
/-! over all trees of so many places -/
/-! pairs of all tuples -/
def prs (row text : List Int) : List (Int × Int) := (holdT text row).map fun one => (gt one 0, gtB one 1)
abbrev leastR (row text : List Int) : List (Int × Int) := leastL (somes (topL text row))
theorem least_prs {row text : List Int} (h0 : 1 ≤ row.length) (hl : row.length ≤ 40) : leastR row text = leastL (prs row text) := (same_pairs h0 hl).symm
theorem mem_prs {row text : List Int} {x : Int × Int} : x ∈ prs row text ↔ ∃ one, one.length = row.length ∧ one.Pairwise (· < ·) ∧ (∀ y : Int, y ∈ one → 0 ≤ y ∧ y < text.length) ∧ treeOf (one.map fun p => gt text p) = treeOf row ∧ x = (gt one 0, gtB one 1) := by
  unfold prs holdT
  rw [List.mem_map]
  constructor
  · rintro ⟨one, h, rfl⟩
    obtain ⟨h1, h2⟩ := List.mem_filter.mp h
    obtain ⟨m1, m2, m3⟩ := mem_tups.mp h1
    exact ⟨one, m1, m2, m3, of_decide_eq_true h2, rfl⟩
  · rintro ⟨one, m1, m2, m3, h2, rfl⟩
    exact ⟨one, List.mem_filter.mpr ⟨mem_tups.mpr ⟨m1, m2, m3⟩, decide_eq_true h2⟩, rfl⟩
theorem up_ends {one : List Int} (h : one.Pairwise (· < ·)) {y : Int} (hy : y ∈ one) : gt one 0 ≤ y ∧ y ≤ gtB one 1 := by
  obtain ⟨i, hi, rfl⟩ := List.getElem_of_mem hy
  have h0 := gtB_get (l := one) (k := 1) ⟨by decide, by omega⟩
  have e1 : gt one 0 = one[0]'(by omega) := by
    unfold gt
    rw [List.getD_eq_getElem?_getD]
    show (one[0]?).getD _ = _
    rw [List.getElem?_eq_getElem (by omega)]; rfl
  have e2 : gtB one 1 = one[one.length - 1]'(by omega) := by
    unfold gtB
    rw [List.getD_eq_getElem?_getD, List.getElem?_eq_getElem (by omega)]; rfl
  rw [e1, e2]
  have hp := List.pairwise_iff_getElem.mp h
  constructor
  · by_cases z : i = 0
    · subst z; exact Int.le_refl _
    · exact Int.le_of_lt (hp 0 i (by omega) hi (by omega))
  · by_cases z : i = one.length - 1
    · subst z; exact Int.le_refl _
    · exact Int.le_of_lt (hp i (one.length - 1) hi (by omega) (by omega))
theorem prs_in {row text : List Int} (h0 : 1 ≤ row.length) {x : Int × Int} (h : x ∈ prs row text) : 0 ≤ x.1 ∧ x.1 ≤ x.2 ∧ x.2 < text.length := by
  obtain ⟨one, m1, m2, m3, _, rfl⟩ := mem_prs.mp h
  have a := gt_in (l := one) (i := 0) (by omega)
  have b := gtB_in (l := one) (by omega)
  exact ⟨(m3 _ a).1, (up_ends m2 a).2, (m3 _ b).2⟩
theorem gt_part2 {text : List Int} {a b j : Int} (h : 0 ≤ a ∧ a ≤ b ∧ b ≤ text.length) (hj : 0 ≤ j ∧ j < b - a) : gt (sl text (some a) (some b)) j = gt text (a + j) := by
  rw [sl_mid h]
  unfold gt
  rw [List.getD_eq_getElem?_getD, List.getD_eq_getElem?_getD, List.getElem?_take, if_pos (by omega), List.getElem?_drop, show a.toNat + j.toNat = (a + j).toNat by omega]
def within (ps : List (Int × Int)) (a b : Int) : List (Int × Int) := (ps.filter fun p => decide (a ≤ p.1 ∧ p.2 < b)).map fun p => (p.1 - a, p.2 - a)
/-! numbers moved by a rising rule -/
/-! where the row is found -/
theorem least_in {ps : List (Int × Int)} (hp : ∀ p ∈ ps, p.1 ≤ p.2) : ∀ {n : Nat} {p : Int × Int}, p ∈ ps → (p.2 - p.1).toNat ≤ n → ∃ q ∈ leastL ps, p.1 ≤ q.1 ∧ q.2 ≤ p.2 := by
  intro n
  induction n with
  | zero =>
    intro p h hn
    refine ⟨p, mem_leastL.mpr ⟨h, fun one o1 o2 o3 => ?_⟩, Int.le_refl _, Int.le_refl _⟩
    have := hp p h; have := hp one o1
    exact Prod.ext (by omega) (by omega)
  | succ n ih =>
    intro p h hn
    by_cases z : ∀ one ∈ ps, p.1 ≤ one.1 → one.2 ≤ p.2 → one = p
    · exact ⟨p, mem_leastL.mpr ⟨h, z⟩, Int.le_refl _, Int.le_refl _⟩
    · have : ∃ one, one ∈ ps ∧ p.1 ≤ one.1 ∧ one.2 ≤ p.2 ∧ one ≠ p := by
        refine Classical.byContradiction fun y => z fun one o1 o2 o3 => Classical.byContradiction fun w => y ⟨one, o1, o2, o3, w⟩
      obtain ⟨one, o1, o2, o3, o4⟩ := this
      have k1 := hp p h; have k2 := hp one o1
      have : ¬ (one.1 = p.1 ∧ one.2 = p.2) := fun y => o4 (Prod.ext y.1 y.2)
      obtain ⟨q, q1, q2, q3⟩ := ih o1 (by omega)
      exact ⟨q, q1, by omega, by omega⟩
theorem up_rg {one : List Int} {a b : Int} (h : one.Pairwise (· < ·)) (hin : ∀ x ∈ one, a ≤ x ∧ x ≤ b) (hl : (one.length : Int) = b + 1 - a) : one = rg a (b + 1) := by
  have hp := List.pairwise_iff_getElem.mp h
  have lo : ∀ (i : Nat) (hi : i < one.length), a + i ≤ one[i] := by
    intro i
    induction i with
    | zero => intro hi; have := hin _ (List.getElem_mem hi); omega
    | succ i ih => intro hi; have := ih (by omega); have := hp i (i + 1) (by omega) hi (by omega); omega
  have hi_ : ∀ (k : Nat) (hk : k < one.length), one[one.length - 1 - k]'(by omega) ≤ b - k := by
    intro k
    induction k with
    | zero => intro hk; have := hin _ (List.getElem_mem (show one.length - 1 - 0 < one.length by omega)); omega
    | succ k ih => intro hk; have h1 := ih (by omega); have := hp (one.length - 1 - (k + 1)) (one.length - 1 - k) (by omega) (by omega) (by omega); omega
  refine List.ext_getElem (by rw [rg_len]; omega) fun i h1 h2 => ?_
  have k1 := lo i h1
  have k2 := hi_ (one.length - 1 - i) (by omega)
  have e : one.length - 1 - (one.length - 1 - i) = i := by omega
  rw [getElem_congr_idx e] at k2
  simp only [rg, List.getElem_map, List.getElem_range]
  omega
theorem gt_rg0 {a b : Int} (h : a < b) : gt (rg a b) 0 = a := by
  unfold gt rg
  rw [List.getD_eq_getElem?_getD, List.getElem?_map, List.getElem?_range (show (0 : Int).toNat < (b - a).toNat by omega)]
  show a + ((0 : Int).toNat : Int) = a
  omega
theorem found {row text : List Int} (hr : 1 ≤ row.length ∧ row.length ≤ 6 ∧ text.length ≤ 16) {s : Int} (h : s ∈ starts row text) :
    0 ≤ s ∧ s + row.length ≤ text.length ∧ placesIn row text s (s + row.length - 1) = some (rg s (s + row.length - 1 + 1)) ∧ ∃ x ∈ leastR row text, s ≤ x.1 ∧ x.2 ≤ s + row.length - 1 := by
  obtain ⟨h1, h2, h3⟩ := starts_in h
  have hk := kinB_tree.mp h3
  have hin : (s, s + row.length - 1) ∈ prs row text := by
    refine mem_prs.mpr ⟨rg s (s + row.length), by rw [rg_len]; omega, rg_up, fun y hy => by have := rg_mem.mp hy; omega, ?_, ?_⟩
    · rw [hk.2]
      congr 1
      refine List.ext_getElem (by rw [List.length_map, rg_len, ← hk.1]; omega) fun i k1 k2 => ?_
      rw [List.length_map, rg_len] at k1
      rw [List.getElem_map]
      have : gt (sl text (some s) (some (s + row.length))) (i : Int) = gt text (s + i) := gt_part2 (by omega) (by omega)
      have e2 : gt (sl text (some s) (some (s + row.length))) (i : Int) = (sl text (some s) (some (s + row.length)))[i] := by
        unfold gt
        rw [List.getD_eq_getElem?_getD, Int.toNat_natCast, List.getElem?_eq_getElem k2]; rfl
      rw [← e2, this]
      congr 1
      simp only [rg, List.getElem_map, List.getElem_range]
    · have q1 : gt (rg s (s + row.length)) 0 = s := gt_rg0 (by omega)
      have hb := gtB_in (l := rg s (s + row.length)) (by rw [rg_len]; omega)
      have hx := (up_ends rg_up (rg_mem.mpr (show s ≤ s + (row.length : Int) - 1 ∧ s + (row.length : Int) - 1 < s + row.length by omega))).2
      have hy := rg_mem.mp hb
      exact Prod.ext q1.symm (by dsimp only; omega)
  obtain ⟨q, q1, q2, q3⟩ := least_in (ps := prs row text) (fun p hp => (prs_in (by omega) hp).2.1) hin (Nat.le_refl _)
  dsimp only at q2 q3
  rw [← least_prs (by omega) (by omega)] at q1
  refine ⟨h1, h2, ?_, q, q1, q2, q3⟩
  obtain ⟨one, e, hh⟩ := (places_main hr (a := s) (b := s + row.length - 1) (by omega)).1 ⟨q, (mem_leastL.mp q1).1, q2, q3⟩
  rw [e]
  congr 1
  exact up_rg hh.up (fun x hx => (hh.inn x hx).1) (by rw [hh.len]; omega)
/-! a table and what is told of it -/
end Lo
end TM


set_option Elab.async false
set_option linter.all false
set_option maxHeartbeats 1000000
/-! ### any tuple as distances, as drops; any text as brackets -/
namespace TM
open GL PySem
def lftD (S : List Int) (far : Int) (i : Nat) : List Int := if far = 0 then [] else S.filter fun o => decide (o ≤ (i : Int) - far)
def stkD (t : List Int) : Nat → List Int
  | 0 => []
  | i + 1 => lftD (stkD t i) (nb t i) i ++ [(i : Int)]
def okdD (t : List Int) (i : Nat) : Prop := nb t i = 0 ∨ sl (lftD (stkD t i) (nb t i) i) (some (-1)) none = [(i : Int) - nb t i]
instance (t : List Int) (i : Nat) : Decidable (okdD t i) := by unfold okdD; infer_instance
def drpD (t : List Int) (i : Nat) : List Int := (List.range i).map fun k => ((stkD t k).length : Int) - (lftD (stkD t k) (nb t k) k).length
def allD (t : List Int) : Prop := ∀ i, i < t.length → okdD t i
def dbd (t : List Int) : Option (List Int) := if (List.range t.length).all (fun i => decide (okdD t i)) then some (drpD t t.length) else none
theorem dbd_yes {t : List Int} (h : allD t) : dbd t = some (drpD t t.length) := by
  unfold dbd
  rw [if_pos (List.all_eq_true.mpr fun i hi => decide_eq_true (h i (List.mem_range.mp hi)))]
theorem dbd_no {t : List Int} {i : Nat} (hi : i < t.length) (h : ¬ okdD t i) : dbd t = none := by
  unfold dbd
  rw [if_neg]
  intro z
  exact h (of_decide_eq_true (List.all_eq_true.mp z i (List.mem_range.mpr hi)))
theorem dbd_some {t : List Int} (h : ¬ dbd t = none) : allD t := fun i hi => Classical.byContradiction fun z => h (dbd_no hi z)
theorem drpD_succ (t : List Int) (i : Nat) : drpD t (i + 1) = drpD t i ++ [((stkD t i).length : Int) - (lftD (stkD t i) (nb t i) i).length] := by
  unfold drpD
  rw [List.range_succ, List.map_append]
  rfl
theorem drpD_len (t : List Int) (i : Nat) : (drpD t i).length = i := by unfold drpD; rw [List.length_map, List.length_range]
theorem stkD_pw (t : List Int) : ∀ i : Nat, (stkD t i).Pairwise (· < ·) ∧ ∀ o ∈ stkD t i, 0 ≤ o ∧ o < i
  | 0 => ⟨List.Pairwise.nil, fun o h => absurd h List.not_mem_nil⟩
  | i + 1 => by
    obtain ⟨h1, h2⟩ := stkD_pw t i
    have hs : (lftD (stkD t i) (nb t i) i).Pairwise (· < ·) ∧ ∀ o ∈ lftD (stkD t i) (nb t i) i, 0 ≤ o ∧ o < i := by
      unfold lftD
      split
      · exact ⟨List.Pairwise.nil, fun o h => absurd h List.not_mem_nil⟩
      · exact ⟨h1.filter _, fun o h => h2 o (List.mem_filter.mp h).1⟩
    refine ⟨List.pairwise_append.mpr ⟨hs.1, List.pairwise_singleton _ _, fun a ha b hb => ?_⟩, fun o ho => ?_⟩
    · rw [List.mem_singleton.mp hb]; exact (hs.2 a ha).2
    · rcases List.mem_append.mp ho with z | z
      · have := hs.2 o z; omega
      · rw [List.mem_singleton.mp z]; omega
theorem mem_lftD {S : List Int} {far o : Int} {i : Nat} : o ∈ lftD S far i ↔ ¬ far = 0 ∧ o ∈ S ∧ o ≤ (i : Int) - far := by
  unfold lftD
  split
  · rename_i h; exact ⟨fun z => (by cases z), fun z => absurd h z.1⟩
  · rename_i h; rw [List.mem_filter, decide_eq_true_iff]; exact ⟨fun z => ⟨h, z⟩, fun z => z.2⟩
theorem mem_stkD (t : List Int) : ∀ (i : Nat) (o : Int), o ∈ stkD t i ↔ 0 ≤ o ∧ o < i ∧ ∀ k : Nat, o < k → k < i → ¬ nb t k = 0 ∧ o ≤ (k : Int) - nb t k
  | 0, o => ⟨fun h => absurd h List.not_mem_nil, fun h => by omega⟩
  | i + 1, o => by
    have ih := mem_stkD t i o
    show o ∈ lftD (stkD t i) (nb t i) i ++ [(i : Int)] ↔ _
    rw [List.mem_append, mem_lftD, ih, List.mem_singleton]
    constructor
    · rintro (⟨h1, ⟨h2, h3, h4⟩, h5⟩ | h)
      · refine ⟨h2, by omega, fun k k1 k2 => ?_⟩
        by_cases e : k = i
        · subst e; exact ⟨h1, h5⟩
        · exact h4 k k1 (by omega)
      · exact ⟨by omega, by omega, fun k k1 k2 => by omega⟩
    · rintro ⟨h1, h2, h3⟩
      by_cases e : o = i
      · exact .inr e
      · have := h3 i (by omega) (by omega)
        exact .inl ⟨this.1, ⟨h1, by omega, fun k k1 k2 => h3 k k1 (by omega)⟩, this.2⟩
theorem snoc_ex {L : List Int} (e : L ≠ []) : ∃ M y, L = M ++ [y] := ⟨L.dropLast, L.getLast e, (List.dropLast_concat_getLast e).symm⟩
theorem last_eq {L : List Int} (h : L.Pairwise (· < ·)) {x : Int} (hx : ∀ o ∈ L, o ≤ x) : sl L (some (-1)) none = [x] ↔ x ∈ L := by
  rw [sl_last]
  constructor
  · intro z
    by_cases e : L = []
    · rw [if_pos e] at z; cases z
    · rw [if_neg e] at z
      have z := List.head_eq_of_cons_eq z
      rw [← z]
      exact List.mem_of_getElem? (gtB_get (l := L) (k := 1) (by have := List.length_pos_iff.mpr e; omega))
  · intro z
    have e : L ≠ [] := fun y => by rw [y] at z; cases z
    rw [if_neg e]
    obtain ⟨M, y, rfl⟩ : ∃ M y, L = M ++ [y] := snoc_ex e
    have e2 : gtB (M ++ [y]) 1 = y := by
      have := gtB_get (l := M ++ [y]) (k := 1) (by simp)
      rw [show (M ++ [y]).length - 1 = M.length by simp, List.getElem?_append_right (Nat.le_refl _), Nat.sub_self] at this
      exact (Option.some.inj this).symm
    rw [e2]
    congr 1
    rcases List.mem_append.mp z with a | a
    · have h1 := (List.pairwise_append.mp h).2.2 x a y (List.mem_singleton.mpr rfl)
      have h2 := hx y (List.mem_append_right _ (List.mem_singleton.mpr rfl))
      omega
    · exact (List.mem_singleton.mp a).symm
theorem okdD_iff (t : List Int) (i : Nat) : okdD t i ↔ nb t i = 0 ∨ ((i : Int) - nb t i) ∈ stkD t i := by
  unfold okdD
  by_cases h : nb t i = 0
  · exact ⟨fun _ => .inl h, fun _ => .inl h⟩
  · have hl := last_eq (L := lftD (stkD t i) (nb t i) i) (x := (i : Int) - nb t i) (by unfold lftD; rw [if_neg h]; exact (stkD_pw t i).1.filter _) (fun o ho => (mem_lftD.mp ho).2.2)
    rw [hl, mem_lftD]
    constructor
    · rintro (z | z)
      · exact absurd z h
      · exact .inr z.2.1
    · rintro (z | z)
      · exact absurd z h
      · exact .inr ⟨h, z, Int.le_refl _⟩
/-! what the law asks of a place -/
def okP (t : List Int) (p : Nat) : Prop := 0 ≤ nb t p ∧ nb t p ≤ p ∧ (0 < nb t p → ∀ k : Nat, (p : Int) - nb t p < k → k < p → 0 < nb t k ∧ nb t k ≤ (k : Int) - ((p : Int) - nb t p))
theorem okP_okd {t : List Int} {p : Nat} (h : okP t p) : okdD t p := by
  obtain ⟨h1, h2, h3⟩ := h
  rw [okdD_iff]
  by_cases z : nb t p = 0
  · exact .inl z
  · refine .inr ((mem_stkD t p _).mpr ⟨by omega, by omega, fun k k1 k2 => ?_⟩)
    have := h3 (by omega) k k1 k2
    omega
theorem okd_okP {t : List Int} {p : Nat} (h : ∀ j, j ≤ p → okdD t j) : okP t p := by
  have hin : ∀ j, j ≤ p → 0 ≤ nb t j := fun j hj => by
    rcases (okdD_iff t j).mp (h j hj) with z | z
    · omega
    · have := (mem_stkD t j _).mp z; omega
  have h0 := hin p (Nat.le_refl _)
  rcases (okdD_iff t p).mp (h p (Nat.le_refl _)) with z | z
  · exact ⟨h0, by omega, fun y => by omega⟩
  · obtain ⟨h1, h2, h3⟩ := (mem_stkD t p _).mp z
    refine ⟨h0, by omega, fun y k k1 k2 => ?_⟩
    have a := h3 k k1 k2
    have b := hin k (by omega)
    omega
noncomputable def areDist (t : List Int) : Bool := @decide (t.length ≤ 40 ∧ ∀ p, p < t.length → okP t p) (Classical.propDecidable _)
theorem areDist_iff {t : List Int} : areDist t = true ↔ t.length ≤ 40 ∧ allD t := by
  unfold areDist
  rw [@decide_eq_true_iff _ (Classical.propDecidable _)]
  refine and_congr_right fun _ => ⟨fun h p hp => okP_okd (h p hp), fun h p hp => okd_okP fun j hj => h j (by omega)⟩
/-! told by a row -/
theorem lftD_le (S : List Int) (far : Int) (i : Nat) : (lftD S far i).length ≤ S.length := by
  unfold lftD
  split
  · exact Nat.zero_le _
  · exact List.length_filter_le ..
theorem stkD_len (t : List Int) : ∀ i : Nat, ((stkD t i).length : Int) = i - (drpD t i).sum
  | 0 => rfl
  | i + 1 => by
    have ih := stkD_len t i
    rw [drpD_succ, List.sum_append, List.sum_singleton]
    show ((lftD (stkD t i) (nb t i) i ++ [(i : Int)]).length : Int) = _
    rw [List.length_append, List.length_singleton]
    omega
theorem drpD_take (t : List Int) {i n : Nat} (h : i ≤ n) : (drpD t n).take i = drpD t i := by
  unfold drpD
  rw [← List.map_take, List.take_range, Nat.min_eq_left h]
theorem nb_drpD (t : List Int) {i n : Nat} (h : i < n) : nb (drpD t n) i = ((stkD t i).length : Int) - (lftD (stkD t i) (nb t i) i).length := by
  unfold nb drpD
  rw [List.getD_eq_getElem?_getD, List.getElem?_map, List.getElem?_range h]; rfl
theorem drpD_dok (t : List Int) (n : Nat) : dok (drpD t n) := fun j hj => by
  rw [drpD_len] at hj
  rw [nb_drpD t hj, drpD_take t (by omega)]
  have h1 := stkD_len t j
  have h2 := lftD_le (stkD t j) (nb t j) j
  omega
theorem filterD_take {S : List Int} (h : S.Pairwise (· < ·)) (x : Int) : S.filter (fun o => decide (o ≤ x)) = S.take (S.filter fun o => decide (o ≤ x)).length := by
  induction S with
  | nil => rfl
  | cons a S ih =>
    have h' := List.pairwise_cons.mp h
    by_cases z : a ≤ x
    · rw [List.filter_cons, if_pos (decide_eq_true z), List.length_cons, List.take_succ_cons, ← ih h'.2]
    · have e : S.filter (fun o => decide (o ≤ x)) = [] := List.filter_eq_nil_iff.mpr fun b hb y => by
        have := h'.1 b hb
        have := of_decide_eq_true y
        omega
      rw [List.filter_cons, if_neg (fun y => z (of_decide_eq_true y)), e]
      rfl
theorem dist_row {t : List Int} (h : allD t) : ∃ row : List Int, row.length = t.length ∧ dropsOf row = drpD t t.length ∧ backs row = t := by
  obtain ⟨row, h1, h2, _⟩ := row_for (drpD_dok t t.length) t.length (by rw [drpD_len]; exact Nat.le_refl _)
  rw [drpD_take t (Nat.le_refl _)] at h2
  have key : ∀ i : Nat, i ≤ t.length → stkD t i = (opens row i).map (fun (q : Nat) => (q : Int)) ∧ ∀ j, j < i → bk row j = nb t j := by
    intro i
    induction i with
    | zero => exact fun _ => ⟨rfl, fun j hj => absurd hj (Nat.not_lt_zero _)⟩
    | succ i ih =>
      intro hi
      obtain ⟨e1, e2⟩ := ih (by omega)
      have hd : nb (dropsOf row) i = nb (drpD t t.length) i := by rw [h2]
      rw [nb_drpD t (by omega), nb_dropsOf (by omega)] at hd
      have hl : (stkD t i).length = (opens row i).length := by rw [e1, List.length_map]
      have hdl := dep_le row i
      have hdep : (lftD (stkD t i) (nb t i) i).length = dep row i := by
        have := lftD_le (stkD t i) (nb t i) i
        omega
      have hlf : lftD (stkD t i) (nb t i) i = ((opens row i).take (dep row i)).map (fun (q : Nat) => (q : Int)) := by
        by_cases z : nb t i = 0
        · have e : lftD (stkD t i) (nb t i) i = [] := by unfold lftD; rw [if_pos z]
          rw [e] at hdep ⊢
          rw [← hdep]
          rfl
        · have e : lftD (stkD t i) (nb t i) i = (stkD t i).filter fun o => decide (o ≤ (i : Int) - nb t i) := by unfold lftD; rw [if_neg z]
          rw [e] at hdep ⊢
          rw [filterD_take (stkD_pw t i).1, hdep, e1, List.map_take]
      refine ⟨?_, fun j hj => ?_⟩
      · show lftD (stkD t i) (nb t i) i ++ [(i : Int)] = _
        rw [hlf, opens_dep, List.map_append]
        rfl
      · by_cases ej : j = i
        · subst ej
          have hpd := pv_dep row j
          rcases h j (by omega) with z | z
          · have e : lftD (stkD t j) (nb t j) j = [] := by unfold lftD; rw [if_pos z]
            rw [e] at hdep
            rw [if_pos (by simpa using hdep.symm)] at hpd
            rw [bk_none hpd, z]
          · by_cases z0 : nb t j = 0
            · have e : lftD (stkD t j) (nb t j) j = [] := by unfold lftD; rw [if_pos z0]
              rw [e] at hdep
              rw [if_pos (by simpa using hdep.symm)] at hpd
              rw [bk_none hpd, z0]
            · have hne : lftD (stkD t j) (nb t j) j ≠ [] := fun y => by rw [y] at z; cases z
              have hpos := List.length_pos_iff.mpr hne
              rw [if_neg (by omega)] at hpd
              rw [sl_last, if_neg hne] at z
              have z := List.head_eq_of_cons_eq z
              have hg := gtB_get (l := lftD (stkD t j) (nb t j) j) (k := 1) (by omega)
              rw [z, hdep, hlf, List.getElem?_map, List.getElem?_take, if_pos (by omega)] at hg
              rw [List.getElem?_eq_getElem (by omega)] at hg hpd
              have hg := Option.some.inj hg
              dsimp only at hg
              rw [bk_some hpd, hg]
              omega
        · exact e2 j (by omega)
  refine ⟨row, h1, h2, ?_⟩
  have hk := (key t.length (Nat.le_refl _)).2
  refine List.ext_getElem? fun j => ?_
  unfold backs
  rw [List.getElem?_map]
  by_cases hj : j < t.length
  · rw [List.getElem?_range (by omega), Option.map_some, hk j hj, List.getElem?_eq_getElem hj]
    unfold nb
    rw [List.getD_eq_getElem?_getD, List.getElem?_eq_getElem hj]
    rfl
  · rw [List.getElem?_eq_none (by rw [List.length_range]; omega), List.getElem?_eq_none (by omega)]
    rfl
def distT (t : List Int) : Option (List Int) := if t.length ≤ 40 then (match dbd t with | none => none | some d => hungO d) else none
theorem dist_yes {t : List Int} (h : areDist t = true) : ∃ v, distT t = some v ∧ isTree v = true ∧ backs (flatF v) = t := by
  obtain ⟨h1, h2⟩ := areDist_iff.mp h
  obtain ⟨row, r1, r2, r3⟩ := dist_row h2
  refine ⟨treeOf row, ?_, isTree_treeOf (by omega), by rw [backs_flat (by omega), r3]⟩
  unfold distT
  rw [if_pos h1, dbd_yes h2]
  show hungO (drpD t t.length) = _
  rw [← r2, hungO_row]
theorem dist_no {t : List Int} (h : ¬ areDist t = true) : distT t = none := by
  unfold distT
  split
  · rename_i h1
    cases e : dbd t with
    | none => rfl
    | some d => exact absurd (areDist_iff.mpr ⟨h1, dbd_some (by rw [e]; intro z; cases z)⟩) h
  · rfl
/-! drops -/
def areDropsT (t : List Int) : Bool := decide (t.length ≤ 40) && ((rg 0 (t.length : Int)).map fun p => decide (0 ≤ gt t p ∧ gt t p ≤ p - (sl t none (some p)).sum)).all id
theorem areDrops_iff {t : List Int} : areDropsT t = true ↔ t.length ≤ 40 ∧ dok t := by
  unfold areDropsT
  rw [Bool.and_eq_true, decide_eq_true_iff, List.all_eq_true]
  refine and_congr_right fun _ => ⟨fun h j hj => ?_, fun h b hb => ?_⟩
  · have := h _ (List.mem_map.mpr ⟨(j : Int), rg_mem.mpr (by omega), rfl⟩)
    rw [id, decide_eq_true_iff, gt_at (by omega), sl_take (by omega), Int.toNat_natCast] at this
    exact this
  · obtain ⟨p, hp, rfl⟩ := List.mem_map.mp hb
    have hp := rg_mem.mp hp
    rw [id, decide_eq_true_iff, gt_at (by omega), sl_take (by omega)]
    have := h p.toNat (by omega)
    omega
theorem drop_yes {t : List Int} (h : areDropsT t = true) : ∃ v, dropT t = some v ∧ isTree v = true ∧ dropsOf (flatF v) = t := by
  obtain ⟨h1, h2⟩ := areDrops_iff.mp h
  have hok := okD_okS.mpr h2
  exact ⟨hungF t, dropT_of hok h1, hungF_tree hok h1, drops_hung h2 h1⟩
theorem drop_no {t : List Int} (h : ¬ areDropsT t = true) : dropT t = none := by
  unfold dropT
  split
  · rename_i h1
    exact hungO_bad fun z => h (areDrops_iff.mpr ⟨h1, z⟩)
  · rfl
/-! brackets -/
theorem br_yes {l : List Nat} (h : areBr l = true) : ∃ v, brT l = some v ∧ isTree v = true ∧ brOf (dropsOf (flatF v)) = l := by
  by_cases z : l = []
  · subst z
    exact ⟨[], by decide, isTree_treeOf (row := []) (by decide), rfl⟩
  · obtain ⟨t, h1, _, h2, h3⟩ := areBr_yes h z
    exact ⟨t, h1, h2, h3⟩
end TM


set_option Elab.async false
set_option linter.all false
set_option maxHeartbeats 1000000
/-! ### k10: told in one of three ways -/
namespace TM
open GL PySem
noncomputable def due10 (way : Int) (told : Sum (List Int) Str) : Bool := match told with
  | .inl t => if way = 0 then areDist t else areDropsT t
  | .inr s => areBr (tl s)
noncomputable def asked10 (x : Addr) (way : Int) (told : Sum (List Int) Str) : Option (Sum Addr (Sum (List Int) Str)) := if due10 way told = true then some (.inr told) else some (.inl x)
def Tl (n : Nat) (way : Int) (told : Sum (List Int) Str) : Prop := match told with
  | .inl t => (0 ≤ way ∧ way < 2) ∧ t.length ≤ n
  | .inr s => way = 2 ∧ s.length ≤ n
theorem Tl.way {n : Nat} {way : Int} {told : Sum (List Int) Str} (h : Tl n way told) : 0 ≤ way ∧ way < 3 := by
  cases told with
  | inl t => have := h.1; omega
  | inr s => have := h.1; omega
theorem Tl.a {n : Nat} {way : Int} {told : Sum (List Int) Str} (h : Tl n way told) (hw : ¬ way = 2) : told = .inl (altA told) ∧ (altA told).length ≤ n ∧ 0 ≤ way ∧ way < 2 := by
  cases told with
  | inl t => exact ⟨rfl, h.2, h.1⟩
  | inr s => exact absurd h.1 hw
theorem Tl.b {n : Nat} {way : Int} {told : Sum (List Int) Str} (h : Tl n way told) (hw : way = 2) : told = .inr (altB told) ∧ (altB told).length ≤ n := by
  cases told with
  | inl t => have := h.1; omega
  | inr s => exact ⟨rfl, h.2⟩
theorem Tl.mono {n m : Nat} {way : Int} {told : Sum (List Int) Str} (h : Tl n way told) (hm : n ≤ m) : Tl m way told := by
  cases told with
  | inl t => exact ⟨h.1, Nat.le_trans h.2 hm⟩
  | inr s => exact ⟨h.1, Nat.le_trans h.2 hm⟩
theorem dist_some {t : List Int} (h : ¬ distT t = none) : areDist t = true ∧ isTree (oget (distT t)) = true ∧ backs (flatF (oget (distT t))) = t := by
  have hd : areDist t = true := Classical.byContradiction fun z => h (dist_no z)
  obtain ⟨v, h1, h2, h3⟩ := dist_yes hd
  rw [h1]
  exact ⟨hd, h2, h3⟩
theorem drop_some {t : List Int} (h : ¬ dropT t = none) : areDropsT t = true ∧ isTree (oget (dropT t)) = true ∧ dropsOf (flatF (oget (dropT t))) = t := by
  have hd : areDropsT t = true := Classical.byContradiction fun z => h (drop_no z)
  obtain ⟨v, h1, h2, h3⟩ := drop_yes hd
  rw [h1]
  exact ⟨hd, h2, h3⟩
theorem br_some {s : Str} (h : ¬ brT (tl s) = none) : areBr (tl s) = true ∧ isTree (oget (brT (tl s))) = true ∧ TS_ (brOf (dropsOf (flatF (oget (brT (tl s)))))) = s := by
  have hd : areBr (tl s) = true := Classical.byContradiction fun z => h (areBr_no z)
  obtain ⟨v, h1, h2, h3⟩ := br_yes hd
  rw [h1]
  refine ⟨hd, h2, ?_⟩
  show TS_ (brOf (dropsOf (flatF v))) = s
  rw [h3, TS_tl]
theorem br_none {s : Str} (h : brT (tl s) = none) : ¬ areBr (tl s) = true := fun z => by
  obtain ⟨v, h1, _⟩ := br_yes z
  rw [h] at h1; cases h1
end TM
namespace TM
open GL PySem
theorem one_sum : ∀ {l : List Str}, (∀ x ∈ l, x.length = 1) → (l.map (·.length)).sum = l.length
  | [], _ => rfl
  | x :: l, h => by
    rw [List.map_cons, List.sum_cons, h x List.mem_cons_self, one_sum fun y hy => h y (List.mem_cons_of_mem _ hy), List.length_cons]
    omega
theorem em_len : ("" : Str).length = 0 := by rw [len_tl, tl_em]; rfl
theorem one_flat : ∀ {l : List Str}, (∀ x ∈ l, x.length = 1) → (l.map tl).flatten.length = l.length
  | [], _ => rfl
  | x :: l, h => by
    have := h x List.mem_cons_self
    rw [len_tl] at this
    rw [List.map_cons, List.flatten_cons, List.length_append, one_flat fun y hy => h y (List.mem_cons_of_mem _ hy), List.length_cons]
    omega
theorem one_join {l : List Str} (h : ∀ x ∈ l, x.length = 1) : (Str.join ("" : Str) l).length = l.length := by
  rw [len_tl, tl_join, tl_em, joinL_nil]
  exact one_flat h
end TM


set_option Elab.async false
set_option linter.all false
set_option maxHeartbeats 1000000
/-! ### k14: tellings counted -/
namespace TM
open GL PySem
def led14 (way : Int) (told : Sum (List Int) Str) : Option (List Int) := match told with
  | .inl t => if way = 0 then dropT t else distT t
  | .inr s => brT (tl s)
theorem led_0 {told : Sum (List Int) Str} {t : List Int} {way : Int} (h : told = .inl t) (hw : way = 0) : led14 way told = dropT t := by rw [h]; exact if_pos hw
theorem led_1 {told : Sum (List Int) Str} {t : List Int} {way : Int} (h : told = .inl t) (hw : ¬ way = 0) : led14 way told = distT t := by rw [h]; exact if_neg hw
theorem led_2 {told : Sum (List Int) Str} {s : Str} {way : Int} (h : told = .inr s) : led14 way told = brT (tl s) := by rw [h]; rfl
def codN (c : Int) : Nat → Int
  | 0 => c
  | i + 1 => codN c i / 5
def digN (c : Int) : Nat → List Int
  | 0 => []
  | i + 1 => digN c i ++ [codN c i % 5]
def dig14 (c many : Int) : List Int := digN c many.toNat
theorem digN_len (c : Int) : ∀ i, (digN c i).length = i
  | 0 => rfl
  | i + 1 => by show (digN c i ++ [_]).length = _; rw [List.length_append, digN_len c i]; rfl
def catL : Nat → List Int
  | 0 => [1]
  | i + 1 => catL i ++ [((rg 0 ((i : Int) + 1)).map fun j => gt (catL i) j * gt (catL i) ((i : Int) - j)).sum]
def cat14 (m : Int) : Int := gt (catL m.toNat) m
theorem catL_len : ∀ i, (catL i).length = i + 1
  | 0 => rfl
  | i + 1 => by show (catL i ++ [_]).length = _; rw [List.length_append, catL_len i]; rfl
def TxI (many : Int) (text : Str) : Prop := (5 ≤ many ∧ many ≤ 8) ∧ ∃ o : Int, bal (tl text) = some o ∧ 0 ≤ o ∧ ((tl text).count 40 : Int) ≤ many ∧ o = 2 * ((tl text).count 40 : Int) - text.length ∧ (text.length : Int) ≤ 2 * many ∧ (tl text).count 40 + (tl text).count 41 = text.length
theorem cat_small : ∀ i, i < 6 → ∀ x ∈ catL i, 0 ≤ x ∧ x ≤ 42 := by decide +kernel
theorem cat_gt {i : Nat} (hi : i < 6) {j : Int} (h : 0 ≤ j ∧ j < ((catL i).length : Int)) : 0 ≤ gt (catL i) j ∧ gt (catL i) j ≤ 42 := cat_small i hi _ (List.mem_of_getElem? (gt_get h))
def codes14 (m : Int) : List (List Int) := (rg 0 (5 ^ m.toNat)).map fun c => dig14 c m
def texts14 (m : Int) : List Str := (rg 0 (2 ^ (2 * m).toNat)).map fun c => Str.join ("" : Str) ((rg 0 (2 * m)).map fun k => sg (gt (tl ("()" : Str)) (c / 2 ^ k.toNat % 2)))
def lst14 (m way : Int) : List (Sum (List Int) Str) := gt [(codes14 m).map Sum.inl, (codes14 m).map Sum.inl, (texts14 m).map Sum.inr] way
def bits14 (m : Nat) : List (List Nat) := (List.range (2 ^ (2 * m))).map fun c => (List.range (2 * m)).map fun k => if c / 2 ^ k % 2 = 0 then 40 else 41
def chkT (m : Nat) (T : List (List Int)) : Bool := decide ((T.length : Int) = cat14 m) && decide T.Nodup
theorem chk_a : ∀ m, m < 6 → chkT m ((codes14 m).filterMap dropT) = true := by decide +kernel
theorem chk_b : ∀ m, m < 6 → chkT m ((codes14 m).filterMap distT) = true := by decide +kernel
theorem chk_c : ∀ m, m < 6 → chkT m ((bits14 m).filterMap brT) = true := by decide +kernel
theorem chkT_iff {m : Nat} {T : List (List Int)} : chkT m T = true ↔ (T.length : Int) = cat14 m ∧ T.Nodup := by
  unfold chkT
  rw [Bool.and_eq_true, decide_eq_true_iff, decide_eq_true_iff]
theorem led_drop {t v : List Int} (h : dropT t = some v) : isTree v = true := by
  have := (drop_some (t := t) (by rw [h]; intro z; cases z)).2.1
  rwa [h] at this
theorem led_dist {t v : List Int} (h : distT t = some v) : isTree v = true := by
  have := (dist_some (t := t) (by rw [h]; intro z; cases z)).2.1
  rwa [h] at this
theorem led_br {l : List Nat} {v : List Int} (h : brT l = some v) : isTree v = true := by
  have := (br_some (s := TS_ l) (by rw [tl_TS, h]; intro z; cases z)).2.1
  rwa [tl_TS, h] at this
theorem fm_id {α β : Type} (f : α → Option β) : ∀ l : List α, (l.map f).filterMap id = l.filterMap f
  | [] => rfl
  | a :: l => by
    rw [List.map_cons, List.filterMap_cons, List.filterMap_cons, fm_id f l]
    rfl
theorem fm_map {α β γ : Type} (g : α → β) (f : β → Option γ) : ∀ l : List α, (l.map g).filterMap f = l.filterMap fun a => f (g a)
  | [] => rfl
  | a :: l => by
    rw [List.map_cons, List.filterMap_cons, List.filterMap_cons, fm_map g f l]
theorem texts_tl (m : Nat) : (texts14 m).map tl = bits14 m := by
  unfold texts14 bits14 rg
  rw [show ((2 : Int) ^ (2 * (m : Int)).toNat - 0).toNat = 2 ^ (2 * m) by
    rw [show (2 * (m : Int)).toNat = 2 * m by omega]
    rw [Int.sub_zero, show (2 : Int) = ((2 : Nat) : Int) from rfl, ← Int.natCast_pow, Int.toNat_natCast]]
  rw [List.map_map, List.map_map]
  refine List.map_congr_left fun c hc => ?_
  show tl (Str.join ("" : Str) _) = _
  rw [tl_join, tl_em, joinL_nil, List.map_map, List.map_map]
  rw [show (2 * (m : Int) - 0).toNat = 2 * m by omega]
  have key : ∀ k : Nat, tl (sg (gt (tl ("()" : Str)) ((0 + (c : Int)) / 2 ^ (0 + (k : Int)).toNat % 2))) = [if c / 2 ^ k % 2 = 0 then 40 else 41] := fun k => by
    have e : (0 + (c : Int)) / 2 ^ (0 + (k : Int)).toNat % 2 = ((c / 2 ^ k % 2 : Nat) : Int) := by
      rw [Int.zero_add, Int.zero_add, Int.toNat_natCast, show (2 : Int) = ((2 : Nat) : Int) from rfl, ← Int.natCast_pow, ← Int.natCast_ediv, ← Int.natCast_emod]
    rw [e]
    have hlt := Nat.mod_lt (c / 2 ^ k) (show 0 < 2 by decide)
    generalize c / 2 ^ k % 2 = z at hlt ⊢
    rcases (show z = 0 ∨ z = 1 by omega) with y | y <;> subst y <;> rfl
  induction (List.range (2 * m)) with
  | nil => rfl
  | cons k l ih =>
    rw [List.map_cons, List.flatten_cons, ih, List.map_cons]
    show tl (sg _) ++ _ = _
    rw [key k]
    rfl
theorem cnt14 {m way : Int} (hm : 0 ≤ m ∧ m ≤ 5) (hw : 0 ≤ way ∧ way < 3) : (((lst14 m way).map (led14 way)).filterMap id).Nodup ∧ ((((lst14 m way).map (led14 way)).filterMap id).length : Int) = cat14 m ∧ ∀ t ∈ ((lst14 m way).map (led14 way)).filterMap id, isTree t = true := by
  obtain ⟨n, rfl⟩ : ∃ n : Nat, m = n := ⟨m.toNat, by omega⟩
  rw [fm_id]
  unfold lst14
  rcases (show way = 0 ∨ way = 1 ∨ way = 2 by omega) with z | z | z <;> subst z
  · have e : (gt [(codes14 n).map Sum.inl, (codes14 n).map Sum.inl, (texts14 n).map Sum.inr] 0).filterMap (led14 0) = (codes14 n).filterMap dropT := by
      show ((codes14 n).map Sum.inl).filterMap (led14 0) = _
      rw [fm_map]
      rfl
    rw [e]
    obtain ⟨h1, h2⟩ := chkT_iff.mp (chk_a n (by omega))
    exact ⟨h2, h1, fun t ht => by
      obtain ⟨a, _, h⟩ := List.mem_filterMap.mp ht
      exact led_drop h⟩
  · have e : (gt [(codes14 n).map Sum.inl, (codes14 n).map Sum.inl, (texts14 n).map Sum.inr] 1).filterMap (led14 1) = (codes14 n).filterMap distT := by
      show ((codes14 n).map Sum.inl).filterMap (led14 1) = _
      rw [fm_map]
      rfl
    rw [e]
    obtain ⟨h1, h2⟩ := chkT_iff.mp (chk_b n (by omega))
    exact ⟨h2, h1, fun t ht => by
      obtain ⟨a, _, h⟩ := List.mem_filterMap.mp ht
      exact led_dist h⟩
  · have e : (gt [(codes14 n).map Sum.inl, (codes14 n).map Sum.inl, (texts14 n).map Sum.inr] 2).filterMap (led14 2) = (bits14 n).filterMap brT := by
      show ((texts14 n).map Sum.inr).filterMap (led14 2) = _
      rw [fm_map, ← texts_tl n, fm_map]
      rfl
    rw [e]
    obtain ⟨h1, h2⟩ := chkT_iff.mp (chk_c n (by omega))
    exact ⟨h2, h1, fun t ht => by
      obtain ⟨a, _, h⟩ := List.mem_filterMap.mp ht
      exact led_br h⟩
theorem cat_le {m : Int} (hm : 0 ≤ m ∧ m ≤ 5) : 0 ≤ cat14 m ∧ cat14 m ≤ 42 := cat_gt (by omega) (by rw [catL_len]; omega)
/-! tuples that are trees -/
def isC (t : List Int) : Bool := decide (t.length ≤ 40) && decide (hungO (dropsOf (flatF t)) = some t)
theorem isTree_C (t : List Int) : isTree t = isC t := by
  unfold isC
  rw [Bool.eq_iff_iff, Bool.and_eq_true, decide_eq_true_iff, decide_eq_true_iff]
  constructor
  · exact fun h => ⟨(isTree_iff.mp h).1, hungO_tree h⟩
  · rintro ⟨h1, h2⟩
    exact led_drop (t := dropsOf (flatF t)) (by unfold dropT; rw [if_pos (by rw [dropsOf_len, flatF_len]; exact h1)]; exact h2)
theorem chk_d : ∀ m : Nat, m < 5 → (((((codes14 m).map fun d => d.map fun x => x - 1).filter isC).length : Nat) : Int) = cat14 m := by decide +kernel
theorem tup14 {m : Int} (hm : 0 ≤ m ∧ m < 5) : (((((codes14 m).map fun d => d.map fun x => x - 1).filter isTree).length : Nat) : Int) = cat14 m := by
  obtain ⟨n, rfl⟩ : ∃ n : Nat, m = n := ⟨m.toNat, by omega⟩
  rw [show isTree = isC from funext isTree_C]
  exact chk_d n (by omega)
theorem cnt_list {m way : Int} (hm : 0 ≤ m ∧ m ≤ 5) (hw : 0 ≤ way ∧ way < 3) : ∀ c ∈ lst14 m way, Tl 1000 way c := by
  intro c hc
  unfold lst14 at hc
  rcases (show way = 0 ∨ way = 1 ∨ way = 2 by omega) with z | z | z <;> subst z
  · obtain ⟨t, ht, rfl⟩ := List.mem_map.mp (show c ∈ (codes14 m).map Sum.inl from hc)
    obtain ⟨x, hx, rfl⟩ := List.mem_map.mp ht
    exact ⟨by omega, by unfold dig14; rw [digN_len]; omega⟩
  · obtain ⟨t, ht, rfl⟩ := List.mem_map.mp (show c ∈ (codes14 m).map Sum.inl from hc)
    obtain ⟨x, hx, rfl⟩ := List.mem_map.mp ht
    exact ⟨by omega, by unfold dig14; rw [digN_len]; omega⟩
  · obtain ⟨t, ht, rfl⟩ := List.mem_map.mp (show c ∈ (texts14 m).map Sum.inr from hc)
    obtain ⟨x, hx, rfl⟩ := List.mem_map.mp ht
    refine ⟨rfl, ?_⟩
    rw [one_join (fun y hy => by obtain ⟨k, _, rfl⟩ := List.mem_map.mp hy; rfl), List.length_map, rg_len]
    omega
theorem cnt_len {m way : Int} (hm : 0 ≤ m ∧ m ≤ 5) (hw : 0 ≤ way ∧ way < 3) : (lst14 m way).length ≤ 3125 := by
  obtain ⟨n, rfl⟩ : ∃ n : Nat, m = n := ⟨m.toNat, by omega⟩
  have h1 : (codes14 n).length ≤ 3125 := by
    have : ∀ k : Nat, k < 6 → (codes14 k).length ≤ 3125 := fun k hk => by
      unfold codes14
      rw [List.length_map, rg_len]
      rcases (show k = 0 ∨ k = 1 ∨ k = 2 ∨ k = 3 ∨ k = 4 ∨ k = 5 by omega) with z | z | z | z | z | z <;> subst z <;> decide
    exact this n (by omega)
  have h2 : (texts14 n).length ≤ 3125 := by
    rw [← List.length_map (f := tl), texts_tl]
    unfold bits14
    rw [List.length_map, List.length_range]
    have hn : n < 6 := by omega
    rcases (show n = 0 ∨ n = 1 ∨ n = 2 ∨ n = 3 ∨ n = 4 ∨ n = 5 by omega) with z | z | z | z | z | z <;> subst z <;> decide
  unfold lst14
  rcases (show way = 0 ∨ way = 1 ∨ way = 2 by omega) with z | z | z <;> subst z
  · show ((codes14 n).map Sum.inl).length ≤ _
    rw [List.length_map]; exact h1
  · show ((codes14 n).map Sum.inl).length ≤ _
    rw [List.length_map]; exact h1
  · show ((texts14 n).map Sum.inr).length ≤ _
    rw [List.length_map]; exact h2
theorem filt_some : ∀ l : List (Option (List Int)), ((l.filter fun c => decide (¬ c = none)).map fun c => oget c) = l.filterMap id
  | [] => rfl
  | none :: l => by rw [List.filter_cons, if_neg (by decide), filt_some l]; rfl
  | some a :: l => by rw [List.filter_cons, if_pos (by simp), List.map_cons, filt_some l]; rfl
theorem tup14d {m : Int} (hm : 0 ≤ m ∧ m < 5) : (((((codes14 m).map fun d => d.map fun x => x - 1).filter fun c => decide (isTree c = true)).length : Nat) : Int) = cat14 m := by
  rw [show (fun c => decide (isTree c = true)) = isTree from funext fun c => by simp]
  exact tup14 hm
theorem bal_snoc (l : List Nat) (c : Nat) : bal (l ++ [c]) = balS (bal l) c := by
  unfold bal
  rw [List.foldl_append]
  rfl
theorem TxI.nil {many : Int} (h : 5 ≤ many ∧ many ≤ 8) : TxI many ("" : Str) := ⟨h, 0, rfl, by omega, by rw [tl_em]; simp; omega, by rw [em_len, tl_em]; rfl, by rw [em_len]; simp; omega, by rw [em_len, tl_em]; rfl⟩
theorem TxI.l {many : Int} {text : Str} (h : TxI many text) (hl : (text.length : Int) < 2 * many) (hc : ((tl text).count 40 : Int) < many) : TxI many (text ++ ("(" : Str)) := by
  obtain ⟨h0, o, h1, h2, h3, h4, h5, h6⟩ := h
  have e : (text ++ ("(" : Str)).length = text.length + 1 := by rw [len_app]; rfl
  refine ⟨h0, o + 1, ?_, by omega, ?_, ?_, by rw [e]; omega, ?_⟩
  · rw [tl_app, tl_lb, bal_snoc, h1]; rfl
  · rw [tl_app, tl_lb, List.count_append, show [40].count 40 = 1 from rfl]; omega
  · rw [tl_app, tl_lb, List.count_append, show [40].count 40 = 1 from rfl, e]; omega
  · rw [tl_app, tl_lb, List.count_append, List.count_append, show [40].count 40 = 1 from rfl, show [40].count 41 = 0 from rfl, e]; omega
theorem TxI.r {many : Int} {text : Str} (h : TxI many text) (hl : (text.length : Int) < 2 * many) (hc : ¬ (((tl text).count 40 : Int) < many ∧ ((tl text).count 40 : Int) - ((tl text).count 41 : Int) = 0)) : TxI many (text ++ (")" : Str)) := by
  obtain ⟨h0, o, h1, h2, h3, h4, h5, h6⟩ := h
  have e : (text ++ (")" : Str)).length = text.length + 1 := by rw [len_app]; rfl
  have hpos : ¬ o = 0 := by omega
  refine ⟨h0, o - 1, ?_, by omega, ?_, ?_, by rw [e]; omega, ?_⟩
  · rw [tl_app, tl_rb, bal_snoc, h1]
    show (if (41 : Nat) = 40 then some (o + 1) else if (41 : Nat) = 41 then (if o = 0 then none else some (o - 1)) else none) = _
    rw [if_neg (by decide), if_pos rfl, if_neg hpos]
  · rw [tl_app, tl_rb, List.count_append, show [41].count 40 = 0 from rfl]; omega
  · rw [tl_app, tl_rb, List.count_append, show [41].count 40 = 0 from rfl, e]; omega
  · rw [tl_app, tl_rb, List.count_append, List.count_append, show [41].count 40 = 0 from rfl, show [41].count 41 = 1 from rfl, e]; omega
theorem TxI.fin {many : Int} {text : Str} (h : TxI many text) (hl : ¬ (text.length : Int) < 2 * many) : areBr (tl text) = true ∧ text.length ≤ 16 := by
  obtain ⟨h0, o, h1, h2, h3, h4, h5, h6⟩ := h
  refine ⟨?_, by omega⟩
  unfold areBr
  rw [decide_eq_true_iff, h1, ← len_tl]
  exact ⟨by congr 1; omega, by omega⟩
end TM


set_option Elab.async false
set_option linter.all false
set_option maxRecDepth 100000
set_option maxHeartbeats 4000000
namespace Law
open PySem L2 GL
def topS (i : Nat) : Stmt := PySem.Challenge.pw_dipkin_k14_whole_all_small_trees.main.body.getD i (.Pass ⟨0, 0, 0, 0⟩)
def PIlaw : HO → Prop := fun o => ∃ x : Int, o = .lst [.int x]
def sp_law_take : Sp := spV PIlaw (aCons rInt aNil) (fun (a : Int × Unit) => (0 < a.1 ∧ a.1 < 1073741824)) rInt (fun (a : Int × Unit) b => 0 ≤ b ∧ b < a.1)
theorem volx_law_take {C : Cn} {Γ : List Ent} {E : XK} {i : Nat} {p : Addr} {t1 : TE} {P1 : Int → Prop} (hv : Γ[i]? = some (.vol p)) (hPI : C.PI = PIlaw) (h1 : EvP C t1 Γ .h rInt P1) (hp0 : ∀ a1, P1 a1 → (0 < a1 ∧ a1 < 1073741824)) : EvX C (tCall sp_law_take [] E (tCons (tVar i) (tCons t1 tNil))) Γ (ResF C rInt (fun (b : Int) => ∃ a1, P1 a1 ∧ (0 ≤ b ∧ b < a1))) := ex_vol1 hv hPI h1 (fun a1 _p1 => hp0 a1 _p1)
theorem vol_law_take {C : Cn} {Γ : List Ent} {E : XK} {i : Nat} {p : Addr} {t1 : TE} {a1 : Int} (hv : Γ[i]? = some (.vol p)) (hPI : C.PI = PIlaw) (h1 : Ev C t1 Γ .h rInt a1) (hp0 : 0 < a1 ∧ a1 < 1073741824) : EvX C (tCall sp_law_take [] E (tCons (tVar i) (tCons t1 tNil))) Γ (ResF C rInt (fun (b : Int) => 0 ≤ b ∧ b < a1)) := (volx_law_take hv hPI h1 (fun y1 e1 => by subst e1; exact hp0)).imp fun b h => by obtain ⟨y1, e1, po⟩ := h; subst e1; exact po
theorem volnx_law_take {C : Cn} {Γ : List Ent} {E : XK} {te : TE} {γ : Type} {S0 : Rl γ} {Pz : List γ → Prop} (f0 : Flat S0) (h0 : EvX C te Γ (ResF C (rList S0) Pz)) (hvz : ∀ xs l, Pz l → (∀ H, All2 (S0.is H) xs l) → PIlaw (.lst xs)) {t1 : TE} {P1 : Int → Prop} (h1 : EvP C t1 Γ .h rInt P1) (hp0 : ∀ a1, P1 a1 → (0 < a1 ∧ a1 < 1073741824)) : EvX C (tCall sp_law_take [] E (tCons te (tCons t1 tNil))) Γ (ResF C rInt (fun (b : Int) => ∃ a1, P1 a1 ∧ (0 ≤ b ∧ b < a1))) := ex_voln1 f0 h0 hvz h1 fl_int (fun a1 _p1 => hp0 a1 _p1)
theorem voln_law_take {C : Cn} {Γ : List Ent} {E : XK} {te : TE} {γ : Type} {S0 : Rl γ} {Pz : List γ → Prop} (f0 : Flat S0) (h0 : EvX C te Γ (ResF C (rList S0) Pz)) (hvz : ∀ xs l, Pz l → (∀ H, All2 (S0.is H) xs l) → PIlaw (.lst xs)) {t1 : TE} {a1 : Int} (h1 : Ev C t1 Γ .h rInt a1) (hp0 : 0 < a1 ∧ a1 < 1073741824) : EvX C (tCall sp_law_take [] E (tCons te (tCons t1 tNil))) Γ (ResF C rInt (fun (b : Int) => 0 ≤ b ∧ b < a1)) := (volnx_law_take f0 h0 hvz h1 (fun y1 e1 => by subst e1; exact hp0)).imp fun b h => by obtain ⟨y1, e1, po⟩ := h; subst e1; exact po
def t_law_take (K : PySem.W.Frag) (E : XK) : TS :=
(tSeq (tAsg (tOp (rI (fun _ j => 0 < j) fun i j => .int (i % j)) (tOp (rIxK K .l) (tVar 0) (tC (.int 0))) (tVar 1)) (gName 2))
(tSeq (tAsg (tOp (rI CDiv fun i j => .int (i / j)) (tOp (rIxK K .l) (tVar 0) (tC (.int 0))) (tVar 1)) (gSub (tVar 0) (tC (.int 0)) rSetL))
(tSeq (tRet (tVar 2)) tNext)))
abbrev s_law_take : Stmt := topS 23
theorem sc_law_take : FnScope ["pot", "many", "digit"] ["pot", "many"] (defScope s_law_take) := ⟨rfl, rfl, rfl, by decide +kernel, rfl, by decide +kernel, by decide +kernel⟩
theorem ok_law_take {P : Program} {w : PySem.World} {K : PySem.W.Frag} {mg : Str → Option Value} {base : Heap} {f : Addr} {fd : FuncData} (F : Fun K "_law_take" "_law_take" s_law_take f fd) : FnOk P w K mg base CX0 1 f fd ["pot", "many"] sp_law_take := by
  have sc := sc_law_take
  refine F.ok sc (fun vs H Q E h => ?_) (fun cdv A outer s H vs Q E hr h => ?_)
  · obtain ⟨p_, r_, a_, o_, rfl, _, _, h1_, _⟩ := h
    obtain ⟨v1, _, rfl, _ha1, rfl⟩ := h1_
    rfl
  · obtain ⟨p_, r_, ⟨many_, _⟩, o_, rfl, ho_, hPI_, ⟨v1, _, rfl, ha1, rfl⟩, hp0, hq_⟩ := h
    refine ⟨t_law_take K E, ?_, ?_⟩
    · unfold t_law_take
      exact (pss_cons (ps_set (i := 2) sc.nd rfl (Or.inl rfl) (pe_op op_mod (pe_ix ix_list (pv 0) pe_int (fun _ _ => rfl)) (pv 1)))
(pss_cons (ps_asg (pe_op op_fdiv (pe_ix ix_list (pv 0) pe_int (fun _ _ => rfl)) (pv 1)) (pg_sub (pv 0) pe_int set_list))
(pss_cons (ps_ret (pv 2)) pss_nil)))
    · unfold t_law_take
      obtain ⟨x, rfl⟩ := hPI_
      change rInt.is _ v1 many_ at ha1
      change 0 < many_ ∧ many_ < 1073741824 at hp0
      obtain rfl : v1 = .int many_ := ha1
      have hl : SqL K H p_ [V.int x] := .inl (.inl ho_)
      refine ⟨.ref p_, rfl, p_, [V.int x], 0, .int x, rfl, rfl, hl, rfl, .int many_, rfl, x, many_, rfl, rfl, hp0.1, ?_⟩
      refine ⟨.ref p_, rfl, p_, [V.int x], 0, .int x, rfl, rfl, hl, rfl, .int many_, rfl, x, many_, rfl, rfl, ⟨hp0.1, hp0.2⟩, ?_⟩
      refine ⟨.ref p_, rfl, p_, [V.int x], 0, 0, rfl, rfl, ho_, rfl, .int (x % many_), rfl, ?_⟩
      exact hq_ _ _ (x % many_) same_hid_upd ⟨_, upd_same, _, rfl⟩ rfl ⟨Int.emod_nonneg _ (by omega), Int.emod_lt_of_pos _ hp0.1⟩
def sp_law_pot (K : PySem.W.Frag) : Sp := spF (aCons (rScr K) (aCons rInt aNil)) (fun (a : (List Int) × Int × Unit) => (0 ≤ a.2.1 ∧ a.2.1 ≤ 1000000)) (rList rInt) (fun (a : (List Int) × Int × Unit) b => ∃ x, b = [x]) (fun _ _ => False)
theorem call_law_pot {C : Cn} {Γ : List Ent} {E : XK} {K : PySem.W.Frag} {t1 : TE} {t2 : TE} {a1 : (List Int)} {a2 : Int} (h1 : Ev C t1 Γ .h (rScr K) a1) (h2 : Ev C t2 Γ .h rInt a2) (hp0 : 0 ≤ a2 ∧ a2 ≤ 1000000) : EvX C (tCall (sp_law_pot K) [] E (tCons t1 (tCons t2 tNil))) Γ (ResF C (rList rInt) (fun (b : (List Int)) => ∃ x, b = [x])) := ed_call2 h1 h2 hp0 exc0 (fun _ z => z)
theorem callx_law_pot {C : Cn} {Γ : List Ent} {E : XK} {K : PySem.W.Frag} {t1 : TE} {t2 : TE} {P1 : (List Int) → Prop} {P2 : Int → Prop} (h1 : EvP C t1 Γ .h (rScr K) P1) (h2 : EvP C t2 Γ .h rInt P2) (hp0 : ∀ a1 a2, P1 a1 → P2 a2 → (0 ≤ a2 ∧ a2 ≤ 1000000)) : EvX C (tCall (sp_law_pot K) [] E (tCons t1 (tCons t2 tNil))) Γ (ResF C (rList rInt) (fun (b : (List Int)) => ∃ a1 a2, P1 a1 ∧ P2 a2 ∧ (∃ x, b = [x]))) := ex_call2 h1 h2 (fun a1 a2 _p1 _p2 => hp0 a1 a2 _p1 _p2) exc0 (fun a1 a2 _p1 _p2 => fun _ z => z)
def t_law_pot (K : PySem.W.Frag) (E : XK) : TS :=
(tSeq (tAsg (tC (.int 0)) (gName 2))
(tCut (tIfS (tTest (tOp (rI0 fun i j => .bl (decide (i < j))) (tVar 1) (tCB (rLenS K) (tCons (tVar 0) tNil)))) (tSeq (tAsg (tOp (rIxK K .l) (tVar 0) (tVar 1)) (gName 2))
tNext) tNext)
(tSeq (tIfS (tTest (tOp (rI0 fun i j => .bl (decide (j ≤ i))) (tVar 2) (tOp (rI CPow fun i j => .int (i ^ j.toNat)) (tC (.int 10)) (tC (.int 18))))) (tSeq (tRet (tLst (tCons (tOp (rI (fun _ j => 0 < j) fun i j => .int (i % j)) (tOp (rI0 fun i j => .int (i - j)) (tVar 2) (tOp (rI CPow fun i j => .int (i ^ j.toNat)) (tC (.int 10)) (tC (.int 18)))) (tOp (rI CMulW fun i j => .int (i * j)) (tOp (rI CMulW fun i j => .int (i * j)) (tOp (rI CMulW fun i j => .int (i * j)) (tOp (rI CPow fun i j => .int (i ^ j.toNat)) (tC (.int 10)) (tC (.int 60))) (tOp (rI CPow fun i j => .int (i ^ j.toNat)) (tC (.int 10)) (tC (.int 60)))) (tOp (rI CPow fun i j => .int (i ^ j.toNat)) (tC (.int 10)) (tC (.int 60)))) (tOp (rI CPow fun i j => .int (i ^ j.toNat)) (tC (.int 10)) (tC (.int 60))))) tNil))) tNext) tNext)
(tSeq (tAsg (tC (.int 0)) (gName 3))
(tSeq (tAsg (tOp (rI0 fun i j => .int (i + j)) (tOp (rI0 fun i j => .int (i + j)) (tOp (rI (fun _ j => 0 < j) fun i j => .int (i % j)) (tVar 2) (tC (.int 2147483647))) (tOp (rI CMul fun i j => .int (i * j)) (tC (.int 271)) (tVar 1))) (tC (.int 65537))) (gName 4))
(tSeq (tFor (iRng1 (tCons (tC (.int 50)) tNil)) (gName 5)
(tSeq (tAsg (tOp (rI (fun _ j => 0 < j) fun i j => .int (i % j)) (tOp (rI0 fun i j => .int (i + j)) (tOp (rI0 fun i j => .int (i + j)) (tOp (rI CMul fun i j => .int (i * j)) (tVar 4) (tC (.int 48271))) (tOp (rI CMul fun i j => .int (i * j)) (tC (.int 7919)) (tVar 5))) (tC (.int 104729))) (tC (.int 2147483647))) (gName 4))
(tSeq (tAsg (tOp (rI0 fun i j => .int (i + j)) (tOp (rI CMul fun i j => .int (i * j)) (tVar 3) (tC (.int 1048576))) (tOp (rI (fun _ j => 0 < j) fun i j => .int (i % j)) (tOp (rI CDiv fun i j => .int (i / j)) (tOp (rI (fun _ j => 0 < j) fun i j => .int (i % j)) (tOp (rI CMul fun i j => .int (i * j)) (tVar 4) (tVar 4)) (tC (.int 2147483629))) (tC (.int 128))) (tC (.int 1048576)))) (gName 3))
tNext)))
(tSeq (tRet (tLst (tCons (tVar 3) tNil))) tNext)))))))
theorem go_law_pot {K : PySem.W.Frag} {C : Cn} {D : Ends} {E : XK} (script_ : (List Int)) (k_ : Int) (hp0 : 0 ≤ k_ ∧ k_ ≤ 1000000) (hR : RetOk C D (rList rInt) (fun (b : (List Int)) => ∃ x, b = [x])) :
    Go C (t_law_pot K E) D [.val .m (rScr K) script_, .val .m rInt k_, .no, .no, .no, .no] := by
  unfold t_law_pot
  refine q_asg (i := 2) (ℓ := .g) (ev_int) (fun cell1 hcell1 => ?_)
  replace hcell1 : cell1 = (0 : Int) := hcell1
  refine q_cut (S := Int) (fun s => [.val .m (rScr K) script_, .val .m rInt k_, .val .g rInt s, .no, .no, .no]) (fun s => (((k_ < ((script_).length : Int)) → s = (gt script_ k_)) ∧ (¬ (k_ < ((script_).length : Int)) → s = cell1))) (c_ifC (ec_tst (ev_lt (((ev_var (R := rInt) (a := k_) rfl)).toh) ((ev_lenScr ((ev_var (R := (rScr K)) (a := script_) rfl)).toh)))) (fun h2 => ?_) (fun h2 => ?_)) (fun s h2j => ?_)
  · refine q_asg (i := 2) (ℓ := .g) ((ev_ixScr ((ev_var (R := (rScr K)) (a := script_) rfl)).toh (((ev_var (R := rInt) (a := k_) rfl)).toh) (by first | omega | assumption | (simp; done) | (constructor <;> omega) | (simp; omega)))) (fun cell3 hcell3 => ?_)
    replace hcell3 : cell3 = (gt script_ k_) := hcell3
    refine q_next (hol_in cell3 ?_ (LeG.k (LeG.k (LeG.k (LeG.f (LeG.f (LeG.f LeG.nil)))))))
    show (((k_ < ((script_).length : Int)) → cell3 = (gt script_ k_)) ∧ (¬ (k_ < ((script_).length : Int)) → cell3 = cell1))
    first | exact ⟨fun _ => by assumption, fun z => absurd (by assumption) z⟩ | exact ⟨fun z => absurd z (by assumption), fun _ => by assumption⟩ | exact ⟨fun _ => rfl, fun z => absurd (by assumption) z⟩ | exact ⟨fun z => absurd z (by assumption), fun _ => rfl⟩ | (constructor <;> intro _ <;> first | assumption | rfl | contradiction | omega)
  · refine q_next (hol_in cell1 ?_ (LeG.k (LeG.k (LeG.k (LeG.f (LeG.f (LeG.f LeG.nil)))))))
    show (((k_ < ((script_).length : Int)) → cell1 = (gt script_ k_)) ∧ (¬ (k_ < ((script_).length : Int)) → cell1 = cell1))
    first | exact ⟨fun _ => by assumption, fun z => absurd (by assumption) z⟩ | exact ⟨fun z => absurd z (by assumption), fun _ => by assumption⟩ | exact ⟨fun _ => rfl, fun z => absurd (by assumption) z⟩ | exact ⟨fun z => absurd z (by assumption), fun _ => rfl⟩ | (constructor <;> intro _ <;> first | assumption | rfl | contradiction | omega)
  revert s h2j; intro cell4 h2j
  replace h2j : (((k_ < ((script_).length : Int)) → cell4 = (gt script_ k_)) ∧ (¬ (k_ < ((script_).length : Int)) → cell4 = cell1)) := h2j
  refine q_ifT (ec_tst (ev_ge (((ev_var (R := rInt) (a := cell4) rfl)).toh) ((ev_eqc (ev_pow (ev_int) (ev_int) (by unfold CPow; decide)) (c := 1000000000000000000) (by decide +kernel))))) (fun h5 => ?_) (fun h5 => ?_)
  · refine q_ret ((ev_new (ℓ := .g) (en_lstd (ℓ := .g) (em_cons ((ev_mod ((ev_sub (((ev_var (R := rInt) (a := cell4) rfl)).toh) ((ev_eqc (ev_pow (ev_int) (ev_int) (by unfold CPow; decide)) (c := 1000000000000000000) (by decide +kernel))))) ((ev_eqc (ev_mulW ((ev_eqc (ev_mulW ((ev_eqc (ev_mulW ((ev_eqc (ev_pow (ev_int) (ev_int) (by unfold CPow; decide)) (c := 1000000000000000000000000000000000000000000000000000000000000) (by decide +kernel))) ((ev_eqc (ev_pow (ev_int) (ev_int) (by unfold CPow; decide)) (c := 1000000000000000000000000000000000000000000000000000000000000) (by decide +kernel))) (wide_mul (a := 201) (b := 201) (by decide +kernel) (by decide +kernel) (by decide) (by decide) (by decide))) (c := 1000000000000000000000000000000000000000000000000000000000000000000000000000000000000000000000000000000000000000000000000) (by decide +kernel))) ((ev_eqc (ev_pow (ev_int) (ev_int) (by unfold CPow; decide)) (c := 1000000000000000000000000000000000000000000000000000000000000) (by decide +kernel))) (wide_mul (a := 400) (b := 201) (by decide +kernel) (by decide +kernel) (by decide) (by decide) (by decide))) (c := 1000000000000000000000000000000000000000000000000000000000000000000000000000000000000000000000000000000000000000000000000000000000000000000000000000000000000000000000000000000000000) (by decide +kernel))) ((ev_eqc (ev_pow (ev_int) (ev_int) (by unfold CPow; decide)) (c := 1000000000000000000000000000000000000000000000000000000000000) (by decide +kernel))) (wide_mul (a := 599) (b := 201) (by decide +kernel) (by decide +kernel) (by decide) (by decide) (by decide))) (c := 1000000000000000000000000000000000000000000000000000000000000000000000000000000000000000000000000000000000000000000000000000000000000000000000000000000000000000000000000000000000000000000000000000000000000000000000000000000000000000000000000) (by decide +kernel))) (by decide +kernel))) em_nil) (Nat.le_of_ble_eq_true rfl)))) hR (fun r6 hr6 => ?_)
    replace hr6 : r6 = [((cell4 - (1000000000000000000 : Int)) % (1000000000000000000000000000000000000000000000000000000000000000000000000000000000000000000000000000000000000000000000000000000000000000000000000000000000000000000000000000000000000000000000000000000000000000000000000000000000000000000000000 : Int))] := hr6
    show ∃ x, r6 = [x]
    (try rw [hr6])
    exact ⟨_, rfl⟩
  refine q_asg (i := 3) (ℓ := .g) (ev_int) (fun great7 hgreat7 => ?_)
  replace hgreat7 : great7 = (0 : Int) := hgreat7
  refine q_asg (i := 4) (ℓ := .g) ((ev_add ((ev_add ((ev_mod (((ev_var (R := rInt) (a := cell4) rfl)).toh) (ev_int) (by decide +kernel))) ((ev_mul (ev_int) (((ev_var (R := rInt) (a := k_) rfl)).toh) (.inl (by decide)))))) (ev_int))) (fun one8 hone8 => ?_)
  replace hone8 : one8 = (((cell4 % (2147483647 : Int)) + ((271 : Int) * k_)) + (65537 : Int)) := hone8
  refine q_forD (j := 5) (σS := Int × Int) (fun s => [.val .m (rScr K) script_, .val .m rInt k_, .val .g rInt cell4, .val .g rInt s.2, .val .g rInt s.1, .no]) (fun (i : Nat) (s : Int × Int) => (0 ≤ s.1 ∧ s.1 < 1099511627776)) (one8, great7) (ei_rg1d (b := true) (ℓ := .g) (ev_int) (by first | omega | assumption | (simp; done) | (constructor <;> omega) | (simp; omega))) (by
        show (0 ≤ one8 ∧ one8 < 1099511627776)
        first | omega | assumption | (simp; done) | (constructor <;> omega) | (simp; omega)) (LeG.k (LeG.k (LeG.k (LeG.k (LeG.k (LeG.f LeG.nil)))))) (fun C1 hc1 i1 x9 s hx9 hI0 => ?_) (fun s hI0 => ?_)
  · obtain ⟨one10, great11⟩ := s
    replace hI0 : (0 ≤ one10 ∧ one10 < 1099511627776) := hI0
    have hR := hR.ex hc1
    have hx9l := at_lt hx9
    have hx9r := rg_at hx9
    rw [rg_len] at hx9l
    refine q_asg (i := 4) (ℓ := .g) ((ev_mod ((ev_add ((ev_add ((ev_mul (((ev_var (R := rInt) (a := one10) rfl)).toh) (ev_int) (.inr (by decide)))) ((ev_mul (ev_int) (((ev_var (R := rInt) (a := x9) rfl)).toh) (.inl (by decide)))))) (ev_int))) (ev_int) (by decide +kernel))) (fun one12 hone12 => ?_)
    replace hone12 : one12 = ((((one10 * (48271 : Int)) + ((7919 : Int) * x9)) + (104729 : Int)) % (2147483647 : Int)) := hone12
    refine q_asg (i := 3) (ℓ := .g) ((ev_add ((ev_mul (((ev_var (R := rInt) (a := great11) rfl)).toh) (ev_int) (.inr (by decide)))) ((ev_mod ((ev_fdiv ((ev_mod ((ev_mul (((ev_var (R := rInt) (a := one12) rfl)).toh) (((ev_var (R := rInt) (a := one12) rfl)).toh) (by unfold CMul; omega))) (ev_int) (by decide +kernel))) (ev_int) (by unfold CDiv; decide))) (ev_int) (by decide +kernel))))) (fun great13 hgreat13 => ?_)
    replace hgreat13 : great13 = ((great11 * (1048576 : Int)) + ((((one12 * one12) % (2147483629 : Int)) / (128 : Int)) % (1048576 : Int))) := hgreat13
    refine q_next (hol_in (one12, great13) ?_ (LeG.k (LeG.k (LeG.k (LeG.k (LeG.k (LeG.f LeG.nil)))))))
    show (0 ≤ one12 ∧ one12 < 1099511627776)
    all_goals (first | omega | assumption | (simp; done) | (constructor <;> omega) | (simp; omega))
  obtain ⟨one14, great15⟩ := s
  replace hI0 : (0 ≤ one14 ∧ one14 < 1099511627776) := hI0
  show Go _ _ _ [.val .m (rScr K) script_, .val .m rInt k_, .val .g rInt cell4, .val .g rInt great15, .val .g rInt one14, .no]
  refine q_ret ((ev_new (ℓ := .g) (en_lstd (ℓ := .g) (em_cons ((ev_var (R := rInt) (a := great15) rfl)) em_nil) (Nat.le_of_ble_eq_true rfl)))) hR (fun r16 hr16 => ?_)
  replace hr16 : r16 = [great15] := hr16
  show ∃ x, r16 = [x]
  (try rw [hr16])
  exact ⟨_, rfl⟩
abbrev s_law_pot : Stmt := topS 22
theorem sc_law_pot : FnScope ["script", "k", "cell", "great", "one", "turn"] ["script", "k"] (defScope s_law_pot) := ⟨rfl, rfl, rfl, by decide +kernel, rfl, by decide +kernel, by decide +kernel⟩
theorem ok_law_pot {P : Program} {w : PySem.World} {K : PySem.W.Frag} {mg : Str → Option Value} {base : Heap} {f : Addr} {fd : FuncData} (F : Fun K "_law_pot" "_law_pot" s_law_pot f fd) (m_len : mg "len" = none) (m_range : mg "range" = none) : FnOk P w K mg base CX0 1 f fd ["script", "k"] (sp_law_pot K) := by
  have sc := sc_law_pot
  refine F.ok sc (fun vs H Q E h => ?_) (fun cdv A outer s H vs Q E hr h => ?_)
  · obtain ⟨a_, ha_, _⟩ := h
    obtain ⟨v1, _, rfl, _ha1, ⟨v2, _, rfl, _ha2, rfl⟩⟩ := ha_
    rfl
  · obtain ⟨⟨script_, k_, _⟩, ⟨v1, _, rfl, ha1, ⟨v2, _, rfl, ha2, rfl⟩⟩, hp0, hR, hE⟩ := spF_open PIlaw (n := fun _ H' => Q .non H') h
    refine ⟨t_law_pot K E, ?_, go_law_pot (C := (Cn0 PIlaw H)) script_ k_ hp0 hR _ (W0 H []) (world_of (bok0 (PI := PIlaw) H) ⟨⟨by decide, v1, rfl, (rScr K).mono (mw0 (PI := PIlaw) H) ha1⟩, ⟨⟨by decide, v2, rfl, rInt.mono (mw0 (PI := PIlaw) H) ha2⟩, ⟨trivial, ⟨trivial, ⟨trivial, ⟨trivial, trivial⟩⟩⟩⟩⟩⟩ rfl)⟩
    unfold t_law_pot
    exact (pss_cons (ps_set (i := 2) sc.nd rfl (Or.inl rfl) pe_int)
(pss_cut (ps_if (pt_cmpR op_lt (pv 1) (pe_callB call_len_seq (by rfl) m_len bt_len (pa_cons (pv 0) pa_nil)) (nomark _)) (pss_cons (ps_set (i := 2) sc.nd rfl (Or.inl rfl) (pe_ix ix_list (pv 0) (pv 1) (fun _ _ => rfl)))
pss_nil) pss_nil)
(pss_cons (ps_if (pt_cmpR op_ge (pv 2) (pe_op op_pow pe_int pe_int) (nomark _)) (pss_cons (ps_ret (pe_lst (pa_cons (pe_op op_mod (pe_op op_sub (pv 2) (pe_op op_pow pe_int pe_int)) (pe_op op_mulW (pe_op op_mulW (pe_op op_mulW (pe_op op_pow pe_int pe_int) (pe_op op_pow pe_int pe_int)) (pe_op op_pow pe_int pe_int)) (pe_op op_pow pe_int pe_int))) pa_nil))) pss_nil) pss_nil)
(pss_cons (ps_set (i := 3) sc.nd rfl (Or.inl rfl) pe_int)
(pss_cons (ps_set (i := 4) sc.nd rfl (Or.inl rfl) (pe_op op_add (pe_op op_add (pe_op op_mod (pv 2) pe_int) (pe_op op_mul pe_int (pv 1))) pe_int))
(pss_cons (ps_for PassesOwn.never rfl (pi_range1 rfl m_range (pa_cons pe_int pa_nil)) (pg_name (i := 5) sc.nd rfl (Or.inl rfl))
(pss_cons (ps_set (i := 4) sc.nd rfl (Or.inl rfl) (pe_op op_mod (pe_op op_add (pe_op op_add (pe_op op_mul (pv 4) pe_int) (pe_op op_mul pe_int (pv 5))) pe_int) pe_int))
(pss_cons (ps_set (i := 3) sc.nd rfl (Or.inl rfl) (pe_op op_add (pe_op op_mul (pv 3) pe_int) (pe_op op_mod (pe_op op_fdiv (pe_op op_mod (pe_op op_mul (pv 4) (pv 4)) pe_int) pe_int) pe_int)))
pss_nil)))
(pss_cons (ps_ret (pe_lst (pa_cons (pv 3) pa_nil))) pss_nil)))))))
def sp_law_many : Sp := spF (aCons rInt aNil) (fun (a : Int × Unit) => (0 ≤ a.1 ∧ a.1 ≤ 5)) rInt (fun (a : Int × Unit) b => b = TM.cat14 a.1) (fun _ _ => False)
theorem call_law_many {C : Cn} {Γ : List Ent} {E : XK} {t1 : TE} {a1 : Int} (h1 : Ev C t1 Γ .h rInt a1) (hp0 : 0 ≤ a1 ∧ a1 ≤ 5) : EvX C (tCall (sp_law_many) [] E (tCons t1 tNil)) Γ (ResF C rInt (fun b => b = TM.cat14 a1)) := ed_call1 h1 hp0 exc0 (fun _ z => z)
theorem callx_law_many {C : Cn} {Γ : List Ent} {E : XK} {t1 : TE} {P1 : Int → Prop} (h1 : EvP C t1 Γ .h rInt P1) (hp0 : ∀ a1, P1 a1 → (0 ≤ a1 ∧ a1 ≤ 5)) : EvX C (tCall (sp_law_many) [] E (tCons t1 tNil)) Γ (ResF C rInt (fun b => ∃ a1, P1 a1 ∧ (b = TM.cat14 a1))) := ex_call1 h1 (fun a1 _p1 => hp0 a1 _p1) exc0 (fun a1 _p1 => fun _ z => z)
def t_law_many (K : PySem.W.Frag) (E : XK) : TS :=
(tSeq (tAsg (tLst (tCons (tC (.int 1)) tNil)) (gName 1))
(tSeq (tFor (iRng1 (tCons (tVar 0) tNil)) (gName 2)
(tSeq (tDrop (tBM K "list" rAppend (tVar 1) (tCons (tCB (rSum K) (tCons (tLc (iRng1 (tCons (tOp (rI0 fun i j => .int (i + j)) (tVar 2) (tC (.int 1))) tNil)) (gName 3) tYes (tOp (rI CMul fun i j => .int (i * j)) (tOp (rIxK K .l) (tVar 1) (tVar 3)) (tOp (rIxK K .l) (tVar 1) (tOp (rI0 fun i j => .int (i - j)) (tVar 2) (tVar 3)))) [3]) tNil)) tNil)))
tNext))
(tSeq (tRet (tOp (rIxK K .l) (tVar 1) (tVar 0))) tNext)))
theorem go_law_many {K : PySem.W.Frag} {C : Cn} {D : Ends} {E : XK} (many_ : Int) (hp0 : 0 ≤ many_ ∧ many_ ≤ 5) (hR : RetOk C D rInt (fun b => b = TM.cat14 many_)) :
    Go C (t_law_many K E) D [.val .m rInt many_, .no, .no, .no] := by
  unfold t_law_many
  refine q_asgN (i := 1) (ℓ := .g) (en_lstd (ℓ := .g) (em_cons (ev_int) em_nil) (Nat.le_of_ble_eq_true rfl)) (fun p2 found1 hfound1 => ?_)
  refine q_forD (j := 2) (σS := (List Int)) (fun s => [.val .m rInt many_, .own p2 .g rInt s, .no, .no]) (fun (i : Nat) (s : (List Int)) => (s = TM.catL (i))) found1 (ei_rg1d (b := true) (ℓ := .g) (((ev_var (R := rInt) (a := many_) rfl)).toh) (by omega)) (by
        show (found1 = TM.catL (0))
        assumption) (LeG.k (LeG.k (LeG.f (LeG.f LeG.nil)))) (fun C1 hc1 i1 x3 s hx3 hI0 => ?_) (fun s hI0 => ?_)
  · revert s hI0; intro found4 hI0
    replace hI0 : (found4 = TM.catL (i1)) := hI0
    have hR := hR.ex hc1
    have hx3l := at_lt hx3
    have hx3r := rg_at hx3
    rw [rg_len] at hx3l
    have hfl_ : (found4).length = i1 + 1 := by rw [hI0]; exact TM.catL_len _
    have hsm_ : ∀ j : Int, 0 ≤ j → j < ((found4).length : Int) → 0 ≤ gt found4 j ∧ gt found4 j ≤ 42 := fun j h1 h2 => by
      rw [hI0] at h2 ⊢
      exact TM.cat_gt (by omega) ⟨h1, h2⟩
    refine q_app (i := 1) (p := p2) rfl ((ev_sum (EvS.fl fl_int (es_list (ev_new (ℓ := .g) (en_mapd (ℓ' := .g) (fun c5 : Int => ((gt found4 c5) * (gt found4 (x3 - c5)))) (ei_rg1d (b := false) (ℓ := .g) ((ev_add (((ev_var (R := rInt) (a := x3) rfl)).toh) (ev_int))) (by omega)) (by rw [rg_len]; omega) (fun c5 hc6 => by
            have hc6_ := rg_mem.mp hc6
            exact (ev_mul (((ev_ix (es_own (R := rInt) (l := found4) rfl) (((ev_var (R := rInt) (a := c5) rfl)).toh) (by have hk_ := rg_mem.mp hc6; omega))).toh) (((ev_ix (es_own (R := rInt) (l := found4) rfl) ((ev_sub (((ev_var (R := rInt) (a := x3) rfl)).toh) (((ev_var (R := rInt) (a := c5) rfl)).toh))) (by have hk_ := rg_mem.mp hc6; omega))).toh) (by
                      have hk_ := rg_mem.mp hc6
                      have a_ := hsm_ c5 (by omega) (by omega)
                      have b_ := hsm_ (x3 - c5) (by omega) (by omega)
                      unfold CMul; omega))))))))) (by omega) (fun e8 he8 => ?_)
    replace he8 : e8 = ((((rg 0 (x3 + (1 : Int))).map (fun c5 : Int => ((gt found4 c5) * (gt found4 (x3 - c5)))))).sum) := he8
    rw [he8]; clear he8 e8
    refine q_next (hol_in (found4 ++ [((((rg 0 (x3 + (1 : Int))).map (fun c5 : Int => ((gt found4 c5) * (gt found4 (x3 - c5)))))).sum)]) ?_ (LeG.k (LeG.k (LeG.f (LeG.f LeG.nil)))))
    show ((found4 ++ [((((rg 0 (x3 + (1 : Int))).map (fun c5 : Int => ((gt found4 c5) * (gt found4 (x3 - c5)))))).sum)]) = TM.catL ((i1 + 1)))
    have hk_ : x3 = (i1 : Int) := by omega
    rw [hI0, hk_]; rfl
  revert s hI0; intro found9 hI0
  replace hI0 : (found9 = TM.catL (((rg 0 many_)).length)) := hI0
  simp only [rg_len] at hI0
  show Go _ _ _ [.val .m rInt many_, .own p2 .g rInt found9, .no, .no]
  refine q_ret ((ev_ix (es_own (R := rInt) (l := found9) rfl) (((ev_var (R := rInt) (a := many_) rfl)).toh) (by rw [hI0, TM.catL_len]; omega))) hR (fun r10 hr10 => ?_)
  replace hr10 : r10 = (gt found9 many_) := hr10
  show r10 = TM.cat14 many_
  rw [hr10]
  rw [hI0]; unfold TM.cat14; rw [show (many_ - 0).toNat = (many_).toNat by omega]
abbrev s_law_many : Stmt := topS 26
theorem sc_law_many : FnScope ["many", "found", "k", "j"] ["many"] (defScope s_law_many) := ⟨rfl, rfl, rfl, by decide +kernel, rfl, by decide +kernel, by decide +kernel⟩
theorem ok_law_many {P : Program} {w : PySem.World} {K : PySem.W.Frag} {mg : Str → Option Value} {base : Heap} {f : Addr} {fd : FuncData} (F : Fun K "_law_many" "_law_many" s_law_many f fd) (m_range : mg "range" = none) (m_sum : mg "sum" = none) : FnOk P w K mg base CX0 1 f fd ["many"] sp_law_many := by
  have sc := sc_law_many
  refine F.ok sc (fun vs H Q E h => ?_) (fun cdv A outer s H vs Q E hr h => ?_)
  · obtain ⟨a_, ha_, _⟩ := h
    obtain ⟨v1, _, rfl, _ha1, rfl⟩ := ha_
    rfl
  · obtain ⟨⟨many_, _⟩, ⟨v1, _, rfl, ha1, rfl⟩, hp0, hR, hE⟩ := spF_open PIlaw (n := fun _ H' => Q .non H') h
    refine ⟨t_law_many K E, ?_, go_law_many (C := (Cn0 PIlaw H)) many_ hp0 hR _ (W0 H []) (world_of (bok0 (PI := PIlaw) H) ⟨⟨by decide, v1, rfl, rInt.mono (mw0 (PI := PIlaw) H) ha1⟩, ⟨trivial, ⟨trivial, ⟨trivial, trivial⟩⟩⟩⟩ rfl)⟩
    unfold t_law_many
    exact (pss_cons (ps_set (i := 1) sc.nd rfl (Or.inr rfl) (pe_lst (pa_cons pe_int pa_nil)))
(pss_cons (ps_for PassesOwn.never rfl (pi_range1 rfl m_range (pa_cons (pv 0) pa_nil)) (pg_name (i := 2) sc.nd rfl (Or.inr rfl))
(pss_cons (ps_expr (pe_bm PySem.F.plainAttrs_list PySem.F.slot_list_append PySem.F.type_list_append mt_append (pv 1) (pa_cons (pe_callB (cr_sum rfl) (by rfl) m_sum bt_sum (pa_cons (pe_lc (own := [("j", 3)]) (g := (gName 3)) rfl sc.nd (pi_range1 rfl m_range (pa_cons (pe_op op_add (pv 2) pe_int) pa_nil)) (blkOk_by (own := [("j", 3)]) (N := ["many", "found", "k", "j"]) (sc := defScope s_law_many) (by decide +kernel)) (fun _ _ _ _ _ => pg_name (i := 3) sc.nd rfl (Or.inl rfl)) (fun _ _ _ _ _ => pts_nil) (fun _ _ _ _ _ => (pe_op op_mul (pe_ix ix_list (pv 1) (pv 3) (fun _ _ => rfl)) (pe_ix ix_list (pv 1) (pe_op op_sub (pv 2) (pv 3)) (fun _ _ => rfl))))) pa_nil)) pa_nil)))
pss_nil))
(pss_cons (ps_ret (pe_ix ix_list (pv 1) (pv 0) (fun _ _ => rfl))) pss_nil)))
def sp_law_digits : Sp := spF (aCons rInt (aCons rInt (aCons rInt aNil))) (fun (a : Int × Int × Int × Unit) => (0 ≤ a.1 ∧ a.2.1 = 5) ∧ (0 ≤ a.2.2.1 ∧ a.2.2.1 ≤ 5)) (rTup rInt) (fun (a : Int × Int × Int × Unit) b => b = TM.dig14 a.1 a.2.2.1) (fun _ _ => False)
theorem call_law_digits {C : Cn} {Γ : List Ent} {E : XK} {t1 : TE} {t2 : TE} {t3 : TE} {a1 : Int} {a2 : Int} {a3 : Int} (h1 : Ev C t1 Γ .h rInt a1) (h2 : Ev C t2 Γ .h rInt a2) (h3 : Ev C t3 Γ .h rInt a3) (hp0 : 0 ≤ a1 ∧ a2 = 5) (hp1 : 0 ≤ a3 ∧ a3 ≤ 5) : EvX C (tCall (sp_law_digits) [] E (tCons t1 (tCons t2 (tCons t3 tNil)))) Γ (ResF C (rTup rInt) (fun b => b = TM.dig14 a1 a3)) := ed_call3 h1 h2 h3 ⟨hp0, hp1⟩ exc0 (fun _ z => z)
theorem callx_law_digits {C : Cn} {Γ : List Ent} {E : XK} {t1 : TE} {t2 : TE} {t3 : TE} {P1 : Int → Prop} {P2 : Int → Prop} {P3 : Int → Prop} (h1 : EvP C t1 Γ .h rInt P1) (h2 : EvP C t2 Γ .h rInt P2) (h3 : EvP C t3 Γ .h rInt P3) (hp0 : ∀ a1 a2 a3, P1 a1 → P2 a2 → P3 a3 → (0 ≤ a1 ∧ a2 = 5)) (hp1 : ∀ a1 a2 a3, P1 a1 → P2 a2 → P3 a3 → (0 ≤ a3 ∧ a3 ≤ 5)) : EvX C (tCall (sp_law_digits) [] E (tCons t1 (tCons t2 (tCons t3 tNil)))) Γ (ResF C (rTup rInt) (fun b => ∃ a1 a2 a3, P1 a1 ∧ P2 a2 ∧ P3 a3 ∧ (b = TM.dig14 a1 a3))) := ex_call3 h1 h2 h3 (fun a1 a2 a3 _p1 _p2 _p3 => ⟨hp0 a1 a2 a3 _p1 _p2 _p3, hp1 a1 a2 a3 _p1 _p2 _p3⟩) exc0 (fun a1 a2 a3 _p1 _p2 _p3 => fun _ z => z)
def t_law_digits (K : PySem.W.Frag) (E : XK) : TS :=
(tSeq (tAsg (tLst tNil) (gName 3))
(tSeq (tFor (iRng1 (tCons (tVar 2) tNil)) (gName 4)
(tSeq (tDrop (tBM K "list" rAppend (tVar 3) (tCons (tOp (rI (fun _ j => 0 < j) fun i j => .int (i % j)) (tVar 0) (tVar 1)) tNil)))
(tSeq (tAsg (tOp (rI CDiv fun i j => .int (i / j)) (tVar 0) (tVar 1)) (gName 0))
tNext)))
(tSeq (tRet (tCB (rTupOf K) (tCons (tVar 3) tNil))) tNext)))
theorem go_law_digits {K : PySem.W.Frag} {C : Cn} {D : Ends} {E : XK} (code_ : Int) (base_ : Int) (many_ : Int) (hp0 : 0 ≤ code_ ∧ base_ = 5) (hp1 : 0 ≤ many_ ∧ many_ ≤ 5) (hR : RetOk C D (rTup rInt) (fun b => b = TM.dig14 code_ many_)) :
    Go C (t_law_digits K E) D [.val .m rInt code_, .val .m rInt base_, .val .m rInt many_, .no, .no] := by
  unfold t_law_digits
  refine q_asgN (i := 3) (ℓ := .g) (en_lstd (ℓ := .g) (R := rInt) em_nil) (fun p2 digits1 hdigits1 => ?_)
  subst hdigits1
  refine q_forD (j := 4) (σS := (List Int) × Int) (fun s => [.val .m rInt s.2, .val .m rInt base_, .val .m rInt many_, .own p2 .g rInt s.1, .no]) (fun (i : Nat) (s : (List Int) × Int) => (s.1 = TM.digN code_ i) ∧ (s.2 = TM.codN code_ i)) (([] : List Int), code_) (ei_rg1d (b := true) (ℓ := .g) (((ev_var (R := rInt) (a := many_) rfl)).toh) (by first | omega | assumption | (simp; done) | (constructor <;> omega) | (simp; omega))) (by
        show (([] : List Int) = TM.digN code_ 0) ∧ (code_ = TM.codN code_ 0)
        exact ⟨rfl, rfl⟩) (LeG.k (LeG.k (LeG.k (LeG.k (LeG.f LeG.nil))))) (fun C1 hc1 i1 x3 s hx3 hI0 => ?_) (fun s hI0 => ?_)
  · obtain ⟨digits4, code5⟩ := s
    replace hI0 : (digits4 = TM.digN code_ i1) ∧ (code5 = TM.codN code_ i1) := hI0
    obtain ⟨hI0_0, hI0_1⟩ := hI0
    have hR := hR.ex hc1
    have hx3l := at_lt hx3
    have hx3r := rg_at hx3
    rw [rg_len] at hx3l
    refine q_app (i := 3) (p := p2) rfl ((ev_mod (((ev_var (R := rInt) (a := code5) rfl)).toh) (((ev_var (R := rInt) (a := base_) rfl)).toh) (by first | omega | assumption | (simp; done) | (constructor <;> omega) | (simp; omega)))) (by rw [hI0_0, TM.digN_len]; omega) (fun e6 he6 => ?_)
    replace he6 : e6 = (code5 % base_) := he6
    rw [he6]; clear he6 e6
    refine q_asg (i := 0) (ℓ := .m) ((ev_fdiv (((ev_var (R := rInt) (a := code5) rfl)).toh) (((ev_var (R := rInt) (a := base_) rfl)).toh) (by unfold CDiv; omega))) (fun code7 hcode7 => ?_)
    replace hcode7 : code7 = (code5 / base_) := hcode7
    refine q_next (hol_in ((digits4 ++ [(code5 % base_)]), code7) ?_ (LeG.k (LeG.k (LeG.k (LeG.k (LeG.f LeG.nil))))))
    show ((digits4 ++ [(code5 % base_)]) = TM.digN code_ (i1 + 1)) ∧ (code7 = TM.codN code_ (i1 + 1))
    refine ⟨by rw [hI0_0, hI0_1, hp0.2]; rfl, by rw [hcode7, hI0_1, hp0.2]; rfl⟩
  obtain ⟨digits8, code9⟩ := s
  replace hI0 : (digits8 = TM.digN code_ ((rg 0 many_)).length) ∧ (code9 = TM.codN code_ ((rg 0 many_)).length) := hI0
  obtain ⟨hI0_0, hI0_1⟩ := hI0
  simp only [rg_len] at hI0_0 hI0_1
  show Go _ _ _ [.val .m rInt code9, .val .m rInt base_, .val .m rInt many_, .own p2 .g rInt digits8, .no]
  refine q_ret ((ev_tupL (ℓ := .g) (es_own (R := rInt) (l := digits8) rfl))) hR (fun r10 hr10 => ?_)
  replace hr10 : r10 = digits8 := hr10
  show r10 = TM.dig14 code_ many_
  rw [hr10]
  unfold TM.dig14; rw [hI0_0, show (many_ - 0).toNat = (many_).toNat by omega]
abbrev s_law_digits : Stmt := topS 24
theorem sc_law_digits : FnScope ["code", "base", "many", "digits", "place"] ["code", "base", "many"] (defScope s_law_digits) := ⟨rfl, rfl, rfl, by decide +kernel, rfl, by decide +kernel, by decide +kernel⟩
theorem ok_law_digits {P : Program} {w : PySem.World} {K : PySem.W.Frag} {mg : Str → Option Value} {base : Heap} {f : Addr} {fd : FuncData} (F : Fun K "_law_digits" "_law_digits" s_law_digits f fd) (m_range : mg "range" = none) (m_tuple : mg "tuple" = none) : FnOk P w K mg base CX0 1 f fd ["code", "base", "many"] sp_law_digits := by
  have sc := sc_law_digits
  refine F.ok sc (fun vs H Q E h => ?_) (fun cdv A outer s H vs Q E hr h => ?_)
  · obtain ⟨a_, ha_, _⟩ := h
    obtain ⟨v1, _, rfl, _ha1, ⟨v2, _, rfl, _ha2, ⟨v3, _, rfl, _ha3, rfl⟩⟩⟩ := ha_
    rfl
  · obtain ⟨⟨code_, base_, many_, _⟩, ⟨v1, _, rfl, ha1, ⟨v2, _, rfl, ha2, ⟨v3, _, rfl, ha3, rfl⟩⟩⟩, ⟨hp0, hp1⟩, hR, hE⟩ := spF_open PIlaw (n := fun _ H' => Q .non H') h
    refine ⟨t_law_digits K E, ?_, go_law_digits (C := (Cn0 PIlaw H)) code_ base_ many_ hp0 hp1 hR _ (W0 H []) (world_of (bok0 (PI := PIlaw) H) ⟨⟨by decide, v1, rfl, rInt.mono (mw0 (PI := PIlaw) H) ha1⟩, ⟨⟨by decide, v2, rfl, rInt.mono (mw0 (PI := PIlaw) H) ha2⟩, ⟨⟨by decide, v3, rfl, rInt.mono (mw0 (PI := PIlaw) H) ha3⟩, ⟨trivial, ⟨trivial, trivial⟩⟩⟩⟩⟩ rfl)⟩
    unfold t_law_digits
    exact (pss_cons (ps_set (i := 3) sc.nd rfl (Or.inl rfl) (pe_lst pa_nil))
(pss_cons (ps_for PassesOwn.never rfl (pi_range1 rfl m_range (pa_cons (pv 2) pa_nil)) (pg_name (i := 4) sc.nd rfl (Or.inl rfl))
(pss_cons (ps_expr (pe_bm PySem.F.plainAttrs_list PySem.F.slot_list_append PySem.F.type_list_append mt_append (pv 3) (pa_cons (pe_op op_mod (pv 0) (pv 1)) pa_nil)))
(pss_cons (ps_set (i := 0) sc.nd rfl (Or.inl rfl) (pe_op op_fdiv (pv 0) (pv 1)))
pss_nil)))
(pss_cons (ps_ret (pe_callTy call_tuple_of (by rfl) m_tuple bt_tuple (pa_cons (pv 3) pa_nil))) pss_nil)))
def sp_hung : Sp := spF (aCons (rSeq rInt) aNil) (fun (a : (List Int) × Unit) => (a.1.length ≤ 1000)) (rOpt (rTup rInt)) (fun (a : (List Int) × Unit) b => b = TM.hungO a.1) (fun _ _ => False)
theorem call_hung {C : Cn} {Γ : List Ent} {E : XK} {t1 : TE} {a1 : (List Int)} (h1 : Ev C t1 Γ .h (rSeq rInt) a1) (hp0 : a1.length ≤ 1000) : EvX C (tCall (sp_hung) [] E (tCons t1 tNil)) Γ (ResF C (rOpt (rTup rInt)) (fun b => b = TM.hungO a1)) := ed_call1 h1 hp0 exc0 (fun _ z => z)
theorem callx_hung {C : Cn} {Γ : List Ent} {E : XK} {t1 : TE} {P1 : (List Int) → Prop} (h1 : EvP C t1 Γ .h (rSeq rInt) P1) (hp0 : ∀ a1, P1 a1 → (a1.length ≤ 1000)) : EvX C (tCall (sp_hung) [] E (tCons t1 tNil)) Γ (ResF C (rOpt (rTup rInt)) (fun b => ∃ a1, P1 a1 ∧ (b = TM.hungO a1))) := ex_call1 h1 (fun a1 _p1 => hp0 a1 _p1) exc0 (fun a1 _p1 => fun _ z => z)
def t_hung (K : PySem.W.Frag) (E : XK) : TS :=
(tSeq (tAsg (tLc (iEith K (tVar 0)) (gName 4) tYes (tUn (rU fun i => .int (-i)) (tC (.int 1))) [4]) (gName 1))
(tSeq (tAsg (tLst tNil) (gName 2))
(tSeq (tFor (iEnumE K (tCons (tVar 0) tNil)) (gTup K 2 (gCons (gName 3) (gCons (gName 4) gNil)))
(tSeq (tIfS (tOr (tTest (tOp (rI0 fun i j => .bl (decide (i < j))) (tVar 4) (tC (.int 0)))) (tTest (tOp (rI0 fun i j => .bl (decide (j < i))) (tVar 4) (tCB (rLenS K) (tCons (tVar 2) tNil))))) (tSeq (tRet (tC .non)) tNext) tNext)
(tSeq (tAsg (tOp (rI0 fun i j => .int (i - j)) (tCB (rLenS K) (tCons (tVar 2) tNil)) (tVar 4)) (gName 5))
(tCut (tIfS (tTest (tOp (rI0 fun i j => .bl (decide (j < i))) (tVar 4) (tC (.int 0)))) (tSeq (tAsg (tVar 3) (gSub (tVar 1) (tOp (rIxK K .l) (tVar 2) (tVar 5)) rSetL))
tNext) tNext)
(tSeq (tAsg (tSl (rSlL K) (tVar 2) tNoPart (tPart (tVar 5))) (gName 2))
(tCut (tIfS (tTest (tOp (rI0 fun i j => .bl (decide (j < i))) (tVar 5) (tC (.int 0)))) (tSeq (tAsg (tOp (rIxK K .l) (tVar 2) (tUn (rU fun i => .int (-i)) (tC (.int 1)))) (gSub (tVar 1) (tVar 3) rSetL))
tNext) tNext)
(tSeq (tDrop (tBM K "list" rAppend (tVar 2) (tCons (tVar 3) tNil)))
tNext)))))))
(tSeq (tRet (tCB (rTupOf K) (tCons (tVar 1) tNil))) tNext))))
theorem go_hung {K : PySem.W.Frag} {C : Cn} {D : Ends} {E : XK} (drops_ : (List Int)) (hp0 : drops_.length ≤ 1000) (hR : RetOk C D (rOpt (rTup rInt)) (fun b => b = TM.hungO drops_)) :
    Go C (t_hung K E) D [.val .m (rSeq rInt) drops_, .no, .no, .no, .no, .no] := by
  unfold t_hung
  refine q_asgN (i := 1) (ℓ := .g) (en_mapd (ℓ' := .g) (fun c1 : Int => (-(1 : Int))) (ei_eith (b := false) (hc := (by intro h; exact absurd h (by decide))) (ev_var (R := (rSeq rInt)) (a := drops_) rfl)) (by first | omega | (rw [enu_len]; omega)) (fun c1 hc2 => (ev_neg (ev_int)))) (fun p5 elders4 helders4 => ?_)
  refine q_asgN (i := 2) (ℓ := .g) (en_lstd (ℓ := .g) (R := rInt) em_nil) (fun p7 still_open6 hstill_open6 => ?_)
  subst hstill_open6
  refine q_forD2 (i := 3) (j := 4) (σS := (List Int) × (List Int) × Addr) (fun s => [.val .m (rSeq rInt) drops_, .own p5 .g rInt s.1, .own s.2.2 .g rInt s.2.1, .no, .no, .no]) (fun (i : Nat) (s : (List Int) × (List Int) × Addr) => (s.1 = (TM.hst drops_ i).1) ∧ (s.2.1 = (TM.hst drops_ i).2) ∧ (TM.okD drops_ i) ∧ (s.2.1.length ≤ i)) (elders4, ([] : List Int), p7) (ei_enumEd (b := true) (hc := (by intro _; decide)) (ev_var (R := (rSeq rInt)) (a := drops_) rfl)) (by
        show (elders4 = (TM.hst drops_ 0).1) ∧ (([] : List Int) = (TM.hst drops_ 0).2) ∧ (TM.okD drops_ 0) ∧ (([] : List Int).length ≤ 0)
        exact ⟨by rw [helders4, List.map_const']; rfl, rfl, (fun j hj => absurd hj (Nat.not_lt_zero _)), Nat.le_refl _⟩) (LeG.k (LeG.k (LeG.k (LeG.f (LeG.f (LeG.f LeG.nil)))))) (fun C1 hc1 i1 x8 s hx8 hI0 => ?_) (fun s hI0 => ?_)
  · obtain ⟨elders9, still_open10, still_open11⟩ := s
    replace hI0 : (elders9 = (TM.hst drops_ i1).1) ∧ (still_open10 = (TM.hst drops_ i1).2) ∧ (TM.okD drops_ i1) ∧ (still_open10.length ≤ i1) := hI0
    obtain ⟨hI0_0, hI0_1, hI0_2, hI0_3⟩ := hI0
    have hR := hR.ex hc1
    have hx8l := at_lt hx8
    have hx8r := enu_at hx8
    rw [enu_len] at hx8l
    obtain ⟨hn1, hn2, hn3⟩ := TM.enu_num hx8
    have hdn : x8.2 = TM.nb drops_ i1 := by rw [hn3, hn1, TM.gt_nb]
    have hel := TM.hst_len (Nat.le_of_lt hn2) hI0_2
    have hell : (elders9).length = (drops_).length := by rw [hI0_0]; exact hel
    have hin := TM.hst_in (Nat.le_of_lt hn2) hI0_2
    have hsl : (still_open10).length = (TM.hst drops_ i1).2.length := by rw [hI0_1]
    have hss := hI0_3
    refine q_ifT (ec_or (ec_tst (ev_lt (((ev_var (R := rInt) (a := x8.2) rfl)).toh) (ev_int))) (fun hb12 => (ec_tst (ev_gt (((ev_var (R := rInt) (a := x8.2) rfl)).toh) ((ev_len (es_own (R := rInt) (l := still_open10) rfl))))))) (fun h14 => ?_) (fun h14 => ?_)
    · refine q_ret ((ev_non (R := (rTup rInt)))) hR (fun r15 hr15 => ?_)
      replace hr15 : r15 = none := hr15
      show r15 = TM.hungO drops_
      rw [hr15]
      exact (TM.hungO_none hn2 (by rw [← hdn]; omega)).symm
    refine q_asg (i := 5) (ℓ := .g) ((ev_sub ((ev_len (es_own (R := rInt) (l := still_open10) rfl))) (((ev_var (R := rInt) (a := x8.2) rfl)).toh))) (fun left16 hleft16 => ?_)
    replace hleft16 : left16 = (((still_open10).length : Int) - x8.2) := hleft16
    have hd : 0 ≤ x8.2 ∧ x8.2 ≤ ((TM.hst drops_ i1).2.length : Int) := by omega
    have hgl := fun z : 0 < x8.2 => hin (gt still_open10 left16) (by rw [← hI0_1]; exact gt_mem ⟨by omega, by omega⟩)
    refine q_cut (S := (List Int)) (fun s => [.val .m (rSeq rInt) drops_, .own p5 .g rInt s, .own still_open11 .g rInt still_open10, .val .m rInt x8.1, .val .m rInt x8.2, .val .g rInt left16]) (fun s => (0 < x8.2 → s = elders9.set (gt still_open10 left16).toNat x8.1) ∧ (¬ 0 < x8.2 → s = elders9)) (c_ifC (ec_tst (ev_gt (((ev_var (R := rInt) (a := x8.2) rfl)).toh) (ev_int))) (fun h17 => ?_) (fun h17 => ?_)) (fun s h17j => ?_)
    · refine q_set (i := 1) (p := p5) rfl (((ev_var (R := rInt) (a := x8.1) rfl)).fl fl_int) (((ev_ix (es_own (R := rInt) (l := still_open10) rfl) (((ev_var (R := rInt) (a := left16) rfl)).toh) (by omega))).toh) (fun n hn => by subst hn; exact (by have := hgl (by assumption); dsimp only; omega)) (fun e18 n19 he18 hn19 => ?_)
      replace he18 : e18 = x8.1 := he18
      replace hn19 : n19 = (gt still_open10 left16) := hn19
      rw [he18, hn19]
      refine q_next (hol_in ((elders9).set ((gt still_open10 left16)).toNat x8.1) ?_ (LeG.k (LeG.k (LeG.k (LeG.k (LeG.k (LeG.k LeG.nil)))))))
      show (0 < x8.2 → ((elders9).set ((gt still_open10 left16)).toNat x8.1) = elders9.set (gt still_open10 left16).toNat x8.1) ∧ (¬ 0 < x8.2 → ((elders9).set ((gt still_open10 left16)).toNat x8.1) = elders9)
      first | exact ⟨fun _ => rfl, fun z => absurd (by assumption) z⟩ | exact ⟨fun z => absurd z (by assumption), fun _ => rfl⟩
    · refine q_next (hol_in elders9 ?_ (LeG.k (LeG.k (LeG.k (LeG.k (LeG.k (LeG.k LeG.nil)))))))
      show (0 < x8.2 → elders9 = elders9.set (gt still_open10 left16).toNat x8.1) ∧ (¬ 0 < x8.2 → elders9 = elders9)
      first | exact ⟨fun _ => rfl, fun z => absurd (by assumption) z⟩ | exact ⟨fun z => absurd z (by assumption), fun _ => rfl⟩
    revert s h17j; intro elders20 h17j
    replace h17j : (0 < x8.2 → elders20 = elders9.set (gt still_open10 left16).toNat x8.1) ∧ (¬ 0 < x8.2 → elders20 = elders9) := h17j
    obtain ⟨h17j0, h17j1⟩ := h17j
    have hel2 : (elders20).length = (drops_).length := by
      by_cases z : 0 < x8.2
      · rw [h17j0 z, List.length_set]; exact hell
      · rw [h17j1 z]; exact hell
    have hj0 : 0 < x8.2 → elders20 = (TM.hst drops_ i1).1.set (gt (TM.hst drops_ i1).2 left16).toNat i1 := fun z => by rw [h17j0 z, hI0_0, hI0_1, hn1]
    have hj1 : ¬ 0 < x8.2 → elders20 = (TM.hst drops_ i1).1 := fun z => by rw [h17j1 z, hI0_0]
    refine q_asgN (i := 2) (ℓ := .g) (en_slLd (es_own (R := rInt) (l := still_open10) rfl) eo_no (eo_part (((ev_var (R := rInt) (a := left16) rfl)).toh))) (fun p22 still_open21 hstill_open21 => ?_)
    have hsl2 : (still_open21).length = (left16).toNat := by rw [hstill_open21, TM.sl_take (by omega), List.length_take]; omega
    refine q_cut (S := (List Int)) (fun s => [.val .m (rSeq rInt) drops_, .own p5 .g rInt s, .own p22 .g rInt still_open21, .val .m rInt x8.1, .val .m rInt x8.2, .val .g rInt left16]) (fun s => (0 < left16 → s = elders20.set x8.1.toNat (gtB still_open21 1)) ∧ (¬ 0 < left16 → s = elders20)) (c_ifC (ec_tst (ev_gt (((ev_var (R := rInt) (a := left16) rfl)).toh) (ev_int))) (fun h23 => ?_) (fun h23 => ?_)) (fun s h23j => ?_)
    · refine q_set (i := 1) (p := p5) rfl ((ev_ixB (n := 1) (es_own (R := rInt) (l := still_open21) rfl) (by omega))) (((ev_var (R := rInt) (a := x8.1) rfl)).toh) (fun n hn => by subst hn; exact (by omega)) (fun e24 n25 he24 hn25 => ?_)
      replace he24 : e24 = (gtB still_open21 1) := he24
      replace hn25 : n25 = x8.1 := hn25
      rw [he24, hn25]
      refine q_next (hol_in ((elders20).set (x8.1).toNat (gtB still_open21 1)) ?_ (LeG.k (LeG.k (LeG.k (LeG.k (LeG.k (LeG.k LeG.nil)))))))
      show (0 < left16 → ((elders20).set (x8.1).toNat (gtB still_open21 1)) = elders20.set x8.1.toNat (gtB still_open21 1)) ∧ (¬ 0 < left16 → ((elders20).set (x8.1).toNat (gtB still_open21 1)) = elders20)
      first | exact ⟨fun _ => rfl, fun z => absurd (by assumption) z⟩ | exact ⟨fun z => absurd z (by assumption), fun _ => rfl⟩
    · refine q_next (hol_in elders20 ?_ (LeG.k (LeG.k (LeG.k (LeG.k (LeG.k (LeG.k LeG.nil)))))))
      show (0 < left16 → elders20 = elders20.set x8.1.toNat (gtB still_open21 1)) ∧ (¬ 0 < left16 → elders20 = elders20)
      first | exact ⟨fun _ => rfl, fun z => absurd (by assumption) z⟩ | exact ⟨fun z => absurd z (by assumption), fun _ => rfl⟩
    revert s h23j; intro elders26 h23j
    replace h23j : (0 < left16 → elders26 = elders20.set x8.1.toNat (gtB still_open21 1)) ∧ (¬ 0 < left16 → elders26 = elders20) := h23j
    obtain ⟨h23j0, h23j1⟩ := h23j
    obtain ⟨ho1, ho2⟩ := TM.hung_two (S1 := still_open21) (E2 := elders26) hd hdn (by rw [hleft16, hsl]) hj0 hj1 (by rw [hstill_open21, hI0_1]) (fun z => by rw [h23j0 z, hn1, Int.toNat_natCast]) h23j1
    refine q_app (i := 2) (p := p22) rfl (((ev_var (R := rInt) (a := x8.1) rfl)).fl fl_int) (by omega) (fun e27 he27 => ?_)
    replace he27 : e27 = x8.1 := he27
    rw [he27]; clear he27 e27
    refine q_next (hol_in (elders26, (still_open21 ++ [x8.1]), p22) ?_ (LeG.k (LeG.k (LeG.k (LeG.f (LeG.f (LeG.f LeG.nil)))))))
    show (elders26 = (TM.hst drops_ (i1 + 1)).1) ∧ ((still_open21 ++ [x8.1]) = (TM.hst drops_ (i1 + 1)).2) ∧ (TM.okD drops_ (i1 + 1)) ∧ ((still_open21 ++ [x8.1]).length ≤ (i1 + 1))
    exact ⟨ho1, by rw [hn1]; exact ho2, fun j hj => by
      by_cases e : j < i1
      · exact hI0_2 j e
      · have : j = i1 := by omega
        subst this; rw [← hdn]; exact hd, by rw [List.length_append, List.length_singleton]; omega⟩
  obtain ⟨elders28, still_open29, still_open30⟩ := s
  replace hI0 : (elders28 = (TM.hst drops_ ((enu drops_)).length).1) ∧ (still_open29 = (TM.hst drops_ ((enu drops_)).length).2) ∧ (TM.okD drops_ ((enu drops_)).length) ∧ (still_open29.length ≤ ((enu drops_)).length) := hI0
  obtain ⟨hI0_0, hI0_1, hI0_2, hI0_3⟩ := hI0
  simp only [enu_len] at hI0_0 hI0_1 hI0_2 hI0_3
  show Go _ _ _ [.val .m (rSeq rInt) drops_, .own p5 .g rInt elders28, .own still_open30 .g rInt still_open29, .no, .no, .no]
  refine q_ret ((ev_some (ev_tupL (ℓ := .g) (es_own (R := rInt) (l := elders28) rfl)) nn_tup)) hR (fun r31 hr31 => ?_)
  replace hr31 : r31 = (some elders28) := hr31
  show r31 = TM.hungO drops_
  rw [hr31]
  rw [TM.hungO_some hI0_2, hI0_0]; rfl
abbrev s_hung : Stmt := topS 16
theorem sc_hung : FnScope ["drops", "elders", "still_open", "place", "many", "left"] ["drops"] (defScope s_hung) := ⟨rfl, rfl, rfl, by decide +kernel, rfl, by decide +kernel, by decide +kernel⟩
theorem ok_hung {P : Program} {w : PySem.World} {K : PySem.W.Frag} {mg : Str → Option Value} {base : Heap} {f : Addr} {fd : FuncData} (F : Fun K "hung" "hung" s_hung f fd) (m_enumerate : mg "enumerate" = none) (m_len : mg "len" = none) (m_tuple : mg "tuple" = none) : FnOk P w K mg base CX0 1 f fd ["drops"] sp_hung := by
  have sc := sc_hung
  refine F.ok sc (fun vs H Q E h => ?_) (fun cdv A outer s H vs Q E hr h => ?_)
  · obtain ⟨a_, ha_, _⟩ := h
    obtain ⟨v1, _, rfl, _ha1, rfl⟩ := ha_
    rfl
  · obtain ⟨⟨drops_, _⟩, ⟨v1, _, rfl, ha1, rfl⟩, hp0, hR, hE⟩ := spF_open PIlaw (n := fun _ H' => Q .non H') h
    refine ⟨t_hung K E, ?_, go_hung (C := (Cn0 PIlaw H)) drops_ hp0 hR _ (W0 H []) (world_of (bok0 (PI := PIlaw) H) ⟨⟨by decide, v1, rfl, (rSeq rInt).mono (mw0 (PI := PIlaw) H) ha1⟩, ⟨trivial, ⟨trivial, ⟨trivial, ⟨trivial, ⟨trivial, trivial⟩⟩⟩⟩⟩⟩ rfl)⟩
    unfold t_hung
    exact (pss_cons (ps_setLc (i := 1) (own := [("many", 4)]) (g := (gName 4)) rfl sc.nd rfl rfl (sw_true rfl rfl rfl (by decide +kernel)) (pi_eith (pv 0)) (blkOk_by (own := [("many", 4)]) (N := ["drops", "elders", "still_open", "place", "many", "left"]) (sc := defScope s_hung) (by decide +kernel)) (fun _ _ _ _ _ => pg_name (i := 4) sc.nd rfl (Or.inl rfl)) (fun _ _ _ _ _ => pts_nil) (fun _ _ _ _ _ => (pe_un un_neg pe_int)))
(pss_cons (ps_set (i := 2) sc.nd rfl (Or.inl rfl) (pe_lst pa_nil))
(pss_cons (ps_for PassesOwn.never rfl (pi_enumE (by rfl) m_enumerate (pa_cons (pv 0) pa_nil)) (pg_tup rfl (pgs_cons (pg_name (i := 3) sc.nd rfl (Or.inl rfl)) (pgs_cons (pg_name (i := 4) sc.nd rfl (Or.inl rfl)) pgs_nil)))
(pss_cons (ps_if (PW.pt (pw_or (pt_cmpR op_lt (pv 4) pe_int (nomark _)) (pw_or1 (pt_cmpR op_gt (pv 4) (pe_callB call_len_seq (by rfl) m_len bt_len (pa_cons (pv 2) pa_nil)) (nomark _))))) (pss_cons (ps_ret pe_non) pss_nil) pss_nil)
(pss_cons (ps_set (i := 5) sc.nd rfl (Or.inl rfl) (pe_op op_sub (pe_callB call_len_seq (by rfl) m_len bt_len (pa_cons (pv 2) pa_nil)) (pv 4)))
(pss_cut (ps_if (pt_cmpR op_gt (pv 4) pe_int (nomark _)) (pss_cons (ps_asg (pv 3) (pg_sub (pv 1) (pe_ix ix_list (pv 2) (pv 5) (fun _ _ => rfl)) set_list))
pss_nil) pss_nil)
(pss_cons (ps_set (i := 2) sc.nd rfl (Or.inl rfl) (pe_slice sl_list (pv 2) po_none (po_some (pv 5))))
(pss_cut (ps_if (pt_cmpR op_gt (pv 5) pe_int (nomark _)) (pss_cons (ps_asg (pe_ix ix_list (pv 2) (pe_un un_neg pe_int) (fun _ _ => rfl)) (pg_sub (pv 1) (pv 3) set_list))
pss_nil) pss_nil)
(pss_cons (ps_expr (pe_bm PySem.F.plainAttrs_list PySem.F.slot_list_append PySem.F.type_list_append mt_append (pv 2) (pa_cons (pv 3) pa_nil)))
pss_nil)))))))
(pss_cons (ps_ret (pe_callTy call_tuple_of (by rfl) m_tuple bt_tuple (pa_cons (pv 1) pa_nil))) pss_nil))))
def sp_by_drops (x_NoTelling : Addr) : Sp := spF (aCons (rTup rInt) aNil) (fun (a : (List Int) × Unit) => (a.1.length ≤ 1000)) (rTup rInt) (fun (a : (List Int) × Unit) b => b = oget (TM.dropT a.1) ∧ ¬ TM.dropT a.1 = none) (fun (a : (List Int) × Unit) c => (c = x_NoTelling ∧ TM.dropT a.1 = none))
theorem call_by_drops {C : Cn} {Γ : List Ent} {E : XK} {x_NoTelling : Addr} {t1 : TE} {a1 : (List Int)} (h1 : Ev C t1 Γ .h (rTup rInt) a1) (hp0 : a1.length ≤ 1000) {Pe : Addr → Prop} (hE : ExcOk C E Pe) (he : ∀ c, ((c = x_NoTelling ∧ TM.dropT a1 = none)) → Pe c) : EvX C (tCall (sp_by_drops x_NoTelling) [] E (tCons t1 tNil)) Γ (ResF C (rTup rInt) (fun b => b = oget (TM.dropT a1))) := EvX.imp (ed_call1 h1 hp0 hE he) (fun _ h => h.1)
theorem calln_by_drops {C : Cn} {Γ : List Ent} {E : XK} {x_NoTelling : Addr} {t1 : TE} {a1 : (List Int)} (h1 : Ev C t1 Γ .h (rTup rInt) a1) (hp0 : a1.length ≤ 1000) {Pe : Addr → Prop} (hE : ExcOk C E Pe) (he : ∀ c, ((c = x_NoTelling ∧ TM.dropT a1 = none)) → Pe c) : EvX C (tCall (sp_by_drops x_NoTelling) [] E (tCons t1 tNil)) Γ (ResF C (rTup rInt) (fun b => b = oget (TM.dropT a1) ∧ ¬ TM.dropT a1 = none)) := ed_call1 h1 hp0 hE he
theorem callsn_by_drops {C : Cn} {Γ : List Ent} {x_NoTelling : Addr} {t1 : TE} {a1 : (List Int)} (h1 : Ev C t1 Γ .h (rTup rInt) a1) (hp0 : a1.length ≤ 1000) {W0 : WX} {Pe : Addr → Prop} (hE : ExcOkG C W0 Γ Pe) (he : ∀ c, ((c = x_NoTelling ∧ TM.dropT a1 = none)) → Pe c) : EvX C (tCallS (sp_by_drops x_NoTelling) (WE W0) (tCons t1 tNil)) Γ (ResF C (rTup rInt) (fun b => b = oget (TM.dropT a1) ∧ ¬ TM.dropT a1 = none)) := esd_call1 h1 hp0 hE he
theorem calls_by_drops {C : Cn} {Γ : List Ent} {x_NoTelling : Addr} {t1 : TE} {a1 : (List Int)} (h1 : Ev C t1 Γ .h (rTup rInt) a1) (hp0 : a1.length ≤ 1000) {W0 : WX} {Pe : Addr → Prop} (hE : ExcOkG C W0 Γ Pe) (he : ∀ c, ((c = x_NoTelling ∧ TM.dropT a1 = none)) → Pe c) : EvX C (tCallS (sp_by_drops x_NoTelling) (WE W0) (tCons t1 tNil)) Γ (ResF C (rTup rInt) (fun b => b = oget (TM.dropT a1))) := EvX.imp (esd_call1 h1 hp0 hE he) (fun _ h => h.1)
theorem callsx_by_drops {C : Cn} {Γ : List Ent} {x_NoTelling : Addr} {t1 : TE} {P1 : (List Int) → Prop} (h1 : EvP C t1 Γ .h (rTup rInt) P1) (hp0 : ∀ a1, P1 a1 → (a1.length ≤ 1000)) {W0 : WX} {Pe : Addr → Prop} (hE : ExcOkG C W0 Γ Pe) (he : ∀ a1, P1 a1 → ∀ c, ((c = x_NoTelling ∧ TM.dropT a1 = none)) → Pe c) : EvX C (tCallS (sp_by_drops x_NoTelling) (WE W0) (tCons t1 tNil)) Γ (ResF C (rTup rInt) (fun b => ∃ a1, P1 a1 ∧ (b = oget (TM.dropT a1)) ∧ ¬ TM.dropT a1 = none)) := es_call1 h1 (fun a1 _p1 => hp0 a1 _p1) hE he
-- no callx
def t_by_drops (K : PySem.W.Frag) (E : XK) (x_NoTelling : Addr) : TS :=
(tSeq (tAsg (tC .non) (gName 1))
(tCut (tIfS (tTest (tOp (rI0 fun i j => .bl (decide (i ≤ j))) (tCB (rLenS K) (tCons (tVar 0) tNil)) (tC (.int 40)))) (tSeq (tAsg (tCall sp_hung [] E0 (tCons (tVar 0) tNil)) (gName 1))
tNext) tNext)
(tSeq (tIfS (tTest (tOp (fun x y H Q => y = .non ∧ Q (.bl (decide (x = .non))) H) (tVar 1) (tC .non))) (tSeq (fun _ _ H => E (.ref x_NoTelling) none H) tNext) tNext)
(tSeq (tRet (tVar 1)) tNext))))
theorem go_by_drops {K : PySem.W.Frag} {C : Cn} {D : Ends} {E : XK} (x_NoTelling : Addr) (told_ : (List Int)) (hp0 : told_.length ≤ 1000) (hR : RetOk C D (rTup rInt) (fun b => b = oget (TM.dropT told_) ∧ ¬ TM.dropT told_ = none)) (hE : ExcOk C E (fun c => (c = x_NoTelling ∧ TM.dropT told_ = none))) :
    Go C (t_by_drops K E x_NoTelling) D [.val .m (rTup rInt) told_, .no] := by
  unfold t_by_drops
  refine q_asg (i := 1) (ℓ := .g) ((ev_non (R := (rTup rInt)))) (fun tree1 htree1 => ?_)
  replace htree1 : tree1 = none := htree1
  refine q_cut (S := (Option (List Int))) (fun s => [.val .m (rTup rInt) told_, .val .g (rOpt (rTup rInt)) s]) (fun s => (s = TM.dropT told_)) (c_ifC (ec_tst (ev_le ((ev_len (es_tup (ev_var (R := (rTup rInt)) (a := told_) rfl)))) (ev_int))) (fun h2 => ?_) (fun h2 => ?_)) (fun s h2j => ?_)
  · refine q_asg (i := 1) (ℓ := .g) ((ev_call (call_hung (((ev_seqT (ev_var (R := (rTup rInt)) (a := told_) rfl))).toh) (by first | omega | assumption | (simp; done) | (constructor <;> omega) | (simp; omega))))) (fun tree3 htree3 => ?_)
    replace htree3 : tree3 = (TM.hungO told_) := htree3
    refine q_next (hol_in tree3 ?_ (LeG.k (LeG.k LeG.nil)))
    show (tree3 = TM.dropT told_)
    first | (rw [show tree3 = _ from htree3]; unfold TM.dropT; rw [if_pos (by omega)]) | (unfold TM.dropT; rw [if_neg (by omega)]; assumption)
  · refine q_next (hol_in tree1 ?_ (LeG.k (LeG.k LeG.nil)))
    show (tree1 = TM.dropT told_)
    first | (rw [show tree1 = _ from htree1]; unfold TM.dropT; rw [if_pos (by omega)]) | (unfold TM.dropT; rw [if_neg (by omega)]; assumption)
  revert s h2j; intro tree4 h2j
  replace h2j : (tree4 = TM.dropT told_) := h2j
  refine q_ifT (ec_isN (ev_var (R := (rOpt (rTup rInt))) (a := tree4) rfl)) (fun h5 => ?_) (fun h5 => ?_)
  · refine q_raise hE ?_
    exact ⟨rfl, by rw [← h2j]; assumption⟩
  obtain ⟨g6, hg6⟩ : ∃ x, tree4 = some x := some_of (by first | assumption | (intro z; simp_all))
  refine q_ret ((ev_the (ev_var (R := (rOpt (rTup rInt))) (a := tree4) rfl) hg6)) hR (fun r7 hr7 => ?_)
  replace hr7 : r7 = g6 := hr7
  show r7 = oget (TM.dropT told_) ∧ ¬ TM.dropT told_ = none
  rw [hr7]
  exact ⟨by rw [← h2j, hg6]; rfl, by rw [← h2j, hg6]; intro z; cases z⟩
abbrev s_by_drops : Stmt := topS 17
theorem sc_by_drops : FnScope ["told", "tree"] ["told"] (defScope s_by_drops) := ⟨rfl, rfl, rfl, by decide +kernel, rfl, by decide +kernel, by decide +kernel⟩
theorem ok_by_drops {P : Program} {w : PySem.World} {K : PySem.W.Frag} {mg : Str → Option Value} {base : Heap} {x_NoTelling : Addr} {f : Addr} {fd : FuncData} (F : Fun K "by_drops" "by_drops" s_by_drops f fd) {f_hung : Addr} {d_hung : FuncData} (c_hung : Cal P w K mg base CX0 1 "hung" ["drops"] sp_hung f_hung d_hung) (m_len : mg "len" = none) {u_MOST_PLACES : Tok} (c_MOST_PLACES : mg "MOST_PLACES" = some (.int 40 u_MOST_PLACES)) (z_NoTelling : ExcT K mg x_NoTelling "NoTelling") : FnOk P w K mg base (L2.CX P w) 2 f fd ["told"] (sp_by_drops x_NoTelling) := by
  have sc := sc_by_drops
  refine F.okX sc (fun vs H Q E h => ?_) (fun cdv A outer s H vs Q E hr h => ?_)
  · obtain ⟨a_, ha_, _⟩ := h
    obtain ⟨v1, _, rfl, _ha1, rfl⟩ := ha_
    rfl
  · obtain ⟨⟨told_, _⟩, ⟨v1, _, rfl, ha1, rfl⟩, hp0, hR, hE⟩ := spF_open PIlaw (n := fun _ H' => Q .non H') h
    refine ⟨t_by_drops K E x_NoTelling, ?_, go_by_drops (C := (Cn0 PIlaw H)) x_NoTelling told_ hp0 hR hE _ (W0 H []) (world_of (bok0 (PI := PIlaw) H) ⟨⟨by decide, v1, rfl, (rTup rInt).mono (mw0 (PI := PIlaw) H) ha1⟩, ⟨trivial, trivial⟩⟩ rfl)⟩
    unfold t_by_drops
    exact (pss_cons (ps_set (i := 1) sc.nd rfl (Or.inl rfl) pe_non)
(pss_cut (ps_if (pt_cmpR op_le (pe_callB call_len_seq (by rfl) m_len bt_len (pa_cons (pv 0) pa_nil)) (pe_glob rfl c_MOST_PLACES ⟨_, rfl⟩) (nomark _)) (pss_cons (ps_set (i := 1) sc.nd rfl (Or.inl rfl) (pe_call c_hung.ok (hr.mono (by decide)) (by rfl) c_hung.g c_hung.kp c_hung.b .nil pass0 (pa_cons (pv 0) pa_nil)))
pss_nil) pss_nil)
(pss_cons (ps_if (pt_cmpR op_isN (pv 1) pe_non (nomark _)) (pss_cons (ps_raise rfl (takes_of rfl rfl rfl rfl) (pmk_own PySem.F.excBase_ValueError z_NoTelling.x z_NoTelling.g z_NoTelling.k (raises_own z_NoTelling.b z_NoTelling.t) (by exact rfl))) pss_nil) pss_nil)
(pss_cons (ps_ret (pv 1)) pss_nil))))
def sp_drops_by_distances : Sp := spF (aCons (rTup rInt) aNil) (fun (a : (List Int) × Unit) => (a.1.length ≤ 1000)) (rOpt (rList rInt)) (fun (a : (List Int) × Unit) b => b = TM.dbd a.1) (fun _ _ => False)
theorem call_drops_by_distances {C : Cn} {Γ : List Ent} {E : XK} {t1 : TE} {a1 : (List Int)} (h1 : Ev C t1 Γ .h (rTup rInt) a1) (hp0 : a1.length ≤ 1000) : EvX C (tCall (sp_drops_by_distances) [] E (tCons t1 tNil)) Γ (ResF C (rOpt (rList rInt)) (fun b => b = TM.dbd a1)) := ed_call1 h1 hp0 exc0 (fun _ z => z)
theorem callx_drops_by_distances {C : Cn} {Γ : List Ent} {E : XK} {t1 : TE} {P1 : (List Int) → Prop} (h1 : EvP C t1 Γ .h (rTup rInt) P1) (hp0 : ∀ a1, P1 a1 → (a1.length ≤ 1000)) : EvX C (tCall (sp_drops_by_distances) [] E (tCons t1 tNil)) Γ (ResF C (rOpt (rList rInt)) (fun b => ∃ a1, P1 a1 ∧ (b = TM.dbd a1))) := ex_call1 h1 (fun a1 _p1 => hp0 a1 _p1) exc0 (fun a1 _p1 => fun _ z => z)
def t_drops_by_distances (K : PySem.W.Frag) (E : XK) : TS :=
(tSeq (tAsg (tLst tNil) (gName 1))
(tSeq (tAsg (tLst tNil) (gName 2))
(tSeq (tFor (iEnumE K (tCons (tVar 0) tNil)) (gTup K 2 (gCons (gName 3) (gCons (gName 4) gNil)))
(tSeq (tAsg (tLc (iList K (tVar 1)) (gName 6) (tTest (tOp (rI0 fun i j => .bl (decide (i ≤ j))) (tVar 6) (tOp (rI0 fun i j => .int (i - j)) (tVar 3) (tVar 4)))) (tVar 6) [6]) (gName 5))
(tCut (tIfS (tTest (tOp rEq (tVar 4) (tC (.int 0)))) (tSeq (tAsg (tLst tNil) (gName 5))
tNext) (tSeq (tIfS (tTest (tOp (rNeD K) (tSl (rSlL K) (tVar 5) (tPart (tUn (rU fun i => .int (-i)) (tC (.int 1)))) tNoPart) (tLst (tCons (tOp (rI0 fun i j => .int (i - j)) (tVar 3) (tVar 4)) tNil)))) (tSeq (tRet (tC .non)) tNext) tNext)
tNext))
(tSeq (tDrop (tBM K "list" rAppend (tVar 2) (tCons (tOp (rI0 fun i j => .int (i - j)) (tCB (rLenS K) (tCons (tVar 1) tNil)) (tCB (rLenS K) (tCons (tVar 5) tNil))) tNil)))
(tSeq (tAsg (tOp rCat (tVar 5) (tLst (tCons (tVar 3) tNil))) (gName 1))
tNext)))))
(tSeq (tRet (tVar 2)) tNext))))
theorem go_drops_by_distances {K : PySem.W.Frag} {C : Cn} {D : Ends} {E : XK} (told_ : (List Int)) (hp0 : told_.length ≤ 1000) (hR : RetOk C D (rOpt (rList rInt)) (fun b => b = TM.dbd told_)) :
    Go C (t_drops_by_distances K E) D [.val .m (rTup rInt) told_, .no, .no, .no, .no, .no, .no] := by
  unfold t_drops_by_distances
  refine q_asg (i := 1) (ℓ := .g) ((ev_new (ℓ := .g) (en_lstd (ℓ := .g) (R := rInt) em_nil))) (fun still_open1 hstill_open1 => ?_)
  replace hstill_open1 : still_open1 = ([] : List Int) := hstill_open1
  refine q_asgN (i := 2) (ℓ := .g) (en_lstd (ℓ := .g) (R := rInt) em_nil) (fun p3 drops2 hdrops2 => ?_)
  subst hdrops2
  refine q_forD2 (i := 3) (j := 4) (σS := (List Int) × (List Int)) (fun s => [.val .m (rTup rInt) told_, .val .g (rList rInt) s.2, .own p3 .g rInt s.1, .no, .no, .no, .no]) (fun (i : Nat) (s : (List Int) × (List Int)) => (s.2 = TM.stkD told_ i) ∧ (s.1 = TM.drpD told_ i) ∧ (∀ j, j < i → TM.okdD told_ j) ∧ (s.2.length ≤ i ∧ s.1.length = i)) (([] : List Int), still_open1) (ei_enumEd (b := true) (hc := (by intro _; decide)) (ev_seqT (ev_var (R := (rTup rInt)) (a := told_) rfl))) (by
        show (still_open1 = TM.stkD told_ 0) ∧ (([] : List Int) = TM.drpD told_ 0) ∧ (∀ j, j < 0 → TM.okdD told_ j) ∧ (still_open1.length ≤ 0 ∧ ([] : List Int).length = 0)
        rw [hstill_open1]; exact ⟨rfl, rfl, fun j hj => absurd hj (Nat.not_lt_zero _), Nat.le_refl _, rfl⟩) (LeG.k (LeG.k (LeG.k (LeG.f (LeG.f (LeG.f (LeG.f LeG.nil))))))) (fun C1 hc1 i1 x4 s hx4 hI0 => ?_) (fun s hI0 => ?_)
  · obtain ⟨drops5, still_open6⟩ := s
    replace hI0 : (still_open6 = TM.stkD told_ i1) ∧ (drops5 = TM.drpD told_ i1) ∧ (∀ j, j < i1 → TM.okdD told_ j) ∧ (still_open6.length ≤ i1 ∧ drops5.length = i1) := hI0
    obtain ⟨hI0_0, hI0_1, hI0_2, hI0_3⟩ := hI0
    have hR := hR.ex hc1
    have hx4l := at_lt hx4
    have hx4r := enu_at hx4
    rw [enu_len] at hx4l
    obtain ⟨hn1, hn2, hn3⟩ := TM.enu_num hx4
    have hnb_ : x4.2 = TM.nb told_ i1 := by rw [hn3, hn1, TM.gt_at (by omega), Int.toNat_natCast]
    refine q_asg (i := 5) (ℓ := .g) ((ev_new (ℓ := .g) (EvN.imp (en_filtd (ℓ' := .g) (fun c7 : Int => (c7 ≤ (x4.1 - x4.2))) (fun c7 : Int => c7) (ei_list (b := false) (hc := (by intro h; exact absurd h (by decide))) (hl := (by intro h; exact absurd h (by decide))) (es_list (ev_var (R := (rList rInt)) (a := still_open6) rfl))) (by omega) (fun c7 hc8 => (ec_tst (ev_le (((ev_var (R := rInt) (a := c7) rfl)).toh) ((ev_sub (((ev_var (R := rInt) (a := x4.1) rfl)).toh) (((ev_var (R := rInt) (a := x4.2) rfl)).toh)))))) (fun c7 hc8 hp9 => (ev_var (R := rInt) (a := c7) rfl))) (fun _ e => e.trans (List.map_id' _))))) (fun left10 hleft10 => ?_)
    replace hleft10 : left10 = (still_open6.filter (fun c7 : Int => decide (c7 ≤ (x4.1 - x4.2)))) := hleft10
    refine q_cut (S := (List Int)) (fun s => [.val .m (rTup rInt) told_, .val .g (rList rInt) still_open6, .own p3 .g rInt drops5, .val .m rInt x4.1, .val .m rInt x4.2, .val .g (rList rInt) s, .no]) (fun s => (s = TM.lftD (TM.stkD told_ i1) (TM.nb told_ i1) i1 ∧ TM.okdD told_ i1)) (c_ifC (ec_tst (ev_eqI (((ev_var (R := rInt) (a := x4.2) rfl)).toh) (ev_int))) (fun h11 => ?_) (fun h11 => ?_)) (fun s h11j => ?_)
    · refine q_asg (i := 5) (ℓ := .g) ((ev_new (ℓ := .g) (en_lstd (ℓ := .g) (R := rInt) em_nil))) (fun left12 hleft12 => ?_)
      replace hleft12 : left12 = ([] : List Int) := hleft12
      refine q_next (hol_in left12 ?_ (LeG.k (LeG.k (LeG.k (LeG.k (LeG.k (LeG.k (LeG.f LeG.nil))))))))
      show (left12 = TM.lftD (TM.stkD told_ i1) (TM.nb told_ i1) i1 ∧ TM.okdD told_ i1)
      first
      | (have hz_ : TM.nb told_ i1 = 0 := by rw [← hnb_]; assumption
         refine ⟨?_, .inl hz_⟩
         unfold TM.lftD
         rw [if_pos hz_]
         assumption)
      | (have hz_ : ¬ TM.nb told_ i1 = 0 := by rw [← hnb_]; assumption
         have hl_ : left12 = TM.lftD (TM.stkD told_ i1) (TM.nb told_ i1) i1 := by
           unfold TM.lftD
           rw [if_neg hz_, hleft12, hI0_0, hn1, hnb_]
         refine ⟨hl_, .inr ?_⟩
         rw [← hl_, ← hnb_, ← hn1]
         exact Classical.not_not.mp (by assumption))
    · refine q_ifT (ec_tstN (ev_neD (eqr_list eqr_int) (Nat.le_of_ble_eq_true rfl) (((ev_new (ℓ := .g) (en_slLd (es_list (ev_var (R := (rList rInt)) (a := left10) rfl)) (eo_part ((ev_neg (ev_int)))) eo_no))).toh) (((ev_new (ℓ := .g) (en_lstd (ℓ := .g) (em_cons ((ev_sub (((ev_var (R := rInt) (a := x4.1) rfl)).toh) (((ev_var (R := rInt) (a := x4.2) rfl)).toh))) em_nil) (Nat.le_of_ble_eq_true rfl)))).toh))) (fun h13 => ?_) (fun h13 => ?_)
      · refine q_ret ((ev_non (R := (rList rInt)))) hR (fun r14 hr14 => ?_)
        replace hr14 : r14 = none := hr14
        show r14 = TM.dbd told_
        rw [hr14]
        have hz_ : ¬ TM.nb told_ i1 = 0 := by rw [← hnb_]; assumption
        refine (TM.dbd_no hn2 (fun y => ?_)).symm
        rcases y with y | y
        · exact hz_ y
        · have hl_ : left10 = TM.lftD (TM.stkD told_ i1) (TM.nb told_ i1) i1 := by
            unfold TM.lftD
            rw [if_neg hz_, hleft10, hI0_0, hn1, hnb_]
          rw [← hl_, ← hnb_, ← hn1] at y
          contradiction
      refine q_next (hol_in left10 ?_ (LeG.k (LeG.k (LeG.k (LeG.k (LeG.k (LeG.k (LeG.f LeG.nil))))))))
      show (left10 = TM.lftD (TM.stkD told_ i1) (TM.nb told_ i1) i1 ∧ TM.okdD told_ i1)
      first
      | (have hz_ : TM.nb told_ i1 = 0 := by rw [← hnb_]; assumption
         refine ⟨?_, .inl hz_⟩
         unfold TM.lftD
         rw [if_pos hz_]
         assumption)
      | (have hz_ : ¬ TM.nb told_ i1 = 0 := by rw [← hnb_]; assumption
         have hl_ : left10 = TM.lftD (TM.stkD told_ i1) (TM.nb told_ i1) i1 := by
           unfold TM.lftD
           rw [if_neg hz_, hleft10, hI0_0, hn1, hnb_]
         refine ⟨hl_, .inr ?_⟩
         rw [← hl_, ← hnb_, ← hn1]
         exact Classical.not_not.mp (by assumption))
    revert s h11j; intro left15 h11j
    replace h11j : (left15 = TM.lftD (TM.stkD told_ i1) (TM.nb told_ i1) i1 ∧ TM.okdD told_ i1) := h11j
    have hll_ := TM.lftD_le (TM.stkD told_ i1) (TM.nb told_ i1) i1
    have hlen_ : (left15).length ≤ (still_open6).length := by rw [(h11j).1, hI0_0]; exact hll_
    refine q_app (i := 2) (p := p3) rfl ((ev_sub ((ev_len (es_list (ev_var (R := (rList rInt)) (a := still_open6) rfl)))) ((ev_len (es_list (ev_var (R := (rList rInt)) (a := left15) rfl)))))) (by omega) (fun e16 he16 => ?_)
    replace he16 : e16 = (((still_open6).length : Int) - ((left15).length : Int)) := he16
    rw [he16]; clear he16 e16
    refine q_asg (i := 1) (ℓ := .g) ((ev_new (ℓ := .g) (en_catd (es_list (ev_var (R := (rList rInt)) (a := left15) rfl)) (es_list (ev_new (ℓ := .g) (en_lstd (ℓ := .g) (em_cons (((ev_var (R := rInt) (a := x4.1) rfl)).fl fl_int) em_nil) (Nat.le_of_ble_eq_true rfl)))) (by simp only [List.length_cons, List.length_nil]; omega)))) (fun still_open17 hstill_open17 => ?_)
    replace hstill_open17 : still_open17 = (left15 ++ [x4.1]) := hstill_open17
    refine q_next (hol_in ((drops5 ++ [(((still_open6).length : Int) - ((left15).length : Int))]), still_open17) ?_ (LeG.k (LeG.k (LeG.k (LeG.f (LeG.f (LeG.f (LeG.f LeG.nil))))))))
    show (still_open17 = TM.stkD told_ (i1 + 1)) ∧ ((drops5 ++ [(((still_open6).length : Int) - ((left15).length : Int))]) = TM.drpD told_ (i1 + 1)) ∧ (∀ j, j < (i1 + 1) → TM.okdD told_ j) ∧ (still_open17.length ≤ (i1 + 1) ∧ (drops5 ++ [(((still_open6).length : Int) - ((left15).length : Int))]).length = (i1 + 1))
    obtain ⟨hj1, hj2⟩ := h11j
    refine ⟨?_, ?_, fun j hj => ?_, ?_, ?_⟩
    · rw [hstill_open17, hj1, hn1]; rfl
    · rw [TM.drpD_succ, ← hj1, ← hI0_0, ← hI0_1]
    · by_cases e : j = i1
      · rw [e]; exact hj2
      · exact hI0_2 j (by omega)
    · have := hI0_3
      rw [hstill_open17, List.length_append, List.length_singleton, hj1]; rw [← hI0_0] at *; omega
    · rw [List.length_append, List.length_singleton]; omega
  obtain ⟨drops18, still_open19⟩ := s
  replace hI0 : (still_open19 = TM.stkD told_ ((enu told_)).length) ∧ (drops18 = TM.drpD told_ ((enu told_)).length) ∧ (∀ j, j < ((enu told_)).length → TM.okdD told_ j) ∧ (still_open19.length ≤ ((enu told_)).length ∧ drops18.length = ((enu told_)).length) := hI0
  obtain ⟨hI0_0, hI0_1, hI0_2, hI0_3⟩ := hI0
  simp only [enu_len] at hI0_0 hI0_1 hI0_2 hI0_3
  show Go _ _ _ [.val .m (rTup rInt) told_, .val .g (rList rInt) still_open19, .own p3 .g rInt drops18, .no, .no, .no, .no]
  refine q_frz (i := 2) (p := p3) rfl ?_
  refine q_ret ((ev_some (ev_var (R := (rList rInt)) (a := drops18) rfl) nn_list)) hR (fun r20 hr20 => ?_)
  replace hr20 : r20 = (some drops18) := hr20
  show r20 = TM.dbd told_
  rw [hr20]
  rw [TM.dbd_yes (fun j hj => hI0_2 j hj), hI0_1]
abbrev s_drops_by_distances : Stmt := topS 18
theorem sc_drops_by_distances : FnScope ["told", "still_open", "drops", "place", "far", "left", "other"] ["told"] (defScope s_drops_by_distances) := ⟨rfl, rfl, rfl, by decide +kernel, rfl, by decide +kernel, by decide +kernel⟩
theorem ok_drops_by_distances {P : Program} {w : PySem.World} {K : PySem.W.Frag} {mg : Str → Option Value} {base : Heap} {f : Addr} {fd : FuncData} (F : Fun K "drops_by_distances" "drops_by_distances" s_drops_by_distances f fd) (m_enumerate : mg "enumerate" = none) (m_len : mg "len" = none) : FnOk P w K mg base CX0 1 f fd ["told"] sp_drops_by_distances := by
  have sc := sc_drops_by_distances
  refine F.ok sc (fun vs H Q E h => ?_) (fun cdv A outer s H vs Q E hr h => ?_)
  · obtain ⟨a_, ha_, _⟩ := h
    obtain ⟨v1, _, rfl, _ha1, rfl⟩ := ha_
    rfl
  · obtain ⟨⟨told_, _⟩, ⟨v1, _, rfl, ha1, rfl⟩, hp0, hR, hE⟩ := spF_open PIlaw (n := fun _ H' => Q .non H') h
    refine ⟨t_drops_by_distances K E, ?_, go_drops_by_distances (C := (Cn0 PIlaw H)) told_ hp0 hR _ (W0 H []) (world_of (bok0 (PI := PIlaw) H) ⟨⟨by decide, v1, rfl, (rTup rInt).mono (mw0 (PI := PIlaw) H) ha1⟩, ⟨trivial, ⟨trivial, ⟨trivial, ⟨trivial, ⟨trivial, ⟨trivial, trivial⟩⟩⟩⟩⟩⟩⟩ rfl)⟩
    unfold t_drops_by_distances
    exact (pss_cons (ps_set (i := 1) sc.nd rfl (Or.inl rfl) (pe_lst pa_nil))
(pss_cons (ps_set (i := 2) sc.nd rfl (Or.inl rfl) (pe_lst pa_nil))
(pss_cons (ps_for PassesOwn.never rfl (pi_enumE (by rfl) m_enumerate (pa_cons (pv 0) pa_nil)) (pg_tup rfl (pgs_cons (pg_name (i := 3) sc.nd rfl (Or.inr rfl)) (pgs_cons (pg_name (i := 4) sc.nd rfl (Or.inr rfl)) pgs_nil)))
(pss_cons (ps_setLc (i := 5) (own := [("other", 6)]) (g := (gName 6)) rfl sc.nd rfl rfl (sw_true rfl rfl rfl (by decide +kernel)) (pi_list (pv 1)) (blkOk_by (own := [("other", 6)]) (N := ["told", "still_open", "drops", "place", "far", "left", "other"]) (sc := defScope s_drops_by_distances) (by decide +kernel)) (fun _ _ _ _ _ => pg_name (i := 6) sc.nd rfl (Or.inl rfl)) (fun _ _ _ _ _ => pts_one (pt_cmpR op_le (pv 6) (pe_op op_sub (pv 3) (pv 4)) (nomark _))) (fun _ _ _ _ _ => (pv 6)))
(pss_cut (ps_if (pt_cmpR op_eq (pv 4) pe_int (nomark _)) (pss_cons (ps_set (i := 5) sc.nd rfl (Or.inl rfl) (pe_lst pa_nil))
pss_nil) (pss_cons (ps_if (pt_cmpR (op_neD (roomUn hr)) (pe_slice sl_list (pv 5) (po_some (pe_un un_neg pe_int)) po_none) (pe_lst (pa_cons (pe_op op_sub (pv 3) (pv 4)) pa_nil)) (nomark _)) (pss_cons (ps_ret pe_non) pss_nil) pss_nil)
pss_nil))
(pss_cons (ps_expr (pe_bm PySem.F.plainAttrs_list PySem.F.slot_list_append PySem.F.type_list_append mt_append (pv 2) (pa_cons (pe_op op_sub (pe_callB call_len_seq (by rfl) m_len bt_len (pa_cons (pv 1) pa_nil)) (pe_callB call_len_seq (by rfl) m_len bt_len (pa_cons (pv 5) pa_nil))) pa_nil)))
(pss_cons (ps_set (i := 1) sc.nd rfl (Or.inl rfl) (pe_op op_cat (pv 5) (pe_lst (pa_cons (pv 3) pa_nil))))
pss_nil)))))
(pss_cons (ps_ret (pv 2)) pss_nil))))
def sp_by_distances (x_NoTelling : Addr) : Sp := spF (aCons (rTup rInt) aNil) (fun (a : (List Int) × Unit) => (a.1.length ≤ 1000)) (rTup rInt) (fun (a : (List Int) × Unit) b => b = oget (TM.distT a.1) ∧ ¬ TM.distT a.1 = none) (fun (a : (List Int) × Unit) c => (c = x_NoTelling ∧ TM.distT a.1 = none))
theorem call_by_distances {C : Cn} {Γ : List Ent} {E : XK} {x_NoTelling : Addr} {t1 : TE} {a1 : (List Int)} (h1 : Ev C t1 Γ .h (rTup rInt) a1) (hp0 : a1.length ≤ 1000) {Pe : Addr → Prop} (hE : ExcOk C E Pe) (he : ∀ c, ((c = x_NoTelling ∧ TM.distT a1 = none)) → Pe c) : EvX C (tCall (sp_by_distances x_NoTelling) [] E (tCons t1 tNil)) Γ (ResF C (rTup rInt) (fun b => b = oget (TM.distT a1))) := EvX.imp (ed_call1 h1 hp0 hE he) (fun _ h => h.1)
theorem calln_by_distances {C : Cn} {Γ : List Ent} {E : XK} {x_NoTelling : Addr} {t1 : TE} {a1 : (List Int)} (h1 : Ev C t1 Γ .h (rTup rInt) a1) (hp0 : a1.length ≤ 1000) {Pe : Addr → Prop} (hE : ExcOk C E Pe) (he : ∀ c, ((c = x_NoTelling ∧ TM.distT a1 = none)) → Pe c) : EvX C (tCall (sp_by_distances x_NoTelling) [] E (tCons t1 tNil)) Γ (ResF C (rTup rInt) (fun b => b = oget (TM.distT a1) ∧ ¬ TM.distT a1 = none)) := ed_call1 h1 hp0 hE he
theorem callsn_by_distances {C : Cn} {Γ : List Ent} {x_NoTelling : Addr} {t1 : TE} {a1 : (List Int)} (h1 : Ev C t1 Γ .h (rTup rInt) a1) (hp0 : a1.length ≤ 1000) {W0 : WX} {Pe : Addr → Prop} (hE : ExcOkG C W0 Γ Pe) (he : ∀ c, ((c = x_NoTelling ∧ TM.distT a1 = none)) → Pe c) : EvX C (tCallS (sp_by_distances x_NoTelling) (WE W0) (tCons t1 tNil)) Γ (ResF C (rTup rInt) (fun b => b = oget (TM.distT a1) ∧ ¬ TM.distT a1 = none)) := esd_call1 h1 hp0 hE he
theorem calls_by_distances {C : Cn} {Γ : List Ent} {x_NoTelling : Addr} {t1 : TE} {a1 : (List Int)} (h1 : Ev C t1 Γ .h (rTup rInt) a1) (hp0 : a1.length ≤ 1000) {W0 : WX} {Pe : Addr → Prop} (hE : ExcOkG C W0 Γ Pe) (he : ∀ c, ((c = x_NoTelling ∧ TM.distT a1 = none)) → Pe c) : EvX C (tCallS (sp_by_distances x_NoTelling) (WE W0) (tCons t1 tNil)) Γ (ResF C (rTup rInt) (fun b => b = oget (TM.distT a1))) := EvX.imp (esd_call1 h1 hp0 hE he) (fun _ h => h.1)
theorem callsx_by_distances {C : Cn} {Γ : List Ent} {x_NoTelling : Addr} {t1 : TE} {P1 : (List Int) → Prop} (h1 : EvP C t1 Γ .h (rTup rInt) P1) (hp0 : ∀ a1, P1 a1 → (a1.length ≤ 1000)) {W0 : WX} {Pe : Addr → Prop} (hE : ExcOkG C W0 Γ Pe) (he : ∀ a1, P1 a1 → ∀ c, ((c = x_NoTelling ∧ TM.distT a1 = none)) → Pe c) : EvX C (tCallS (sp_by_distances x_NoTelling) (WE W0) (tCons t1 tNil)) Γ (ResF C (rTup rInt) (fun b => ∃ a1, P1 a1 ∧ (b = oget (TM.distT a1)) ∧ ¬ TM.distT a1 = none)) := es_call1 h1 (fun a1 _p1 => hp0 a1 _p1) hE he
-- no callx
def t_by_distances (K : PySem.W.Frag) (E : XK) (x_NoTelling : Addr) : TS :=
(tSeq (tAsg (tC .non) (gName 1))
(tCut (tIfS (tTest (tOp (rI0 fun i j => .bl (decide (i ≤ j))) (tCB (rLenS K) (tCons (tVar 0) tNil)) (tC (.int 40)))) (tSeq (tAsg (tCall sp_drops_by_distances [] E0 (tCons (tVar 0) tNil)) (gName 1))
tNext) tNext)
(tSeq (tIfS (tTest (tOp (fun x y H Q => y = .non ∧ Q (.bl (decide (x = .non))) H) (tVar 1) (tC .non))) (tSeq (fun _ _ H => E (.ref x_NoTelling) none H) tNext) tNext)
(tSeq (tRet (tCall sp_hung [] E0 (tCons (tVar 1) tNil))) tNext))))
theorem go_by_distances {K : PySem.W.Frag} {C : Cn} {D : Ends} {E : XK} (x_NoTelling : Addr) (told_ : (List Int)) (hp0 : told_.length ≤ 1000) (hR : RetOk C D (rTup rInt) (fun b => b = oget (TM.distT told_) ∧ ¬ TM.distT told_ = none)) (hE : ExcOk C E (fun c => (c = x_NoTelling ∧ TM.distT told_ = none))) :
    Go C (t_by_distances K E x_NoTelling) D [.val .m (rTup rInt) told_, .no] := by
  unfold t_by_distances
  refine q_asg (i := 1) (ℓ := .g) ((ev_non (R := (rList rInt)))) (fun drops1 hdrops1 => ?_)
  replace hdrops1 : drops1 = none := hdrops1
  refine q_cut (S := (Option (List Int))) (fun s => [.val .m (rTup rInt) told_, .val .g (rOpt (rList rInt)) s]) (fun s => (s = if told_.length ≤ 40 then TM.dbd told_ else none)) (c_ifC (ec_tst (ev_le ((ev_len (es_tup (ev_var (R := (rTup rInt)) (a := told_) rfl)))) (ev_int))) (fun h2 => ?_) (fun h2 => ?_)) (fun s h2j => ?_)
  · refine q_asg (i := 1) (ℓ := .g) ((ev_call (call_drops_by_distances (((ev_var (R := (rTup rInt)) (a := told_) rfl)).toh) (by first | omega | assumption | (simp; done) | (constructor <;> omega) | (simp; omega))))) (fun drops3 hdrops3 => ?_)
    replace hdrops3 : drops3 = (TM.dbd told_) := hdrops3
    refine q_next (hol_in drops3 ?_ (LeG.k (LeG.k LeG.nil)))
    show (drops3 = if told_.length ≤ 40 then TM.dbd told_ else none)
    first | (rw [show drops3 = _ from hdrops3, if_pos (by omega)]; done) | (rw [if_neg (by omega)]; assumption)
  · refine q_next (hol_in drops1 ?_ (LeG.k (LeG.k LeG.nil)))
    show (drops1 = if told_.length ≤ 40 then TM.dbd told_ else none)
    first | (rw [show drops1 = _ from hdrops1, if_pos (by omega)]; done) | (rw [if_neg (by omega)]; assumption)
  revert s h2j; intro drops4 h2j
  replace h2j : (drops4 = if told_.length ≤ 40 then TM.dbd told_ else none) := h2j
  refine q_ifT (ec_isN (ev_var (R := (rOpt (rList rInt))) (a := drops4) rfl)) (fun h5 => ?_) (fun h5 => ?_)
  · refine q_raise hE ?_
    refine ⟨rfl, ?_⟩
    have hz_ := h2j
    unfold TM.distT
    split
    · rename_i h1
      rw [if_pos h1] at hz_
      rw [← hz_, show drops4 = none by assumption]
    · rfl
  obtain ⟨g6, hg6⟩ : ∃ x, drops4 = some x := some_of (by first | assumption | (intro z; simp_all))
  have hd_ : ¬ drops4 = none := by assumption
  have h40_ : (told_).length ≤ 40 := Classical.byContradiction fun z => hd_ (by rw [h2j, if_neg z])
  have hjo_ := h2j
  rw [if_pos h40_] at hjo_
  have hall_ := TM.dbd_some (t := told_) (by rw [← hjo_]; exact hd_)
  obtain ⟨row_, r1_, r2_, r3_⟩ := TM.dist_row hall_
  have hdd_ : drops4 = some (TM.dropsOf row_) := by rw [hjo_, TM.dbd_yes hall_, r2_]
  have hgg_ : g6 = TM.dropsOf row_ := Option.some.inj (hg6.symm.trans hdd_)
  have hdt_ : TM.distT told_ = some (TM.treeOf row_) := by unfold TM.distT; rw [if_pos h40_, ← hjo_, hdd_]; exact TM.hungO_row _
  refine q_ret ((ev_the (ev_call (call_hung (((ev_seqL (ev_the (ev_var (R := (rOpt (rList rInt))) (a := drops4) rfl) hg6))).toh) (by rw [hgg_, TM.dropsOf_len]; omega))) (by exact oget_some (by rw [hgg_, TM.hungO_row]; intro z; cases z)))) hR (fun r7 hr7 => ?_)
  replace hr7 : r7 = (oget (TM.hungO g6)) := hr7
  show r7 = oget (TM.distT told_) ∧ ¬ TM.distT told_ = none
  rw [hr7]
  exact ⟨by rw [hgg_, hdt_, TM.hungO_row], by rw [hdt_]; intro z; cases z⟩
abbrev s_by_distances : Stmt := topS 19
theorem sc_by_distances : FnScope ["told", "drops"] ["told"] (defScope s_by_distances) := ⟨rfl, rfl, rfl, by decide +kernel, rfl, by decide +kernel, by decide +kernel⟩
theorem ok_by_distances {P : Program} {w : PySem.World} {K : PySem.W.Frag} {mg : Str → Option Value} {base : Heap} {x_NoTelling : Addr} {f : Addr} {fd : FuncData} (F : Fun K "by_distances" "by_distances" s_by_distances f fd) {f_drops_by_distances : Addr} {d_drops_by_distances : FuncData} (c_drops_by_distances : Cal P w K mg base CX0 1 "drops_by_distances" ["told"] sp_drops_by_distances f_drops_by_distances d_drops_by_distances) {f_hung : Addr} {d_hung : FuncData} (c_hung : Cal P w K mg base CX0 1 "hung" ["drops"] sp_hung f_hung d_hung) (m_len : mg "len" = none) {u_MOST_PLACES : Tok} (c_MOST_PLACES : mg "MOST_PLACES" = some (.int 40 u_MOST_PLACES)) (z_NoTelling : ExcT K mg x_NoTelling "NoTelling") : FnOk P w K mg base (L2.CX P w) 2 f fd ["told"] (sp_by_distances x_NoTelling) := by
  have sc := sc_by_distances
  refine F.okX sc (fun vs H Q E h => ?_) (fun cdv A outer s H vs Q E hr h => ?_)
  · obtain ⟨a_, ha_, _⟩ := h
    obtain ⟨v1, _, rfl, _ha1, rfl⟩ := ha_
    rfl
  · obtain ⟨⟨told_, _⟩, ⟨v1, _, rfl, ha1, rfl⟩, hp0, hR, hE⟩ := spF_open PIlaw (n := fun _ H' => Q .non H') h
    refine ⟨t_by_distances K E x_NoTelling, ?_, go_by_distances (C := (Cn0 PIlaw H)) x_NoTelling told_ hp0 hR hE _ (W0 H []) (world_of (bok0 (PI := PIlaw) H) ⟨⟨by decide, v1, rfl, (rTup rInt).mono (mw0 (PI := PIlaw) H) ha1⟩, ⟨trivial, trivial⟩⟩ rfl)⟩
    unfold t_by_distances
    exact (pss_cons (ps_set (i := 1) sc.nd rfl (Or.inl rfl) pe_non)
(pss_cut (ps_if (pt_cmpR op_le (pe_callB call_len_seq (by rfl) m_len bt_len (pa_cons (pv 0) pa_nil)) (pe_glob rfl c_MOST_PLACES ⟨_, rfl⟩) (nomark _)) (pss_cons (ps_set (i := 1) sc.nd rfl (Or.inl rfl) (pe_call c_drops_by_distances.ok (hr.mono (by decide)) (by rfl) c_drops_by_distances.g c_drops_by_distances.kp c_drops_by_distances.b .nil pass0 (pa_cons (pv 0) pa_nil)))
pss_nil) pss_nil)
(pss_cons (ps_if (pt_cmpR op_isN (pv 1) pe_non (nomark _)) (pss_cons (ps_raise rfl (takes_of rfl rfl rfl rfl) (pmk_own PySem.F.excBase_ValueError z_NoTelling.x z_NoTelling.g z_NoTelling.k (raises_own z_NoTelling.b z_NoTelling.t) (by exact rfl))) pss_nil) pss_nil)
(pss_cons (ps_ret (pe_call c_hung.ok (hr.mono (by decide)) (by rfl) c_hung.g c_hung.kp c_hung.b .nil pass0 (pa_cons (pv 1) pa_nil))) pss_nil))))
def sp_by_brackets (x_NoTelling : Addr) : Sp := spF (aCons rStr aNil) (fun (a : Str × Unit) => (a.1.length ≤ 100000)) (rTup rInt) (fun (a : Str × Unit) b => b = oget (TM.brT (tl a.1)) ∧ ¬ TM.brT (tl a.1) = none) (fun (a : Str × Unit) c => (c = x_NoTelling ∧ TM.brT (tl a.1) = none))
theorem call_by_brackets {C : Cn} {Γ : List Ent} {E : XK} {x_NoTelling : Addr} {t1 : TE} {a1 : Str} (h1 : Ev C t1 Γ .h rStr a1) (hp0 : a1.length ≤ 100000) {Pe : Addr → Prop} (hE : ExcOk C E Pe) (he : ∀ c, ((c = x_NoTelling ∧ TM.brT (tl a1) = none)) → Pe c) : EvX C (tCall (sp_by_brackets x_NoTelling) [] E (tCons t1 tNil)) Γ (ResF C (rTup rInt) (fun b => b = oget (TM.brT (tl a1)))) := EvX.imp (ed_call1 h1 hp0 hE he) (fun _ h => h.1)
theorem calln_by_brackets {C : Cn} {Γ : List Ent} {E : XK} {x_NoTelling : Addr} {t1 : TE} {a1 : Str} (h1 : Ev C t1 Γ .h rStr a1) (hp0 : a1.length ≤ 100000) {Pe : Addr → Prop} (hE : ExcOk C E Pe) (he : ∀ c, ((c = x_NoTelling ∧ TM.brT (tl a1) = none)) → Pe c) : EvX C (tCall (sp_by_brackets x_NoTelling) [] E (tCons t1 tNil)) Γ (ResF C (rTup rInt) (fun b => b = oget (TM.brT (tl a1)) ∧ ¬ TM.brT (tl a1) = none)) := ed_call1 h1 hp0 hE he
theorem callsn_by_brackets {C : Cn} {Γ : List Ent} {x_NoTelling : Addr} {t1 : TE} {a1 : Str} (h1 : Ev C t1 Γ .h rStr a1) (hp0 : a1.length ≤ 100000) {W0 : WX} {Pe : Addr → Prop} (hE : ExcOkG C W0 Γ Pe) (he : ∀ c, ((c = x_NoTelling ∧ TM.brT (tl a1) = none)) → Pe c) : EvX C (tCallS (sp_by_brackets x_NoTelling) (WE W0) (tCons t1 tNil)) Γ (ResF C (rTup rInt) (fun b => b = oget (TM.brT (tl a1)) ∧ ¬ TM.brT (tl a1) = none)) := esd_call1 h1 hp0 hE he
theorem calls_by_brackets {C : Cn} {Γ : List Ent} {x_NoTelling : Addr} {t1 : TE} {a1 : Str} (h1 : Ev C t1 Γ .h rStr a1) (hp0 : a1.length ≤ 100000) {W0 : WX} {Pe : Addr → Prop} (hE : ExcOkG C W0 Γ Pe) (he : ∀ c, ((c = x_NoTelling ∧ TM.brT (tl a1) = none)) → Pe c) : EvX C (tCallS (sp_by_brackets x_NoTelling) (WE W0) (tCons t1 tNil)) Γ (ResF C (rTup rInt) (fun b => b = oget (TM.brT (tl a1)))) := EvX.imp (esd_call1 h1 hp0 hE he) (fun _ h => h.1)
theorem callsx_by_brackets {C : Cn} {Γ : List Ent} {x_NoTelling : Addr} {t1 : TE} {P1 : Str → Prop} (h1 : EvP C t1 Γ .h rStr P1) (hp0 : ∀ a1, P1 a1 → (a1.length ≤ 100000)) {W0 : WX} {Pe : Addr → Prop} (hE : ExcOkG C W0 Γ Pe) (he : ∀ a1, P1 a1 → ∀ c, ((c = x_NoTelling ∧ TM.brT (tl a1) = none)) → Pe c) : EvX C (tCallS (sp_by_brackets x_NoTelling) (WE W0) (tCons t1 tNil)) Γ (ResF C (rTup rInt) (fun b => ∃ a1, P1 a1 ∧ (b = oget (TM.brT (tl a1))) ∧ ¬ TM.brT (tl a1) = none)) := es_call1 h1 (fun a1 _p1 => hp0 a1 _p1) hE he
-- no callx
def t_by_brackets (K : PySem.W.Frag) (E : XK) (x_NoTelling : Addr) : TS :=
(tSeq (tAsg (tLst tNil) (gName 1))
(tSeq (tAsg (tC (.int 0)) (gName 2))
(tSeq (tFor (iStr (tVar 0)) (gName 3)
(tSeq (tIfS (tTest (tOp rEq (tVar 3) (tC (.str "(")))) (tSeq (tDrop (tBM K "list" rAppend (tVar 1) (tCons (tVar 2) tNil)))
(tSeq (tAsg (tC (.int 0)) (gName 2))
tNext)) (tSeq (tIfS (tTest (tOp rEq (tVar 3) (tC (.str ")")))) (tSeq (tAsg (tOp (rI0 fun i j => .int (i + j)) (tVar 2) (tC (.int 1))) (gName 2))
tNext) (tSeq (fun _ _ H => E (.ref x_NoTelling) none H) tNext))
tNext))
tNext))
(tSeq (tIfS (tOr (tTest (tOp (rI0 fun i j => .bl (decide (j < i))) (tCB (rLenS K) (tCons (tVar 1) tNil)) (tC (.int 40)))) (tOr (tTest (tOp rNe (tOp (rI0 fun i j => .int (i + j)) (tCB (rSum K) (tCons (tVar 1) tNil)) (tVar 2)) (tCB (rLenS K) (tCons (tVar 1) tNil)))) (tTest (tOp (fun x y H Q => y = .non ∧ Q (.bl (decide (x = .non))) H) (tCall sp_hung [] E0 (tCons (tVar 1) tNil)) (tC .non))))) (tSeq (fun _ _ H => E (.ref x_NoTelling) none H) tNext) tNext)
(tSeq (tRet (tCall sp_hung [] E0 (tCons (tVar 1) tNil))) tNext)))))
theorem go_by_brackets {K : PySem.W.Frag} {C : Cn} {D : Ends} {E : XK} (x_NoTelling : Addr) (text_ : Str) (hp0 : text_.length ≤ 100000) (hR : RetOk C D (rTup rInt) (fun b => b = oget (TM.brT (tl text_)) ∧ ¬ TM.brT (tl text_) = none)) (hE : ExcOk C E (fun c => (c = x_NoTelling ∧ TM.brT (tl text_) = none))) :
    Go C (t_by_brackets K E x_NoTelling) D [.val .m rStr text_, .no, .no, .no] := by
  unfold t_by_brackets
  refine q_asgN (i := 1) (ℓ := .g) (en_lstd (ℓ := .g) (R := rInt) em_nil) (fun p2 drops1 hdrops1 => ?_)
  subst hdrops1
  refine q_asg (i := 2) (ℓ := .g) (ev_int) (fun many3 hmany3 => ?_)
  replace hmany3 : many3 = (0 : Int) := hmany3
  refine q_forD (j := 3) (σS := (List Int) × Int) (fun s => [.val .m rStr text_, .own p2 .g rInt s.1, .val .g rInt s.2, .no]) (fun (i : Nat) (s : (List Int) × Int) => (TM.brk ((tl text_).take i) = some (s.1, s.2)) ∧ (s.1.length ≤ i)) (([] : List Int), many3) (ei_str (b' := true) (ℓ := .g) (((ev_var (R := rStr) (a := text_) rfl)).toh)) (by
        show (TM.brk ((tl text_).take 0) = some (([] : List Int), many3)) ∧ (([] : List Int).length ≤ 0)
        rw [hmany3]; exact ⟨rfl, Nat.le_refl _⟩) (LeG.k (LeG.k (LeG.k (LeG.f LeG.nil)))) (fun C1 hc1 i1 x4 s hx4 hI0 => ?_) (fun s hI0 => ?_)
  · obtain ⟨drops5, many6⟩ := s
    replace hI0 : (TM.brk ((tl text_).take i1) = some (drops5, many6)) ∧ (drops5.length ≤ i1) := hI0
    obtain ⟨hI0_0, hI0_1⟩ := hI0
    have hR := hR.ex hc1
    have hE := hE.ex hc1
    have hx4l := at_lt hx4
    obtain ⟨c0, hc0, hs0⟩ := TM.sign_at hx4
    have hil : i1 < (text_).length := by have := (List.getElem?_eq_some_iff.mp hc0).1; rw [len_tl]; exact this
    have hst := TM.brk_step hc0
    rw [hI0_0] at hst
    have h40 := TM.sg_lb hs0
    have h41 := TM.sg_rb hs0
    refine q_ifC (ec_tst (ev_eqS (((ev_var (R := rStr) (a := x4) rfl)).toh) (ev_str))) (fun h7 => ?_) (fun h7 => ?_)
    · refine q_app (i := 1) (p := p2) rfl ((ev_var (R := rInt) (a := many6) rfl)) (by dsimp only; omega) (fun e8 he8 => ?_)
      replace he8 : e8 = many6 := he8
      rw [he8]; clear he8 e8
      refine q_asg (i := 2) (ℓ := .g) (ev_int) (fun many9 hmany9 => ?_)
      replace hmany9 : many9 = (0 : Int) := hmany9
      refine q_next (?_ : Go _ tNext _ _)
      refine q_next (hol_in ((drops5 ++ [many6]), many9) ?_ (LeG.k (LeG.k (LeG.k (LeG.f LeG.nil)))))
      show (TM.brk ((tl text_).take (i1 + 1)) = some ((drops5 ++ [many6]), many9)) ∧ ((drops5 ++ [many6]).length ≤ (i1 + 1))
      first
        | exact ⟨by rw [hst, TM.brS_lb (h40.mp (by assumption)), hmany9], by rw [List.length_append, List.length_singleton]; omega⟩
        | exact ⟨by rw [hst, TM.brS_rb (h41.mp (by assumption)), hmany9], by omega⟩
    · refine q_ifC (ec_tst (ev_eqS (((ev_var (R := rStr) (a := x4) rfl)).toh) (ev_str))) (fun h10 => ?_) (fun h10 => ?_)
      · refine q_asg (i := 2) (ℓ := .g) ((ev_add (((ev_var (R := rInt) (a := many6) rfl)).toh) (ev_int))) (fun many11 hmany11 => ?_)
        replace hmany11 : many11 = (many6 + (1 : Int)) := hmany11
        refine q_next (?_ : Go _ tNext _ _)
        refine q_next (?_ : Go _ tNext _ _)
        refine q_next (hol_in (drops5, many11) ?_ (LeG.k (LeG.k (LeG.k (LeG.f LeG.nil)))))
        show (TM.brk ((tl text_).take (i1 + 1)) = some (drops5, many11)) ∧ (drops5.length ≤ (i1 + 1))
        first
          | exact ⟨by rw [hst, TM.brS_lb (h40.mp (by assumption)), hmany11], by rw [List.length_append, List.length_singleton]; omega⟩
          | exact ⟨by rw [hst, TM.brS_rb (h41.mp (by assumption)), hmany11], by omega⟩
      · refine q_raise hE ?_
        exact ⟨rfl, TM.brT_bad (TM.brk_bad hc0 (by rw [hI0_0]; exact TM.brS_no (fun z => absurd (h40.mpr z) (by assumption)) fun z => absurd (h41.mpr z) (by assumption)))⟩
  obtain ⟨drops12, many13⟩ := s
  replace hI0 : (TM.brk ((tl text_).take ((signs text_)).length) = some (drops12, many13)) ∧ (drops12.length ≤ ((signs text_)).length) := hI0
  obtain ⟨hI0_0, hI0_1⟩ := hI0
  show Go _ _ _ [.val .m rStr text_, .own p2 .g rInt drops12, .val .g rInt many13, .no]
  have hbr := hI0_0
  rw [List.take_of_length_le (by rw [signs_len, len_tl]; exact Nat.le_refl _)] at hbr
  rw [signs_len] at hI0_1
  refine q_ifT (ec_or (ec_tst (ev_gt ((ev_len (es_own (R := rInt) (l := drops12) rfl))) (ev_int))) (fun hb14 => (ec_or (ec_tstN (ev_neI ((ev_add ((ev_sum (EvS.fl fl_int (es_own (R := rInt) (l := drops12) rfl)))) (((ev_var (R := rInt) (a := many13) rfl)).toh))) ((ev_len (es_own (R := rInt) (l := drops12) rfl))))) (fun hb15 => (ec_isN (ev_call (call_hung ((ev_seqL (ev_own (R := rInt) (l := drops12) rfl))) (by first | omega | assumption | (simp; done) | (constructor <;> omega) | (simp; omega))))))))) (fun h17 => ?_) (fun h17 => ?_)
  · refine q_raise hE ?_
    exact ⟨rfl, TM.brT_out hbr (by assumption)⟩
  refine q_ret ((ev_the (ev_call (call_hung ((ev_seqL (ev_own (R := rInt) (l := drops12) rfl))) (by first | omega | assumption | (simp; done) | (constructor <;> omega) | (simp; omega)))) (by exact oget_some (fun z => (by assumption : ¬ (_ ∨ _ ∨ _)) (.inr (.inr z)))))) hR (fun r18 hr18 => ?_)
  replace hr18 : r18 = (oget (TM.hungO drops12)) := hr18
  show r18 = oget (TM.brT (tl text_)) ∧ ¬ TM.brT (tl text_) = none
  rw [hr18]
  exact ⟨by rw [TM.brT_in hbr (by assumption)], by rw [TM.brT_in hbr (by assumption)]; exact fun z => (by assumption : ¬ (_ ∨ _ ∨ _)) (.inr (.inr z))⟩
abbrev s_by_brackets : Stmt := topS 20
theorem sc_by_brackets : FnScope ["text", "drops", "many", "sign"] ["text"] (defScope s_by_brackets) := ⟨rfl, rfl, rfl, by decide +kernel, rfl, by decide +kernel, by decide +kernel⟩
theorem ok_by_brackets {P : Program} {w : PySem.World} {K : PySem.W.Frag} {mg : Str → Option Value} {base : Heap} {x_NoTelling : Addr} {f : Addr} {fd : FuncData} (F : Fun K "by_brackets" "by_brackets" s_by_brackets f fd) {f_hung : Addr} {d_hung : FuncData} (c_hung : Cal P w K mg base CX0 1 "hung" ["drops"] sp_hung f_hung d_hung) (m_len : mg "len" = none) (m_sum : mg "sum" = none) {u_MOST_PLACES : Tok} (c_MOST_PLACES : mg "MOST_PLACES" = some (.int 40 u_MOST_PLACES)) (z_NoTelling : ExcT K mg x_NoTelling "NoTelling") : FnOk P w K mg base (L2.CX P w) 2 f fd ["text"] (sp_by_brackets x_NoTelling) := by
  have sc := sc_by_brackets
  refine F.okX sc (fun vs H Q E h => ?_) (fun cdv A outer s H vs Q E hr h => ?_)
  · obtain ⟨a_, ha_, _⟩ := h
    obtain ⟨v1, _, rfl, _ha1, rfl⟩ := ha_
    rfl
  · obtain ⟨⟨text_, _⟩, ⟨v1, _, rfl, ha1, rfl⟩, hp0, hR, hE⟩ := spF_open PIlaw (n := fun _ H' => Q .non H') h
    refine ⟨t_by_brackets K E x_NoTelling, ?_, go_by_brackets (C := (Cn0 PIlaw H)) x_NoTelling text_ hp0 hR hE _ (W0 H []) (world_of (bok0 (PI := PIlaw) H) ⟨⟨by decide, v1, rfl, rStr.mono (mw0 (PI := PIlaw) H) ha1⟩, ⟨trivial, ⟨trivial, ⟨trivial, trivial⟩⟩⟩⟩ rfl)⟩
    unfold t_by_brackets
    exact (pss_cons (ps_set (i := 1) sc.nd rfl (Or.inl rfl) (pe_lst pa_nil))
(pss_cons (ps_set (i := 2) sc.nd rfl (Or.inl rfl) pe_int)
(pss_cons (ps_for PassesOwn.leaving rfl (pi_str (pv 0)) (pg_name (i := 3) sc.nd rfl (Or.inl rfl))
(pss_cons (ps_if (pt_cmpR op_eq (pv 3) pe_str (nomark _)) (pss_cons (ps_expr (pe_bm PySem.F.plainAttrs_list PySem.F.slot_list_append PySem.F.type_list_append mt_append (pv 1) (pa_cons (pv 2) pa_nil)))
(pss_cons (ps_set (i := 2) sc.nd rfl (Or.inl rfl) pe_int)
pss_nil)) (pss_cons (ps_if (pt_cmpR op_eq (pv 3) pe_str (nomark _)) (pss_cons (ps_set (i := 2) sc.nd rfl (Or.inl rfl) (pe_op op_add (pv 2) pe_int))
pss_nil) (pss_cons (ps_raise rfl (takes_of rfl rfl rfl rfl) (pmk_own PySem.F.excBase_ValueError z_NoTelling.x z_NoTelling.g z_NoTelling.k (raises_own z_NoTelling.b z_NoTelling.t) (by exact rfl))) pss_nil))
pss_nil))
pss_nil))
(pss_cons (ps_if (PW.pt (pw_or (pt_cmpR op_gt (pe_callB call_len_seq (by rfl) m_len bt_len (pa_cons (pv 1) pa_nil)) (pe_glob rfl c_MOST_PLACES ⟨_, rfl⟩) (nomark _)) (pw_or (pt_cmpR op_ne (pe_op op_add (pe_callB (cr_sum rfl) (by rfl) m_sum bt_sum (pa_cons (pv 1) pa_nil)) (pv 2)) (pe_callB call_len_seq (by rfl) m_len bt_len (pa_cons (pv 1) pa_nil)) (nomark _)) (pw_or1 (pt_cmpR op_isN (pe_call c_hung.ok (hr.mono (by decide)) (by rfl) c_hung.g c_hung.kp c_hung.b .nil pass0 (pa_cons (pv 1) pa_nil)) pe_non (nomark _)))))) (pss_cons (ps_raise rfl (takes_of rfl rfl rfl rfl) (pmk_own PySem.F.excBase_ValueError z_NoTelling.x z_NoTelling.g z_NoTelling.k (raises_own z_NoTelling.b z_NoTelling.t) (by exact rfl))) pss_nil) pss_nil)
(pss_cons (ps_ret (pe_call c_hung.ok (hr.mono (by decide)) (by rfl) c_hung.g c_hung.kp c_hung.b .nil pass0 (pa_cons (pv 1) pa_nil))) pss_nil)))))
def sp_law_led : Sp := spF (aCons rInt (aCons (rAlt (rTup rInt) rStr) aNil)) (fun (a : Int × (Sum (List Int) Str) × Unit) => (TM.Tl 1000 a.1 a.2.1)) (rOpt (rTup rInt)) (fun (a : Int × (Sum (List Int) Str) × Unit) b => b = TM.led14 a.1 a.2.1) (fun _ _ => False)
theorem call_law_led {C : Cn} {Γ : List Ent} {E : XK} {t1 : TE} {t2 : TE} {a1 : Int} {a2 : (Sum (List Int) Str)} (h1 : Ev C t1 Γ .h rInt a1) (h2 : Ev C t2 Γ .h (rAlt (rTup rInt) rStr) a2) (hp0 : TM.Tl 1000 a1 a2) : EvX C (tCall (sp_law_led) [] E (tCons t1 (tCons t2 tNil))) Γ (ResF C (rOpt (rTup rInt)) (fun b => b = TM.led14 a1 a2)) := ed_call2 h1 h2 hp0 exc0 (fun _ z => z)
theorem callx_law_led {C : Cn} {Γ : List Ent} {E : XK} {t1 : TE} {t2 : TE} {P1 : Int → Prop} {P2 : (Sum (List Int) Str) → Prop} (h1 : EvP C t1 Γ .h rInt P1) (h2 : EvP C t2 Γ .h (rAlt (rTup rInt) rStr) P2) (hp0 : ∀ a1 a2, P1 a1 → P2 a2 → (TM.Tl 1000 a1 a2)) : EvX C (tCall (sp_law_led) [] E (tCons t1 (tCons t2 tNil))) Γ (ResF C (rOpt (rTup rInt)) (fun b => ∃ a1 a2, P1 a1 ∧ P2 a2 ∧ (b = TM.led14 a1 a2))) := ex_call2 h1 h2 (fun a1 a2 _p1 _p2 => hp0 a1 a2 _p1 _p2) exc0 (fun a1 a2 _p1 _p2 => fun _ z => z)
def t_law_led (K : PySem.W.Frag) (E : XK) (x_DipError : Addr) (x_NoTelling : Addr) (x_NoTree : Addr) : TS :=
(tSeq (tAsg (tC .non) (gName 2))
(tCut (tTryO K (.ref x_NoTelling) (fun W_ =>
(tSeq (tAsg (tPick3S 0 ((sp_by_drops x_NoTelling), (WE W_)) ((sp_by_distances x_NoTelling), (WE W_)) ((sp_by_brackets x_NoTelling), (WE W_)) (tCons (tVar 1) tNil)) (gName 2))
tNext))
(tSeq (tAsg (tC .non) (gName 2))
tNext))
(tSeq (tRet (tVar 2)) tNext)))
theorem go_law_led {K : PySem.W.Frag} {C : Cn} {D : Ends} {E : XK} (x_DipError : Addr) (x_NoTelling : Addr) (x_NoTree : Addr) (way_ : Int) (told_ : (Sum (List Int) Str)) (hp0 : TM.Tl 1000 way_ told_) (hR : RetOk C D (rOpt (rTup rInt)) (fun b => b = TM.led14 way_ told_)) (hX : KitF K [x_NoTelling] [x_NoTree, x_NoTelling] x_DipError) :
    Go C (t_law_led K E x_DipError x_NoTelling x_NoTree) D [.val .m rInt way_, .val .m (rAlt (rTup rInt) rStr) told_, .no] := by
  unfold t_law_led
  refine q_asg (i := 2) (ℓ := .g) ((ev_non (R := (rTup rInt)))) (fun found1 hfound1 => ?_)
  replace hfound1 : found1 = none := hfound1
  refine q_cut (S := (Option (List Int))) (fun s => [.val .m rInt way_, .val .m (rAlt (rTup rInt) rStr) told_, .val .g (rOpt (rTup rInt)) s]) (fun s => (s = TM.led14 way_ told_)) (c_tryO (Pe := fun c => c = x_NoTelling ∧ TM.led14 way_ told_ = none) (fun W_ hW_ => ?_) (fun c2 hc2 => ?_) (fun c hz => (by
        have hz : c = x_NoTelling ∧ TM.led14 way_ told_ = none := hz
        first | (rcases hz with ⟨rfl, _⟩; exact hX.exmS (by simp) (by simp)) | (rcases hz with ⟨rfl, _⟩ | ⟨rfl, _⟩ <;> exact hX.exmS (by simp) (by simp))))) (fun s hj0 => ?_)
  · refine q_asg (i := 2) (ℓ := .g) (evp_some (ev_call (evx_pick3 (Res := ResF _ (rTup rInt) (fun b_ => TM.led14 way_ told_ = some b_)) rfl (by
          exact TM.Tl.way hp0) (fun hz_ => EvX.imp (callsn_by_drops ((ev_altIsA (a := (altA told_)) (ev_var (R := (rAlt (rTup rInt) rStr)) (a := told_) rfl) (by
          exact (TM.Tl.a hp0 (by omega)).1)).toh) (by
          exact (TM.Tl.a hp0 (by omega)).2.1) hW_ (by
          rintro c ⟨hc1, hc2⟩
          exact ⟨hc1, by rw [TM.led_0 (TM.Tl.a hp0 (by omega)).1 hz_]; exact hc2⟩)) (fun b_ hb_ => by
          rw [TM.led_0 (TM.Tl.a hp0 (by omega)).1 hz_, hb_.1]; exact oget_some hb_.2)) (fun hz_ => EvX.imp (callsn_by_distances ((ev_altIsA (a := (altA told_)) (ev_var (R := (rAlt (rTup rInt) rStr)) (a := told_) rfl) (by
          exact (TM.Tl.a hp0 (by omega)).1)).toh) (by
          exact (TM.Tl.a hp0 (by omega)).2.1) hW_ (by
          rintro c ⟨hc1, hc2⟩
          exact ⟨hc1, by rw [TM.led_1 (TM.Tl.a hp0 (by omega)).1 (by omega)]; exact hc2⟩)) (fun b_ hb_ => by
          rw [TM.led_1 (TM.Tl.a hp0 (by omega)).1 (by omega), hb_.1]; exact oget_some hb_.2)) (fun hz_ => EvX.imp (callsn_by_brackets ((ev_altIsB (b := (altB told_)) (ev_var (R := (rAlt (rTup rInt) rStr)) (a := told_) rfl) (by
          exact (TM.Tl.b hp0 hz_).1)).toh) (by
          have := (TM.Tl.b hp0 hz_).2; omega) hW_ (by
          rintro c ⟨hc1, hc2⟩
          exact ⟨hc1, by rw [TM.led_2 (TM.Tl.b hp0 hz_).1]; exact hc2⟩)) (fun b_ hb_ => by
          rw [TM.led_2 (TM.Tl.b hp0 hz_).1, hb_.1]; exact oget_some hb_.2)))) nn_tup) (fun found3 hfound3 => ?_)
    obtain ⟨y4, hfound3, hy4⟩ := hfound3
    subst hfound3
    refine q_next (hol_in (some y4) ?_ (LeG.k (LeG.k (LeG.k LeG.nil))))
    show ((some y4) = TM.led14 way_ told_)
    exact (by assumption : TM.led14 _ _ = some _).symm
  · replace hc2 : c2 = x_NoTelling ∧ TM.led14 way_ told_ = none := hc2
    refine q_asg (i := 2) (ℓ := .g) ((ev_non (R := (rTup rInt)))) (fun found5 hfound5 => ?_)
    replace hfound5 : found5 = none := hfound5
    refine q_next (hol_in found5 ?_ (LeG.k (LeG.k (LeG.k LeG.nil))))
    show (found5 = TM.led14 way_ told_)
    rw [hfound5, hc2.2]
  revert s hj0; intro found6 hj0
  replace hj0 : (found6 = TM.led14 way_ told_) := hj0
  refine q_ret ((ev_var (R := (rOpt (rTup rInt))) (a := found6) rfl)) hR (fun r7 hr7 => ?_)
  replace hr7 : r7 = found6 := hr7
  show r7 = TM.led14 way_ told_
  rw [hr7]
  exact hj0
abbrev s_law_led : Stmt := topS 27
theorem sc_law_led : FnScope ["way", "told", "found"] ["way", "told"] (defScope s_law_led) := ⟨rfl, rfl, rfl, by decide +kernel, rfl, by decide +kernel, by decide +kernel⟩
theorem ok_law_led {P : Program} {w : PySem.World} {K : PySem.W.Frag} {mg : Str → Option Value} {base : Heap} {x_DipError : Addr} {x_NoTelling : Addr} {x_NoTree : Addr} {f : Addr} {fd : FuncData} (F : Fun K "_law_led" "_law_led" s_law_led f fd) {f_by_drops : Addr} {d_by_drops : FuncData} (c_by_drops : Cal P w K mg base (L2.CX P w) 2 "by_drops" ["told"] (sp_by_drops x_NoTelling) f_by_drops d_by_drops) {f_by_distances : Addr} {d_by_distances : FuncData} (c_by_distances : Cal P w K mg base (L2.CX P w) 2 "by_distances" ["told"] (sp_by_distances x_NoTelling) f_by_distances d_by_distances) {f_by_brackets : Addr} {d_by_brackets : FuncData} (c_by_brackets : Cal P w K mg base (L2.CX P w) 2 "by_brackets" ["text"] (sp_by_brackets x_NoTelling) f_by_brackets d_by_brackets) (gx_NoTelling : mg "NoTelling" = some (.ref x_NoTelling)) (hX : KitF K [x_NoTelling] [x_NoTree, x_NoTelling] x_DipError) : FnOk P w K mg base CX0 3 f fd ["way", "told"] sp_law_led := by
  have sc := sc_law_led
  refine F.ok sc (fun vs H Q E h => ?_) (fun cdv A outer s H vs Q E hr h => ?_)
  · obtain ⟨a_, ha_, _⟩ := h
    obtain ⟨v1, _, rfl, _ha1, ⟨v2, _, rfl, _ha2, rfl⟩⟩ := ha_
    rfl
  · obtain ⟨⟨way_, told_, _⟩, ⟨v1, _, rfl, ha1, ⟨v2, _, rfl, ha2, rfl⟩⟩, hp0, hR, hE⟩ := spF_open PIlaw (n := fun _ H' => Q .non H') h
    refine ⟨t_law_led K E x_DipError x_NoTelling x_NoTree, ?_, go_law_led (C := (Cn0 PIlaw H)) x_DipError x_NoTelling x_NoTree way_ told_ hp0 hR hX _ (W0 H []) (world_of (bok0 (PI := PIlaw) H) ⟨⟨by decide, v1, rfl, rInt.mono (mw0 (PI := PIlaw) H) ha1⟩, ⟨⟨by decide, v2, rfl, (rAlt (rTup rInt) rStr).mono (mw0 (PI := PIlaw) H) ha2⟩, ⟨trivial, trivial⟩⟩⟩ rfl)⟩
    unfold t_law_led
    exact (pss_cons (ps_set (i := 2) sc.nd rfl (Or.inl rfl) pe_non)
(pss_cut (ps_try_only rfl rfl (by exact ⟨rfl, by decide, .inl gx_NoTelling⟩) takes0 (fun W_ pn_ xe_ tk_ po_ =>
(pss_cons (ps_set (i := 2) sc.nd rfl (Or.inl rfl) (pe_pick3S c_by_drops.ok (hr.mono (by decide)) (by rfl) c_by_drops.g c_by_drops.kp c_by_drops.b (fun σ_ => passAt tk_ σ_) c_by_distances.ok (hr.mono (by decide)) (by rfl) c_by_distances.g c_by_distances.kp c_by_distances.b (fun σ_ => passAt tk_ σ_) c_by_brackets.ok (hr.mono (by decide)) (by rfl) c_by_brackets.g c_by_brackets.kp c_by_brackets.b (fun σ_ => passAt tk_ σ_) (pv 0) (fun _ _ => rfl) (pa_cons (pv 1) pa_nil) (hl := (pa_cons (pe_glob (by rfl) c_by_drops.g rfl) (pa_cons (pe_glob (by rfl) c_by_distances.g rfl) (pa_cons (pe_glob (by rfl) c_by_brackets.g rfl) pa_nil))))))
pss_nil)) (fun a_ oe_ cls_ d_ pn_ _ _ =>
(pss_cons (ps_set (i := 2) sc.nd rfl (Or.inl rfl) pe_non)
pss_nil)))
(pss_cons (ps_ret (pv 2)) pss_nil)))
def sp_law_power : Sp := spF (aCons rInt (aCons rInt aNil)) (fun (a : Int × Int × Unit) => (a.1 = 5) ∧ (0 ≤ a.2.1 ∧ a.2.1 ≤ 5)) rInt (fun (a : Int × Int × Unit) b => b = 5 ^ a.2.1.toNat) (fun _ _ => False)
theorem call_law_power {C : Cn} {Γ : List Ent} {E : XK} {t1 : TE} {t2 : TE} {a1 : Int} {a2 : Int} (h1 : Ev C t1 Γ .h rInt a1) (h2 : Ev C t2 Γ .h rInt a2) (hp0 : a1 = 5) (hp1 : 0 ≤ a2 ∧ a2 ≤ 5) : EvX C (tCall (sp_law_power) [] E (tCons t1 (tCons t2 tNil))) Γ (ResF C rInt (fun b => b = 5 ^ a2.toNat)) := ed_call2 h1 h2 ⟨hp0, hp1⟩ exc0 (fun _ z => z)
theorem callx_law_power {C : Cn} {Γ : List Ent} {E : XK} {t1 : TE} {t2 : TE} {P1 : Int → Prop} {P2 : Int → Prop} (h1 : EvP C t1 Γ .h rInt P1) (h2 : EvP C t2 Γ .h rInt P2) (hp0 : ∀ a1 a2, P1 a1 → P2 a2 → (a1 = 5)) (hp1 : ∀ a1 a2, P1 a1 → P2 a2 → (0 ≤ a2 ∧ a2 ≤ 5)) : EvX C (tCall (sp_law_power) [] E (tCons t1 (tCons t2 tNil))) Γ (ResF C rInt (fun b => ∃ a1 a2, P1 a1 ∧ P2 a2 ∧ (b = 5 ^ a2.toNat))) := ex_call2 h1 h2 (fun a1 a2 _p1 _p2 => ⟨hp0 a1 a2 _p1 _p2, hp1 a1 a2 _p1 _p2⟩) exc0 (fun a1 a2 _p1 _p2 => fun _ z => z)
def t_law_power (K : PySem.W.Frag) (E : XK) : TS :=
(tSeq (tAsg (tC (.int 1)) (gName 2))
(tSeq (tFor (iRng1 (tCons (tVar 1) tNil)) (gName 3)
(tSeq (tAsg (tOp (rI CMul fun i j => .int (i * j)) (tVar 2) (tVar 0)) (gName 2))
tNext))
(tSeq (tRet (tVar 2)) tNext)))
theorem go_law_power {K : PySem.W.Frag} {C : Cn} {D : Ends} {E : XK} (base_ : Int) (many_ : Int) (hp0 : base_ = 5) (hp1 : 0 ≤ many_ ∧ many_ ≤ 5) (hR : RetOk C D rInt (fun b => b = 5 ^ many_.toNat)) :
    Go C (t_law_power K E) D [.val .m rInt base_, .val .m rInt many_, .no, .no] := by
  unfold t_law_power
  refine q_asg (i := 2) (ℓ := .g) (ev_int) (fun power1 hpower1 => ?_)
  replace hpower1 : power1 = (1 : Int) := hpower1
  refine q_forD (j := 3) (σS := Int) (fun s => [.val .m rInt base_, .val .m rInt many_, .val .g rInt s, .no]) (fun (i : Nat) (s : Int) => (s = 5 ^ i)) power1 (ei_rg1d (b := true) (ℓ := .g) (((ev_var (R := rInt) (a := many_) rfl)).toh) (by first | omega | assumption | (simp; done) | (constructor <;> omega) | (simp; omega))) (by
        show (power1 = 5 ^ 0)
        assumption) (LeG.k (LeG.k (LeG.k (LeG.f LeG.nil)))) (fun C1 hc1 i1 x2 s hx2 hI0 => ?_) (fun s hI0 => ?_)
  · revert s hI0; intro power3 hI0
    replace hI0 : (power3 = 5 ^ i1) := hI0
    have hR := hR.ex hc1
    have hx2l := at_lt hx2
    have hx2r := rg_at hx2
    rw [rg_len] at hx2l
    have hpw_ : (5 : Int) ^ i1 ≤ 5 ^ 4 ∧ 0 ≤ (5 : Int) ^ i1 := by
      have hz_ : i1 = 0 ∨ i1 = 1 ∨ i1 = 2 ∨ i1 = 3 ∨ i1 = 4 := by omega
      rcases hz_ with z | z | z | z | z <;> rw [z] <;> decide
    refine q_asg (i := 2) (ℓ := .g) ((ev_mul (((ev_var (R := rInt) (a := power3) rfl)).toh) (((ev_var (R := rInt) (a := base_) rfl)).toh) (by rw [hI0, hp0]; unfold CMul; omega))) (fun power4 hpower4 => ?_)
    replace hpower4 : power4 = (power3 * base_) := hpower4
    refine q_next (hol_in power4 ?_ (LeG.k (LeG.k (LeG.k (LeG.f LeG.nil)))))
    show (power4 = 5 ^ (i1 + 1))
    rw [hpower4, hI0, hp0]; exact (Int.pow_succ 5 _).symm
  revert s hI0; intro power5 hI0
  replace hI0 : (power5 = 5 ^ ((rg 0 many_)).length) := hI0
  simp only [rg_len] at hI0
  show Go _ _ _ [.val .m rInt base_, .val .m rInt many_, .val .g rInt power5, .no]
  refine q_ret ((ev_var (R := rInt) (a := power5) rfl)) hR (fun r6 hr6 => ?_)
  replace hr6 : r6 = power5 := hr6
  show r6 = 5 ^ many_.toNat
  rw [hr6]
  rw [hI0, show (many_ - 0).toNat = (many_).toNat by omega]
abbrev s_law_power : Stmt := topS 25
theorem sc_law_power : FnScope ["base", "many", "power", "place"] ["base", "many"] (defScope s_law_power) := ⟨rfl, rfl, rfl, by decide +kernel, rfl, by decide +kernel, by decide +kernel⟩
theorem ok_law_power {P : Program} {w : PySem.World} {K : PySem.W.Frag} {mg : Str → Option Value} {base : Heap} {f : Addr} {fd : FuncData} (F : Fun K "_law_power" "_law_power" s_law_power f fd) (m_range : mg "range" = none) : FnOk P w K mg base CX0 1 f fd ["base", "many"] sp_law_power := by
  have sc := sc_law_power
  refine F.ok sc (fun vs H Q E h => ?_) (fun cdv A outer s H vs Q E hr h => ?_)
  · obtain ⟨a_, ha_, _⟩ := h
    obtain ⟨v1, _, rfl, _ha1, ⟨v2, _, rfl, _ha2, rfl⟩⟩ := ha_
    rfl
  · obtain ⟨⟨base_, many_, _⟩, ⟨v1, _, rfl, ha1, ⟨v2, _, rfl, ha2, rfl⟩⟩, ⟨hp0, hp1⟩, hR, hE⟩ := spF_open PIlaw (n := fun _ H' => Q .non H') h
    refine ⟨t_law_power K E, ?_, go_law_power (C := (Cn0 PIlaw H)) base_ many_ hp0 hp1 hR _ (W0 H []) (world_of (bok0 (PI := PIlaw) H) ⟨⟨by decide, v1, rfl, rInt.mono (mw0 (PI := PIlaw) H) ha1⟩, ⟨⟨by decide, v2, rfl, rInt.mono (mw0 (PI := PIlaw) H) ha2⟩, ⟨trivial, ⟨trivial, trivial⟩⟩⟩⟩ rfl)⟩
    unfold t_law_power
    exact (pss_cons (ps_set (i := 2) sc.nd rfl (Or.inl rfl) pe_int)
(pss_cons (ps_for PassesOwn.never rfl (pi_range1 rfl m_range (pa_cons (pv 1) pa_nil)) (pg_name (i := 3) sc.nd rfl (Or.inl rfl))
(pss_cons (ps_set (i := 2) sc.nd rfl (Or.inl rfl) (pe_op op_mul (pv 2) (pv 0)))
pss_nil))
(pss_cons (ps_ret (pv 2)) pss_nil)))
def sp_way_up : Sp := spF (aCons (rSeq rInt) (aCons rInt aNil)) (fun (a : (List Int) × Int × Unit) => (0 ≤ a.2.1 ∧ a.2.1 < a.1.length) ∧ (a.1.length ≤ 100000)) (rOpt (rList rInt)) (fun (a : (List Int) × Int × Unit) b => b = TM.up a.1 a.1.length (gt a.1 a.2.1)) (fun _ _ => False)
theorem call_way_up {C : Cn} {Γ : List Ent} {E : XK} {t1 : TE} {t2 : TE} {a1 : (List Int)} {a2 : Int} (h1 : Ev C t1 Γ .h (rSeq rInt) a1) (h2 : Ev C t2 Γ .h rInt a2) (hp0 : 0 ≤ a2 ∧ a2 < a1.length) (hp1 : a1.length ≤ 100000) : EvX C (tCall (sp_way_up) [] E (tCons t1 (tCons t2 tNil))) Γ (ResF C (rOpt (rList rInt)) (fun b => b = TM.up a1 a1.length (gt a1 a2))) := ed_call2 h1 h2 ⟨hp0, hp1⟩ exc0 (fun _ z => z)
theorem callx_way_up {C : Cn} {Γ : List Ent} {E : XK} {t1 : TE} {t2 : TE} {P1 : (List Int) → Prop} {P2 : Int → Prop} (h1 : EvP C t1 Γ .h (rSeq rInt) P1) (h2 : EvP C t2 Γ .h rInt P2) (hp0 : ∀ a1 a2, P1 a1 → P2 a2 → (0 ≤ a2 ∧ a2 < a1.length)) (hp1 : ∀ a1 a2, P1 a1 → P2 a2 → (a1.length ≤ 100000)) : EvX C (tCall (sp_way_up) [] E (tCons t1 (tCons t2 tNil))) Γ (ResF C (rOpt (rList rInt)) (fun b => ∃ a1 a2, P1 a1 ∧ P2 a2 ∧ (b = TM.up a1 a1.length (gt a1 a2)))) := ex_call2 h1 h2 (fun a1 a2 _p1 _p2 => ⟨hp0 a1 a2 _p1 _p2, hp1 a1 a2 _p1 _p2⟩) exc0 (fun a1 a2 _p1 _p2 => fun _ z => z)
def t_way_up (K : PySem.W.Frag) (E : XK) : TS :=
(tSeq (tAsg (tLst tNil) (gName 2))
(tSeq (tAsg (tOp (rIxK K .e) (tVar 0) (tVar 1)) (gName 3))
(tSeq (tWhile (tTest (tOp rNe (tVar 3) (tUn (rU fun i => .int (-i)) (tC (.int 1)))))
(tSeq (tIfS (tOr (tTest (tOp (rI0 fun i j => .bl (decide (i < j))) (tVar 3) (tC (.int 0)))) (tOr (tTest (tOp (rI0 fun i j => .bl (decide (j ≤ i))) (tVar 3) (tCB (rLenS K) (tCons (tVar 0) tNil)))) (tTest (tOp rEq (tCB (rLenS K) (tCons (tVar 2) tNil)) (tCB (rLenS K) (tCons (tVar 0) tNil)))))) (tSeq (tRet (tC .non)) tNext) tNext)
(tSeq (tDrop (tBM K "list" rAppend (tVar 2) (tCons (tVar 3) tNil)))
(tSeq (tAsg (tOp (rIxK K .e) (tVar 0) (tVar 3)) (gName 3))
tNext))))
(tSeq (tRet (tVar 2)) tNext))))
theorem go_way_up {K : PySem.W.Frag} {C : Cn} {D : Ends} {E : XK} (tree_ : (List Int)) (place_ : Int) (hp0 : 0 ≤ place_ ∧ place_ < tree_.length) (hp1 : tree_.length ≤ 100000) (hR : RetOk C D (rOpt (rList rInt)) (fun b => b = TM.up tree_ tree_.length (gt tree_ place_))) :
    Go C (t_way_up K E) D [.val .m (rSeq rInt) tree_, .val .m rInt place_, .no, .no] := by
  unfold t_way_up
  refine q_asgN (i := 2) (ℓ := .g) (en_lstd (ℓ := .g) (R := rInt) em_nil) (fun p2 found1 hfound1 => ?_)
  subst hfound1
  refine q_asg (i := 3) (ℓ := .g) (((ev_ix (es_seq (ev_var (R := (rSeq rInt)) (a := tree_) rfl)) (((ev_var (R := rInt) (a := place_) rfl)).toh) (by first | omega | assumption | (simp; done) | (constructor <;> omega) | (simp; omega)))).fl fl_int) (fun here3 hhere3 => ?_)
  replace hhere3 : here3 = (gt tree_ place_) := hhere3
  refine q_while (S := (List Int) × Int) (fun s => [.val .m (rSeq rInt) tree_, .val .m rInt place_, .own p2 .g rInt s.1, .val .g rInt s.2]) (fun (s : (List Int) × Int) => (s.1.length ≤ tree_.length) ∧ (TM.up tree_ tree_.length (gt tree_ place_) = (TM.up tree_ (tree_.length - s.1.length) s.2).map (s.1 ++ ·))) (fun (s : (List Int) × Int) => tree_.length - s.1.length) (fun (s : (List Int) × Int) => (¬ s.2 = (-(1 : Int)))) (([] : List Int), here3) (by
        show (([] : List Int).length ≤ tree_.length) ∧ (TM.up tree_ tree_.length (gt tree_ place_) = (TM.up tree_ (tree_.length - ([] : List Int).length) here3).map (([] : List Int) ++ ·))
        refine ⟨Nat.zero_le _, ?_⟩
        rw [hhere3]; exact (TM.map_nil_app _).symm) (LeG.k (LeG.k (LeG.k (LeG.k LeG.nil)))) (fun s hI0 => ?_) (fun s hI0 hw => ?_) (fun s hI0 hw => ?_)
  · obtain ⟨found4, here5⟩ := s
    replace hI0 : (found4.length ≤ tree_.length) ∧ (TM.up tree_ tree_.length (gt tree_ place_) = (TM.up tree_ (tree_.length - found4.length) here5).map (found4 ++ ·)) := hI0
    obtain ⟨hI0_0, hI0_1⟩ := hI0
    exact (ec_tstN (ev_neI (((ev_var (R := rInt) (a := here5) rfl)).toh) ((ev_neg (ev_int)))))
  · obtain ⟨found6, here7⟩ := s
    replace hI0 : (found6.length ≤ tree_.length) ∧ (TM.up tree_ tree_.length (gt tree_ place_) = (TM.up tree_ (tree_.length - found6.length) here7).map (found6 ++ ·)) := hI0
    obtain ⟨hI0_0, hI0_1⟩ := hI0
    replace hw : (¬ here7 = (-(1 : Int))) := hw
    show Go _ _ _ [.val .m (rSeq rInt) tree_, .val .m rInt place_, .own p2 .g rInt found6, .val .g rInt here7]
    refine q_ifT (ec_or (ec_tst (ev_lt (((ev_var (R := rInt) (a := here7) rfl)).toh) (ev_int))) (fun hb8 => (ec_or (ec_tst (ev_ge (((ev_var (R := rInt) (a := here7) rfl)).toh) ((ev_len (es_seq (ev_var (R := (rSeq rInt)) (a := tree_) rfl)))))) (fun hb9 => (ec_tst (ev_eqI ((ev_len (es_own (R := rInt) (l := found6) rfl))) ((ev_len (es_seq (ev_var (R := (rSeq rInt)) (a := tree_) rfl)))))))))) (fun h11 => ?_) (fun h11 => ?_)
    · refine q_ret ((ev_non (R := (rList rInt)))) hR (fun r12 hr12 => ?_)
      replace hr12 : r12 = none := hr12
      show r12 = TM.up tree_ tree_.length (gt tree_ place_)
      rw [hr12]
      rw [hI0_1, TM.up_none hw (by omega)]; rfl
    refine q_app (i := 2) (p := p2) rfl ((ev_var (R := rInt) (a := here7) rfl)) (by omega) (fun e13 he13 => ?_)
    replace he13 : e13 = here7 := he13
    rw [he13]; clear he13 e13
    refine q_asg (i := 3) (ℓ := .g) (((ev_ix (es_seq (ev_var (R := (rSeq rInt)) (a := tree_) rfl)) (((ev_var (R := rInt) (a := here7) rfl)).toh) (by omega))).fl fl_int) (fun here14 hhere14 => ?_)
    replace hhere14 : here14 = (gt tree_ here7) := hhere14
    refine q_next (hol_in ((found6 ++ [here7]), here14) ?_ (LeG.k (LeG.k (LeG.k (LeG.k LeG.nil)))))
    show (((found6 ++ [here7]).length ≤ tree_.length) ∧ (TM.up tree_ tree_.length (gt tree_ place_) = (TM.up tree_ (tree_.length - (found6 ++ [here7]).length) here14).map ((found6 ++ [here7]) ++ ·))) ∧ tree_.length - (found6 ++ [here7]).length < tree_.length - found6.length
    rw [hhere14]
    refine ⟨⟨by simp; omega, ?_⟩, by simp; omega⟩
    exact TM.way_step hI0_0 hI0_1 hw (by omega)
  obtain ⟨found15, here16⟩ := s
  replace hI0 : (found15.length ≤ tree_.length) ∧ (TM.up tree_ tree_.length (gt tree_ place_) = (TM.up tree_ (tree_.length - found15.length) here16).map (found15 ++ ·)) := hI0
  obtain ⟨hI0_0, hI0_1⟩ := hI0
  replace hw : ¬ (¬ here16 = (-(1 : Int))) := hw
  show Go _ _ _ [.val .m (rSeq rInt) tree_, .val .m rInt place_, .own p2 .g rInt found15, .val .g rInt here16]
  refine q_frz (i := 2) (p := p2) rfl ?_
  refine q_ret ((ev_some (ev_var (R := (rList rInt)) (a := found15) rfl) nn_list)) hR (fun r17 hr17 => ?_)
  replace hr17 : r17 = (some found15) := hr17
  show r17 = TM.up tree_ tree_.length (gt tree_ place_)
  rw [hr17]
  rw [hI0_1, show here16 = -1 from Classical.not_not.mp hw, TM.up_top]; simp
abbrev s_way_up : Stmt := topS 7
theorem sc_way_up : FnScope ["tree", "place", "found", "here"] ["tree", "place"] (defScope s_way_up) := ⟨rfl, rfl, rfl, by decide +kernel, rfl, by decide +kernel, by decide +kernel⟩
theorem ok_way_up {P : Program} {w : PySem.World} {K : PySem.W.Frag} {mg : Str → Option Value} {base : Heap} {f : Addr} {fd : FuncData} (F : Fun K "way_up" "way_up" s_way_up f fd) (m_len : mg "len" = none) : FnOk P w K mg base CX0 1 f fd ["tree", "place"] sp_way_up := by
  have sc := sc_way_up
  refine F.ok sc (fun vs H Q E h => ?_) (fun cdv A outer s H vs Q E hr h => ?_)
  · obtain ⟨a_, ha_, _⟩ := h
    obtain ⟨v1, _, rfl, _ha1, ⟨v2, _, rfl, _ha2, rfl⟩⟩ := ha_
    rfl
  · obtain ⟨⟨tree_, place_, _⟩, ⟨v1, _, rfl, ha1, ⟨v2, _, rfl, ha2, rfl⟩⟩, ⟨hp0, hp1⟩, hR, hE⟩ := spF_open PIlaw (n := fun _ H' => Q .non H') h
    refine ⟨t_way_up K E, ?_, go_way_up (C := (Cn0 PIlaw H)) tree_ place_ hp0 hp1 hR _ (W0 H []) (world_of (bok0 (PI := PIlaw) H) ⟨⟨by decide, v1, rfl, (rSeq rInt).mono (mw0 (PI := PIlaw) H) ha1⟩, ⟨⟨by decide, v2, rfl, rInt.mono (mw0 (PI := PIlaw) H) ha2⟩, ⟨trivial, ⟨trivial, trivial⟩⟩⟩⟩ rfl)⟩
    unfold t_way_up
    exact (pss_cons (ps_set (i := 2) sc.nd rfl (Or.inl rfl) (pe_lst pa_nil))
(pss_cons (ps_set (i := 3) sc.nd rfl (Or.inl rfl) (pe_ix ix_seq (pv 0) (pv 1) (fun _ _ => rfl)))
(pss_cons (ps_while PassesOwn.never (pt_cmpR op_ne (pv 3) (pe_un un_neg pe_int) (nomark _))
(pss_cons (ps_if (PW.pt (pw_or (pt_cmpR op_lt (pv 3) pe_int (nomark _)) (pw_or (pt_cmpR op_ge (pv 3) (pe_callB call_len_seq (by rfl) m_len bt_len (pa_cons (pv 0) pa_nil)) (nomark _)) (pw_or1 (pt_cmpR op_eq (pe_callB call_len_seq (by rfl) m_len bt_len (pa_cons (pv 2) pa_nil)) (pe_callB call_len_seq (by rfl) m_len bt_len (pa_cons (pv 0) pa_nil)) (nomark _)))))) (pss_cons (ps_ret pe_non) pss_nil) pss_nil)
(pss_cons (ps_expr (pe_bm PySem.F.plainAttrs_list PySem.F.slot_list_append PySem.F.type_list_append mt_append (pv 2) (pa_cons (pv 3) pa_nil)))
(pss_cons (ps_set (i := 3) sc.nd rfl (Or.inl rfl) (pe_ix ix_seq (pv 0) (pv 3) (fun _ _ => rfl)))
pss_nil))))
(pss_cons (ps_ret (pv 2)) pss_nil))))
def sp_flat_numbers : Sp := spF (aCons (rSeq rInt) aNil) (fun (a : (List Int) × Unit) => (a.1.length ≤ 100000)) (rOpt (rList rInt)) (fun (a : (List Int) × Unit) b => b = TM.flatN a.1) (fun _ _ => False)
theorem call_flat_numbers {C : Cn} {Γ : List Ent} {E : XK} {t1 : TE} {a1 : (List Int)} (h1 : Ev C t1 Γ .h (rSeq rInt) a1) (hp0 : a1.length ≤ 100000) : EvX C (tCall (sp_flat_numbers) [] E (tCons t1 tNil)) Γ (ResF C (rOpt (rList rInt)) (fun b => b = TM.flatN a1)) := ed_call1 h1 hp0 exc0 (fun _ z => z)
theorem callx_flat_numbers {C : Cn} {Γ : List Ent} {E : XK} {t1 : TE} {P1 : (List Int) → Prop} (h1 : EvP C t1 Γ .h (rSeq rInt) P1) (hp0 : ∀ a1, P1 a1 → (a1.length ≤ 100000)) : EvX C (tCall (sp_flat_numbers) [] E (tCons t1 tNil)) Γ (ResF C (rOpt (rList rInt)) (fun b => ∃ a1, P1 a1 ∧ (b = TM.flatN a1))) := ex_call1 h1 (fun a1 _p1 => hp0 a1 _p1) exc0 (fun a1 _p1 => fun _ z => z)
def t_flat_numbers (K : PySem.W.Frag) (E : XK) : TS :=
(tSeq (tAsg (tLst tNil) (gName 1))
(tSeq (tFor (iRng1 (tCons (tCB (rLenS K) (tCons (tVar 0) tNil)) tNil)) (gName 2)
(tSeq (tAsg (tCall sp_way_up [] E0 (tCons (tVar 0) (tCons (tVar 2) tNil))) (gName 3))
(tSeq (tIfS (tTest (tOp (fun x y H Q => y = .non ∧ Q (.bl (decide (x = .non))) H) (tVar 3) (tC .non))) (tSeq (tRet (tC .non)) tNext) tNext)
(tSeq (tDrop (tBM K "list" rAppend (tVar 1) (tCons (tCB (rLenS K) (tCons (tLc (iList K (tVar 3)) (gName 4) (tTest (tOp (rI0 fun i j => .bl (decide (j < i))) (tVar 4) (tVar 2))) (tVar 4) [4]) tNil)) tNil)))
tNext))))
(tSeq (tRet (tVar 1)) tNext)))
theorem go_flat_numbers {K : PySem.W.Frag} {C : Cn} {D : Ends} {E : XK} (tree_ : (List Int)) (hp0 : tree_.length ≤ 100000) (hR : RetOk C D (rOpt (rList rInt)) (fun b => b = TM.flatN tree_)) :
    Go C (t_flat_numbers K E) D [.val .m (rSeq rInt) tree_, .no, .no, .no, .no] := by
  unfold t_flat_numbers
  refine q_asgN (i := 1) (ℓ := .g) (en_lstd (ℓ := .g) (R := rInt) em_nil) (fun p2 numbers1 hnumbers1 => ?_)
  subst hnumbers1
  refine q_forD (j := 2) (σS := (List Int)) (fun s => [.val .m (rSeq rInt) tree_, .own p2 .g rInt s, .no, .no, .no]) (fun (i : Nat) (s : (List Int)) => (s.length = i) ∧ (∀ p : Nat, p < i → TM.flatAt tree_ p = some (TM.nb s p))) ([] : List Int) (ei_rg1d (b := true) (ℓ := .g) ((ev_len (es_seq (ev_var (R := (rSeq rInt)) (a := tree_) rfl)))) (by first | omega | assumption | (simp; done) | (constructor <;> omega) | (simp; omega))) (by
        show (([] : List Int).length = 0) ∧ (∀ p : Nat, p < 0 → TM.flatAt tree_ p = some (TM.nb ([] : List Int) p))
        exact ⟨rfl, fun p hp => absurd hp (by omega)⟩) (LeG.k (LeG.k (LeG.f (LeG.f (LeG.f LeG.nil))))) (fun C1 hc1 i1 x3 s hx3 hI0 => ?_) (fun s hI0 => ?_)
  · revert s hI0; intro numbers4 hI0
    replace hI0 : (numbers4.length = i1) ∧ (∀ p : Nat, p < i1 → TM.flatAt tree_ p = some (TM.nb numbers4 p)) := hI0
    obtain ⟨hI0_0, hI0_1⟩ := hI0
    have hR := hR.ex hc1
    have hx3l := at_lt hx3
    have hx3r := rg_at hx3
    rw [rg_len] at hx3l
    refine q_asg (i := 3) (ℓ := .g) ((ev_call (call_way_up (((ev_var (R := (rSeq rInt)) (a := tree_) rfl)).toh) (((ev_var (R := rInt) (a := x3) rfl)).toh) (by first | omega | assumption | (simp; done) | (constructor <;> omega) | (simp; omega)) (by first | omega | assumption | (simp; done) | (constructor <;> omega) | (simp; omega))))) (fun way5 hway5 => ?_)
    replace hway5 : way5 = (TM.up tree_ tree_.length (gt tree_ x3)) := hway5
    refine q_ifT (ec_isN (ev_var (R := (rOpt (rList rInt))) (a := way5) rfl)) (fun h6 => ?_) (fun h6 => ?_)
    · refine q_ret ((ev_non (R := (rList rInt)))) hR (fun r7 hr7 => ?_)
      replace hr7 : r7 = none := hr7
      show r7 = TM.flatN tree_
      rw [hr7]
      exact (TM.flatN_none' hx3 (by rw [← hway5]; assumption)).symm
    obtain ⟨g8, hg8⟩ : ∃ x, way5 = some x := some_of (by first | assumption | (intro z; simp_all))
    refine q_app (i := 1) (p := p2) rfl ((ev_len (es_list (ev_new (ℓ := .g) (EvN.imp (en_filtd (ℓ' := .g) (fun c9 : Int => (x3 < c9)) (fun c9 : Int => c9) (ei_list (b := false) (hc := (by intro h; exact absurd h (by decide))) (hl := (by intro h; exact absurd h (by decide))) (es_list (ev_the (ev_var (R := (rOpt (rList rInt))) (a := way5) rfl) hg8))) (by have := TM.up_len _ _ _ _ (hway5.symm.trans (by assumption)); omega) (fun c9 hc10 => (ec_tst (ev_gt (((ev_var (R := rInt) (a := c9) rfl)).toh) (((ev_var (R := rInt) (a := x3) rfl)).toh)))) (fun c9 hc10 hp11 => (ev_var (R := rInt) (a := c9) rfl))) (fun _ e => e.trans (List.map_id' _))))))) (by first | omega | assumption | (simp; done) | (constructor <;> omega) | (simp; omega)) (fun e12 he12 => ?_)
    replace he12 : e12 = (((g8.filter (fun c9 : Int => decide (x3 < c9)))).length : Int) := he12
    rw [he12]; clear he12 e12
    refine q_next (hol_in (numbers4 ++ [(((g8.filter (fun c9 : Int => decide (x3 < c9)))).length : Int)]) ?_ (LeG.k (LeG.k (LeG.f (LeG.f (LeG.f LeG.nil))))))
    show ((numbers4 ++ [(((g8.filter (fun c9 : Int => decide (x3 < c9)))).length : Int)]).length = (i1 + 1)) ∧ (∀ p : Nat, p < (i1 + 1) → TM.flatAt tree_ p = some (TM.nb (numbers4 ++ [(((g8.filter (fun c9 : Int => decide (x3 < c9)))).length : Int)]) p))
    refine TM.flat_step hI0_0 hI0_1 ?_
    rw [TM.flatAt_eq (rg_at hx3).1, ← hway5, show way5 = some _ by assumption]; rfl
  revert s hI0; intro numbers13 hI0
  replace hI0 : (numbers13.length = ((rg 0 ((tree_).length : Int))).length) ∧ (∀ p : Nat, p < ((rg 0 ((tree_).length : Int))).length → TM.flatAt tree_ p = some (TM.nb numbers13 p)) := hI0
  obtain ⟨hI0_0, hI0_1⟩ := hI0
  simp only [rg_len] at hI0_0 hI0_1
  show Go _ _ _ [.val .m (rSeq rInt) tree_, .own p2 .g rInt numbers13, .no, .no, .no]
  refine q_frz (i := 1) (p := p2) rfl ?_
  refine q_ret ((ev_some (ev_var (R := (rList rInt)) (a := numbers13) rfl) nn_list)) hR (fun r14 hr14 => ?_)
  replace hr14 : r14 = (some numbers13) := hr14
  show r14 = TM.flatN tree_
  rw [hr14]
  exact (TM.flatN_some (by omega) fun p hp => hI0_1 p (by omega)).symm
abbrev s_flat_numbers : Stmt := topS 8
theorem sc_flat_numbers : FnScope ["tree", "numbers", "place", "way", "other"] ["tree"] (defScope s_flat_numbers) := ⟨rfl, rfl, rfl, by decide +kernel, rfl, by decide +kernel, by decide +kernel⟩
theorem ok_flat_numbers {P : Program} {w : PySem.World} {K : PySem.W.Frag} {mg : Str → Option Value} {base : Heap} {f : Addr} {fd : FuncData} (F : Fun K "flat_numbers" "flat_numbers" s_flat_numbers f fd) {f_way_up : Addr} {d_way_up : FuncData} (c_way_up : Cal P w K mg base CX0 1 "way_up" ["tree", "place"] sp_way_up f_way_up d_way_up) (m_len : mg "len" = none) (m_range : mg "range" = none) : FnOk P w K mg base CX0 2 f fd ["tree"] sp_flat_numbers := by
  have sc := sc_flat_numbers
  refine F.ok sc (fun vs H Q E h => ?_) (fun cdv A outer s H vs Q E hr h => ?_)
  · obtain ⟨a_, ha_, _⟩ := h
    obtain ⟨v1, _, rfl, _ha1, rfl⟩ := ha_
    rfl
  · obtain ⟨⟨tree_, _⟩, ⟨v1, _, rfl, ha1, rfl⟩, hp0, hR, hE⟩ := spF_open PIlaw (n := fun _ H' => Q .non H') h
    refine ⟨t_flat_numbers K E, ?_, go_flat_numbers (C := (Cn0 PIlaw H)) tree_ hp0 hR _ (W0 H []) (world_of (bok0 (PI := PIlaw) H) ⟨⟨by decide, v1, rfl, (rSeq rInt).mono (mw0 (PI := PIlaw) H) ha1⟩, ⟨trivial, ⟨trivial, ⟨trivial, ⟨trivial, trivial⟩⟩⟩⟩⟩ rfl)⟩
    unfold t_flat_numbers
    exact (pss_cons (ps_set (i := 1) sc.nd rfl (Or.inl rfl) (pe_lst pa_nil))
(pss_cons (ps_for PassesOwn.never rfl (pi_range1 rfl m_range (pa_cons (pe_callB call_len_seq (by rfl) m_len bt_len (pa_cons (pv 0) pa_nil)) pa_nil)) (pg_name (i := 2) sc.nd rfl (Or.inr rfl))
(pss_cons (ps_set (i := 3) sc.nd rfl (Or.inl rfl) (pe_call c_way_up.ok (hr.mono (by decide)) (by rfl) c_way_up.g c_way_up.kp c_way_up.b .nil pass0 (pa_cons (pv 0) (pa_cons (pv 2) pa_nil))))
(pss_cons (ps_if (pt_cmpR op_isN (pv 3) pe_non (nomark _)) (pss_cons (ps_ret pe_non) pss_nil) pss_nil)
(pss_cons (ps_expr (pe_bm PySem.F.plainAttrs_list PySem.F.slot_list_append PySem.F.type_list_append mt_append (pv 1) (pa_cons (pe_callB call_len_seq (by rfl) m_len bt_len (pa_cons (pe_lc (own := [("other", 4)]) (g := (gName 4)) rfl sc.nd (pi_list (pv 3)) (blkOk_by (own := [("other", 4)]) (N := ["tree", "numbers", "place", "way", "other"]) (sc := defScope s_flat_numbers) (by decide +kernel)) (fun _ _ _ _ _ => pg_name (i := 4) sc.nd rfl (Or.inl rfl)) (fun _ _ _ _ _ => pts_one (pt_cmpR op_gt (pv 4) (pv 2) (nomark _))) (fun _ _ _ _ _ => (pv 4))) pa_nil)) pa_nil)))
pss_nil))))
(pss_cons (ps_ret (pv 1)) pss_nil)))
def sp_tree_of : Sp := spF (aCons (rSeq rInt) aNil) (fun (a : (List Int) × Unit) => (a.1.length ≤ 100000)) (rTup rInt) (fun (a : (List Int) × Unit) b => b = TM.treeOf a.1) (fun _ _ => False)
theorem call_tree_of {C : Cn} {Γ : List Ent} {E : XK} {t1 : TE} {a1 : (List Int)} (h1 : Ev C t1 Γ .h (rSeq rInt) a1) (hp0 : a1.length ≤ 100000) : EvX C (tCall (sp_tree_of) [] E (tCons t1 tNil)) Γ (ResF C (rTup rInt) (fun b => b = TM.treeOf a1)) := ed_call1 h1 hp0 exc0 (fun _ z => z)
theorem callx_tree_of {C : Cn} {Γ : List Ent} {E : XK} {t1 : TE} {P1 : (List Int) → Prop} (h1 : EvP C t1 Γ .h (rSeq rInt) P1) (hp0 : ∀ a1, P1 a1 → (a1.length ≤ 100000)) : EvX C (tCall (sp_tree_of) [] E (tCons t1 tNil)) Γ (ResF C (rTup rInt) (fun b => ∃ a1, P1 a1 ∧ (b = TM.treeOf a1))) := ex_call1 h1 (fun a1 _p1 => hp0 a1 _p1) exc0 (fun a1 _p1 => fun _ z => z)
def t_tree_of (K : PySem.W.Frag) (E : XK) : TS :=
(tSeq (tAsg (tLc (iEith K (tVar 0)) (gName 4) tYes (tUn (rU fun i => .int (-i)) (tC (.int 1))) [4]) (gName 1))
(tSeq (tAsg (tLst tNil) (gName 2))
(tSeq (tFor (iEnumE K (tCons (tVar 0) tNil)) (gTup K 2 (gCons (gName 3) (gCons (gName 4) gNil)))
(tSeq (tAsg (tC .non) (gName 5))
(tSeq (tWhile (tAnd (tTest (tOp (rNeD K) (tVar 2) (tLst tNil))) (tTest (tOp (rI0 fun i j => .bl (decide (j < i))) (tOp (rIxK K .e) (tVar 0) (tOp (rIxK K .l) (tVar 2) (tUn (rU fun i => .int (-i)) (tC (.int 1))))) (tVar 4))))
(tSeq (tAsg (tBM0 K "list" rPop (tVar 2)) (gName 5))
tNext))
(tCut (tIfS (tTest (tOp (fun x y H Q => y = .non ∧ Q (.bl (!decide (x = .non))) H) (tVar 5) (tC .non))) (tSeq (tAsg (tVar 3) (gSub (tVar 1) (tVar 5) rSetL))
tNext) tNext)
(tCut (tIfS (tTest (tOp (rNeD K) (tVar 2) (tLst tNil))) (tSeq (tAsg (tOp (rIxK K .l) (tVar 2) (tUn (rU fun i => .int (-i)) (tC (.int 1)))) (gSub (tVar 1) (tVar 3) rSetL))
tNext) tNext)
(tSeq (tDrop (tBM K "list" rAppend (tVar 2) (tCons (tVar 3) tNil)))
tNext))))))
(tSeq (tRet (tCB (rTupOf K) (tCons (tVar 1) tNil))) tNext))))
theorem go_tree_of {K : PySem.W.Frag} {C : Cn} {D : Ends} {E : XK} (row_ : (List Int)) (hp0 : row_.length ≤ 100000) (hR : RetOk C D (rTup rInt) (fun b => b = TM.treeOf row_)) :
    Go C (t_tree_of K E) D [.val .m (rSeq rInt) row_, .no, .no, .no, .no, .no] := by
  unfold t_tree_of
  refine q_asgN (i := 1) (ℓ := .g) (en_mapd (ℓ' := .g) (fun c1 : Int => (-(1 : Int))) (ei_eith (b := false) (hc := (by intro h; exact absurd h (by decide))) (ev_var (R := (rSeq rInt)) (a := row_) rfl)) (by omega) (fun c1 hc2 => (ev_neg (ev_int)))) (fun p5 elders4 helders4 => ?_)
  refine q_asgN (i := 2) (ℓ := .g) (en_lstd (ℓ := .g) (R := rInt) em_nil) (fun p7 still_open6 hstill_open6 => ?_)
  subst hstill_open6
  refine q_forD2 (i := 3) (j := 4) (σS := (List Int) × (List Int)) (fun s => [.val .m (rSeq rInt) row_, .own p5 .g rInt s.2, .own p7 .g rInt s.1, .no, .no, .no]) (fun (i : Nat) (s : (List Int) × (List Int)) => (s.2 = TM.treeB row_ i) ∧ (s.1 = (TM.opens row_ i).map fun (q : Nat) => (q : Int))) (([] : List Int), elders4) (ei_enumEd (b := true) (hc := (by intro _; decide)) (ev_var (R := (rSeq rInt)) (a := row_) rfl)) (by
        show (elders4 = TM.treeB row_ 0) ∧ (([] : List Int) = (TM.opens row_ 0).map fun (q : Nat) => (q : Int))
        refine ⟨?_, rfl⟩
        rw [helders4, TM.treeB_0]; exact List.map_const' ..) (LeG.k (LeG.k (LeG.k (LeG.f (LeG.f (LeG.f LeG.nil)))))) (fun C1 hc1 i1 x8 s hx8 hI0 => ?_) (fun s hI0 => ?_)
  · obtain ⟨still_open9, elders10⟩ := s
    replace hI0 : (elders10 = TM.treeB row_ i1) ∧ (still_open9 = (TM.opens row_ i1).map fun (q : Nat) => (q : Int)) := hI0
    obtain ⟨hI0_0, hI0_1⟩ := hI0
    have hR := hR.ex hc1
    have hx8l := at_lt hx8
    have hx8r := enu_at hx8
    rw [enu_len] at hx8l
    refine q_asg (i := 5) (ℓ := .g) ((ev_non (R := rInt))) (fun gone11 hgone11 => ?_)
    replace hgone11 : gone11 = none := hgone11
    refine q_while (S := (Option Int) × (List Int)) (fun s => [.val .m (rSeq rInt) row_, .own p5 .g rInt elders10, .own p7 .g rInt s.2, .val .m rInt x8.1, .val .m rInt x8.2, .val .g (rOpt rInt) s.1]) (fun (s : (Option Int) × (List Int)) => (s.2.length ≤ still_open9.length) ∧ (s.2 = still_open9.take s.2.length) ∧ (∀ j, s.2.length ≤ j → ∀ q, still_open9[j]? = some q → x8.2 < gt row_ q) ∧ (s.1 = still_open9[s.2.length]?)) (fun (s : (Option Int) × (List Int)) => s.2.length) (fun (s : (Option Int) × (List Int)) => ((¬ s.2 = ([] : List Int)) ∧ (x8.2 < (gt row_ (gtB s.2 1))))) (gone11, still_open9) (by
          show (still_open9.length ≤ still_open9.length) ∧ (still_open9 = still_open9.take still_open9.length) ∧ (∀ j, still_open9.length ≤ j → ∀ q, still_open9[j]? = some q → x8.2 < gt row_ q) ∧ (gone11 = still_open9[still_open9.length]?)
          refine ⟨Nat.le_refl _, (List.take_length ..).symm, ?_, ?_⟩
          · intro j hj q hq; have := at_lt hq; omega
          · rw [hgone11]; simp) (LeG.k (LeG.k (LeG.k (LeG.k (LeG.k (LeG.k LeG.nil)))))) (fun s hI1 => ?_) (fun s hI1 hw => ?_) (fun s hI1 hw => ?_)
    · obtain ⟨gone12, still_open13⟩ := s
      replace hI1 : (still_open13.length ≤ still_open9.length) ∧ (still_open13 = still_open9.take still_open13.length) ∧ (∀ j, still_open13.length ≤ j → ∀ q, still_open9[j]? = some q → x8.2 < gt row_ q) ∧ (gone12 = still_open9[still_open13.length]?) := hI1
      obtain ⟨hI1_0, hI1_1, hI1_2, hI1_3⟩ := hI1
      exact (ec_and (ec_tstN (ev_neD (eqr_list eqr_int) (Nat.le_of_ble_eq_true rfl) (ev_own (R := rInt) (l := still_open13) rfl) (((ev_new (ℓ := .g) (en_lstd (ℓ := .g) (R := rInt) em_nil))).toh))) (fun hb14 => (ec_tst (ev_gt (((ev_ix (es_seq (ev_var (R := (rSeq rInt)) (a := row_) rfl)) (((ev_ixB (n := 1) (es_own (R := rInt) (l := still_open13) rfl) (by exact ⟨by decide, List.length_pos_iff.mpr (by assumption)⟩))).toh) (by exact TM.tree_in hI0_1 (by omega) hI1_1 (by assumption)))).toh) (((ev_var (R := rInt) (a := x8.2) rfl)).toh)))))
    · obtain ⟨gone16, still_open17⟩ := s
      replace hI1 : (still_open17.length ≤ still_open9.length) ∧ (still_open17 = still_open9.take still_open17.length) ∧ (∀ j, still_open17.length ≤ j → ∀ q, still_open9[j]? = some q → x8.2 < gt row_ q) ∧ (gone16 = still_open9[still_open17.length]?) := hI1
      obtain ⟨hI1_0, hI1_1, hI1_2, hI1_3⟩ := hI1
      replace hw : ((¬ still_open17 = ([] : List Int)) ∧ (x8.2 < (gt row_ (gtB still_open17 1)))) := hw
      show Go _ _ _ [.val .m (rSeq rInt) row_, .own p5 .g rInt elders10, .own p7 .g rInt still_open17, .val .m rInt x8.1, .val .m rInt x8.2, .val .g (rOpt rInt) gone16]
      refine q_pop (i := 2) rfl (by exact hw.1) (by decide) ?_
      obtain ⟨gone18, hgone18⟩ : ∃ x, x = gtB still_open17 1 := ⟨_, rfl⟩
      rw [← hgone18]
      refine q_some (i := 5) (R := rInt) rfl nn_int ?_
      refine q_next (hol_in ((some gone18), (still_open17).dropLast) ?_ (LeG.k (LeG.k (LeG.k (LeG.k (LeG.k (LeG.k LeG.nil)))))))
      show (((still_open17).dropLast.length ≤ still_open9.length) ∧ ((still_open17).dropLast = still_open9.take (still_open17).dropLast.length) ∧ (∀ j, (still_open17).dropLast.length ≤ j → ∀ q, still_open9[j]? = some q → x8.2 < gt row_ q) ∧ ((some gone18) = still_open9[(still_open17).dropLast.length]?)) ∧ (still_open17).dropLast.length < still_open17.length
      exact TM.tree_pop hI1_0 hI1_1 hI1_2 hw.1 hw.2 (by assumption)
    obtain ⟨gone19, still_open20⟩ := s
    replace hI1 : (still_open20.length ≤ still_open9.length) ∧ (still_open20 = still_open9.take still_open20.length) ∧ (∀ j, still_open20.length ≤ j → ∀ q, still_open9[j]? = some q → x8.2 < gt row_ q) ∧ (gone19 = still_open9[still_open20.length]?) := hI1
    obtain ⟨hI1_0, hI1_1, hI1_2, hI1_3⟩ := hI1
    replace hw : ¬ ((¬ still_open20 = ([] : List Int)) ∧ (x8.2 < (gt row_ (gtB still_open20 1)))) := hw
    show Go _ _ _ [.val .m (rSeq rInt) row_, .own p5 .g rInt elders10, .own p7 .g rInt still_open20, .val .m rInt x8.1, .val .m rInt x8.2, .val .g (rOpt rInt) gone19]
    refine q_cut (S := (List Int)) (fun s => [.val .m (rSeq rInt) row_, .own p5 .g rInt s, .own p7 .g rInt still_open20, .val .m rInt x8.1, .val .m rInt x8.2, .val .g (rOpt rInt) gone19]) (fun s => (s = TM.setO elders10 gone19 x8.1)) (c_ifC (ec_notN (ev_var (R := (rOpt rInt)) (a := gone19) rfl)) (fun h21 => ?_) (fun h21 => ?_)) (fun s h21j => ?_)
    · obtain ⟨g22, hg22⟩ : ∃ x, gone19 = some x := some_of (by first | assumption | (intro z; simp_all))
      refine q_set (i := 1) (p := p5) rfl (((ev_var (R := rInt) (a := x8.1) rfl)).fl fl_int) (((ev_the (ev_var (R := (rOpt rInt)) (a := gone19) rfl) hg22)).toh) (fun n hn => by subst hn; exact (by exact TM.tree_set hI0_0 hI0_1 hI1_3 (by assumption) (by omega))) (fun e23 n24 he23 hn24 => ?_)
      replace he23 : e23 = x8.1 := he23
      replace hn24 : n24 = g22 := hn24
      rw [he23, hn24]
      refine q_next (hol_in ((elders10).set (g22).toNat x8.1) ?_ (LeG.k (LeG.k (LeG.k (LeG.k (LeG.k (LeG.k LeG.nil)))))))
      show (((elders10).set (g22).toNat x8.1) = TM.setO elders10 gone19 x8.1)
      first | (rw [show gone19 = some _ from by assumption]; rfl) | (rw [show gone19 = none from by first | assumption | exact Classical.not_not.mp (by assumption)]; rfl)
    · refine q_next (hol_in elders10 ?_ (LeG.k (LeG.k (LeG.k (LeG.k (LeG.k (LeG.k LeG.nil)))))))
      show (elders10 = TM.setO elders10 gone19 x8.1)
      first | (rw [show gone19 = some _ from by assumption]; rfl) | (rw [show gone19 = none from by first | assumption | exact Classical.not_not.mp (by assumption)]; rfl)
    revert s h21j; intro elders25 h21j
    replace h21j : (elders25 = TM.setO elders10 gone19 x8.1) := h21j
    refine q_cut (S := (List Int)) (fun s => [.val .m (rSeq rInt) row_, .own p5 .g rInt s, .own p7 .g rInt still_open20, .val .m rInt x8.1, .val .m rInt x8.2, .val .g (rOpt rInt) gone19]) (fun s => (still_open20 ≠ [] → s = elders25.set x8.1.toNat (gtB still_open20 1)) ∧ (still_open20 = [] → s = elders25)) (c_ifC (ec_tstN (ev_neD (eqr_list eqr_int) (Nat.le_of_ble_eq_true rfl) (ev_own (R := rInt) (l := still_open20) rfl) (((ev_new (ℓ := .g) (en_lstd (ℓ := .g) (R := rInt) em_nil))).toh))) (fun h26 => ?_) (fun h26 => ?_)) (fun s h26j => ?_)
    · refine q_set (i := 1) (p := p5) rfl ((ev_ixB (n := 1) (es_own (R := rInt) (l := still_open20) rfl) (by exact ⟨by decide, List.length_pos_iff.mpr (by assumption)⟩))) (((ev_var (R := rInt) (a := x8.1) rfl)).toh) (fun n hn => by subst hn; exact (by have := TM.tree_len hI0_0 h21j; omega)) (fun e27 n28 he27 hn28 => ?_)
      replace he27 : e27 = (gtB still_open20 1) := he27
      replace hn28 : n28 = x8.1 := hn28
      rw [he27, hn28]
      refine q_next (hol_in ((elders25).set (x8.1).toNat (gtB still_open20 1)) ?_ (LeG.k (LeG.k (LeG.k (LeG.k (LeG.k (LeG.k LeG.nil)))))))
      show (still_open20 ≠ [] → ((elders25).set (x8.1).toNat (gtB still_open20 1)) = elders25.set x8.1.toNat (gtB still_open20 1)) ∧ (still_open20 = [] → ((elders25).set (x8.1).toNat (gtB still_open20 1)) = elders25)
      first | exact ⟨fun _ => rfl, fun z => absurd z (by assumption)⟩ | exact ⟨fun z => absurd z (by assumption), fun _ => rfl⟩
    · refine q_next (hol_in elders25 ?_ (LeG.k (LeG.k (LeG.k (LeG.k (LeG.k (LeG.k LeG.nil)))))))
      show (still_open20 ≠ [] → elders25 = elders25.set x8.1.toNat (gtB still_open20 1)) ∧ (still_open20 = [] → elders25 = elders25)
      first | exact ⟨fun _ => rfl, fun z => absurd z (by assumption)⟩ | exact ⟨fun z => absurd z (by assumption), fun _ => rfl⟩
    revert s h26j; intro elders29 h26j
    replace h26j : (still_open20 ≠ [] → elders29 = elders25.set x8.1.toNat (gtB still_open20 1)) ∧ (still_open20 = [] → elders29 = elders25) := h26j
    obtain ⟨h26j0, h26j1⟩ := h26j
    refine q_app (i := 2) (p := p7) rfl (((ev_var (R := rInt) (a := x8.1) rfl)).fl fl_int) (by have := TM.tree_open hI1_0 hI0_1; omega) (fun e30 he30 => ?_)
    replace he30 : e30 = x8.1 := he30
    rw [he30]; clear he30 e30
    refine q_next (hol_in ((still_open20 ++ [x8.1]), elders29) ?_ (LeG.k (LeG.k (LeG.k (LeG.f (LeG.f (LeG.f LeG.nil)))))))
    show (elders29 = TM.treeB row_ (i1 + 1)) ∧ ((still_open20 ++ [x8.1]) = (TM.opens row_ (i1 + 1)).map fun (q : Nat) => (q : Int))
    exact TM.tree_turn hI0_0 hI0_1 hI1_0 hI1_1 hI1_2 hI1_3 hw h21j h26j0 h26j1 hx8
  obtain ⟨still_open31, elders32⟩ := s
  replace hI0 : (elders32 = TM.treeB row_ ((enu row_)).length) ∧ (still_open31 = (TM.opens row_ ((enu row_)).length).map fun (q : Nat) => (q : Int)) := hI0
  obtain ⟨hI0_0, hI0_1⟩ := hI0
  simp only [enu_len] at hI0_0 hI0_1
  show Go _ _ _ [.val .m (rSeq rInt) row_, .own p5 .g rInt elders32, .own p7 .g rInt still_open31, .no, .no, .no]
  refine q_ret ((ev_tupL (ℓ := .g) (es_own (R := rInt) (l := elders32) rfl))) hR (fun r33 hr33 => ?_)
  replace hr33 : r33 = elders32 := hr33
  show r33 = TM.treeOf row_
  rw [hr33]
  exact hI0_0.trans (TM.treeB_all _)
abbrev s_tree_of : Stmt := topS 6
theorem sc_tree_of : FnScope ["row", "elders", "still_open", "place", "number", "gone"] ["row"] (defScope s_tree_of) := ⟨rfl, rfl, rfl, by decide +kernel, rfl, by decide +kernel, by decide +kernel⟩
theorem ok_tree_of {P : Program} {w : PySem.World} {K : PySem.W.Frag} {mg : Str → Option Value} {base : Heap} {f : Addr} {fd : FuncData} (F : Fun K "tree_of" "tree_of" s_tree_of f fd) (m_enumerate : mg "enumerate" = none) (m_tuple : mg "tuple" = none) : FnOk P w K mg base CX0 1 f fd ["row"] sp_tree_of := by
  have sc := sc_tree_of
  refine F.ok sc (fun vs H Q E h => ?_) (fun cdv A outer s H vs Q E hr h => ?_)
  · obtain ⟨a_, ha_, _⟩ := h
    obtain ⟨v1, _, rfl, _ha1, rfl⟩ := ha_
    rfl
  · obtain ⟨⟨row_, _⟩, ⟨v1, _, rfl, ha1, rfl⟩, hp0, hR, hE⟩ := spF_open PIlaw (n := fun _ H' => Q .non H') h
    refine ⟨t_tree_of K E, ?_, go_tree_of (C := (Cn0 PIlaw H)) row_ hp0 hR _ (W0 H []) (world_of (bok0 (PI := PIlaw) H) ⟨⟨by decide, v1, rfl, (rSeq rInt).mono (mw0 (PI := PIlaw) H) ha1⟩, ⟨trivial, ⟨trivial, ⟨trivial, ⟨trivial, ⟨trivial, trivial⟩⟩⟩⟩⟩⟩ rfl)⟩
    unfold t_tree_of
    exact (pss_cons (ps_setLc (i := 1) (own := [("number", 4)]) (g := (gName 4)) rfl sc.nd rfl rfl (sw_true rfl rfl rfl (by decide +kernel)) (pi_eith (pv 0)) (blkOk_by (own := [("number", 4)]) (N := ["row", "elders", "still_open", "place", "number", "gone"]) (sc := defScope s_tree_of) (by decide +kernel)) (fun _ _ _ _ _ => pg_name (i := 4) sc.nd rfl (Or.inl rfl)) (fun _ _ _ _ _ => pts_nil) (fun _ _ _ _ _ => (pe_un un_neg pe_int)))
(pss_cons (ps_set (i := 2) sc.nd rfl (Or.inl rfl) (pe_lst pa_nil))
(pss_cons (ps_for PassesOwn.never rfl (pi_enumE (by rfl) m_enumerate (pa_cons (pv 0) pa_nil)) (pg_tup rfl (pgs_cons (pg_name (i := 3) sc.nd rfl (Or.inl rfl)) (pgs_cons (pg_name (i := 4) sc.nd rfl (Or.inl rfl)) pgs_nil)))
(pss_cons (ps_set (i := 5) sc.nd rfl (Or.inl rfl) pe_non)
(pss_cons (ps_while PassesOwn.never (PW.pt (pw_and (pt_cmpR (op_neD (roomUn hr)) (pv 2) (pe_lst pa_nil) (nomark _)) (pw_and1 (pt_cmpR op_gt (pe_ix ix_seq (pv 0) (pe_ix ix_list (pv 2) (pe_un un_neg pe_int) (fun _ _ => rfl)) (fun _ _ => rfl)) (pv 4) (nomark _)))))
(pss_cons (ps_set (i := 5) sc.nd rfl (.inl rfl) (pe_bm0 PySem.F.plainAttrs_list PySem.F.slot_list_pop PySem.F.type_list_pop mt_pop (pv 2)))
pss_nil))
(pss_cut (ps_if (pt_cmpR op_notN (pv 5) pe_non (nomark _)) (pss_cons (ps_asg (pv 3) (pg_sub (pv 1) (pv 5) set_list))
pss_nil) pss_nil)
(pss_cut (ps_if (pt_cmpR (op_neD (roomUn hr)) (pv 2) (pe_lst pa_nil) (nomark _)) (pss_cons (ps_asg (pe_ix ix_list (pv 2) (pe_un un_neg pe_int) (fun _ _ => rfl)) (pg_sub (pv 1) (pv 3) set_list))
pss_nil) pss_nil)
(pss_cons (ps_expr (pe_bm PySem.F.plainAttrs_list PySem.F.slot_list_append PySem.F.type_list_append mt_append (pv 2) (pa_cons (pv 3) pa_nil)))
pss_nil))))))
(pss_cons (ps_ret (pe_callTy call_tuple_of (by rfl) m_tuple bt_tuple (pa_cons (pv 1) pa_nil))) pss_nil))))
def sp_is_tree : Sp := spF (aCons (rTup rInt) aNil) (fun (a : (List Int) × Unit) => (a.1.length ≤ 100000)) rBool (fun (a : (List Int) × Unit) b => b = TM.isTree a.1) (fun _ _ => False)
theorem call_is_tree {C : Cn} {Γ : List Ent} {E : XK} {t1 : TE} {a1 : (List Int)} (h1 : Ev C t1 Γ .h (rTup rInt) a1) (hp0 : a1.length ≤ 100000) : EvX C (tCall (sp_is_tree) [] E (tCons t1 tNil)) Γ (ResF C rBool (fun b => b = TM.isTree a1)) := ed_call1 h1 hp0 exc0 (fun _ z => z)
theorem callx_is_tree {C : Cn} {Γ : List Ent} {E : XK} {t1 : TE} {P1 : (List Int) → Prop} (h1 : EvP C t1 Γ .h (rTup rInt) P1) (hp0 : ∀ a1, P1 a1 → (a1.length ≤ 100000)) : EvX C (tCall (sp_is_tree) [] E (tCons t1 tNil)) Γ (ResF C rBool (fun b => ∃ a1, P1 a1 ∧ (b = TM.isTree a1))) := ex_call1 h1 (fun a1 _p1 => hp0 a1 _p1) exc0 (fun a1 _p1 => fun _ z => z)
def t_is_tree (K : PySem.W.Frag) (E : XK) : TS :=
(tSeq (tIfS (tTest (tOp (rI0 fun i j => .bl (decide (j < i))) (tCB (rLenS K) (tCons (tVar 0) tNil)) (tC (.int 40)))) (tSeq (tRet (tC (.bl false))) tNext) tNext)
(tSeq (tAsg (tCall sp_flat_numbers [] E0 (tCons (tVar 0) tNil)) (gName 1))
(tSeq (tRet (tAndV (tOp (fun x y H Q => y = .non ∧ Q (.bl (!decide (x = .non))) H) (tVar 1) (tC .non)) (tOp (rEqD K) (tCall sp_tree_of [] E0 (tCons (tVar 1) tNil)) (tVar 0)))) tNext)))
theorem go_is_tree {K : PySem.W.Frag} {C : Cn} {D : Ends} {E : XK} (tree_ : (List Int)) (hp0 : tree_.length ≤ 100000) (hR : RetOk C D rBool (fun b => b = TM.isTree tree_)) :
    Go C (t_is_tree K E) D [.val .m (rTup rInt) tree_, .no] := by
  unfold t_is_tree
  refine q_ifT (ec_tst (ev_gt ((ev_len (es_tup (ev_var (R := (rTup rInt)) (a := tree_) rfl)))) (ev_int))) (fun h1 => ?_) (fun h1 => ?_)
  · refine q_ret (ev_bl) hR (fun r2 hr2 => ?_)
    replace hr2 : r2 = false := hr2
    show r2 = TM.isTree tree_
    rw [hr2]
    exact (TM.isTree_big (by assumption)).symm
  refine q_asg (i := 1) (ℓ := .g) ((ev_call (call_flat_numbers (((ev_seqT (ev_var (R := (rTup rInt)) (a := tree_) rfl))).toh) (by first | omega | assumption | (simp; done) | (constructor <;> omega) | (simp; omega))))) (fun numbers3 hnumbers3 => ?_)
  replace hnumbers3 : numbers3 = (TM.flatN tree_) := hnumbers3
  refine q_ret ((ev_andV ((ev_notN (ev_var (R := (rOpt (rList rInt))) (a := numbers3) rfl))) (fun hb4 => have hb4p : (¬ numbers3 = none) := (by first | (intro z; rw [z] at hb4; cases hb4; done) | simpa using hb4); ((ev_eqD (eqr_tup eqr_int) (Nat.le_of_ble_eq_true rfl) (((ev_call (call_tree_of (((ev_seqL (ev_the (ev_var (R := (rOpt (rList rInt))) (a := numbers3) rfl) (oget_some hb4p)))).toh) (by rw [TM.flatN_len (hnumbers3.symm.trans (oget_some (by assumption)))]; omega)))).toh) (((ev_var (R := (rTup rInt)) (a := tree_) rfl)).toh)))))) hR (fun r6 hr6 => ?_)
  replace hr6 : r6 = ((numbers3).isSome && (decide ((TM.treeOf (oget numbers3)) = tree_))) := hr6
  show r6 = TM.isTree tree_
  rw [hr6]
  rw [hnumbers3]; exact TM.isTree_end (by omega)
abbrev s_is_tree : Stmt := topS 9
theorem sc_is_tree : FnScope ["tree", "numbers"] ["tree"] (defScope s_is_tree) := ⟨rfl, rfl, rfl, by decide +kernel, rfl, by decide +kernel, by decide +kernel⟩
theorem ok_is_tree {P : Program} {w : PySem.World} {K : PySem.W.Frag} {mg : Str → Option Value} {base : Heap} {f : Addr} {fd : FuncData} (F : Fun K "is_tree" "is_tree" s_is_tree f fd) {f_flat_numbers : Addr} {d_flat_numbers : FuncData} (c_flat_numbers : Cal P w K mg base CX0 2 "flat_numbers" ["tree"] sp_flat_numbers f_flat_numbers d_flat_numbers) {f_tree_of : Addr} {d_tree_of : FuncData} (c_tree_of : Cal P w K mg base CX0 1 "tree_of" ["row"] sp_tree_of f_tree_of d_tree_of) (m_len : mg "len" = none) {u_MOST_PLACES : Tok} (c_MOST_PLACES : mg "MOST_PLACES" = some (.int 40 u_MOST_PLACES)) : FnOk P w K mg base CX0 3 f fd ["tree"] sp_is_tree := by
  have sc := sc_is_tree
  refine F.ok sc (fun vs H Q E h => ?_) (fun cdv A outer s H vs Q E hr h => ?_)
  · obtain ⟨a_, ha_, _⟩ := h
    obtain ⟨v1, _, rfl, _ha1, rfl⟩ := ha_
    rfl
  · obtain ⟨⟨tree_, _⟩, ⟨v1, _, rfl, ha1, rfl⟩, hp0, hR, hE⟩ := spF_open PIlaw (n := fun _ H' => Q .non H') h
    refine ⟨t_is_tree K E, ?_, go_is_tree (C := (Cn0 PIlaw H)) tree_ hp0 hR _ (W0 H []) (world_of (bok0 (PI := PIlaw) H) ⟨⟨by decide, v1, rfl, (rTup rInt).mono (mw0 (PI := PIlaw) H) ha1⟩, ⟨trivial, trivial⟩⟩ rfl)⟩
    unfold t_is_tree
    exact (pss_cons (ps_if (pt_cmpR op_gt (pe_callB call_len_seq (by rfl) m_len bt_len (pa_cons (pv 0) pa_nil)) (pe_glob rfl c_MOST_PLACES ⟨_, rfl⟩) (nomark _)) (pss_cons (ps_ret pe_bl) pss_nil) pss_nil)
(pss_cons (ps_set (i := 1) sc.nd rfl (Or.inl rfl) (pe_call c_flat_numbers.ok (hr.mono (by decide)) (by rfl) c_flat_numbers.g c_flat_numbers.kp c_flat_numbers.b .nil pass0 (pa_cons (pv 0) pa_nil)))
(pss_cons (ps_ret (pe_and (pe_cmpR op_notN (pv 1) pe_non (nomark _)) (pe_one (pe_cmpR (op_eqD (roomUn hr)) (pe_call c_tree_of.ok (hr.mono (by decide)) (by rfl) c_tree_of.g c_tree_of.kp c_tree_of.b .nil pass0 (pa_cons (pv 1) pa_nil)) (pv 0) (nomark _))))) pss_nil)))
def sp_law_counted : Sp := spF (aCons rInt aNil) (fun (a : Int × Unit) => (0 ≤ a.1 ∧ a.1 ≤ 5)) rBool (fun (a : Int × Unit) b => b = true) (fun _ _ => False)
theorem call_law_counted {C : Cn} {Γ : List Ent} {E : XK} {t1 : TE} {a1 : Int} (h1 : Ev C t1 Γ .h rInt a1) (hp0 : 0 ≤ a1 ∧ a1 ≤ 5) : EvX C (tCall (sp_law_counted) [] E (tCons t1 tNil)) Γ (ResF C rBool (fun b => b = true)) := ed_call1 h1 hp0 exc0 (fun _ z => z)
theorem callx_law_counted {C : Cn} {Γ : List Ent} {E : XK} {t1 : TE} {P1 : Int → Prop} (h1 : EvP C t1 Γ .h rInt P1) (hp0 : ∀ a1, P1 a1 → (0 ≤ a1 ∧ a1 ≤ 5)) : EvX C (tCall (sp_law_counted) [] E (tCons t1 tNil)) Γ (ResF C rBool (fun b => ∃ a1, P1 a1 ∧ (b = true))) := ex_call1 h1 (fun a1 _p1 => hp0 a1 _p1) exc0 (fun a1 _p1 => fun _ z => z)
def t_law_counted (K : PySem.W.Frag) (E : XK) : TS :=
(tSeq (tAsg (tLc (iRng1 (tCons (tCall sp_law_power [] E0 (tCons (tC (.int 5)) (tCons (tVar 0) tNil))) tNil)) (gName 7) tYes (tCall sp_law_digits [] E0 (tCons (tVar 7) (tCons (tC (.int 5)) (tCons (tVar 0) tNil)))) [7]) (gName 1))
(tSeq (tAsg (tLc (iRng1 (tCons (tOp rShl1 (tC (.int 1)) (tOp (rI CMul fun i j => .int (i * j)) (tC (.int 2)) (tVar 0))) tNil)) (gName 7) tYes (tM1 (rJoin K) (tC (.str "")) (tLc (iRng1 (tCons (tOp (rI CMul fun i j => .int (i * j)) (tC (.int 2)) (tVar 0)) tNil)) (gName 11) tYes (tOp GL.rIxS (tC (.str "()")) (tOp rAndM (tOp (rI (fun _ j => 0 ≤ j) fun i j => .int (i / 2 ^ j.toNat)) (tVar 7) (tVar 11)) (tC (.int 1)))) [11])) [7]) (gName 2))
(tSeq (tAsg (tCall sp_law_many [] E0 (tCons (tVar 0) tNil)) (gName 3))
(tSeq (tFor (iRng1 (tCons (tC (.int 3)) tNil)) (gName 4)
(tSeq (tAsg (tLc (iList K (tOp (rIxK K .t) (tTup (tCons (tVar 1) (tCons (tVar 1) (tCons (tVar 2) tNil)))) (tVar 4))) (gName 9) tYes (tCall sp_law_led [] E0 (tCons (tVar 4) (tCons (tVar 9) tNil))) [9]) (gName 5))
(tSeq (tAsg (tLc (iList K (tVar 5)) (gName 10) (tTest (tOp (fun x y H Q => y = .non ∧ Q (.bl (!decide (x = .non))) H) (tVar 10) (tC .non))) (tVar 10) [10]) (gName 5))
(tSeq (tIfS (tOr (tTest (tOp rNe (tCB (rLenS K) (tCons (tVar 5) tNil)) (tVar 3))) (tOr (tTest (tOp rNe (tLenSetT K (tVar 5)) (tVar 3))) (tNot (tB (tCB (rAll K) (tCons (tLc (iList K (tVar 5)) (gName 10) tYes (tCall sp_is_tree [] E0 (tCons (tVar 10) tNil)) [10]) tNil)))))) (tSeq (tRet (tC (.bl false))) tNext) tNext)
tNext))))
(tSeq (tIfS (tTest (tOp rEq (tVar 0) (tC (.int 5)))) (tSeq (tRet (tC (.bl true))) tNext) tNext)
(tSeq (tAsg (tLc (iList K (tVar 1)) (gName 8) tYes (tCB (rTupOf K) (tCons (tLc (iTup K (tVar 8)) (gName 12) tYes (tOp (rI0 fun i j => .int (i - j)) (tVar 12) (tC (.int 1))) [12]) tNil)) [8]) (gName 6))
(tSeq (tRet (tOp rEq (tCB (rLenS K) (tCons (tLc (iList K (tVar 6)) (gName 9) (tB (tCall sp_is_tree [] E0 (tCons (tVar 9) tNil))) (tVar 9) [9]) tNil)) (tVar 3))) tNext)))))))
theorem go_law_counted {K : PySem.W.Frag} {C : Cn} {D : Ends} {E : XK} (many_ : Int) (hp0 : 0 ≤ many_ ∧ many_ ≤ 5) (hR : RetOk C D rBool (fun b => b = true)) :
    Go C (t_law_counted K E) D [.val .m rInt many_, .no, .no, .no, .no, .no, .no, .no, .no, .no, .no, .no, .no] := by
  unfold t_law_counted
  have hm6_ : many_ = 0 ∨ many_ = 1 ∨ many_ = 2 ∨ many_ = 3 ∨ many_ = 4 ∨ many_ = 5 := by omega
  have h5_ : 1 ≤ (5 : Int) ^ (many_).toNat ∧ (5 : Int) ^ (many_).toNat ≤ 3125 := by rcases hm6_ with z | z | z | z | z | z <;> rw [z] <;> decide
  have h2_ : 1 ≤ (2 : Int) ^ (2 * many_).toNat ∧ (2 : Int) ^ (2 * many_).toNat ≤ 1024 := by rcases hm6_ with z | z | z | z | z | z <;> rw [z] <;> decide
  have hct_ := TM.cat_le (m := many_) (by omega)
  refine q_asg (i := 1) (ℓ := .g) ((ev_new (ℓ := .g) (en_mapd (ℓ' := .g) (fun c1 : Int => (TM.dig14 c1 many_)) (ei_rg1d (b := false) (ℓ := .g) (((ev_call (call_law_power (ev_int) (((ev_var (R := rInt) (a := many_) rfl)).toh) (by first | omega | assumption | (simp; done) | (constructor <;> omega) | (simp; omega)) (by first | omega | assumption | (simp; done) | (constructor <;> omega) | (simp; omega))))).toh) (by omega)) (by first | omega | (rw [rg_len]; omega) | (rw [hlt_]; omega) | (have hz_ := (by assumption : _ ∈ h_none); rw [h_none] at hz_; obtain ⟨x, hx, rfl⟩ := List.mem_map.mp hz_; unfold TM.dig14; rw [TM.digN_len]; omega)) (fun c1 hc2 => by
          have hc2_ := rg_mem.mp hc2
          exact (ev_call (call_law_digits (((ev_var (R := rInt) (a := c1) rfl)).toh) (ev_int) (((ev_var (R := rInt) (a := many_) rfl)).toh) (by first | omega | assumption | (simp; done) | (constructor <;> omega) | (simp; omega)) (by first | omega | assumption | (simp; done) | (constructor <;> omega) | (simp; omega)))))))) (fun codes4 hcodes4 => ?_)
  replace hcodes4 : codes4 = ((rg 0 (5 ^ many_.toNat)).map (fun c1 : Int => (TM.dig14 c1 many_))) := hcodes4
  refine q_asg (i := 2) (ℓ := .g) ((ev_new (ℓ := .g) (en_mapd (ℓ' := .g) (fun c5 : Int => (Str.join ("" : Str) ((rg 0 ((2 : Int) * many_)).map (fun c8 : Int => (sg (gt (tl ("()" : Str)) ((c5 / 2 ^ (c8).toNat) % 2 ^ 1))))))) (ei_rg1d (b := false) (ℓ := .g) ((ev_shl1 (ev_int) ((ev_mul (ev_int) (((ev_var (R := rInt) (a := many_) rfl)).toh) (.inl (by decide)))) (by first | omega | assumption | (simp; done) | (constructor <;> omega) | (simp; omega)))) (by omega)) (by first | omega | (rw [rg_len]; omega) | (rw [hlt_]; omega) | (have hz_ := (by assumption : _ ∈ codes4); rw [hcodes4] at hz_; obtain ⟨x, hx, rfl⟩ := List.mem_map.mp hz_; unfold TM.dig14; rw [TM.digN_len]; omega)) (fun c5 hc6 => by
          have hc6_ := rg_mem.mp hc6
          exact (ev_join (ev_str) (EvS.fl fl_str (es_list (ev_new (ℓ := .g) (en_mapd (ℓ' := .g) (fun c8 : Int => (sg (gt (tl ("()" : Str)) ((c5 / 2 ^ (c8).toNat) % 2 ^ 1)))) (ei_rg1d (b := false) (ℓ := .g) ((ev_mul (ev_int) (((ev_var (R := rInt) (a := many_) rfl)).toh) (.inl (by decide)))) (by omega)) (by first | omega | (rw [rg_len]; omega) | (rw [hlt_]; omega) | (have hz_ := (by assumption : _ ∈ codes4); rw [hcodes4] at hz_; obtain ⟨x, hx, rfl⟩ := List.mem_map.mp hz_; unfold TM.dig14; rw [TM.digN_len]; omega)) (fun c8 hc9 => by
                    have hc9_ := rg_mem.mp hc9
                    exact (ev_ixS (ev_str) ((ev_andM (k := 1) ((ev_shr (((ev_var (R := rInt) (a := c5) rfl)).toh) (((ev_var (R := rInt) (a := c8) rfl)).toh) (by first | omega | assumption | (simp; done) | (constructor <;> omega) | (simp; omega)))) (ev_int))) (by exact ⟨⟨by omega, by show _ < (2 : Int); omega⟩, by decide⟩))))))) (by rw [TM.one_sum (fun y hy => by obtain ⟨k, _, rfl⟩ := List.mem_map.mp hy; rfl), TM.em_len, List.length_map, rg_len]; omega)))))) (fun texts11 htexts11 => ?_)
  replace htexts11 : texts11 = ((rg 0 ((2 : Int) ^ (((2 : Int) * many_)).toNat)).map (fun c5 : Int => (Str.join ("" : Str) ((rg 0 ((2 : Int) * many_)).map (fun c8 : Int => (sg (gt (tl ("()" : Str)) ((c5 / 2 ^ (c8).toNat) % 2 ^ 1)))))))) := htexts11
  have hcl_ : (codes4).length ≤ 3125 := by rw [hcodes4, List.length_map, rg_len]; omega
  have hxl_ : (texts11).length ≤ 1024 := by rw [htexts11, List.length_map, rg_len]; omega
  refine q_asg (i := 3) (ℓ := .g) ((ev_call (call_law_many (((ev_var (R := rInt) (a := many_) rfl)).toh) (by first | omega | assumption | (simp; done) | (constructor <;> omega) | (simp; omega))))) (fun due12 hdue12 => ?_)
  replace hdue12 : due12 = (TM.cat14 many_) := hdue12
  refine q_forD (j := 4) (σS := Unit) (fun s => [.val .m rInt many_, .val .g (rList (rTup rInt)) codes4, .val .g (rList rStr) texts11, .val .g rInt due12, .no, .no, .no, .no, .no, .no, .no, .no, .no]) (fun (i : Nat) (s : Unit) => True) () (ei_rg1d (b := true) (ℓ := .g) (ev_int) (by omega)) trivial (LeG.k (LeG.k (LeG.k (LeG.k (LeG.f (LeG.f (LeG.f (LeG.f (LeG.f (LeG.f (LeG.f (LeG.f (LeG.f LeG.nil))))))))))))) (fun C1 hc1 i1 x13 s hx13 hI0 => ?_) (fun s hI0 => ?_)
  · have hR := hR.ex hc1
    have hx13l := at_lt hx13
    have hx13r := rg_at hx13
    rw [rg_len] at hx13l
    have hway_ : 0 ≤ x13 ∧ x13 < 3 := by omega
    obtain ⟨hnd_, hcn_, htr_⟩ := TM.cnt14 (m := many_) (way := x13) (by omega) hway_
    have hll_ := TM.cnt_len (m := many_) (way := x13) (by omega) hway_
    have hls_ := TM.cnt_list (m := many_) (way := x13) (by omega) hway_
    have hlt_ : gt [(codes4).map Sum.inl, (codes4).map Sum.inl, (texts11).map Sum.inr] x13 = TM.lst14 many_ x13 := by rw [hcodes4, htexts11]; rfl
    refine q_asg (i := 5) (ℓ := .g) ((ev_new (ℓ := .g) (en_mapd (ℓ' := .g) (fun c14 : (Sum (List Int) Str) => (TM.led14 x13 c14)) (ei_list (b := false) (hc := (by intro h; exact absurd h (by decide))) (hl := (by intro h; exact absurd h (by decide))) (es_list (ev_ix (es_tup (ev_tup (ℓ := .g) (em_cons ((ev_up1 (ev_var (R := (rList (rTup rInt))) (a := codes4) rfl))) (em_cons ((ev_up1 (ev_var (R := (rList (rTup rInt))) (a := codes4) rfl))) (em_cons ((ev_up2 (ev_var (R := (rList rStr)) (a := texts11) rfl))) (em_nil (R := (rList (rAlt (rTup rInt) rStr))))))) (fun _ e => by rw [e]; exact Nat.le_of_ble_eq_true rfl))) (((ev_var (R := rInt) (a := x13) rfl)).toh) (by simp only [List.length_cons, List.length_nil]; omega)))) (by first | omega | (rw [rg_len]; omega) | (rw [hlt_]; omega) | (have hz_ := (by assumption : _ ∈ codes4); rw [hcodes4] at hz_; obtain ⟨x, hx, rfl⟩ := List.mem_map.mp hz_; unfold TM.dig14; rw [TM.digN_len]; omega)) (fun c14 hc15 => (ev_call (call_law_led (((ev_var (R := rInt) (a := x13) rfl)).toh) (((ev_var (R := (rAlt (rTup rInt) rStr)) (a := c14) rfl)).toh) (by exact hls_ _ (by rw [← hlt_]; assumption)))))))) (fun trees17 htrees17 => ?_)
    replace htrees17 : trees17 = ((gt [((codes4).map Sum.inl), ((codes4).map Sum.inl), ((texts11).map Sum.inr)] x13).map (fun c14 : (Sum (List Int) Str) => (TM.led14 x13 c14))) := htrees17
    have htt_ : (trees17).length ≤ 3125 := by rw [htrees17, List.length_map, hlt_]; exact hll_
    have htq_ := htrees17
    rw [hlt_] at htq_
    refine q_asg (i := 5) (ℓ := .g) ((ev_new (ℓ := .g) (en_filtd (ℓ' := .g) (fun c18 : (Option (List Int)) => (¬ c18 = none)) (fun c18 : (Option (List Int)) => (oget c18)) (ei_list (b := false) (hc := (by intro h; exact absurd h (by decide))) (hl := (by intro h; exact absurd h (by decide))) (es_list (ev_var (R := (rList (rOpt (rTup rInt)))) (a := trees17) rfl))) (by first | omega | (rw [rg_len]; omega) | (rw [hlt_]; omega) | (have hz_ := (by assumption : _ ∈ codes4); rw [hcodes4] at hz_; obtain ⟨x, hx, rfl⟩ := List.mem_map.mp hz_; unfold TM.dig14; rw [TM.digN_len]; omega)) (fun c18 hc19 => (ec_notN (ev_var (R := (rOpt (rTup rInt))) (a := c18) rfl))) (fun c18 hc19 hp20 => (ev_the (ev_var (R := (rOpt (rTup rInt))) (a := c18) rfl) (oget_some hp20)))))) (fun trees21 htrees21 => ?_)
    replace htrees21 : trees21 = ((trees17.filter (fun c18 : (Option (List Int)) => decide (¬ c18 = none))).map (fun c18 : (Option (List Int)) => (oget c18))) := htrees21
    have htf_ : trees21 = ((TM.lst14 many_ x13).map (TM.led14 x13)).filterMap id := by rw [htrees21, htq_]; exact TM.filt_some _
    rw [← htf_] at hnd_ hcn_ htr_
    rw [← hdue12] at hcn_ hct_
    refine q_ifT (ec_or (ec_tstN (ev_neI ((ev_len (es_list (ev_var (R := (rList (rTup rInt))) (a := trees21) rfl)))) (((ev_var (R := rInt) (a := due12) rfl)).toh))) (fun hb22 => (ec_or (ec_tstN (ev_neI ((ev_lenSetT (es_list (ev_var (R := (rList (rTup rInt))) (a := trees21) rfl)) (by first | omega | (rw [rg_len]; omega) | (rw [hlt_]; omega) | (have hz_ := (by assumption : _ ∈ codes4); rw [hcodes4] at hz_; obtain ⟨x, hx, rfl⟩ := List.mem_map.mp hz_; unfold TM.dig14; rw [TM.digN_len]; omega)))) (((ev_var (R := rInt) (a := due12) rfl)).toh))) (fun hb23 => (ec_not (ec_valB ((ev_all (EvS.fl fl_bool (es_list (ev_new (ℓ := .g) (en_mapd (ℓ' := .g) (fun c24 : (List Int) => (TM.isTree c24)) (ei_list (b := false) (hc := (by intro h; exact absurd h (by decide))) (hl := (by intro h; exact absurd h (by decide))) (es_list (ev_var (R := (rList (rTup rInt))) (a := trees21) rfl))) (by first | omega | (rw [rg_len]; omega) | (rw [hlt_]; omega) | (have hz_ := (by assumption : _ ∈ codes4); rw [hcodes4] at hz_; obtain ⟨x, hx, rfl⟩ := List.mem_map.mp hz_; unfold TM.dig14; rw [TM.digN_len]; omega)) (fun c24 hc25 => (ev_call (call_is_tree (((ev_var (R := (rTup rInt)) (a := c24) rfl)).toh) (by first | (have hz_ := (TM.isTree_iff.mp (htr_ _ (by assumption))).1; omega) | (have hz_ := (by assumption : _ ∈ h_none); rw [h_none] at hz_; obtain ⟨d, hd, rfl⟩ := List.mem_map.mp hz_; rw [hcodes4] at hd; obtain ⟨x, hx, rfl⟩ := List.mem_map.mp hd; rw [List.length_map]; unfold TM.dig14; rw [TM.digN_len]; omega))))))))))))))))) (fun h28 => ?_) (fun h28 => ?_)
    · refine q_ret (ev_bl) hR (fun r29 hr29 => ?_)
      replace hr29 : r29 = false := hr29
      show r29 = true
      rw [hr29]
      exfalso
      have hz := (by assumption : ¬ (_ : Int) = _ ∨ _)
      rcases hz with h | h | h
      · exact h hcn_
      · exact h (by rw [ddG_len hnd_]; exact hcn_)
      · refine h (List.all_eq_true.mpr fun x hx => ?_)
        obtain ⟨t, ht, rfl⟩ := List.mem_map.mp hx
        exact htr_ t ht
    refine q_next (hol_in () ?_ (LeG.k (LeG.k (LeG.k (LeG.k (LeG.f (LeG.f (LeG.f (LeG.f (LeG.f (LeG.f (LeG.f (LeG.f (LeG.f LeG.nil))))))))))))))
    show True
    trivial
  show Go _ _ _ [.val .m rInt many_, .val .g (rList (rTup rInt)) codes4, .val .g (rList rStr) texts11, .val .g rInt due12, .no, .no, .no, .no, .no, .no, .no, .no, .no]
  refine q_ifT (ec_tst (ev_eqI (((ev_var (R := rInt) (a := many_) rfl)).toh) (ev_int))) (fun h30 => ?_) (fun h30 => ?_)
  · refine q_ret (ev_bl) hR (fun r31 hr31 => ?_)
    replace hr31 : r31 = true := hr31
    show r31 = true
    rw [hr31]
    skip
  refine q_asg (i := 6) (ℓ := .g) ((ev_new (ℓ := .g) (en_mapd (ℓ' := .g) (fun c32 : (List Int) => (c32.map (fun c35 : Int => (c35 - (1 : Int))))) (ei_list (b := false) (hc := (by intro h; exact absurd h (by decide))) (hl := (by intro h; exact absurd h (by decide))) (es_list (ev_var (R := (rList (rTup rInt))) (a := codes4) rfl))) (by first | omega | (rw [rg_len]; omega) | (rw [hlt_]; omega) | (have hz_ := (by assumption : _ ∈ codes4); rw [hcodes4] at hz_; obtain ⟨x, hx, rfl⟩ := List.mem_map.mp hz_; unfold TM.dig14; rw [TM.digN_len]; omega)) (fun c32 hc33 => (ev_tupL (ℓ := .g) (es_list (ev_new (ℓ := .g) (en_mapd (ℓ' := .g) (fun c35 : Int => (c35 - (1 : Int))) (ei_tup (b := false) (hc := (by intro h; exact absurd h (by decide))) (hl := (by intro h; exact absurd h (by decide))) (es_tup (ev_var (R := (rTup rInt)) (a := c32) rfl))) (by first | omega | (rw [rg_len]; omega) | (rw [hlt_]; omega) | (have hz_ := (by assumption : _ ∈ codes4); rw [hcodes4] at hz_; obtain ⟨x, hx, rfl⟩ := List.mem_map.mp hz_; unfold TM.dig14; rw [TM.digN_len]; omega)) (fun c35 hc36 => (ev_sub (((ev_var (R := rInt) (a := c35) rfl)).toh) (ev_int))))))))))) (fun tuples38 htuples38 => ?_)
  replace htuples38 : tuples38 = (codes4.map (fun c32 : (List Int) => (c32.map (fun c35 : Int => (c35 - (1 : Int)))))) := htuples38
  have htl_ : (tuples38).length ≤ 3125 := by rw [htuples38, List.length_map]; omega
  refine q_ret ((ev_eqI ((ev_len (es_list (ev_new (ℓ := .g) (EvN.imp (en_filtd (ℓ' := .g) (fun c39 : (List Int) => ((TM.isTree c39) = true)) (fun c39 : (List Int) => c39) (ei_list (b := false) (hc := (by intro h; exact absurd h (by decide))) (hl := (by intro h; exact absurd h (by decide))) (es_list (ev_var (R := (rList (rTup rInt))) (a := tuples38) rfl))) (by first | omega | (rw [rg_len]; omega) | (rw [hlt_]; omega) | (have hz_ := (by assumption : _ ∈ codes4); rw [hcodes4] at hz_; obtain ⟨x, hx, rfl⟩ := List.mem_map.mp hz_; unfold TM.dig14; rw [TM.digN_len]; omega)) (fun c39 hc40 => (ec_valB (((ev_call (call_is_tree (((ev_var (R := (rTup rInt)) (a := c39) rfl)).toh) (by first | (have hz_ := (TM.isTree_iff.mp (htr_ _ (by assumption))).1; omega) | (have hz_ := (by assumption : _ ∈ tuples38); rw [htuples38] at hz_; obtain ⟨d, hd, rfl⟩ := List.mem_map.mp hz_; rw [hcodes4] at hd; obtain ⟨x, hx, rfl⟩ := List.mem_map.mp hd; rw [List.length_map]; unfold TM.dig14; rw [TM.digN_len]; omega))))).toh))) (fun c39 hc40 hp41 => (ev_var (R := (rTup rInt)) (a := c39) rfl))) (fun _ e => e.trans (List.map_id' _))))))) (((ev_var (R := rInt) (a := due12) rfl)).toh))) hR (fun r42 hr42 => ?_)
  replace hr42 : r42 = (decide ((((tuples38.filter (fun c39 : (List Int) => decide ((TM.isTree c39) = true)))).length : Int) = due12)) := hr42
  show r42 = true
  rw [hr42]
  rw [htuples38, hdue12, hcodes4]; exact decide_eq_true (TM.tup14d (m := many_) (by omega))
abbrev s_law_counted : Stmt := topS 28
theorem sc_law_counted : FnScope ["many", "codes", "texts", "due", "way", "trees", "tuples", "code", "digits", "told", "tree", "k", "digit"] ["many"] (defScope s_law_counted) := ⟨rfl, rfl, rfl, by decide +kernel, rfl, by decide +kernel, by decide +kernel⟩
theorem ok_law_counted {P : Program} {w : PySem.World} {K : PySem.W.Frag} {mg : Str → Option Value} {base : Heap} {f : Addr} {fd : FuncData} (F : Fun K "_law_counted" "_law_counted" s_law_counted f fd) {f_law_power : Addr} {d_law_power : FuncData} (c_law_power : Cal P w K mg base CX0 1 "_law_power" ["base", "many"] sp_law_power f_law_power d_law_power) {f_law_digits : Addr} {d_law_digits : FuncData} (c_law_digits : Cal P w K mg base CX0 1 "_law_digits" ["code", "base", "many"] sp_law_digits f_law_digits d_law_digits) {f_law_many : Addr} {d_law_many : FuncData} (c_law_many : Cal P w K mg base CX0 1 "_law_many" ["many"] sp_law_many f_law_many d_law_many) {f_law_led : Addr} {d_law_led : FuncData} (c_law_led : Cal P w K mg base CX0 3 "_law_led" ["way", "told"] sp_law_led f_law_led d_law_led) {f_is_tree : Addr} {d_is_tree : FuncData} (c_is_tree : Cal P w K mg base CX0 3 "is_tree" ["tree"] sp_is_tree f_is_tree d_is_tree) (m_all : mg "all" = none) (m_len : mg "len" = none) (m_range : mg "range" = none) (m_set : mg "set" = none) (m_tuple : mg "tuple" = none) : FnOk P w K mg base CX0 4 f fd ["many"] sp_law_counted := by
  have sc := sc_law_counted
  refine F.ok sc (fun vs H Q E h => ?_) (fun cdv A outer s H vs Q E hr h => ?_)
  · obtain ⟨a_, ha_, _⟩ := h
    obtain ⟨v1, _, rfl, _ha1, rfl⟩ := ha_
    rfl
  · obtain ⟨⟨many_, _⟩, ⟨v1, _, rfl, ha1, rfl⟩, hp0, hR, hE⟩ := spF_open PIlaw (n := fun _ H' => Q .non H') h
    refine ⟨t_law_counted K E, ?_, go_law_counted (C := (Cn0 PIlaw H)) many_ hp0 hR _ (W0 H []) (world_of (bok0 (PI := PIlaw) H) ⟨⟨by decide, v1, rfl, rInt.mono (mw0 (PI := PIlaw) H) ha1⟩, ⟨trivial, ⟨trivial, ⟨trivial, ⟨trivial, ⟨trivial, ⟨trivial, ⟨trivial, ⟨trivial, ⟨trivial, ⟨trivial, ⟨trivial, ⟨trivial, trivial⟩⟩⟩⟩⟩⟩⟩⟩⟩⟩⟩⟩⟩ rfl)⟩
    unfold t_law_counted
    exact (pss_cons (ps_setLc (i := 1) (own := [("code", 7)]) (g := (gName 7)) rfl sc.nd rfl rfl (sw_true rfl rfl rfl (by decide +kernel)) (pi_range1 rfl m_range (pa_cons (pe_call c_law_power.ok (hr.mono (by decide)) (by rfl) c_law_power.g c_law_power.kp c_law_power.b .nil pass0 (pa_cons pe_int (pa_cons (pv 0) pa_nil))) pa_nil)) (blkOk_by (own := [("code", 7)]) (N := ["many", "codes", "texts", "due", "way", "trees", "tuples", "code", "digits", "told", "tree", "k", "digit"]) (sc := defScope s_law_counted) (by decide +kernel)) (fun _ _ _ _ _ => pg_name (i := 7) sc.nd rfl (Or.inl rfl)) (fun _ _ _ _ _ => pts_nil) (fun _ _ _ _ _ => (pe_call c_law_digits.ok (hr.mono (by decide)) (by rfl) c_law_digits.g c_law_digits.kp c_law_digits.b .nil pass0 (pa_cons (pv 7) (pa_cons pe_int (pa_cons (pv 0) pa_nil))))))
(pss_cons (ps_setLc (i := 2) (own := [("code", 7)]) (g := (gName 7)) rfl sc.nd rfl rfl (sw_true rfl rfl rfl (by decide +kernel)) (pi_range1 rfl m_range (pa_cons (pe_op op_oneShl pe_int (pe_op op_mul pe_int (pv 0))) pa_nil)) (blkOk_by (own := [("code", 7)]) (N := ["many", "codes", "texts", "due", "way", "trees", "tuples", "code", "digits", "told", "tree", "k", "digit"]) (sc := defScope s_law_counted) (by decide +kernel)) (fun _ _ _ _ _ => pg_name (i := 7) sc.nd rfl (Or.inr rfl)) (fun _ _ _ _ _ => pts_nil) (fun _ _ _ _ _ => (pe_join pe_str (pe_lc (own := [("k", 11)]) (g := (gName 11)) rfl sc.nd (pi_range1 rfl m_range (pa_cons (pe_op op_mul pe_int (pv 0)) pa_nil)) (blkOk_by (own := [("k", 11)]) (N := ["many", "codes", "texts", "due", "way", "trees", "tuples", "code", "digits", "told", "tree", "k", "digit"]) (sc := ({ kind := .function, names := [(PySem.Str.ofString ".0", .local), (PySem.Str.ofString "code", .cell), (PySem.Str.ofString "range", .globalImplicit), (PySem.Str.ofString "many", .cell)], isGenerator := false, isCoroutine := false, more := [] } : PySem.Scope)) (by decide +kernel)) (fun _ _ _ _ _ => pg_name (i := 11) sc.nd rfl (Or.inl rfl)) (fun _ _ _ _ _ => pts_nil) (fun _ _ _ _ _ => (pe_item_str pe_str (pe_op op_andM (pe_op op_shr (pv 7) (pv 11)) pe_int) (fun _ _ => rfl)))))))
(pss_cons (ps_set (i := 3) sc.nd rfl (Or.inl rfl) (pe_call c_law_many.ok (hr.mono (by decide)) (by rfl) c_law_many.g c_law_many.kp c_law_many.b .nil pass0 (pa_cons (pv 0) pa_nil)))
(pss_cons (ps_for PassesOwn.never rfl (pi_range1 rfl m_range (pa_cons pe_int pa_nil)) (pg_name (i := 4) sc.nd rfl (Or.inr rfl))
(pss_cons (ps_setLc (i := 5) (own := [("told", 9)]) (g := (gName 9)) rfl sc.nd rfl rfl (sw_true rfl rfl rfl (by decide +kernel)) (pi_list (pe_ix ix_tup (pe_tup (pa_cons (pv 1) (pa_cons (pv 1) (pa_cons (pv 2) pa_nil)))) (pv 4) (fun _ _ => rfl))) (blkOk_by (own := [("told", 9)]) (N := ["many", "codes", "texts", "due", "way", "trees", "tuples", "code", "digits", "told", "tree", "k", "digit"]) (sc := defScope s_law_counted) (by decide +kernel)) (fun _ _ _ _ _ => pg_name (i := 9) sc.nd rfl (Or.inl rfl)) (fun _ _ _ _ _ => pts_nil) (fun _ _ _ _ _ => (pe_call c_law_led.ok (hr.mono (by decide)) (by rfl) c_law_led.g c_law_led.kp c_law_led.b .nil pass0 (pa_cons (pv 4) (pa_cons (pv 9) pa_nil)))))
(pss_cons (ps_setLc (i := 5) (own := [("tree", 10)]) (g := (gName 10)) rfl sc.nd rfl rfl (sw_true rfl rfl rfl (by decide +kernel)) (pi_list (pv 5)) (blkOk_by (own := [("tree", 10)]) (N := ["many", "codes", "texts", "due", "way", "trees", "tuples", "code", "digits", "told", "tree", "k", "digit"]) (sc := defScope s_law_counted) (by decide +kernel)) (fun _ _ _ _ _ => pg_name (i := 10) sc.nd rfl (Or.inl rfl)) (fun _ _ _ _ _ => pts_one (pt_cmpR op_notN (pv 10) pe_non (nomark _))) (fun _ _ _ _ _ => (pv 10)))
(pss_cons (ps_if (PW.pt (pw_or (pt_cmpR op_ne (pe_callB call_len_seq (by rfl) m_len bt_len (pa_cons (pv 5) pa_nil)) (pv 3) (nomark _)) (pw_or (pt_cmpR op_ne (pe_lenSetT rfl (roomUn hr) (by rfl) m_len (by rfl) m_set (pv 5)) (pv 3) (nomark _)) (pw_or1 (pt_not (pt_val (pe_callB (cr_all rfl) (by rfl) m_all bt_all (pa_cons (pe_lc (own := [("tree", 10)]) (g := (gName 10)) rfl sc.nd (pi_list (pv 5)) (blkOk_by (own := [("tree", 10)]) (N := ["many", "codes", "texts", "due", "way", "trees", "tuples", "code", "digits", "told", "tree", "k", "digit"]) (sc := defScope s_law_counted) (by decide +kernel)) (fun _ _ _ _ _ => pg_name (i := 10) sc.nd rfl (Or.inl rfl)) (fun _ _ _ _ _ => pts_nil) (fun _ _ _ _ _ => (pe_call c_is_tree.ok (hr.mono (by decide)) (by rfl) c_is_tree.g c_is_tree.kp c_is_tree.b .nil pass0 (pa_cons (pv 10) pa_nil)))) pa_nil)))))))) (pss_cons (ps_ret pe_bl) pss_nil) pss_nil)
pss_nil))))
(pss_cons (ps_if (pt_cmpR op_eq (pv 0) pe_int (nomark _)) (pss_cons (ps_ret pe_bl) pss_nil) pss_nil)
(pss_cons (ps_setLc (i := 6) (own := [("digits", 8)]) (g := (gName 8)) rfl sc.nd rfl rfl (sw_true rfl rfl rfl (by decide +kernel)) (pi_list (pv 1)) (blkOk_by (own := [("digits", 8)]) (N := ["many", "codes", "texts", "due", "way", "trees", "tuples", "code", "digits", "told", "tree", "k", "digit"]) (sc := defScope s_law_counted) (by decide +kernel)) (fun _ _ _ _ _ => pg_name (i := 8) sc.nd rfl (Or.inl rfl)) (fun _ _ _ _ _ => pts_nil) (fun _ _ _ _ _ => (pe_callTy call_tuple_of (by rfl) m_tuple bt_tuple (pa_cons (pe_lc (own := [("digit", 12)]) (g := (gName 12)) rfl sc.nd (pi_tup (pv 8)) (blkOk_by (own := [("digit", 12)]) (N := ["many", "codes", "texts", "due", "way", "trees", "tuples", "code", "digits", "told", "tree", "k", "digit"]) (sc := ({ kind := .function, names := [(PySem.Str.ofString ".0", .local), (PySem.Str.ofString "digits", .local), (PySem.Str.ofString "tuple", .globalImplicit)], isGenerator := false, isCoroutine := false, more := [] } : PySem.Scope)) (by decide +kernel)) (fun _ _ _ _ _ => pg_name (i := 12) sc.nd rfl (Or.inl rfl)) (fun _ _ _ _ _ => pts_nil) (fun _ _ _ _ _ => (pe_op op_sub (pv 12) pe_int))) pa_nil))))
(pss_cons (ps_ret (pe_cmpR op_eq (pe_callB call_len_seq (by rfl) m_len bt_len (pa_cons (pe_lc (own := [("told", 9)]) (g := (gName 9)) rfl sc.nd (pi_list (pv 6)) (blkOk_by (own := [("told", 9)]) (N := ["many", "codes", "texts", "due", "way", "trees", "tuples", "code", "digits", "told", "tree", "k", "digit"]) (sc := defScope s_law_counted) (by decide +kernel)) (fun _ _ _ _ _ => pg_name (i := 9) sc.nd rfl (Or.inl rfl)) (fun _ _ _ _ _ => pts_one (pt_val (pe_call c_is_tree.ok (hr.mono (by decide)) (by rfl) c_is_tree.g c_is_tree.kp c_is_tree.b .nil pass0 (pa_cons (pv 9) pa_nil)))) (fun _ _ _ _ _ => (pv 9))) pa_nil)) (pv 3) (nomark _))) pss_nil)))))))
def sp_law_text : Sp := spV PIlaw aNil (fun (a : Unit) => True) rStr (fun (a : Unit) b => TM.areBr (tl b) = true ∧ b.length ≤ 16)
theorem volx_law_text {C : Cn} {Γ : List Ent} {E : XK} {i : Nat} {p : Addr} (hv : Γ[i]? = some (.vol p)) (hPI : C.PI = PIlaw)   : EvX C (tCall sp_law_text [] E (tCons (tVar i) tNil)) Γ (ResF C rStr (fun (b : Str) => (TM.areBr (tl b) = true ∧ b.length ≤ 16))) := ex_vol0 hv hPI  (trivial)
theorem vol_law_text {C : Cn} {Γ : List Ent} {E : XK} {i : Nat} {p : Addr} (hv : Γ[i]? = some (.vol p)) (hPI : C.PI = PIlaw)   : EvX C (tCall sp_law_text [] E (tCons (tVar i) tNil)) Γ (ResF C rStr (fun (b : Str) => TM.areBr (tl b) = true ∧ b.length ≤ 16)) := volx_law_text hv hPI 
theorem volnx_law_text {C : Cn} {Γ : List Ent} {E : XK} {te : TE} {γ : Type} {S0 : Rl γ} {Pz : List γ → Prop} (f0 : Flat S0) (h0 : EvX C te Γ (ResF C (rList S0) Pz)) (hvz : ∀ xs l, Pz l → (∀ H, All2 (S0.is H) xs l) → PIlaw (.lst xs))   : EvX C (tCall sp_law_text [] E (tCons te tNil)) Γ (ResF C rStr (fun (b : Str) => (TM.areBr (tl b) = true ∧ b.length ≤ 16))) := ex_voln0 f0 h0 hvz   (trivial)
theorem voln_law_text {C : Cn} {Γ : List Ent} {E : XK} {te : TE} {γ : Type} {S0 : Rl γ} {Pz : List γ → Prop} (f0 : Flat S0) (h0 : EvX C te Γ (ResF C (rList S0) Pz)) (hvz : ∀ xs l, Pz l → (∀ H, All2 (S0.is H) xs l) → PIlaw (.lst xs))   : EvX C (tCall sp_law_text [] E (tCons te tNil)) Γ (ResF C rStr (fun (b : Str) => TM.areBr (tl b) = true ∧ b.length ≤ 16)) := volnx_law_text f0 h0 hvz 
def t_law_text (K : PySem.W.Frag) (E : XK) : TS :=
(tSeq (tAsg (tOp (rI0 fun i j => .int (i + j)) (tC (.int 5)) (tCall sp_law_take [] E0 (tCons (tVar 0) (tCons (tC (.int 4)) tNil)))) (gName 1))
(tSeq (tAsg (tC (.str "")) (gName 2))
(tSeq (tWhile (tTest (tOp (rI0 fun i j => .bl (decide (i < j))) (tCB (fun xs H Q => ∃ z, xs = [.str z] ∧ z.length ≤ sizeLine ∧ Q (.int z.length) H) (tCons (tVar 2) tNil)) (tOp (rI CMul fun i j => .int (i * j)) (tC (.int 2)) (tVar 1))))
(tSeq (tAsg (tOp (rI0 fun i j => .int (i - j)) (tM1 rCountS (tVar 2) (tC (.str "("))) (tM1 rCountS (tVar 2) (tC (.str ")")))) (gName 3))
(tSeq (tIfS (tAnd (tTest (tOp (rI0 fun i j => .bl (decide (i < j))) (tM1 rCountS (tVar 2) (tC (.str "("))) (tVar 1))) (tOr (tTest (tOp rEq (tVar 3) (tC (.int 0)))) (tTest (tOp rEq (tCall sp_law_take [] E0 (tCons (tVar 0) (tCons (tC (.int 2)) tNil))) (tC (.int 0)))))) (tSeq (tAsg (tOp rAddS_ (tVar 2) (tC (.str "("))) (gName 2))
tNext) (tSeq (tAsg (tOp rAddS_ (tVar 2) (tC (.str ")"))) (gName 2))
tNext))
tNext)))
(tSeq (tRet (tVar 2)) tNext))))
theorem go_law_text {K : PySem.W.Frag} {C : Cn} {D : Ends} {E : XK} (p_pot : Addr)   (hR : RetOk C D rStr (fun (b : Str) => TM.areBr (tl b) = true ∧ b.length ≤ 16)) (hPI : C.PI = PIlaw) :
    Go C (t_law_text K E) D [.vol p_pot, .no, .no, .no] := by
  unfold t_law_text
  refine q_asg (i := 1) (ℓ := .g) (evp_add (ev_int) ((ev_call (vol_law_take (i := 0) rfl hPI (ev_int) (by
        first | omega | assumption | (simp; done) | (constructor <;> omega) | (simp; omega)))).toh)) (fun many2 hmany2 => ?_)
  obtain ⟨x3, y4, hx3, hy4, hmany2⟩ := hmany2
  refine q_asg (i := 2) (ℓ := .g) (ev_str) (fun text5 htext5 => ?_)
  replace htext5 : text5 = ("" : Str) := htext5
  refine q_while (S := Str) (fun s => [.vol p_pot, .val .g rInt many2, .val .g rStr s, .no]) (fun (s : Str) => (TM.TxI many2 s)) (fun (s : Str) => (2 * many2 - s.length).toNat) (fun (s : Str) => (((s).length : Int) < ((2 : Int) * many2))) text5 (by
        show (TM.TxI many2 text5)
        rw [htext5]; exact TM.TxI.nil (by omega)) (LeG.k (LeG.k (LeG.k (LeG.f LeG.nil)))) (fun s hI0 => ?_) (fun s hI0 hw => ?_) (fun s hI0 hw => ?_)
  · revert s hI0; intro text6 hI0
    replace hI0 : (TM.TxI many2 text6) := hI0
    exact (ec_tst (ev_lt ((ev_lenS (((ev_var (R := rStr) (a := text6) rfl)).toh) (by have h_ := hI0; obtain ⟨_, _, _, _, _, _, z, _⟩ := h_; have := hI0.1; omega))) ((ev_mul (ev_int) (((ev_var (R := rInt) (a := many2) rfl)).toh) (.inl (by decide))))))
  · revert s hI0 hw; intro text7 hI0 hw
    replace hI0 : (TM.TxI many2 text7) := hI0
    replace hw : (((text7).length : Int) < ((2 : Int) * many2)) := hw
    show Go _ _ _ [.vol p_pot, .val .g rInt many2, .val .g rStr text7, .no]
    have hc1_ : Txt.count text7 ("(" : Str) = (((tl text7).count 40 : Nat) : Int) := TM.count_sg rfl
    have hc2_ : Txt.count text7 (")" : Str) = (((tl text7).count 41 : Nat) : Int) := TM.count_sg rfl
    have hb_ := hI0.1
    refine q_asg (i := 3) (ℓ := .g) ((ev_sub ((ev_countS (((ev_var (R := rStr) (a := text7) rfl)).toh) (ev_str))) ((ev_countS (((ev_var (R := rStr) (a := text7) rfl)).toh) (ev_str))))) (fun opened8 hopened8 => ?_)
    replace hopened8 : opened8 = ((Txt.count text7 ("(" : Str)) - (Txt.count text7 (")" : Str))) := hopened8
    refine q_if (eb_and (ec_tst (ev_lt ((ev_countS (((ev_var (R := rStr) (a := text7) rfl)).toh) (ev_str))) (((ev_var (R := rInt) (a := many2) rfl)).toh))) (fun hb_ => (eb_or (ec_tst (ev_eqI (((ev_var (R := rInt) (a := opened8) rfl)).toh) (ev_int))) (fun hb_ => (eb_tst (evp_eqI ((ev_call (vol_law_take (i := 0) rfl hPI (ev_int) (by
          first | omega | assumption | (simp; done) | (constructor <;> omega) | (simp; omega)))).toh) (ev_int))))))) (fun _ => ?_) (fun _ => ?_)
    · try simp only [Bool.not_true, Bool.not_false] at h12
      refine q_asg (i := 2) (ℓ := .g) ((ev_addS (((ev_var (R := rStr) (a := text7) rfl)).toh) (ev_str) (by have h_ := hI0; obtain ⟨_, _, _, _, _, _, z, _⟩ := h_; have h2_ : ("(" : Str).length = 1 := rfl; have h3_ : (")" : Str).length = 1 := rfl; omega))) (fun text13 htext13 => ?_)
      replace htext13 : text13 = (text7 ++ ("(" : Str)) := htext13
      refine q_next (?_ : Go _ tNext _ _)
      refine q_next (hol_in text13 ?_ (LeG.k (LeG.k (LeG.k (LeG.f LeG.nil)))))
      show ((TM.TxI many2 text13)) ∧ (2 * many2 - text13.length).toNat < (2 * many2 - text7.length).toNat
      have el_ : (text7 ++ ("(" : Str)).length = (text7).length + 1 := by rw [len_app]; rfl
      have er_ : (text7 ++ (")" : Str)).length = (text7).length + 1 := by rw [len_app]; rfl
      have h := (by assumption : (_ ∧ (_ : Bool) = _) ∨ _)
      first
      | (have hlt_ : Txt.count text7 ("(" : Str) < many2 := by
           rcases h with h | h
           · cases h.2
           · exact h.1.mp rfl
         rw [htext13]
         exact ⟨hI0.l hw (by rw [← hc1_]; exact hlt_), by omega⟩)
      | (rw [htext13]
         refine ⟨hI0.r hw (fun z => ?_), by omega⟩
         rw [← hc1_, ← hc2_] at z
         rcases h with h | h
         · have y := h.1.mpr z.1
           cases y
         · rcases h.2 with h | h
           · cases h.2
           · have y := h.1.mpr (by omega)
             cases y)
    · try simp only [Bool.not_true, Bool.not_false] at h12
      refine q_asg (i := 2) (ℓ := .g) ((ev_addS (((ev_var (R := rStr) (a := text7) rfl)).toh) (ev_str) (by have h_ := hI0; obtain ⟨_, _, _, _, _, _, z, _⟩ := h_; have h2_ : ("(" : Str).length = 1 := rfl; have h3_ : (")" : Str).length = 1 := rfl; omega))) (fun text14 htext14 => ?_)
      replace htext14 : text14 = (text7 ++ (")" : Str)) := htext14
      refine q_next (?_ : Go _ tNext _ _)
      refine q_next (hol_in text14 ?_ (LeG.k (LeG.k (LeG.k (LeG.f LeG.nil)))))
      show ((TM.TxI many2 text14)) ∧ (2 * many2 - text14.length).toNat < (2 * many2 - text7.length).toNat
      have el_ : (text7 ++ ("(" : Str)).length = (text7).length + 1 := by rw [len_app]; rfl
      have er_ : (text7 ++ (")" : Str)).length = (text7).length + 1 := by rw [len_app]; rfl
      have h := (by assumption : (_ ∧ (_ : Bool) = _) ∨ _)
      first
      | (have hlt_ : Txt.count text7 ("(" : Str) < many2 := by
           rcases h with h | h
           · cases h.2
           · exact h.1.mp rfl
         rw [htext14]
         exact ⟨hI0.l hw (by rw [← hc1_]; exact hlt_), by omega⟩)
      | (rw [htext14]
         refine ⟨hI0.r hw (fun z => ?_), by omega⟩
         rw [← hc1_, ← hc2_] at z
         rcases h with h | h
         · have y := h.1.mpr z.1
           cases y
         · rcases h.2 with h | h
           · cases h.2
           · have y := h.1.mpr (by omega)
             cases y)
  revert s hI0 hw; intro text15 hI0 hw
  replace hI0 : (TM.TxI many2 text15) := hI0
  replace hw : ¬ (((text15).length : Int) < ((2 : Int) * many2)) := hw
  show Go _ _ _ [.vol p_pot, .val .g rInt many2, .val .g rStr text15, .no]
  refine q_ret ((ev_var (R := rStr) (a := text15) rfl)) hR (fun r16 hr16 => ?_)
  replace hr16 : r16 = text15 := hr16
  show TM.areBr (tl r16) = true ∧ r16.length ≤ 16
  (try rw [hr16])
  exact hI0.fin hw
abbrev s_law_text : Stmt := topS 29
theorem sc_law_text : FnScope ["pot", "many", "text", "opened"] ["pot"] (defScope s_law_text) := ⟨rfl, rfl, rfl, by decide +kernel, rfl, by decide +kernel, by decide +kernel⟩
theorem ok_law_text {P : Program} {w : PySem.World} {K : PySem.W.Frag} {mg : Str → Option Value} {base : Heap} {f : Addr} {fd : FuncData} (F : Fun K "_law_text" "_law_text" s_law_text f fd) {f_law_take : Addr} {d_law_take : FuncData} (c_law_take : Cal P w K mg base CX0 1 "_law_take" ["pot", "many"] sp_law_take f_law_take d_law_take) (m_len : mg "len" = none) : FnOk P w K mg base CX0 2 f fd ["pot"] sp_law_text := by
  have sc := sc_law_text
  refine F.ok sc (fun vs H Q E h => ?_) (fun cdv A outer s H vs Q E hr h => ?_)
  · obtain ⟨p_, r_, a_, o_, rfl, _, _, h1_, _⟩ := h
    obtain rfl := h1_
    rfl
  · obtain ⟨p_pot, r_, ⟨_⟩, rfl, bk_, rfl, _, hR⟩ := spV_open (n := fun _ H' => Q .non H') h
    refine ⟨t_law_text K E, ?_, go_law_text (C := (CnV H p_pot PIlaw)) p_pot hR rfl _ (W0 H [p_pot]) (world_of bk_ ⟨⟨rfl, List.mem_singleton.mpr rfl, fun ⟨_, z⟩ => by cases z⟩, ⟨trivial, ⟨trivial, ⟨trivial, trivial⟩⟩⟩⟩ rfl)⟩
    unfold t_law_text
    exact (pss_cons (ps_set (i := 1) sc.nd rfl (Or.inl rfl) (pe_op op_add pe_int (pe_call c_law_take.ok (hr.mono (by decide)) (by rfl) c_law_take.g c_law_take.kp c_law_take.b .nil pass0 (pa_cons (pv 0) (pa_cons pe_int pa_nil)))))
(pss_cons (ps_set (i := 2) sc.nd rfl (Or.inl rfl) pe_str)
(pss_cons (ps_while PassesOwn.never (pt_cmpR op_lt (pe_callB call_len_str (by rfl) m_len bt_len (pa_cons (pv 2) pa_nil)) (pe_op op_mul pe_int (pv 1)) (nomark _))
(pss_cons (ps_set (i := 3) sc.nd rfl (Or.inl rfl) (pe_op op_sub (pe_m1 PySem.F.slot_str_count PySem.F.type_str_count mt_count (pv 2) pe_str) (pe_m1 PySem.F.slot_str_count PySem.F.type_str_count mt_count (pv 2) pe_str)))
(pss_cons (ps_if (PW.pt (pw_and (pt_cmpR op_lt (pe_m1 PySem.F.slot_str_count PySem.F.type_str_count mt_count (pv 2) pe_str) (pv 1) (nomark _)) (pw_and1 (PW.pt (pw_or (pt_cmpR op_eq (pv 3) pe_int (nomark _)) (pw_or1 (pt_cmpR op_eq (pe_call c_law_take.ok (hr.mono (by decide)) (by rfl) c_law_take.g c_law_take.kp c_law_take.b .nil pass0 (pa_cons (pv 0) (pa_cons pe_int pa_nil))) pe_int (nomark _)))))))) (pss_cons (ps_set (i := 2) sc.nd rfl (Or.inl rfl) (pe_op op_add_str (pv 2) pe_str))
pss_nil) (pss_cons (ps_set (i := 2) sc.nd rfl (Or.inl rfl) (pe_op op_add_str (pv 2) pe_str))
pss_nil))
pss_nil)))
(pss_cons (ps_ret (pv 2)) pss_nil))))
def sp_look_at_tree (x_NoTree : Addr) : Sp := spF (aCons (rTup rInt) aNil) (fun (a : (List Int) × Unit) => (a.1.length ≤ 100000)) rNone (fun (a : (List Int) × Unit) b => TM.isTree a.1 = true) (fun (a : (List Int) × Unit) c => (c = x_NoTree ∧ TM.isTree a.1 = false))
theorem call_look_at_tree {C : Cn} {Γ : List Ent} {E : XK} {x_NoTree : Addr} {t1 : TE} {a1 : (List Int)} (h1 : Ev C t1 Γ .h (rTup rInt) a1) (hp0 : a1.length ≤ 100000) {Pe : Addr → Prop} (hE : ExcOk C E Pe) (he : ∀ c, ((c = x_NoTree ∧ TM.isTree a1 = false)) → Pe c) : EvX C (tCall (sp_look_at_tree x_NoTree) [] E (tCons t1 tNil)) Γ (ResF C rNone (fun (b : Unit) => TM.isTree a1 = true)) := ed_call1 h1 hp0 hE he
theorem callsn_look_at_tree {C : Cn} {Γ : List Ent} {x_NoTree : Addr} {t1 : TE} {a1 : (List Int)} (h1 : Ev C t1 Γ .h (rTup rInt) a1) (hp0 : a1.length ≤ 100000) {W0 : WX} {Pe : Addr → Prop} (hE : ExcOkG C W0 Γ Pe) (he : ∀ c, ((c = x_NoTree ∧ TM.isTree a1 = false)) → Pe c) : EvX C (tCallS (sp_look_at_tree x_NoTree) (WE W0) (tCons t1 tNil)) Γ (ResF C rNone (fun (b : Unit) => TM.isTree a1 = true)) := esd_call1 h1 hp0 hE he
theorem calls_look_at_tree {C : Cn} {Γ : List Ent} {x_NoTree : Addr} {t1 : TE} {a1 : (List Int)} (h1 : Ev C t1 Γ .h (rTup rInt) a1) (hp0 : a1.length ≤ 100000) {W0 : WX} {Pe : Addr → Prop} (hE : ExcOkG C W0 Γ Pe) (he : ∀ c, ((c = x_NoTree ∧ TM.isTree a1 = false)) → Pe c) : EvX C (tCallS (sp_look_at_tree x_NoTree) (WE W0) (tCons t1 tNil)) Γ (ResF C rNone (fun (b : Unit) => TM.isTree a1 = true)) := EvX.imp (esd_call1 h1 hp0 hE he) (fun _ h => h)
theorem callsx_look_at_tree {C : Cn} {Γ : List Ent} {x_NoTree : Addr} {t1 : TE} {P1 : (List Int) → Prop} (h1 : EvP C t1 Γ .h (rTup rInt) P1) (hp0 : ∀ a1, P1 a1 → (a1.length ≤ 100000)) {W0 : WX} {Pe : Addr → Prop} (hE : ExcOkG C W0 Γ Pe) (he : ∀ a1, P1 a1 → ∀ c, ((c = x_NoTree ∧ TM.isTree a1 = false)) → Pe c) : EvX C (tCallS (sp_look_at_tree x_NoTree) (WE W0) (tCons t1 tNil)) Γ (ResF C rNone (fun (b : Unit) => ∃ a1, P1 a1 ∧ (TM.isTree a1 = true))) := es_call1 h1 (fun a1 _p1 => hp0 a1 _p1) hE he
theorem callx_look_at_tree {C : Cn} {Γ : List Ent} {E : XK} {x_NoTree : Addr} {t1 : TE} {P1 : (List Int) → Prop} (h1 : EvP C t1 Γ .h (rTup rInt) P1) (hp0 : ∀ a1, P1 a1 → (a1.length ≤ 100000)) {Pe : Addr → Prop} (hE : ExcOk C E Pe) (he : ∀ a1, P1 a1 → ∀ c, ((c = x_NoTree ∧ TM.isTree a1 = false)) → Pe c) : EvX C (tCall (sp_look_at_tree x_NoTree) [] E (tCons t1 tNil)) Γ (ResF C rNone (fun (b : Unit) => ∃ a1, P1 a1 ∧ (TM.isTree a1 = true))) := ex_call1 h1 (fun a1 _p1 => hp0 a1 _p1) hE he
def t_look_at_tree (K : PySem.W.Frag) (E : XK) (x_NoTree : Addr) : TS :=
(tSeq (tIfS (tNot (tB (tCall sp_is_tree [] E0 (tCons (tVar 0) tNil)))) (tSeq (fun _ _ H => E (.ref x_NoTree) none H) tNext) tNext)
tNext)
theorem go_look_at_tree {K : PySem.W.Frag} {C : Cn} {D : Ends} {E : XK} (x_NoTree : Addr) (tree_ : (List Int)) (hp0 : tree_.length ≤ 100000) (hR : RetOk C D rNone (fun (b : Unit) => TM.isTree tree_ = true)) (hE : ExcOk C E (fun c => (c = x_NoTree ∧ TM.isTree tree_ = false))) (hN : ∀ H, D.rt .non H → ∀ σ, D.nx σ H) :
    Go C (t_look_at_tree K E x_NoTree) D [.val .m (rTup rInt) tree_] := by
  unfold t_look_at_tree
  refine q_ifT (ec_not (ec_valB (((ev_call (call_is_tree (((ev_var (R := (rTup rInt)) (a := tree_) rfl)).toh) (by first | omega | assumption | (simp; done) | (constructor <;> omega) | (simp; omega))))).toh))) (fun h1 => ?_) (fun h1 => ?_)
  · refine q_raise hE ?_
    exact ⟨rfl, by simpa using (by assumption : ¬ TM.isTree tree_ = true)⟩
  refine q_retE hR hN ?_
  show TM.isTree tree_ = true
  exact Classical.not_not.mp (by assumption)
abbrev s_look_at_tree : Stmt := topS 10
theorem sc_look_at_tree : FnScope ["tree"] ["tree"] (defScope s_look_at_tree) := ⟨rfl, rfl, rfl, by decide +kernel, rfl, by decide +kernel, by decide +kernel⟩
theorem ok_look_at_tree {P : Program} {w : PySem.World} {K : PySem.W.Frag} {mg : Str → Option Value} {base : Heap} {x_NoTree : Addr} {f : Addr} {fd : FuncData} (F : Fun K "look_at_tree" "look_at_tree" s_look_at_tree f fd) {f_is_tree : Addr} {d_is_tree : FuncData} (c_is_tree : Cal P w K mg base CX0 3 "is_tree" ["tree"] sp_is_tree f_is_tree d_is_tree) (z_NoTree : ExcT K mg x_NoTree "NoTree") : FnOk P w K mg base (L2.CX P w) 4 f fd ["tree"] (sp_look_at_tree x_NoTree) := by
  have sc := sc_look_at_tree
  refine F.okX sc (fun vs H Q E h => ?_) (fun cdv A outer s H vs Q E hr h => ?_)
  · obtain ⟨a_, ha_, _⟩ := h
    obtain ⟨v1, _, rfl, _ha1, rfl⟩ := ha_
    rfl
  · obtain ⟨⟨tree_, _⟩, ⟨v1, _, rfl, ha1, rfl⟩, hp0, hR, hE⟩ := spF_open PIlaw (n := fun _ H' => Q .non H') h
    refine ⟨t_look_at_tree K E x_NoTree, ?_, go_look_at_tree (C := (Cn0 PIlaw H)) x_NoTree tree_ hp0 hR hE (fun _ h _ => h) _ (W0 H []) (world_of (bok0 (PI := PIlaw) H) ⟨⟨by decide, v1, rfl, (rTup rInt).mono (mw0 (PI := PIlaw) H) ha1⟩, trivial⟩ rfl)⟩
    unfold t_look_at_tree
    exact (pss_cons (ps_if (pt_not (pt_val (pe_call c_is_tree.ok (hr.mono (by decide)) (by rfl) c_is_tree.g c_is_tree.kp c_is_tree.b .nil pass0 (pa_cons (pv 0) pa_nil)))) (pss_cons (ps_raise rfl (takes_of rfl rfl rfl rfl) (pmk_own PySem.F.excBase_ValueError z_NoTree.x z_NoTree.g z_NoTree.k (raises_own z_NoTree.b z_NoTree.t) (by exact rfl))) pss_nil) pss_nil)
pss_nil)
def sp_flattest (x_NoTree : Addr) : Sp := spF (aCons (rTup rInt) aNil) (fun (a : (List Int) × Unit) => (a.1.length ≤ 100000)) (rTup rInt) (fun (a : (List Int) × Unit) b => b = TM.flatF a.1 ∧ TM.isTree a.1 = true) (fun (a : (List Int) × Unit) c => (c = x_NoTree ∧ TM.isTree a.1 = false))
theorem call_flattest {C : Cn} {Γ : List Ent} {E : XK} {x_NoTree : Addr} {t1 : TE} {a1 : (List Int)} (h1 : Ev C t1 Γ .h (rTup rInt) a1) (hp0 : a1.length ≤ 100000) {Pe : Addr → Prop} (hE : ExcOk C E Pe) (he : ∀ c, ((c = x_NoTree ∧ TM.isTree a1 = false)) → Pe c) : EvX C (tCall (sp_flattest x_NoTree) [] E (tCons t1 tNil)) Γ (ResF C (rTup rInt) (fun b => b = TM.flatF a1)) := EvX.imp (ed_call1 h1 hp0 hE he) (fun _ h => h.1)
theorem calln_flattest {C : Cn} {Γ : List Ent} {E : XK} {x_NoTree : Addr} {t1 : TE} {a1 : (List Int)} (h1 : Ev C t1 Γ .h (rTup rInt) a1) (hp0 : a1.length ≤ 100000) {Pe : Addr → Prop} (hE : ExcOk C E Pe) (he : ∀ c, ((c = x_NoTree ∧ TM.isTree a1 = false)) → Pe c) : EvX C (tCall (sp_flattest x_NoTree) [] E (tCons t1 tNil)) Γ (ResF C (rTup rInt) (fun b => b = TM.flatF a1 ∧ TM.isTree a1 = true)) := ed_call1 h1 hp0 hE he
theorem callsn_flattest {C : Cn} {Γ : List Ent} {x_NoTree : Addr} {t1 : TE} {a1 : (List Int)} (h1 : Ev C t1 Γ .h (rTup rInt) a1) (hp0 : a1.length ≤ 100000) {W0 : WX} {Pe : Addr → Prop} (hE : ExcOkG C W0 Γ Pe) (he : ∀ c, ((c = x_NoTree ∧ TM.isTree a1 = false)) → Pe c) : EvX C (tCallS (sp_flattest x_NoTree) (WE W0) (tCons t1 tNil)) Γ (ResF C (rTup rInt) (fun b => b = TM.flatF a1 ∧ TM.isTree a1 = true)) := esd_call1 h1 hp0 hE he
theorem calls_flattest {C : Cn} {Γ : List Ent} {x_NoTree : Addr} {t1 : TE} {a1 : (List Int)} (h1 : Ev C t1 Γ .h (rTup rInt) a1) (hp0 : a1.length ≤ 100000) {W0 : WX} {Pe : Addr → Prop} (hE : ExcOkG C W0 Γ Pe) (he : ∀ c, ((c = x_NoTree ∧ TM.isTree a1 = false)) → Pe c) : EvX C (tCallS (sp_flattest x_NoTree) (WE W0) (tCons t1 tNil)) Γ (ResF C (rTup rInt) (fun b => b = TM.flatF a1)) := EvX.imp (esd_call1 h1 hp0 hE he) (fun _ h => h.1)
theorem callsx_flattest {C : Cn} {Γ : List Ent} {x_NoTree : Addr} {t1 : TE} {P1 : (List Int) → Prop} (h1 : EvP C t1 Γ .h (rTup rInt) P1) (hp0 : ∀ a1, P1 a1 → (a1.length ≤ 100000)) {W0 : WX} {Pe : Addr → Prop} (hE : ExcOkG C W0 Γ Pe) (he : ∀ a1, P1 a1 → ∀ c, ((c = x_NoTree ∧ TM.isTree a1 = false)) → Pe c) : EvX C (tCallS (sp_flattest x_NoTree) (WE W0) (tCons t1 tNil)) Γ (ResF C (rTup rInt) (fun b => ∃ a1, P1 a1 ∧ (b = TM.flatF a1) ∧ TM.isTree a1 = true)) := es_call1 h1 (fun a1 _p1 => hp0 a1 _p1) hE he
-- no callx
def t_flattest (K : PySem.W.Frag) (E : XK) (x_NoTree : Addr) : TS :=
(tSeq (tDrop (tCall (sp_look_at_tree x_NoTree) [] E (tCons (tVar 0) tNil)))
(tSeq (tRet (tCB (rTupOf K) (tCons (tCall sp_flat_numbers [] E0 (tCons (tVar 0) tNil)) tNil))) tNext))
theorem go_flattest {K : PySem.W.Frag} {C : Cn} {D : Ends} {E : XK} (x_NoTree : Addr) (tree_ : (List Int)) (hp0 : tree_.length ≤ 100000) (hR : RetOk C D (rTup rInt) (fun b => b = TM.flatF tree_ ∧ TM.isTree tree_ = true)) (hE : ExcOk C E (fun c => (c = x_NoTree ∧ TM.isTree tree_ = false))) :
    Go C (t_flattest K E x_NoTree) D [.val .m (rTup rInt) tree_] := by
  unfold t_flattest
  refine q_drop (ev_call (call_look_at_tree (((ev_var (R := (rTup rInt)) (a := tree_) rfl)).toh) (by first | omega | assumption | (simp; done) | (constructor <;> omega) | (simp; omega)) hE (by intro c hc; exact hc))) (fun _ hk1 => ?_)
  replace hk1 : TM.isTree tree_ = true := hk1
  refine q_ret ((ev_tupL (ℓ := .g) (es_list (ev_the (ev_call (call_flat_numbers (((ev_seqT (ev_var (R := (rTup rInt)) (a := tree_) rfl))).toh) (by first | omega | assumption | (simp; done) | (constructor <;> omega) | (simp; omega)))) (by exact oget_some (by rw [(TM.flat_of_tree (by assumption)).1]; intro z; cases z)))))) hR (fun r2 hr2 => ?_)
  replace hr2 : r2 = (oget (TM.flatN tree_)) := hr2
  show r2 = TM.flatF tree_ ∧ TM.isTree tree_ = true
  rw [hr2]
  exact ⟨TM.flat_get (by assumption), by assumption⟩
abbrev s_flattest : Stmt := topS 12
theorem sc_flattest : FnScope ["tree"] ["tree"] (defScope s_flattest) := ⟨rfl, rfl, rfl, by decide +kernel, rfl, by decide +kernel, by decide +kernel⟩
theorem ok_flattest {P : Program} {w : PySem.World} {K : PySem.W.Frag} {mg : Str → Option Value} {base : Heap} {x_NoTree : Addr} {f : Addr} {fd : FuncData} (F : Fun K "flattest" "flattest" s_flattest f fd) {f_look_at_tree : Addr} {d_look_at_tree : FuncData} (c_look_at_tree : Cal P w K mg base (L2.CX P w) 4 "look_at_tree" ["tree"] (sp_look_at_tree x_NoTree) f_look_at_tree d_look_at_tree) {f_flat_numbers : Addr} {d_flat_numbers : FuncData} (c_flat_numbers : Cal P w K mg base CX0 2 "flat_numbers" ["tree"] sp_flat_numbers f_flat_numbers d_flat_numbers) (m_tuple : mg "tuple" = none) : FnOk P w K mg base (L2.CX P w) 5 f fd ["tree"] (sp_flattest x_NoTree) := by
  have sc := sc_flattest
  refine F.okX sc (fun vs H Q E h => ?_) (fun cdv A outer s H vs Q E hr h => ?_)
  · obtain ⟨a_, ha_, _⟩ := h
    obtain ⟨v1, _, rfl, _ha1, rfl⟩ := ha_
    rfl
  · obtain ⟨⟨tree_, _⟩, ⟨v1, _, rfl, ha1, rfl⟩, hp0, hR, hE⟩ := spF_open PIlaw (n := fun _ H' => Q .non H') h
    refine ⟨t_flattest K E x_NoTree, ?_, go_flattest (C := (Cn0 PIlaw H)) x_NoTree tree_ hp0 hR hE _ (W0 H []) (world_of (bok0 (PI := PIlaw) H) ⟨⟨by decide, v1, rfl, (rTup rInt).mono (mw0 (PI := PIlaw) H) ha1⟩, trivial⟩ rfl)⟩
    unfold t_flattest
    exact (pss_cons (ps_expr (pe_call c_look_at_tree.ok (hr.mono (by decide)) (by rfl) c_look_at_tree.g c_look_at_tree.kp c_look_at_tree.b .nil (passes_call (takes_of rfl rfl rfl rfl) (fun _ _ _ _ z => z)) (pa_cons (pv 0) pa_nil)))
(pss_cons (ps_ret (pe_callTy call_tuple_of (by rfl) m_tuple bt_tuple (pa_cons (pe_call c_flat_numbers.ok (hr.mono (by decide)) (by rfl) c_flat_numbers.g c_flat_numbers.kp c_flat_numbers.b .nil pass0 (pa_cons (pv 0) pa_nil)) pa_nil))) pss_nil))
def sp_drops_of (x_NoTree : Addr) : Sp := spF (aCons (rTup rInt) aNil) (fun (a : (List Int) × Unit) => (a.1.length ≤ 100000)) (rTup rInt) (fun (a : (List Int) × Unit) b => b = TM.dropsOf (TM.flatF a.1) ∧ TM.isTree a.1 = true) (fun (a : (List Int) × Unit) c => (c = x_NoTree ∧ TM.isTree a.1 = false))
theorem call_drops_of {C : Cn} {Γ : List Ent} {E : XK} {x_NoTree : Addr} {t1 : TE} {a1 : (List Int)} (h1 : Ev C t1 Γ .h (rTup rInt) a1) (hp0 : a1.length ≤ 100000) {Pe : Addr → Prop} (hE : ExcOk C E Pe) (he : ∀ c, ((c = x_NoTree ∧ TM.isTree a1 = false)) → Pe c) : EvX C (tCall (sp_drops_of x_NoTree) [] E (tCons t1 tNil)) Γ (ResF C (rTup rInt) (fun b => b = TM.dropsOf (TM.flatF a1))) := EvX.imp (ed_call1 h1 hp0 hE he) (fun _ h => h.1)
theorem calln_drops_of {C : Cn} {Γ : List Ent} {E : XK} {x_NoTree : Addr} {t1 : TE} {a1 : (List Int)} (h1 : Ev C t1 Γ .h (rTup rInt) a1) (hp0 : a1.length ≤ 100000) {Pe : Addr → Prop} (hE : ExcOk C E Pe) (he : ∀ c, ((c = x_NoTree ∧ TM.isTree a1 = false)) → Pe c) : EvX C (tCall (sp_drops_of x_NoTree) [] E (tCons t1 tNil)) Γ (ResF C (rTup rInt) (fun b => b = TM.dropsOf (TM.flatF a1) ∧ TM.isTree a1 = true)) := ed_call1 h1 hp0 hE he
theorem callsn_drops_of {C : Cn} {Γ : List Ent} {x_NoTree : Addr} {t1 : TE} {a1 : (List Int)} (h1 : Ev C t1 Γ .h (rTup rInt) a1) (hp0 : a1.length ≤ 100000) {W0 : WX} {Pe : Addr → Prop} (hE : ExcOkG C W0 Γ Pe) (he : ∀ c, ((c = x_NoTree ∧ TM.isTree a1 = false)) → Pe c) : EvX C (tCallS (sp_drops_of x_NoTree) (WE W0) (tCons t1 tNil)) Γ (ResF C (rTup rInt) (fun b => b = TM.dropsOf (TM.flatF a1) ∧ TM.isTree a1 = true)) := esd_call1 h1 hp0 hE he
theorem calls_drops_of {C : Cn} {Γ : List Ent} {x_NoTree : Addr} {t1 : TE} {a1 : (List Int)} (h1 : Ev C t1 Γ .h (rTup rInt) a1) (hp0 : a1.length ≤ 100000) {W0 : WX} {Pe : Addr → Prop} (hE : ExcOkG C W0 Γ Pe) (he : ∀ c, ((c = x_NoTree ∧ TM.isTree a1 = false)) → Pe c) : EvX C (tCallS (sp_drops_of x_NoTree) (WE W0) (tCons t1 tNil)) Γ (ResF C (rTup rInt) (fun b => b = TM.dropsOf (TM.flatF a1))) := EvX.imp (esd_call1 h1 hp0 hE he) (fun _ h => h.1)
theorem callsx_drops_of {C : Cn} {Γ : List Ent} {x_NoTree : Addr} {t1 : TE} {P1 : (List Int) → Prop} (h1 : EvP C t1 Γ .h (rTup rInt) P1) (hp0 : ∀ a1, P1 a1 → (a1.length ≤ 100000)) {W0 : WX} {Pe : Addr → Prop} (hE : ExcOkG C W0 Γ Pe) (he : ∀ a1, P1 a1 → ∀ c, ((c = x_NoTree ∧ TM.isTree a1 = false)) → Pe c) : EvX C (tCallS (sp_drops_of x_NoTree) (WE W0) (tCons t1 tNil)) Γ (ResF C (rTup rInt) (fun b => ∃ a1, P1 a1 ∧ (b = TM.dropsOf (TM.flatF a1)) ∧ TM.isTree a1 = true)) := es_call1 h1 (fun a1 _p1 => hp0 a1 _p1) hE he
-- no callx
def t_drops_of (K : PySem.W.Frag) (E : XK) (x_NoTree : Addr) : TS :=
(tSeq (tAsg (tCall (sp_flattest x_NoTree) [] E (tCons (tVar 0) tNil)) (gName 1))
(tSeq (tAsg (tLst tNil) (gName 2))
(tSeq (tAsg (tLst tNil) (gName 3))
(tSeq (tFor (iTup K (tVar 1)) (gName 4)
(tSeq (tAsg (tLc (iList K (tVar 2)) (gName 6) (tTest (tOp (rI0 fun i j => .bl (decide (i ≤ j))) (tVar 6) (tVar 4))) (tVar 6) [6]) (gName 5))
(tSeq (tDrop (tBM K "list" rAppend (tVar 3) (tCons (tOp (rI0 fun i j => .int (i - j)) (tCB (rLenS K) (tCons (tVar 2) tNil)) (tCB (rLenS K) (tCons (tVar 5) tNil))) tNil)))
(tSeq (tAsg (tOp rCat (tVar 5) (tLst (tCons (tVar 4) tNil))) (gName 2))
tNext))))
(tSeq (tRet (tCB (rTupOf K) (tCons (tVar 3) tNil))) tNext)))))
theorem go_drops_of {K : PySem.W.Frag} {C : Cn} {D : Ends} {E : XK} (x_NoTree : Addr) (tree_ : (List Int)) (hp0 : tree_.length ≤ 100000) (hR : RetOk C D (rTup rInt) (fun b => b = TM.dropsOf (TM.flatF tree_) ∧ TM.isTree tree_ = true)) (hE : ExcOk C E (fun c => (c = x_NoTree ∧ TM.isTree tree_ = false))) :
    Go C (t_drops_of K E x_NoTree) D [.val .m (rTup rInt) tree_, .no, .no, .no, .no, .no, .no] := by
  unfold t_drops_of
  refine q_asg (i := 1) (ℓ := .g) (ev_call (calln_flattest (((ev_var (R := (rTup rInt)) (a := tree_) rfl)).toh) (by first | omega | assumption | (simp; done) | (constructor <;> omega) | (simp; omega)) hE (by intro c hc; exact hc))) (fun row1 hrow1 => ?_)
  obtain ⟨hrow1, hrow1_n⟩ := hrow1
  replace hrow1 : row1 = (TM.flatF tree_) := hrow1
  replace hrow1_n : TM.isTree tree_ = true := hrow1_n
  have htt := (show TM.isTree tree_ = true by assumption)
  have hfl := TM.isTree_len htt
  have hrl : (row1).length = (tree_).length := by rw [hrow1]; exact TM.flatF_len _
  refine q_asg (i := 2) (ℓ := .g) ((ev_new (ℓ := .g) (en_lstd (ℓ := .g) (R := rInt) em_nil))) (fun still_open2 hstill_open2 => ?_)
  replace hstill_open2 : still_open2 = ([] : List Int) := hstill_open2
  refine q_asgN (i := 3) (ℓ := .g) (en_lstd (ℓ := .g) (R := rInt) em_nil) (fun p4 found3 hfound3 => ?_)
  subst hfound3
  refine q_forD (j := 4) (σS := (List Int) × (List Int)) (fun s => [.val .m (rTup rInt) tree_, .val .g (rTup rInt) row1, .val .g (rList rInt) s.2, .own p4 .g rInt s.1, .no, .no, .no]) (fun (i : Nat) (s : (List Int) × (List Int)) => (s.2 = (TM.opens row1 i).map (TM.nb row1)) ∧ (s.1 = (List.range i).map fun k => ((TM.opens row1 k).length : Int) - TM.dep row1 k) ∧ (s.2.length ≤ i ∧ s.1.length = i)) (([] : List Int), still_open2) (ei_tup (b := true) (hc := (by intro _; decide)) (hl := (by intro _; decide)) (es_tup (ev_var (R := (rTup rInt)) (a := row1) rfl))) (by
        show (still_open2 = (TM.opens row1 0).map (TM.nb row1)) ∧ (([] : List Int) = (List.range 0).map fun k => ((TM.opens row1 k).length : Int) - TM.dep row1 k) ∧ (still_open2.length ≤ 0 ∧ ([] : List Int).length = 0)
        rw [hstill_open2]; exact ⟨rfl, rfl, Nat.le_refl _, rfl⟩) (LeG.k (LeG.k (LeG.k (LeG.k (LeG.f (LeG.f (LeG.f LeG.nil))))))) (fun C1 hc1 i1 x5 s hx5 hI0 => ?_) (fun s hI0 => ?_)
  · obtain ⟨found6, still_open7⟩ := s
    replace hI0 : (still_open7 = (TM.opens row1 i1).map (TM.nb row1)) ∧ (found6 = (List.range i1).map fun k => ((TM.opens row1 k).length : Int) - TM.dep row1 k) ∧ (still_open7.length ≤ i1 ∧ found6.length = i1) := hI0
    obtain ⟨hI0_0, hI0_1, hI0_2⟩ := hI0
    have hR := hR.ex hc1
    have hE := hE.ex hc1
    have hx5l := at_lt hx5
    refine q_asg (i := 5) (ℓ := .g) ((ev_new (ℓ := .g) (EvN.imp (en_filtd (ℓ' := .g) (fun c8 : Int => (c8 ≤ x5)) (fun c8 : Int => c8) (ei_list (b := false) (hc := (by intro h; exact absurd h (by decide))) (hl := (by intro h; exact absurd h (by decide))) (es_list (ev_var (R := (rList rInt)) (a := still_open7) rfl))) (by omega) (fun c8 hc9 => (ec_tst (ev_le (((ev_var (R := rInt) (a := c8) rfl)).toh) (((ev_var (R := rInt) (a := x5) rfl)).toh)))) (fun c8 hc9 hp10 => (ev_var (R := rInt) (a := c8) rfl))) (fun _ e => e.trans (List.map_id' _))))) (fun left11 hleft11 => ?_)
    replace hleft11 : left11 = (still_open7.filter (fun c8 : Int => decide (c8 ≤ x5))) := hleft11
    obtain ⟨hv1, hv2⟩ := TM.vals_turn (row := row1) (i := i1) (x := x5) hx5 hI0_0
    have hsl : (still_open7).length = (TM.opens row1 i1).length := by rw [hI0_0, List.length_map]
    rw [← hleft11] at hv1 hv2
    refine q_app (i := 3) (p := p4) rfl ((ev_sub ((ev_len (es_list (ev_var (R := (rList rInt)) (a := still_open7) rfl)))) ((ev_len (es_list (ev_var (R := (rList rInt)) (a := left11) rfl)))))) (by dsimp only; omega) (fun e12 he12 => ?_)
    replace he12 : e12 = (((still_open7).length : Int) - ((left11).length : Int)) := he12
    rw [he12]; clear he12 e12
    refine q_asg (i := 2) (ℓ := .g) ((ev_new (ℓ := .g) (en_catd (es_list (ev_var (R := (rList rInt)) (a := left11) rfl)) (es_list (ev_new (ℓ := .g) (en_lstd (ℓ := .g) (em_cons ((ev_var (R := rInt) (a := x5) rfl)) em_nil) (Nat.le_of_ble_eq_true rfl)))) (by rw [hv1]; have := TM.dep_le row1 i1; simp only [List.length_cons, List.length_nil]; omega)))) (fun still_open13 hstill_open13 => ?_)
    replace hstill_open13 : still_open13 = (left11 ++ [x5]) := hstill_open13
    refine q_next (hol_in ((found6 ++ [(((still_open7).length : Int) - ((left11).length : Int))]), still_open13) ?_ (LeG.k (LeG.k (LeG.k (LeG.k (LeG.f (LeG.f (LeG.f LeG.nil))))))))
    show (still_open13 = (TM.opens row1 (i1 + 1)).map (TM.nb row1)) ∧ ((found6 ++ [(((still_open7).length : Int) - ((left11).length : Int))]) = (List.range (i1 + 1)).map fun k => ((TM.opens row1 k).length : Int) - TM.dep row1 k) ∧ (still_open13.length ≤ (i1 + 1) ∧ (found6 ++ [(((still_open7).length : Int) - ((left11).length : Int))]).length = (i1 + 1))
    have hdl := TM.dep_le row1 i1
    rw [hstill_open13]
    refine ⟨hv2, ?_, by rw [List.length_append, hv1]; simp only [List.length_cons, List.length_nil]; omega, by rw [List.length_append, List.length_singleton]; omega⟩
    rw [hI0_1, List.range_succ, List.map_append, hsl, hv1]; rfl
  obtain ⟨found14, still_open15⟩ := s
  replace hI0 : (still_open15 = (TM.opens row1 (row1).length).map (TM.nb row1)) ∧ (found14 = (List.range (row1).length).map fun k => ((TM.opens row1 k).length : Int) - TM.dep row1 k) ∧ (still_open15.length ≤ (row1).length ∧ found14.length = (row1).length) := hI0
  obtain ⟨hI0_0, hI0_1, hI0_2⟩ := hI0
  show Go _ _ _ [.val .m (rTup rInt) tree_, .val .g (rTup rInt) row1, .val .g (rList rInt) still_open15, .own p4 .g rInt found14, .no, .no, .no]
  refine q_ret ((ev_tupL (ℓ := .g) (es_own (R := rInt) (l := found14) rfl))) hR (fun r16 hr16 => ?_)
  replace hr16 : r16 = found14 := hr16
  show r16 = TM.dropsOf (TM.flatF tree_) ∧ TM.isTree tree_ = true
  rw [hr16]
  refine ⟨?_, htt⟩
  rw [hI0_1, ← hrow1]; rfl
abbrev s_drops_of : Stmt := topS 14
theorem sc_drops_of : FnScope ["tree", "row", "still_open", "found", "number", "left", "other"] ["tree"] (defScope s_drops_of) := ⟨rfl, rfl, rfl, by decide +kernel, rfl, by decide +kernel, by decide +kernel⟩
theorem ok_drops_of {P : Program} {w : PySem.World} {K : PySem.W.Frag} {mg : Str → Option Value} {base : Heap} {x_NoTree : Addr} {f : Addr} {fd : FuncData} (F : Fun K "drops_of" "drops_of" s_drops_of f fd) {f_flattest : Addr} {d_flattest : FuncData} (c_flattest : Cal P w K mg base (L2.CX P w) 5 "flattest" ["tree"] (sp_flattest x_NoTree) f_flattest d_flattest) (m_len : mg "len" = none) (m_tuple : mg "tuple" = none) : FnOk P w K mg base (L2.CX P w) 6 f fd ["tree"] (sp_drops_of x_NoTree) := by
  have sc := sc_drops_of
  refine F.okX sc (fun vs H Q E h => ?_) (fun cdv A outer s H vs Q E hr h => ?_)
  · obtain ⟨a_, ha_, _⟩ := h
    obtain ⟨v1, _, rfl, _ha1, rfl⟩ := ha_
    rfl
  · obtain ⟨⟨tree_, _⟩, ⟨v1, _, rfl, ha1, rfl⟩, hp0, hR, hE⟩ := spF_open PIlaw (n := fun _ H' => Q .non H') h
    refine ⟨t_drops_of K E x_NoTree, ?_, go_drops_of (C := (Cn0 PIlaw H)) x_NoTree tree_ hp0 hR hE _ (W0 H []) (world_of (bok0 (PI := PIlaw) H) ⟨⟨by decide, v1, rfl, (rTup rInt).mono (mw0 (PI := PIlaw) H) ha1⟩, ⟨trivial, ⟨trivial, ⟨trivial, ⟨trivial, ⟨trivial, ⟨trivial, trivial⟩⟩⟩⟩⟩⟩⟩ rfl)⟩
    unfold t_drops_of
    exact (pss_cons (ps_set (i := 1) sc.nd rfl (Or.inl rfl) (pe_call c_flattest.ok (hr.mono (by decide)) (by rfl) c_flattest.g c_flattest.kp c_flattest.b .nil (passes_call (takes_of rfl rfl rfl rfl) (fun _ _ _ _ z => z)) (pa_cons (pv 0) pa_nil)))
(pss_cons (ps_set (i := 2) sc.nd rfl (Or.inl rfl) (pe_lst pa_nil))
(pss_cons (ps_set (i := 3) sc.nd rfl (Or.inl rfl) (pe_lst pa_nil))
(pss_cons (ps_for PassesOwn.leaving rfl (pi_tup (pv 1)) (pg_name (i := 4) sc.nd rfl (Or.inr rfl))
(pss_cons (ps_setLc (i := 5) (own := [("other", 6)]) (g := (gName 6)) rfl sc.nd rfl rfl (sw_true rfl rfl rfl (by decide +kernel)) (pi_list (pv 2)) (blkOk_by (own := [("other", 6)]) (N := ["tree", "row", "still_open", "found", "number", "left", "other"]) (sc := defScope s_drops_of) (by decide +kernel)) (fun _ _ _ _ _ => pg_name (i := 6) sc.nd rfl (Or.inl rfl)) (fun _ _ _ _ _ => pts_one (pt_cmpR op_le (pv 6) (pv 4) (nomark _))) (fun _ _ _ _ _ => (pv 6)))
(pss_cons (ps_expr (pe_bm PySem.F.plainAttrs_list PySem.F.slot_list_append PySem.F.type_list_append mt_append (pv 3) (pa_cons (pe_op op_sub (pe_callB call_len_seq (by rfl) m_len bt_len (pa_cons (pv 2) pa_nil)) (pe_callB call_len_seq (by rfl) m_len bt_len (pa_cons (pv 5) pa_nil))) pa_nil)))
(pss_cons (ps_set (i := 2) sc.nd rfl (Or.inl rfl) (pe_op op_cat (pv 5) (pe_lst (pa_cons (pv 4) pa_nil))))
pss_nil))))
(pss_cons (ps_ret (pe_callTy call_tuple_of (by rfl) m_tuple bt_tuple (pa_cons (pv 3) pa_nil))) pss_nil)))))
def sp_brackets_of (x_NoTree : Addr) : Sp := spF (aCons (rTup rInt) aNil) (fun (a : (List Int) × Unit) => (a.1.length ≤ 100000)) rStr (fun (a : (List Int) × Unit) b => b = TS_ (TM.brOf (TM.dropsOf (TM.flatF a.1))) ∧ TM.isTree a.1 = true) (fun (a : (List Int) × Unit) c => (c = x_NoTree ∧ TM.isTree a.1 = false))
theorem call_brackets_of {C : Cn} {Γ : List Ent} {E : XK} {x_NoTree : Addr} {t1 : TE} {a1 : (List Int)} (h1 : Ev C t1 Γ .h (rTup rInt) a1) (hp0 : a1.length ≤ 100000) {Pe : Addr → Prop} (hE : ExcOk C E Pe) (he : ∀ c, ((c = x_NoTree ∧ TM.isTree a1 = false)) → Pe c) : EvX C (tCall (sp_brackets_of x_NoTree) [] E (tCons t1 tNil)) Γ (ResF C rStr (fun b => b = TS_ (TM.brOf (TM.dropsOf (TM.flatF a1))))) := EvX.imp (ed_call1 h1 hp0 hE he) (fun _ h => h.1)
theorem calln_brackets_of {C : Cn} {Γ : List Ent} {E : XK} {x_NoTree : Addr} {t1 : TE} {a1 : (List Int)} (h1 : Ev C t1 Γ .h (rTup rInt) a1) (hp0 : a1.length ≤ 100000) {Pe : Addr → Prop} (hE : ExcOk C E Pe) (he : ∀ c, ((c = x_NoTree ∧ TM.isTree a1 = false)) → Pe c) : EvX C (tCall (sp_brackets_of x_NoTree) [] E (tCons t1 tNil)) Γ (ResF C rStr (fun b => b = TS_ (TM.brOf (TM.dropsOf (TM.flatF a1))) ∧ TM.isTree a1 = true)) := ed_call1 h1 hp0 hE he
theorem callsn_brackets_of {C : Cn} {Γ : List Ent} {x_NoTree : Addr} {t1 : TE} {a1 : (List Int)} (h1 : Ev C t1 Γ .h (rTup rInt) a1) (hp0 : a1.length ≤ 100000) {W0 : WX} {Pe : Addr → Prop} (hE : ExcOkG C W0 Γ Pe) (he : ∀ c, ((c = x_NoTree ∧ TM.isTree a1 = false)) → Pe c) : EvX C (tCallS (sp_brackets_of x_NoTree) (WE W0) (tCons t1 tNil)) Γ (ResF C rStr (fun b => b = TS_ (TM.brOf (TM.dropsOf (TM.flatF a1))) ∧ TM.isTree a1 = true)) := esd_call1 h1 hp0 hE he
theorem calls_brackets_of {C : Cn} {Γ : List Ent} {x_NoTree : Addr} {t1 : TE} {a1 : (List Int)} (h1 : Ev C t1 Γ .h (rTup rInt) a1) (hp0 : a1.length ≤ 100000) {W0 : WX} {Pe : Addr → Prop} (hE : ExcOkG C W0 Γ Pe) (he : ∀ c, ((c = x_NoTree ∧ TM.isTree a1 = false)) → Pe c) : EvX C (tCallS (sp_brackets_of x_NoTree) (WE W0) (tCons t1 tNil)) Γ (ResF C rStr (fun b => b = TS_ (TM.brOf (TM.dropsOf (TM.flatF a1))))) := EvX.imp (esd_call1 h1 hp0 hE he) (fun _ h => h.1)
theorem callsx_brackets_of {C : Cn} {Γ : List Ent} {x_NoTree : Addr} {t1 : TE} {P1 : (List Int) → Prop} (h1 : EvP C t1 Γ .h (rTup rInt) P1) (hp0 : ∀ a1, P1 a1 → (a1.length ≤ 100000)) {W0 : WX} {Pe : Addr → Prop} (hE : ExcOkG C W0 Γ Pe) (he : ∀ a1, P1 a1 → ∀ c, ((c = x_NoTree ∧ TM.isTree a1 = false)) → Pe c) : EvX C (tCallS (sp_brackets_of x_NoTree) (WE W0) (tCons t1 tNil)) Γ (ResF C rStr (fun b => ∃ a1, P1 a1 ∧ (b = TS_ (TM.brOf (TM.dropsOf (TM.flatF a1)))) ∧ TM.isTree a1 = true)) := es_call1 h1 (fun a1 _p1 => hp0 a1 _p1) hE he
-- no callx
def t_brackets_of (K : PySem.W.Frag) (E : XK) (x_NoTree : Addr) : TS :=
(tSeq (tAsg (tCall (sp_drops_of x_NoTree) [] E (tCons (tVar 0) tNil)) (gName 1))
(tSeq (tRet (tOp rAddS_ (tM1 (rJoin K) (tC (.str "")) (tLc (iTup K (tVar 1)) (gName 2) tYes (tOp rAddS_ (tOp rMulS (tC (.str ")")) (tVar 2)) (tC (.str "("))) [2])) (tOp rMulS (tC (.str ")")) (tOp (rI0 fun i j => .int (i - j)) (tCB (rLenS K) (tCons (tVar 1) tNil)) (tCB (rSumA K) (tCons (tVar 1) tNil)))))) tNext))
theorem go_brackets_of {K : PySem.W.Frag} {C : Cn} {D : Ends} {E : XK} (x_NoTree : Addr) (tree_ : (List Int)) (hp0 : tree_.length ≤ 100000) (hR : RetOk C D rStr (fun b => b = TS_ (TM.brOf (TM.dropsOf (TM.flatF tree_))) ∧ TM.isTree tree_ = true)) (hE : ExcOk C E (fun c => (c = x_NoTree ∧ TM.isTree tree_ = false))) :
    Go C (t_brackets_of K E x_NoTree) D [.val .m (rTup rInt) tree_, .no, .no] := by
  unfold t_brackets_of
  refine q_asg (i := 1) (ℓ := .g) (ev_call (calln_drops_of (((ev_var (R := (rTup rInt)) (a := tree_) rfl)).toh) (by first | omega | assumption | (simp; done) | (constructor <;> omega) | (simp; omega)) hE (by intro c hc; exact hc))) (fun drops1 hdrops1 => ?_)
  obtain ⟨hdrops1, hdrops1_n⟩ := hdrops1
  replace hdrops1 : drops1 = (TM.dropsOf (TM.flatF tree_)) := hdrops1
  replace hdrops1_n : TM.isTree tree_ = true := hdrops1_n
  have htt := (show TM.isTree tree_ = true by assumption)
  have hfl := TM.isTree_len htt
  have hdl : (drops1).length = (tree_).length := by rw [hdrops1, TM.dropsOf_len, TM.flatF_len]
  obtain ⟨hsm, hs0, hs1⟩ := TM.drops_small (d := drops1) (by rw [hdrops1]; exact TM.dropsOf_ok _)
  refine q_ret ((ev_addS ((ev_join (ev_str) (EvS.fl fl_str (es_list (ev_new (ℓ := .g) (en_mapd (ℓ' := .g) (fun c2 : Int => ((smul (")" : Str) c2) ++ ("(" : Str))) (ei_tup (b := false) (hc := (by intro h; exact absurd h (by decide))) (hl := (by intro h; exact absurd h (by decide))) (es_tup (ev_var (R := (rTup rInt)) (a := drops1) rfl))) (by omega) (fun c2 hc3 => (ev_addS ((ev_mulS (ev_str) (((ev_var (R := rInt) (a := c2) rfl)).toh) (by first | (have := hsm _ (by assumption); exact ⟨by rw [TM.br_len1]; omega, by omega, by omega⟩) | exact ⟨by rw [TM.br_len1]; omega, by omega, by omega⟩))) (ev_str) (by have := hsm _ (by assumption); rw [TM.smul_len, TM.br_len2]; omega))))))) (by exact TM.join_small (fun x hx => by have := hsm x hx; omega) (by omega)))) ((ev_mulS (ev_str) ((ev_sub ((ev_len (es_tup (ev_var (R := (rTup rInt)) (a := drops1) rfl)))) ((ev_sumA (EvS.fl fl_int (es_tup (ev_var (R := (rTup rInt)) (a := drops1) rfl))))))) (by first | (have := hsm _ (by assumption); exact ⟨by rw [TM.br_len1]; omega, by omega, by omega⟩) | exact ⟨by rw [TM.br_len1]; omega, by omega, by omega⟩))) (by have := TM.join_len (d := drops1) (fun x hx => by have := hsm x hx; omega) (by omega); first | (rw [TM.smul_len]; omega) | (rw [h_none, TM.smul_len]; omega)))) hR (fun r5 hr5 => ?_)
  replace hr5 : r5 = ((Str.join ("" : Str) (drops1.map (fun c2 : Int => ((smul (")" : Str) c2) ++ ("(" : Str))))) ++ (smul (")" : Str) (((drops1).length : Int) - ((drops1).sum)))) := hr5
  show r5 = TS_ (TM.brOf (TM.dropsOf (TM.flatF tree_))) ∧ TM.isTree tree_ = true
  rw [hr5]
  exact ⟨by rw [TM.br_text, hdrops1], htt⟩
abbrev s_brackets_of : Stmt := topS 15
theorem sc_brackets_of : FnScope ["tree", "drops", "many"] ["tree"] (defScope s_brackets_of) := ⟨rfl, rfl, rfl, by decide +kernel, rfl, by decide +kernel, by decide +kernel⟩
theorem ok_brackets_of {P : Program} {w : PySem.World} {K : PySem.W.Frag} {mg : Str → Option Value} {base : Heap} {x_NoTree : Addr} {f : Addr} {fd : FuncData} (F : Fun K "brackets_of" "brackets_of" s_brackets_of f fd) {f_drops_of : Addr} {d_drops_of : FuncData} (c_drops_of : Cal P w K mg base (L2.CX P w) 6 "drops_of" ["tree"] (sp_drops_of x_NoTree) f_drops_of d_drops_of) (m_len : mg "len" = none) (m_sum : mg "sum" = none) : FnOk P w K mg base (L2.CX P w) 7 f fd ["tree"] (sp_brackets_of x_NoTree) := by
  have sc := sc_brackets_of
  refine F.okX sc (fun vs H Q E h => ?_) (fun cdv A outer s H vs Q E hr h => ?_)
  · obtain ⟨a_, ha_, _⟩ := h
    obtain ⟨v1, _, rfl, _ha1, rfl⟩ := ha_
    rfl
  · obtain ⟨⟨tree_, _⟩, ⟨v1, _, rfl, ha1, rfl⟩, hp0, hR, hE⟩ := spF_open PIlaw (n := fun _ H' => Q .non H') h
    refine ⟨t_brackets_of K E x_NoTree, ?_, go_brackets_of (C := (Cn0 PIlaw H)) x_NoTree tree_ hp0 hR hE _ (W0 H []) (world_of (bok0 (PI := PIlaw) H) ⟨⟨by decide, v1, rfl, (rTup rInt).mono (mw0 (PI := PIlaw) H) ha1⟩, ⟨trivial, ⟨trivial, trivial⟩⟩⟩ rfl)⟩
    unfold t_brackets_of
    exact (pss_cons (ps_set (i := 1) sc.nd rfl (Or.inl rfl) (pe_call c_drops_of.ok (hr.mono (by decide)) (by rfl) c_drops_of.g c_drops_of.kp c_drops_of.b .nil (passes_call (takes_of rfl rfl rfl rfl) (fun _ _ _ _ z => z)) (pa_cons (pv 0) pa_nil)))
(pss_cons (ps_ret (pe_op op_add_str (pe_join pe_str (pe_lc (own := [("many", 2)]) (g := (gName 2)) rfl sc.nd (pi_tup (pv 1)) (blkOk_by (own := [("many", 2)]) (N := ["tree", "drops", "many"]) (sc := defScope s_brackets_of) (by decide +kernel)) (fun _ _ _ _ _ => pg_name (i := 2) sc.nd rfl (Or.inl rfl)) (fun _ _ _ _ _ => pts_nil) (fun _ _ _ _ _ => (pe_op op_add_str (pe_op op_mulS pe_str (pv 2)) pe_str)))) (pe_op op_mulS pe_str (pe_op op_sub (pe_callB call_len_seq (by rfl) m_len bt_len (pa_cons (pv 1) pa_nil)) (pe_callB (cr_sumA rfl) (by rfl) m_sum bt_sum (pa_cons (pv 1) pa_nil)))))) pss_nil))
theorem hv_law_pot (xs : List V) (l : List Int) (h : ∃ x, l = [x]) (h2 : ∀ H, All2 (rInt.is H) xs l) : PIlaw (.lst xs) := by
  obtain ⟨x, rfl⟩ := h
  have h3 := h2 fun _ => none
  match xs, h3 with
  | [v], h3 => exact ⟨x, by rw [show v = .int x from h3.1]⟩
def sp_law (K : PySem.W.Frag) : Sp := spF (aCons (rScr K) aNil) (fun (a : (List Int) × Unit) => (a.1.length ≤ 63)) rBool (fun (a : (List Int) × Unit) b => b = true) (fun _ _ => False)
theorem call_law {C : Cn} {Γ : List Ent} {E : XK} {K : PySem.W.Frag} {t1 : TE} {a1 : (List Int)} (h1 : Ev C t1 Γ .h (rScr K) a1) (hp0 : a1.length ≤ 63) : EvX C (tCall (sp_law K) [] E (tCons t1 tNil)) Γ (ResF C rBool (fun (b : Bool) => b = true)) := ed_call1 h1 hp0 exc0 (fun _ z => z)
theorem callx_law {C : Cn} {Γ : List Ent} {E : XK} {K : PySem.W.Frag} {t1 : TE} {P1 : (List Int) → Prop} (h1 : EvP C t1 Γ .h (rScr K) P1) (hp0 : ∀ a1, P1 a1 → (a1.length ≤ 63)) : EvX C (tCall (sp_law K) [] E (tCons t1 tNil)) Γ (ResF C rBool (fun (b : Bool) => ∃ a1, P1 a1 ∧ (b = true))) := ex_call1 h1 (fun a1 _p1 => hp0 a1 _p1) exc0 (fun a1 _p1 => fun _ z => z)
def t_law (K : PySem.W.Frag) (E : XK) (x_NoTelling : Addr) (x_NoTree : Addr) : TS :=
(tSeq (tAsg (tCall sp_law_take [] E0 (tCons (tCall (sp_law_pot K) [] E0 (tCons (tVar 0) (tCons (tC (.int 0)) tNil))) (tCons (tC (.int 6)) tNil))) (gName 1))
(tSeq (tIfS (tNot (tB (tCall sp_law_counted [] E0 (tCons (tVar 1) tNil)))) (tSeq (tRet (tC (.bl false))) tNext) tNext)
(tSeq (tFor (iRng1 (tCons (tCB (fun xs H Q => ∃ i j, xs = [.int i, .int j] ∧ Q (.int (if j > i then j else i)) H) (tCons (tC (.int 1)) (tCons (tCB (fun xs H Q => ∃ i j, xs = [.int i, .int j] ∧ Q (.int (if j < i then j else i)) H) (tCons (tCB (rLenS K) (tCons (tVar 0) tNil)) (tCons (tC (.int 40)) tNil))) tNil))) tNil)) (gName 2)
(tSeq (tAsg (tCall (sp_law_pot K) [] E0 (tCons (tVar 0) (tCons (tVar 2) tNil))) (gName 3))
(tSeq (tAsg (tCall sp_law_text [] E0 (tCons (tVar 3) tNil)) (gName 4))
(tSeq (tAsg (tCall sp_law_text [] E0 (tCons (tVar 3) tNil)) (gName 5))
(tSeq (tIfS (tOr (tTest (tOp (rNeD K) (tOp (rEqD K) (tCall (sp_by_brackets x_NoTelling) [] E0 (tCons (tVar 4) tNil)) (tCall (sp_by_brackets x_NoTelling) [] E0 (tCons (tVar 5) tNil))) (tOp rEq (tVar 4) (tVar 5)))) (tTest (tOp rNe (tCall (sp_brackets_of x_NoTree) [] E0 (tCons (tCall (sp_by_brackets x_NoTelling) [] E0 (tCons (tVar 4) tNil)) tNil)) (tVar 4)))) (tSeq (tRet (tC (.bl false))) tNext) tNext)
(tSeq (tIfS (tTest (tOp rNe (tCall (sp_brackets_of x_NoTree) [] E0 (tCons (tCall (sp_by_brackets x_NoTelling) [] E0 (tCons (tVar 5) tNil)) tNil)) (tVar 5))) (tSeq (tRet (tC (.bl false))) tNext) tNext)
tNext))))))
(tSeq (tRet (tC (.bl true))) tNext))))
theorem go_law {K : PySem.W.Frag} {C : Cn} {D : Ends} {E : XK} (x_NoTelling : Addr) (x_NoTree : Addr) (script_ : (List Int)) (hp0 : script_.length ≤ 63) (hR : RetOk C D rBool (fun (b : Bool) => b = true)) (hPI : C.PI = PIlaw) :
    Go C (t_law K E x_NoTelling x_NoTree) D [.val .m (rScr K) script_, .no, .no, .no, .no, .no] := by
  unfold t_law
  refine q_asg (i := 1) (ℓ := .g) (ev_call (voln_law_take fl_int (call_law_pot (((ev_var (R := (rScr K)) (a := script_) rfl)).toh) (ev_int) (by
        first | omega | assumption | (simp; done) | (constructor <;> omega) | (simp; omega))) (hv_law_pot) (ev_int) (by
        first | omega | assumption | (simp; done) | (constructor <;> omega) | (simp; omega)))) (fun many4 hmany4 => ?_)
  replace hmany4 : 0 ≤ many4 ∧ many4 < (6 : Int) := hmany4
  refine q_ifT (ec_not (ec_valB (((ev_call (call_law_counted (((ev_var (R := rInt) (a := many4) rfl)).toh) (by first | omega | assumption | (simp; done) | (constructor <;> omega) | (simp; omega))))).toh))) (fun h5 => ?_) (fun h5 => ?_)
  · refine q_ret (ev_bl) hR (fun r6 hr6 => ?_)
    replace hr6 : r6 = false := hr6
    show r6 = true
    (try rw [hr6])
    exfalso
    first
    | (have h := (by assumption : ¬ (_ = _) ∨ ¬ (_ = _))
       rcases h with h | h
       · exact h b5_
       · exact h b1_.2.2)
    | exact (by assumption : ¬ TS_ _ = _) b2_.2.2
    | contradiction
  refine q_forD (j := 2) (σS := Unit) (fun s => [.val .m (rScr K) script_, .val .g rInt many4, .no, .no, .no, .no]) (fun (i : Nat) (s : Unit) => True) () (ei_rg1d (b := true) (ℓ := .g) ((ev_max2 (ev_int) ((ev_min2 ((ev_lenScr ((ev_var (R := (rScr K)) (a := script_) rfl)).toh)) (ev_int))))) (by first | omega | assumption | (simp; done) | (constructor <;> omega) | (simp; omega))) trivial (LeG.k (LeG.k (LeG.f (LeG.f (LeG.f (LeG.f LeG.nil)))))) (fun C1 hc1 i1 x7 s hx7 hI0 => ?_) (fun s hI0 => ?_)
  · have hR := hR.ex hc1
    have hPI := hc1.pi.trans hPI
    have hx7l := at_lt hx7
    have hx7r := rg_at hx7
    rw [rg_len] at hx7l
    refine q_asgV (i := 3) fl_int (call_law_pot (((ev_var (R := (rScr K)) (a := script_) rfl)).toh) (((ev_var (R := rInt) (a := x7) rfl)).toh) (by
          first | omega | assumption | (simp; done) | (constructor <;> omega) | (simp; omega))) (hPI ▸ hv_law_pot) (fun p10 hnt_p10 => ?_)
    refine q_asg (i := 4) (ℓ := .g) (ev_call (vol_law_text (i := 3) rfl hPI  )) (fun one11 hone11 => ?_)
    replace hone11 : TM.areBr (tl one11) = true ∧ one11.length ≤ 16 := hone11
    refine q_asg (i := 5) (ℓ := .g) (ev_call (vol_law_text (i := 3) rfl hPI  )) (fun other12 hother12 => ?_)
    replace hother12 : TM.areBr (tl other12) = true ∧ other12.length ≤ 16 := hother12
    have b1_ := TM.br_some (s := one11) (fun z => TM.br_none z (And.left (by assumption)))
    have b2_ := TM.br_some (s := other12) (fun z => TM.br_none z (And.left (by assumption)))
    have b3_ := (TM.isTree_iff.mp b1_.2.1).1
    have b4_ := (TM.isTree_iff.mp b2_.2.1).1
    have b5_ : decide (oget (TM.brT (tl one11)) = oget (TM.brT (tl other12))) = decide (one11 = other12) := decide_eq_decide.mpr ⟨fun h => by rw [← b1_.2.2, h, b2_.2.2], fun h => by rw [h]⟩
    refine q_ifT (ec_or (ec_tstN (ev_neD eqr_bool (Nat.le_of_ble_eq_true rfl) ((ev_eqD (eqr_tup eqr_int) (Nat.le_of_ble_eq_true rfl) (((ev_call (call_by_brackets (((ev_var (R := rStr) (a := one11) rfl)).toh) (by have z_ := (by assumption : TM.areBr _ = true ∧ _); omega) exc0 (by rintro c ⟨_, z⟩; exact TM.br_none z (And.left (by assumption)))))).toh) (((ev_call (call_by_brackets (((ev_var (R := rStr) (a := other12) rfl)).toh) (by have z_ := (by assumption : TM.areBr _ = true ∧ _); omega) exc0 (by rintro c ⟨_, z⟩; exact TM.br_none z (And.left (by assumption)))))).toh))) ((ev_eqS (((ev_var (R := rStr) (a := one11) rfl)).toh) (((ev_var (R := rStr) (a := other12) rfl)).toh))))) (fun hb13 => (ec_tstN (ev_neS (((ev_call (call_brackets_of (((ev_call (call_by_brackets (((ev_var (R := rStr) (a := one11) rfl)).toh) (by have z_ := (by assumption : TM.areBr _ = true ∧ _); omega) exc0 (by rintro c ⟨_, z⟩; exact TM.br_none z (And.left (by assumption)))))).toh) (by omega) exc0 (by rintro c ⟨_, z⟩; rw [b1_.2.1] at z; cases z)))).toh) (((ev_var (R := rStr) (a := one11) rfl)).toh))))) (fun h15 => ?_) (fun h15 => ?_)
    · refine q_ret (ev_bl) hR (fun r16 hr16 => ?_)
      replace hr16 : r16 = false := hr16
      show r16 = true
      (try rw [hr16])
      exfalso
      first
      | (have h := (by assumption : ¬ (_ = _) ∨ ¬ (_ = _))
         rcases h with h | h
         · exact h b5_
         · exact h b1_.2.2)
      | exact (by assumption : ¬ TS_ _ = _) b2_.2.2
      | contradiction
    refine q_ifT (ec_tstN (ev_neS (((ev_call (call_brackets_of (((ev_call (call_by_brackets (((ev_var (R := rStr) (a := other12) rfl)).toh) (by have z_ := (by assumption : TM.areBr _ = true ∧ _); omega) exc0 (by rintro c ⟨_, z⟩; exact TM.br_none z (And.left (by assumption)))))).toh) (by omega) exc0 (by rintro c ⟨_, z⟩; rw [b2_.2.1] at z; cases z)))).toh) (((ev_var (R := rStr) (a := other12) rfl)).toh))) (fun h17 => ?_) (fun h17 => ?_)
    · refine q_ret (ev_bl) hR (fun r18 hr18 => ?_)
      replace hr18 : r18 = false := hr18
      show r18 = true
      (try rw [hr18])
      exfalso
      first
      | (have h := (by assumption : ¬ (_ = _) ∨ ¬ (_ = _))
         rcases h with h | h
         · exact h b5_
         · exact h b1_.2.2)
      | exact (by assumption : ¬ TS_ _ = _) b2_.2.2
      | contradiction
    refine q_next (hol_in () ?_ (LeG.k (LeG.k (LeG.f (LeG.f (LeG.f (LeG.f LeG.nil)))))))
    show True
    trivial
  show Go _ _ _ [.val .m (rScr K) script_, .val .g rInt many4, .no, .no, .no, .no]
  refine q_ret (ev_bl) hR (fun r19 hr19 => ?_)
  replace hr19 : r19 = true := hr19
  show r19 = true
  (try rw [hr19])
  all_goals (first | rfl | assumption | omega | (simp; done))
abbrev s_law : Stmt := topS 30
theorem sc_law : FnScope ["script", "many", "k", "pot", "one", "other"] ["script"] (defScope s_law) := ⟨rfl, rfl, rfl, by decide +kernel, rfl, by decide +kernel, by decide +kernel⟩
theorem ok_law {P : Program} {w : PySem.World} {K : PySem.W.Frag} {mg : Str → Option Value} {base : Heap} {x_NoTelling : Addr} {x_NoTree : Addr} {f : Addr} {fd : FuncData} (F : Fun K "law" "law" s_law f fd) {f_law_pot : Addr} {d_law_pot : FuncData} (c_law_pot : Cal P w K mg base CX0 1 "_law_pot" ["script", "k"] (sp_law_pot K) f_law_pot d_law_pot) {f_law_take : Addr} {d_law_take : FuncData} (c_law_take : Cal P w K mg base CX0 1 "_law_take" ["pot", "many"] sp_law_take f_law_take d_law_take) {f_law_counted : Addr} {d_law_counted : FuncData} (c_law_counted : Cal P w K mg base CX0 4 "_law_counted" ["many"] sp_law_counted f_law_counted d_law_counted) {f_law_text : Addr} {d_law_text : FuncData} (c_law_text : Cal P w K mg base CX0 2 "_law_text" ["pot"] sp_law_text f_law_text d_law_text) {f_by_brackets : Addr} {d_by_brackets : FuncData} (c_by_brackets : Cal P w K mg base (L2.CX P w) 2 "by_brackets" ["text"] (sp_by_brackets x_NoTelling) f_by_brackets d_by_brackets) {f_brackets_of : Addr} {d_brackets_of : FuncData} (c_brackets_of : Cal P w K mg base (L2.CX P w) 7 "brackets_of" ["tree"] (sp_brackets_of x_NoTree) f_brackets_of d_brackets_of) (m_len : mg "len" = none) (m_max : mg "max" = none) (m_min : mg "min" = none) (m_range : mg "range" = none) : FnOk P w K mg base CX0 8 f fd ["script"] (sp_law K) := by
  have sc := sc_law
  refine F.ok sc (fun vs H Q E h => ?_) (fun cdv A outer s H vs Q E hr h => ?_)
  · obtain ⟨a_, ha_, _⟩ := h
    obtain ⟨v1, _, rfl, _ha1, rfl⟩ := ha_
    rfl
  · obtain ⟨⟨script_, _⟩, ⟨v1, _, rfl, ha1, rfl⟩, hp0, hR, hE⟩ := spF_open PIlaw (n := fun _ H' => Q .non H') h
    refine ⟨t_law K E x_NoTelling x_NoTree, ?_, go_law (C := (Cn0 PIlaw H)) x_NoTelling x_NoTree script_ hp0 hR rfl _ (W0 H []) (world_of (bok0 (PI := PIlaw) H) ⟨⟨by decide, v1, rfl, (rScr K).mono (mw0 (PI := PIlaw) H) ha1⟩, ⟨trivial, ⟨trivial, ⟨trivial, ⟨trivial, ⟨trivial, trivial⟩⟩⟩⟩⟩⟩ rfl)⟩
    unfold t_law
    exact (pss_cons (ps_set (i := 1) sc.nd rfl (Or.inl rfl) (pe_call c_law_take.ok (hr.mono (by decide)) (by rfl) c_law_take.g c_law_take.kp c_law_take.b .nil pass0 (pa_cons (pe_call c_law_pot.ok (hr.mono (by decide)) (by rfl) c_law_pot.g c_law_pot.kp c_law_pot.b .nil pass0 (pa_cons (pv 0) (pa_cons pe_int pa_nil))) (pa_cons pe_int pa_nil))))
(pss_cons (ps_if (pt_not (pt_val (pe_call c_law_counted.ok (hr.mono (by decide)) (by rfl) c_law_counted.g c_law_counted.kp c_law_counted.b .nil pass0 (pa_cons (pv 1) pa_nil)))) (pss_cons (ps_ret pe_bl) pss_nil) pss_nil)
(pss_cons (ps_for PassesOwn.never rfl (pi_range1 rfl m_range (pa_cons (pe_callB (call_max2 rfl) (by rfl) m_max (by decide +kernel) (pa_cons pe_int (pa_cons (pe_callB (call_min2 rfl) (by rfl) m_min (by decide +kernel) (pa_cons (pe_callB call_len_seq (by rfl) m_len bt_len (pa_cons (pv 0) pa_nil)) (pa_cons pe_int pa_nil))) pa_nil))) pa_nil)) (pg_name (i := 2) sc.nd rfl (Or.inl rfl))
(pss_cons (ps_set (i := 3) sc.nd rfl (Or.inl rfl) (pe_call c_law_pot.ok (hr.mono (by decide)) (by rfl) c_law_pot.g c_law_pot.kp c_law_pot.b .nil pass0 (pa_cons (pv 0) (pa_cons (pv 2) pa_nil))))
(pss_cons (ps_set (i := 4) sc.nd rfl (Or.inl rfl) (pe_call c_law_text.ok (hr.mono (by decide)) (by rfl) c_law_text.g c_law_text.kp c_law_text.b .nil pass0 (pa_cons (pv 3) pa_nil)))
(pss_cons (ps_set (i := 5) sc.nd rfl (Or.inl rfl) (pe_call c_law_text.ok (hr.mono (by decide)) (by rfl) c_law_text.g c_law_text.kp c_law_text.b .nil pass0 (pa_cons (pv 3) pa_nil)))
(pss_cons (ps_if (PW.pt (pw_or (pt_cmpR (op_neD (roomUn hr)) (pe_cmpR (op_eqD (roomUn hr)) (pe_call c_by_brackets.ok (hr.mono (by decide)) (by rfl) c_by_brackets.g c_by_brackets.kp c_by_brackets.b .nil passL (pa_cons (pv 4) pa_nil)) (pe_call c_by_brackets.ok (hr.mono (by decide)) (by rfl) c_by_brackets.g c_by_brackets.kp c_by_brackets.b .nil passL (pa_cons (pv 5) pa_nil)) (nomark _)) (pe_cmpR op_eq (pv 4) (pv 5) (nomark _)) (nomark _)) (pw_or1 (pt_cmpR op_ne (pe_call c_brackets_of.ok (hr.mono (by decide)) (by rfl) c_brackets_of.g c_brackets_of.kp c_brackets_of.b .nil passL (pa_cons (pe_call c_by_brackets.ok (hr.mono (by decide)) (by rfl) c_by_brackets.g c_by_brackets.kp c_by_brackets.b .nil passL (pa_cons (pv 4) pa_nil)) pa_nil)) (pv 4) (nomark _))))) (pss_cons (ps_ret pe_bl) pss_nil) pss_nil)
(pss_cons (ps_if (pt_cmpR op_ne (pe_call c_brackets_of.ok (hr.mono (by decide)) (by rfl) c_brackets_of.g c_brackets_of.kp c_brackets_of.b .nil passL (pa_cons (pe_call c_by_brackets.ok (hr.mono (by decide)) (by rfl) c_by_brackets.g c_by_brackets.kp c_by_brackets.b .nil passL (pa_cons (pv 5) pa_nil)) pa_nil)) (pv 5) (nomark _)) (pss_cons (ps_ret pe_bl) pss_nil) pss_nil)
pss_nil))))))
(pss_cons (ps_ret pe_bl) pss_nil))))
theorem all_mk {l : PySem.W.OpenLaw} {w : PySem.World} {K : PySem.W.Frag} {h : Heap} {mg : Str → Option Value} {fa : Addr} (X : K.In h) (G : h.Ns mainGlobals mg) (hfa : mg "law" = some (.ref fa))
    {f0 : Addr} {od0 an0 : Option Addr} {sl0 : Array (Option Value)} {oc0 kV0 dc0 pm0 cd0 ct0 : Value}
    (a0 : PySem.W.nsIn K mainGlobals "_law_take" = some (some (.ref f0))) (l0 : K.lookup f0 = some ⟨oc0, od0, .func (PySem.W.fnOf "_law_take" "_law_take" (defArgs s_law_take) (defBody s_law_take) (defScope s_law_take) .none kV0 dc0 pm0 an0 cd0 ct0), sl0⟩) (c0 : PySem.W.codeIn K cd0 "_law_take" = true) (k0 : PySem.W.keepIn K (.ref f0) = true)
    {f1 : Addr} {od1 an1 : Option Addr} {sl1 : Array (Option Value)} {oc1 kV1 dc1 pm1 cd1 ct1 : Value}
    (a1 : PySem.W.nsIn K mainGlobals "_law_pot" = some (some (.ref f1))) (l1 : K.lookup f1 = some ⟨oc1, od1, .func (PySem.W.fnOf "_law_pot" "_law_pot" (defArgs s_law_pot) (defBody s_law_pot) (defScope s_law_pot) .none kV1 dc1 pm1 an1 cd1 ct1), sl1⟩) (c1 : PySem.W.codeIn K cd1 "_law_pot" = true) (k1 : PySem.W.keepIn K (.ref f1) = true)
    {f2 : Addr} {od2 an2 : Option Addr} {sl2 : Array (Option Value)} {oc2 kV2 dc2 pm2 cd2 ct2 : Value}
    (a2 : PySem.W.nsIn K mainGlobals "_law_many" = some (some (.ref f2))) (l2 : K.lookup f2 = some ⟨oc2, od2, .func (PySem.W.fnOf "_law_many" "_law_many" (defArgs s_law_many) (defBody s_law_many) (defScope s_law_many) .none kV2 dc2 pm2 an2 cd2 ct2), sl2⟩) (c2 : PySem.W.codeIn K cd2 "_law_many" = true) (k2 : PySem.W.keepIn K (.ref f2) = true)
    {f3 : Addr} {od3 an3 : Option Addr} {sl3 : Array (Option Value)} {oc3 kV3 dc3 pm3 cd3 ct3 : Value}
    (a3 : PySem.W.nsIn K mainGlobals "_law_digits" = some (some (.ref f3))) (l3 : K.lookup f3 = some ⟨oc3, od3, .func (PySem.W.fnOf "_law_digits" "_law_digits" (defArgs s_law_digits) (defBody s_law_digits) (defScope s_law_digits) .none kV3 dc3 pm3 an3 cd3 ct3), sl3⟩) (c3 : PySem.W.codeIn K cd3 "_law_digits" = true) (k3 : PySem.W.keepIn K (.ref f3) = true)
    {f4 : Addr} {od4 an4 : Option Addr} {sl4 : Array (Option Value)} {oc4 kV4 dc4 pm4 cd4 ct4 : Value}
    (a4 : PySem.W.nsIn K mainGlobals "hung" = some (some (.ref f4))) (l4 : K.lookup f4 = some ⟨oc4, od4, .func (PySem.W.fnOf "hung" "hung" (defArgs s_hung) (defBody s_hung) (defScope s_hung) .none kV4 dc4 pm4 an4 cd4 ct4), sl4⟩) (c4 : PySem.W.codeIn K cd4 "hung" = true) (k4 : PySem.W.keepIn K (.ref f4) = true)
    {f5 : Addr} {od5 an5 : Option Addr} {sl5 : Array (Option Value)} {oc5 kV5 dc5 pm5 cd5 ct5 : Value}
    (a5 : PySem.W.nsIn K mainGlobals "by_drops" = some (some (.ref f5))) (l5 : K.lookup f5 = some ⟨oc5, od5, .func (PySem.W.fnOf "by_drops" "by_drops" (defArgs s_by_drops) (defBody s_by_drops) (defScope s_by_drops) .none kV5 dc5 pm5 an5 cd5 ct5), sl5⟩) (c5 : PySem.W.codeIn K cd5 "by_drops" = true) (k5 : PySem.W.keepIn K (.ref f5) = true)
    {f6 : Addr} {od6 an6 : Option Addr} {sl6 : Array (Option Value)} {oc6 kV6 dc6 pm6 cd6 ct6 : Value}
    (a6 : PySem.W.nsIn K mainGlobals "drops_by_distances" = some (some (.ref f6))) (l6 : K.lookup f6 = some ⟨oc6, od6, .func (PySem.W.fnOf "drops_by_distances" "drops_by_distances" (defArgs s_drops_by_distances) (defBody s_drops_by_distances) (defScope s_drops_by_distances) .none kV6 dc6 pm6 an6 cd6 ct6), sl6⟩) (c6 : PySem.W.codeIn K cd6 "drops_by_distances" = true) (k6 : PySem.W.keepIn K (.ref f6) = true)
    {f7 : Addr} {od7 an7 : Option Addr} {sl7 : Array (Option Value)} {oc7 kV7 dc7 pm7 cd7 ct7 : Value}
    (a7 : PySem.W.nsIn K mainGlobals "by_distances" = some (some (.ref f7))) (l7 : K.lookup f7 = some ⟨oc7, od7, .func (PySem.W.fnOf "by_distances" "by_distances" (defArgs s_by_distances) (defBody s_by_distances) (defScope s_by_distances) .none kV7 dc7 pm7 an7 cd7 ct7), sl7⟩) (c7 : PySem.W.codeIn K cd7 "by_distances" = true) (k7 : PySem.W.keepIn K (.ref f7) = true)
    {f8 : Addr} {od8 an8 : Option Addr} {sl8 : Array (Option Value)} {oc8 kV8 dc8 pm8 cd8 ct8 : Value}
    (a8 : PySem.W.nsIn K mainGlobals "by_brackets" = some (some (.ref f8))) (l8 : K.lookup f8 = some ⟨oc8, od8, .func (PySem.W.fnOf "by_brackets" "by_brackets" (defArgs s_by_brackets) (defBody s_by_brackets) (defScope s_by_brackets) .none kV8 dc8 pm8 an8 cd8 ct8), sl8⟩) (c8 : PySem.W.codeIn K cd8 "by_brackets" = true) (k8 : PySem.W.keepIn K (.ref f8) = true)
    {f9 : Addr} {od9 an9 : Option Addr} {sl9 : Array (Option Value)} {oc9 kV9 dc9 pm9 cd9 ct9 : Value}
    (a9 : PySem.W.nsIn K mainGlobals "_law_led" = some (some (.ref f9))) (l9 : K.lookup f9 = some ⟨oc9, od9, .func (PySem.W.fnOf "_law_led" "_law_led" (defArgs s_law_led) (defBody s_law_led) (defScope s_law_led) .none kV9 dc9 pm9 an9 cd9 ct9), sl9⟩) (c9 : PySem.W.codeIn K cd9 "_law_led" = true) (k9 : PySem.W.keepIn K (.ref f9) = true)
    {f10 : Addr} {od10 an10 : Option Addr} {sl10 : Array (Option Value)} {oc10 kV10 dc10 pm10 cd10 ct10 : Value}
    (a10 : PySem.W.nsIn K mainGlobals "_law_power" = some (some (.ref f10))) (l10 : K.lookup f10 = some ⟨oc10, od10, .func (PySem.W.fnOf "_law_power" "_law_power" (defArgs s_law_power) (defBody s_law_power) (defScope s_law_power) .none kV10 dc10 pm10 an10 cd10 ct10), sl10⟩) (c10 : PySem.W.codeIn K cd10 "_law_power" = true) (k10 : PySem.W.keepIn K (.ref f10) = true)
    {f11 : Addr} {od11 an11 : Option Addr} {sl11 : Array (Option Value)} {oc11 kV11 dc11 pm11 cd11 ct11 : Value}
    (a11 : PySem.W.nsIn K mainGlobals "way_up" = some (some (.ref f11))) (l11 : K.lookup f11 = some ⟨oc11, od11, .func (PySem.W.fnOf "way_up" "way_up" (defArgs s_way_up) (defBody s_way_up) (defScope s_way_up) .none kV11 dc11 pm11 an11 cd11 ct11), sl11⟩) (c11 : PySem.W.codeIn K cd11 "way_up" = true) (k11 : PySem.W.keepIn K (.ref f11) = true)
    {f12 : Addr} {od12 an12 : Option Addr} {sl12 : Array (Option Value)} {oc12 kV12 dc12 pm12 cd12 ct12 : Value}
    (a12 : PySem.W.nsIn K mainGlobals "flat_numbers" = some (some (.ref f12))) (l12 : K.lookup f12 = some ⟨oc12, od12, .func (PySem.W.fnOf "flat_numbers" "flat_numbers" (defArgs s_flat_numbers) (defBody s_flat_numbers) (defScope s_flat_numbers) .none kV12 dc12 pm12 an12 cd12 ct12), sl12⟩) (c12 : PySem.W.codeIn K cd12 "flat_numbers" = true) (k12 : PySem.W.keepIn K (.ref f12) = true)
    {f13 : Addr} {od13 an13 : Option Addr} {sl13 : Array (Option Value)} {oc13 kV13 dc13 pm13 cd13 ct13 : Value}
    (a13 : PySem.W.nsIn K mainGlobals "tree_of" = some (some (.ref f13))) (l13 : K.lookup f13 = some ⟨oc13, od13, .func (PySem.W.fnOf "tree_of" "tree_of" (defArgs s_tree_of) (defBody s_tree_of) (defScope s_tree_of) .none kV13 dc13 pm13 an13 cd13 ct13), sl13⟩) (c13 : PySem.W.codeIn K cd13 "tree_of" = true) (k13 : PySem.W.keepIn K (.ref f13) = true)
    {f14 : Addr} {od14 an14 : Option Addr} {sl14 : Array (Option Value)} {oc14 kV14 dc14 pm14 cd14 ct14 : Value}
    (a14 : PySem.W.nsIn K mainGlobals "is_tree" = some (some (.ref f14))) (l14 : K.lookup f14 = some ⟨oc14, od14, .func (PySem.W.fnOf "is_tree" "is_tree" (defArgs s_is_tree) (defBody s_is_tree) (defScope s_is_tree) .none kV14 dc14 pm14 an14 cd14 ct14), sl14⟩) (c14 : PySem.W.codeIn K cd14 "is_tree" = true) (k14 : PySem.W.keepIn K (.ref f14) = true)
    {f15 : Addr} {od15 an15 : Option Addr} {sl15 : Array (Option Value)} {oc15 kV15 dc15 pm15 cd15 ct15 : Value}
    (a15 : PySem.W.nsIn K mainGlobals "_law_counted" = some (some (.ref f15))) (l15 : K.lookup f15 = some ⟨oc15, od15, .func (PySem.W.fnOf "_law_counted" "_law_counted" (defArgs s_law_counted) (defBody s_law_counted) (defScope s_law_counted) .none kV15 dc15 pm15 an15 cd15 ct15), sl15⟩) (c15 : PySem.W.codeIn K cd15 "_law_counted" = true) (k15 : PySem.W.keepIn K (.ref f15) = true)
    {f16 : Addr} {od16 an16 : Option Addr} {sl16 : Array (Option Value)} {oc16 kV16 dc16 pm16 cd16 ct16 : Value}
    (a16 : PySem.W.nsIn K mainGlobals "_law_text" = some (some (.ref f16))) (l16 : K.lookup f16 = some ⟨oc16, od16, .func (PySem.W.fnOf "_law_text" "_law_text" (defArgs s_law_text) (defBody s_law_text) (defScope s_law_text) .none kV16 dc16 pm16 an16 cd16 ct16), sl16⟩) (c16 : PySem.W.codeIn K cd16 "_law_text" = true) (k16 : PySem.W.keepIn K (.ref f16) = true)
    {f17 : Addr} {od17 an17 : Option Addr} {sl17 : Array (Option Value)} {oc17 kV17 dc17 pm17 cd17 ct17 : Value}
    (a17 : PySem.W.nsIn K mainGlobals "look_at_tree" = some (some (.ref f17))) (l17 : K.lookup f17 = some ⟨oc17, od17, .func (PySem.W.fnOf "look_at_tree" "look_at_tree" (defArgs s_look_at_tree) (defBody s_look_at_tree) (defScope s_look_at_tree) .none kV17 dc17 pm17 an17 cd17 ct17), sl17⟩) (c17 : PySem.W.codeIn K cd17 "look_at_tree" = true) (k17 : PySem.W.keepIn K (.ref f17) = true)
    {f18 : Addr} {od18 an18 : Option Addr} {sl18 : Array (Option Value)} {oc18 kV18 dc18 pm18 cd18 ct18 : Value}
    (a18 : PySem.W.nsIn K mainGlobals "flattest" = some (some (.ref f18))) (l18 : K.lookup f18 = some ⟨oc18, od18, .func (PySem.W.fnOf "flattest" "flattest" (defArgs s_flattest) (defBody s_flattest) (defScope s_flattest) .none kV18 dc18 pm18 an18 cd18 ct18), sl18⟩) (c18 : PySem.W.codeIn K cd18 "flattest" = true) (k18 : PySem.W.keepIn K (.ref f18) = true)
    {f19 : Addr} {od19 an19 : Option Addr} {sl19 : Array (Option Value)} {oc19 kV19 dc19 pm19 cd19 ct19 : Value}
    (a19 : PySem.W.nsIn K mainGlobals "drops_of" = some (some (.ref f19))) (l19 : K.lookup f19 = some ⟨oc19, od19, .func (PySem.W.fnOf "drops_of" "drops_of" (defArgs s_drops_of) (defBody s_drops_of) (defScope s_drops_of) .none kV19 dc19 pm19 an19 cd19 ct19), sl19⟩) (c19 : PySem.W.codeIn K cd19 "drops_of" = true) (k19 : PySem.W.keepIn K (.ref f19) = true)
    {f20 : Addr} {od20 an20 : Option Addr} {sl20 : Array (Option Value)} {oc20 kV20 dc20 pm20 cd20 ct20 : Value}
    (a20 : PySem.W.nsIn K mainGlobals "brackets_of" = some (some (.ref f20))) (l20 : K.lookup f20 = some ⟨oc20, od20, .func (PySem.W.fnOf "brackets_of" "brackets_of" (defArgs s_brackets_of) (defBody s_brackets_of) (defScope s_brackets_of) .none kV20 dc20 pm20 an20 cd20 ct20), sl20⟩) (c20 : PySem.W.codeIn K cd20 "brackets_of" = true) (k20 : PySem.W.keepIn K (.ref f20) = true)
    {f21 : Addr} {od21 an21 : Option Addr} {sl21 : Array (Option Value)} {oc21 kV21 dc21 pm21 cd21 ct21 : Value}
    (a21 : PySem.W.nsIn K mainGlobals "law" = some (some (.ref f21))) (l21 : K.lookup f21 = some ⟨oc21, od21, .func (PySem.W.fnOf "law" "law" (defArgs s_law) (defBody s_law) (defScope s_law) .none kV21 dc21 pm21 an21 cd21 ct21), sl21⟩) (c21 : PySem.W.codeIn K cd21 "law" = true) (k21 : PySem.W.keepIn K (.ref f21) = true)
    (z_all : PySem.W.nsIn K mainGlobals "all" = some none)
    (z_enumerate : PySem.W.nsIn K mainGlobals "enumerate" = some none)
    (z_len : PySem.W.nsIn K mainGlobals "len" = some none)
    (z_max : PySem.W.nsIn K mainGlobals "max" = some none)
    (z_min : PySem.W.nsIn K mainGlobals "min" = some none)
    (z_range : PySem.W.nsIn K mainGlobals "range" = some none)
    (z_set : PySem.W.nsIn K mainGlobals "set" = some none)
    (z_sum : PySem.W.nsIn K mainGlobals "sum" = some none)
    (z_tuple : PySem.W.nsIn K mainGlobals "tuple" = some none)
    {u_MOST_PLACES : Tok} (q_MOST_PLACES : PySem.W.nsIn K mainGlobals "MOST_PLACES" = some (some (.int 40 u_MOST_PLACES)))
    {x_NoTelling : Addr} (eg_NoTelling : PySem.W.nsIn K mainGlobals "NoTelling" = some (some (.ref x_NoTelling))) (ex_NoTelling : PySem.W.excIn K x_NoTelling veB "ValueError.__new__" = true) (ek_NoTelling : PySem.W.keepIn K (.ref x_NoTelling) = true) (eb_NoTelling : PySem.W.subIn K (.ref x_NoTelling) (.type "BaseException") = some true) (et_NoTelling : PySem.W.typeIn K (.ref x_NoTelling) = some (.type "type"))
    {x_DipError : Addr} (eg_DipError : PySem.W.nsIn K mainGlobals "DipError" = some (some (.ref x_DipError))) (ex_DipError : PySem.W.excIn K x_DipError veB "ValueError.__new__" = true) (ek_DipError : PySem.W.keepIn K (.ref x_DipError) = true) (eb_DipError : PySem.W.subIn K (.ref x_DipError) (.type "BaseException") = some true) (et_DipError : PySem.W.typeIn K (.ref x_DipError) = some (.type "type"))
    {x_NoTree : Addr} (eg_NoTree : PySem.W.nsIn K mainGlobals "NoTree" = some (some (.ref x_NoTree))) (ex_NoTree : PySem.W.excIn K x_NoTree veB "ValueError.__new__" = true) (ek_NoTree : PySem.W.keepIn K (.ref x_NoTree) = true) (eb_NoTree : PySem.W.subIn K (.ref x_NoTree) (.type "BaseException") = some true) (et_NoTree : PySem.W.typeIn K (.ref x_NoTree) = some (.type "type"))
    (kd_NoTree : PySem.W.hasDictIn K x_NoTree = true)
    (kd_NoTelling : PySem.W.hasDictIn K x_NoTelling = true)
    (kd_DipError : PySem.W.hasDictIn K x_DipError = true)
    (kb_DipError : PySem.W.subIn K (.ref x_DipError) (.type "BaseException") = some true)
    (kn1 : PySem.W.specialIn K (.builtin "object.__class__") "__get__" = some (some (.builtin "getset_descriptor.__get__"))) (kn2 : PySem.W.takesIn K (.builtin "object.__class__") = some true)
    (ka_NoTelling : PySem.W.findIn K (.ref x_NoTelling) "__getattribute__" = some (some (.builtin "BaseException.__getattribute__"))) (kk_NoTelling : PySem.W.findIn K (.ref x_NoTelling) "__getattr__" = some none) (kc_NoTelling : PySem.W.findIn K (.ref x_NoTelling) "__class__" = some (some (.builtin "object.__class__"))) (km_NoTelling : PySem.W.mroIn K x_NoTelling (.type "object") = some true) (ke_NoTelling : PySem.W.subIn K (.ref x_NoTelling) (.type "BaseException") = some true) (ks_NoTelling : PySem.W.subIn K (.ref x_NoTelling) (.ref x_DipError) = some true) (kv_NoTelling : PySem.W.subIn K (.ref x_NoTelling) (.type "ValueError") = some true)
    (kr_NoTelling_NoTree : PySem.W.subIn K (.ref x_NoTelling) (.ref x_NoTree) = some false)
    (kr_NoTelling_NoTelling : PySem.W.subIn K (.ref x_NoTelling) (.ref x_NoTelling) = some true)
    (knd : [x_NoTree, x_NoTelling].Nodup) :
    ∃ fd : FuncData, (∀ (s : Shared) (v : Value), BindsTo s fd ⟨[v], []⟩ [("script", v)]) ∧ ∀ base : Heap, K.In base → base.Ns mainGlobals mg → FnOk l.prog w K mg base CX0 8 fa fd ["script"] (sp_law K) := by
  have hX : KitF K [x_NoTelling] [x_NoTree, x_NoTelling] x_DipError := ⟨⟨⟨ka_NoTelling, kk_NoTelling, ke_NoTelling, kd_NoTelling, kc_NoTelling, kn1, kn2, km_NoTelling⟩, trivial⟩, ⟨⟨⟨false, kr_NoTelling_NoTree, (fun z => by cases z), (fun z => by rw [← z, kr_NoTelling_NoTelling] at kr_NoTelling_NoTree; cases kr_NoTelling_NoTree)⟩, ⟨⟨true, kr_NoTelling_NoTelling, fun _ => rfl, fun _ => rfl⟩, trivial⟩⟩, trivial⟩, ⟨ks_NoTelling, trivial⟩, ⟨kv_NoTelling, trivial⟩, ⟨⟨kd_NoTree, et_NoTree⟩, ⟨⟨kd_NoTelling, et_NoTelling⟩, trivial⟩⟩, ⟨kd_DipError, et_DipError, kb_DipError⟩, knd⟩
  have e := hfa.symm.trans (PySem.W.mg_of X G a21)
  cases e
  have F0 := fun_mk (st := s_law_take) l0 c0 k0
  have b0 := F0.binds (ps := ["pot", "many"]) fun _ _ _ _ _ _ us hl => match us, hl with | [_, _], _ => rfl
  have F1 := fun_mk (st := s_law_pot) l1 c1 k1
  have b1 := F1.binds (ps := ["script", "k"]) fun _ _ _ _ _ _ us hl => match us, hl with | [_, _], _ => rfl
  have F2 := fun_mk (st := s_law_many) l2 c2 k2
  have b2 := F2.binds (ps := ["many"]) fun _ _ _ _ _ _ us hl => match us, hl with | [_], _ => rfl
  have F3 := fun_mk (st := s_law_digits) l3 c3 k3
  have b3 := F3.binds (ps := ["code", "base", "many"]) fun _ _ _ _ _ _ us hl => match us, hl with | [_, _, _], _ => rfl
  have F4 := fun_mk (st := s_hung) l4 c4 k4
  have b4 := F4.binds (ps := ["drops"]) fun _ _ _ _ _ _ us hl => match us, hl with | [_], _ => rfl
  have F5 := fun_mk (st := s_by_drops) l5 c5 k5
  have b5 := F5.binds (ps := ["told"]) fun _ _ _ _ _ _ us hl => match us, hl with | [_], _ => rfl
  have F6 := fun_mk (st := s_drops_by_distances) l6 c6 k6
  have b6 := F6.binds (ps := ["told"]) fun _ _ _ _ _ _ us hl => match us, hl with | [_], _ => rfl
  have F7 := fun_mk (st := s_by_distances) l7 c7 k7
  have b7 := F7.binds (ps := ["told"]) fun _ _ _ _ _ _ us hl => match us, hl with | [_], _ => rfl
  have F8 := fun_mk (st := s_by_brackets) l8 c8 k8
  have b8 := F8.binds (ps := ["text"]) fun _ _ _ _ _ _ us hl => match us, hl with | [_], _ => rfl
  have F9 := fun_mk (st := s_law_led) l9 c9 k9
  have b9 := F9.binds (ps := ["way", "told"]) fun _ _ _ _ _ _ us hl => match us, hl with | [_, _], _ => rfl
  have F10 := fun_mk (st := s_law_power) l10 c10 k10
  have b10 := F10.binds (ps := ["base", "many"]) fun _ _ _ _ _ _ us hl => match us, hl with | [_, _], _ => rfl
  have F11 := fun_mk (st := s_way_up) l11 c11 k11
  have b11 := F11.binds (ps := ["tree", "place"]) fun _ _ _ _ _ _ us hl => match us, hl with | [_, _], _ => rfl
  have F12 := fun_mk (st := s_flat_numbers) l12 c12 k12
  have b12 := F12.binds (ps := ["tree"]) fun _ _ _ _ _ _ us hl => match us, hl with | [_], _ => rfl
  have F13 := fun_mk (st := s_tree_of) l13 c13 k13
  have b13 := F13.binds (ps := ["row"]) fun _ _ _ _ _ _ us hl => match us, hl with | [_], _ => rfl
  have F14 := fun_mk (st := s_is_tree) l14 c14 k14
  have b14 := F14.binds (ps := ["tree"]) fun _ _ _ _ _ _ us hl => match us, hl with | [_], _ => rfl
  have F15 := fun_mk (st := s_law_counted) l15 c15 k15
  have b15 := F15.binds (ps := ["many"]) fun _ _ _ _ _ _ us hl => match us, hl with | [_], _ => rfl
  have F16 := fun_mk (st := s_law_text) l16 c16 k16
  have b16 := F16.binds (ps := ["pot"]) fun _ _ _ _ _ _ us hl => match us, hl with | [_], _ => rfl
  have F17 := fun_mk (st := s_look_at_tree) l17 c17 k17
  have b17 := F17.binds (ps := ["tree"]) fun _ _ _ _ _ _ us hl => match us, hl with | [_], _ => rfl
  have F18 := fun_mk (st := s_flattest) l18 c18 k18
  have b18 := F18.binds (ps := ["tree"]) fun _ _ _ _ _ _ us hl => match us, hl with | [_], _ => rfl
  have F19 := fun_mk (st := s_drops_of) l19 c19 k19
  have b19 := F19.binds (ps := ["tree"]) fun _ _ _ _ _ _ us hl => match us, hl with | [_], _ => rfl
  have F20 := fun_mk (st := s_brackets_of) l20 c20 k20
  have b20 := F20.binds (ps := ["tree"]) fun _ _ _ _ _ _ us hl => match us, hl with | [_], _ => rfl
  have F21 := fun_mk (st := s_law) l21 c21 k21
  refine ⟨PySem.W.fnOf "law" "law" (defArgs s_law) (defBody s_law) (defScope s_law) .none kV21 dc21 pm21 an21 cd21 ct21, fun s v => .of_eq rfl, fun base _ _ => ?_⟩
  have C0 : Cal l.prog w K mg base CX0 1 "_law_take" ["pot", "many"] sp_law_take f0 _ := ⟨ok_law_take F0, k0, b0, PySem.W.mg_of X G a0⟩
  have C1 : Cal l.prog w K mg base CX0 1 "_law_pot" ["script", "k"] (sp_law_pot K) f1 _ := ⟨ok_law_pot F1 (PySem.W.mg_none_of X G z_len) (PySem.W.mg_none_of X G z_range), k1, b1, PySem.W.mg_of X G a1⟩
  have C2 : Cal l.prog w K mg base CX0 1 "_law_many" ["many"] sp_law_many f2 _ := ⟨ok_law_many F2 (PySem.W.mg_none_of X G z_range) (PySem.W.mg_none_of X G z_sum), k2, b2, PySem.W.mg_of X G a2⟩
  have C3 : Cal l.prog w K mg base CX0 1 "_law_digits" ["code", "base", "many"] sp_law_digits f3 _ := ⟨ok_law_digits F3 (PySem.W.mg_none_of X G z_range) (PySem.W.mg_none_of X G z_tuple), k3, b3, PySem.W.mg_of X G a3⟩
  have C4 : Cal l.prog w K mg base CX0 1 "hung" ["drops"] sp_hung f4 _ := ⟨ok_hung F4 (PySem.W.mg_none_of X G z_enumerate) (PySem.W.mg_none_of X G z_len) (PySem.W.mg_none_of X G z_tuple), k4, b4, PySem.W.mg_of X G a4⟩
  have C5 : Cal l.prog w K mg base (L2.CX l.prog w) 2 "by_drops" ["told"] (sp_by_drops x_NoTelling) f5 _ := ⟨ok_by_drops F5 (C4) (PySem.W.mg_none_of X G z_len) (PySem.W.mg_of X G q_MOST_PLACES) ⟨ex_NoTelling, PySem.W.mg_of X G eg_NoTelling, ek_NoTelling, eb_NoTelling, et_NoTelling⟩, k5, b5, PySem.W.mg_of X G a5⟩
  have C6 : Cal l.prog w K mg base CX0 1 "drops_by_distances" ["told"] sp_drops_by_distances f6 _ := ⟨ok_drops_by_distances F6 (PySem.W.mg_none_of X G z_enumerate) (PySem.W.mg_none_of X G z_len), k6, b6, PySem.W.mg_of X G a6⟩
  have C7 : Cal l.prog w K mg base (L2.CX l.prog w) 2 "by_distances" ["told"] (sp_by_distances x_NoTelling) f7 _ := ⟨ok_by_distances F7 (C6) (C4) (PySem.W.mg_none_of X G z_len) (PySem.W.mg_of X G q_MOST_PLACES) ⟨ex_NoTelling, PySem.W.mg_of X G eg_NoTelling, ek_NoTelling, eb_NoTelling, et_NoTelling⟩, k7, b7, PySem.W.mg_of X G a7⟩
  have C8 : Cal l.prog w K mg base (L2.CX l.prog w) 2 "by_brackets" ["text"] (sp_by_brackets x_NoTelling) f8 _ := ⟨ok_by_brackets F8 (C4) (PySem.W.mg_none_of X G z_len) (PySem.W.mg_none_of X G z_sum) (PySem.W.mg_of X G q_MOST_PLACES) ⟨ex_NoTelling, PySem.W.mg_of X G eg_NoTelling, ek_NoTelling, eb_NoTelling, et_NoTelling⟩, k8, b8, PySem.W.mg_of X G a8⟩
  have C9 : Cal l.prog w K mg base CX0 3 "_law_led" ["way", "told"] sp_law_led f9 _ := ⟨ok_law_led F9 (C5) (C7) (C8) (PySem.W.mg_of X G eg_NoTelling) hX, k9, b9, PySem.W.mg_of X G a9⟩
  have C10 : Cal l.prog w K mg base CX0 1 "_law_power" ["base", "many"] sp_law_power f10 _ := ⟨ok_law_power F10 (PySem.W.mg_none_of X G z_range), k10, b10, PySem.W.mg_of X G a10⟩
  have C11 : Cal l.prog w K mg base CX0 1 "way_up" ["tree", "place"] sp_way_up f11 _ := ⟨ok_way_up F11 (PySem.W.mg_none_of X G z_len), k11, b11, PySem.W.mg_of X G a11⟩
  have C12 : Cal l.prog w K mg base CX0 2 "flat_numbers" ["tree"] sp_flat_numbers f12 _ := ⟨ok_flat_numbers F12 (C11) (PySem.W.mg_none_of X G z_len) (PySem.W.mg_none_of X G z_range), k12, b12, PySem.W.mg_of X G a12⟩
  have C13 : Cal l.prog w K mg base CX0 1 "tree_of" ["row"] sp_tree_of f13 _ := ⟨ok_tree_of F13 (PySem.W.mg_none_of X G z_enumerate) (PySem.W.mg_none_of X G z_tuple), k13, b13, PySem.W.mg_of X G a13⟩
  have C14 : Cal l.prog w K mg base CX0 3 "is_tree" ["tree"] sp_is_tree f14 _ := ⟨ok_is_tree F14 (C12) (C13) (PySem.W.mg_none_of X G z_len) (PySem.W.mg_of X G q_MOST_PLACES), k14, b14, PySem.W.mg_of X G a14⟩
  have C15 : Cal l.prog w K mg base CX0 4 "_law_counted" ["many"] sp_law_counted f15 _ := ⟨ok_law_counted F15 (C10) (C3) (C2) (C9) (C14) (PySem.W.mg_none_of X G z_all) (PySem.W.mg_none_of X G z_len) (PySem.W.mg_none_of X G z_range) (PySem.W.mg_none_of X G z_set) (PySem.W.mg_none_of X G z_tuple), k15, b15, PySem.W.mg_of X G a15⟩
  have C16 : Cal l.prog w K mg base CX0 2 "_law_text" ["pot"] sp_law_text f16 _ := ⟨ok_law_text F16 (C0) (PySem.W.mg_none_of X G z_len), k16, b16, PySem.W.mg_of X G a16⟩
  have C17 : Cal l.prog w K mg base (L2.CX l.prog w) 4 "look_at_tree" ["tree"] (sp_look_at_tree x_NoTree) f17 _ := ⟨ok_look_at_tree F17 (C14) ⟨ex_NoTree, PySem.W.mg_of X G eg_NoTree, ek_NoTree, eb_NoTree, et_NoTree⟩, k17, b17, PySem.W.mg_of X G a17⟩
  have C18 : Cal l.prog w K mg base (L2.CX l.prog w) 5 "flattest" ["tree"] (sp_flattest x_NoTree) f18 _ := ⟨ok_flattest F18 (C17) (C12) (PySem.W.mg_none_of X G z_tuple), k18, b18, PySem.W.mg_of X G a18⟩
  have C19 : Cal l.prog w K mg base (L2.CX l.prog w) 6 "drops_of" ["tree"] (sp_drops_of x_NoTree) f19 _ := ⟨ok_drops_of F19 (C18) (PySem.W.mg_none_of X G z_len) (PySem.W.mg_none_of X G z_tuple), k19, b19, PySem.W.mg_of X G a19⟩
  have C20 : Cal l.prog w K mg base (L2.CX l.prog w) 7 "brackets_of" ["tree"] (sp_brackets_of x_NoTree) f20 _ := ⟨ok_brackets_of F20 (C19) (PySem.W.mg_none_of X G z_len) (PySem.W.mg_none_of X G z_sum), k20, b20, PySem.W.mg_of X G a20⟩
  exact ok_law F21 (C1) (C0) (C15) (C16) (C8) (C20) (PySem.W.mg_none_of X G z_len) (PySem.W.mg_none_of X G z_max) (PySem.W.mg_none_of X G z_min) (PySem.W.mg_none_of X G z_range)
end Law
open PySem PySem.W PyProof.Rows
set_option maxHeartbeats 0 in
theorem PySem.Challenge.cw_dipkin_k14_whole_all_small_trees_holds : PySem.Challenge.rw_dipkin_k14_whole_all_small_trees.Holds := by
  w_on; o_law; k_head; (case hw => w_witness2)
  k_fill
  refine L2.walk_of (l := PySem.Challenge.rw_dipkin_k14_whole_all_small_trees) (n := 63) (k := 8) (x := "script") (CX := fun _ => L2.CX0) (sp := fun w => Law.sp_law _) rfl (by decide) rfl ⟨rfl, by decide, by decide⟩ (fun w h Y => PySem.W.kIn_of Y) ?F (fun _ _ a ns hl _ hS => ⟨(ns, ()), ⟨_, [], rfl, ⟨a, rfl, hS⟩, rfl⟩, hl, fun v H' b _ hb hp => by cases hp; exact hb, fun _ _ _ z => z⟩) (fun _ _ _ _ _ h => h)
  case F =>
    intro w mg fa h KX G hmg
    refine' Law.all_mk KX G hmg ?a0 ?l0 ?c0 ?k0 ?a1 ?l1 ?c1 ?k1 ?a2 ?l2 ?c2 ?k2 ?a3 ?l3 ?c3 ?k3 ?a4 ?l4 ?c4 ?k4 ?a5 ?l5 ?c5 ?k5 ?a6 ?l6 ?c6 ?k6 ?a7 ?l7 ?c7 ?k7 ?a8 ?l8 ?c8 ?k8 ?a9 ?l9 ?c9 ?k9 ?a10 ?l10 ?c10 ?k10 ?a11 ?l11 ?c11 ?k11 ?a12 ?l12 ?c12 ?k12 ?a13 ?l13 ?c13 ?k13 ?a14 ?l14 ?c14 ?k14 ?a15 ?l15 ?c15 ?k15 ?a16 ?l16 ?c16 ?k16 ?a17 ?l17 ?c17 ?k17 ?a18 ?l18 ?c18 ?k18 ?a19 ?l19 ?c19 ?k19 ?a20 ?l20 ?c20 ?k20 ?a21 ?l21 ?c21 ?k21 ?z_all ?z_enumerate ?z_len ?z_max ?z_min ?z_range ?z_set ?z_sum ?z_tuple ?q_MOST_PLACES ?eg_NoTelling ?ex_NoTelling ?ek_NoTelling ?eb_NoTelling ?et_NoTelling ?eg_DipError ?ex_DipError ?ek_DipError ?eb_DipError ?et_DipError ?eg_NoTree ?ex_NoTree ?ek_NoTree ?eb_NoTree ?et_NoTree ?kd_NoTree ?kd_NoTelling ?kd_DipError ?kb_DipError ?kn1 ?kn2 ?ka_NoTelling ?kk_NoTelling ?kc_NoTelling ?km_NoTelling ?ke_NoTelling ?ks_NoTelling ?kv_NoTelling ?kr_NoTelling_NoTree ?kr_NoTelling_NoTelling ?knd
    (case a0 => k_is); (case l0 => k_is); (case c0 => k_is); (case k0 => k_is); (case a1 => k_is); (case l1 => k_is); (case c1 => k_is); (case k1 => k_is); (case a2 => k_is); (case l2 => k_is); (case c2 => k_is); (case k2 => k_is); (case a3 => k_is); (case l3 => k_is); (case c3 => k_is); (case k3 => k_is); (case a4 => k_is); (case l4 => k_is); (case c4 => k_is); (case k4 => k_is); (case a5 => k_is); (case l5 => k_is); (case c5 => k_is); (case k5 => k_is); (case a6 => k_is); (case l6 => k_is); (case c6 => k_is); (case k6 => k_is); (case a7 => k_is); (case l7 => k_is); (case c7 => k_is); (case k7 => k_is); (case a8 => k_is); (case l8 => k_is); (case c8 => k_is); (case k8 => k_is); (case a9 => k_is); (case l9 => k_is); (case c9 => k_is); (case k9 => k_is); (case a10 => k_is); (case l10 => k_is); (case c10 => k_is); (case k10 => k_is); (case a11 => k_is); (case l11 => k_is); (case c11 => k_is); (case k11 => k_is); (case a12 => k_is); (case l12 => k_is); (case c12 => k_is); (case k12 => k_is); (case a13 => k_is); (case l13 => k_is); (case c13 => k_is); (case k13 => k_is); (case a14 => k_is); (case l14 => k_is); (case c14 => k_is); (case k14 => k_is); (case a15 => k_is); (case l15 => k_is); (case c15 => k_is); (case k15 => k_is); (case a16 => k_is); (case l16 => k_is); (case c16 => k_is); (case k16 => k_is); (case a17 => k_is); (case l17 => k_is); (case c17 => k_is); (case k17 => k_is); (case a18 => k_is); (case l18 => k_is); (case c18 => k_is); (case k18 => k_is); (case a19 => k_is); (case l19 => k_is); (case c19 => k_is); (case k19 => k_is); (case a20 => k_is); (case l20 => k_is); (case c20 => k_is); (case k20 => k_is); (case a21 => k_is); (case l21 => k_is); (case c21 => k_is); (case k21 => k_is); (case z_all => k_is); (case z_enumerate => k_is); (case z_len => k_is); (case z_max => k_is); (case z_min => k_is); (case z_range => k_is); (case z_set => k_is); (case z_sum => k_is); (case z_tuple => k_is); (case q_MOST_PLACES => k_is); (case eg_NoTelling => k_is); (case ex_NoTelling => k_exc); (case ek_NoTelling => k_is); (case eb_NoTelling => k_is); (case et_NoTelling => k_is); (case eg_DipError => k_is); (case ex_DipError => k_exc); (case ek_DipError => k_is); (case eb_DipError => k_is); (case et_DipError => k_is); (case eg_NoTree => k_is); (case ex_NoTree => k_exc); (case ek_NoTree => k_is); (case eb_NoTree => k_is); (case et_NoTree => k_is); (case kd_NoTree => k_is); (case kd_NoTelling => k_is); (case kd_DipError => k_is); (case kb_DipError => k_is); (case kn1 => k_is); (case kn2 => k_is); (case ka_NoTelling => k_is); (case kk_NoTelling => k_is); (case kc_NoTelling => k_is); (case km_NoTelling => k_is); (case ke_NoTelling => k_is); (case ks_NoTelling => k_is); (case kv_NoTelling => k_is); (case kr_NoTelling_NoTree => k_is); (case kr_NoTelling_NoTelling => k_is); (case knd => decide)
