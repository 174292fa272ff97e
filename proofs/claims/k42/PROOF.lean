import PyProof.Rows.All
import Wide.All
import OpenK.AllK
import Wide.FinOn
import HandS.ForMost
import HandS.Exc
import HandS.TryOnly
import HandS.ExcOwn
import HandS.WordsExc
import HandS.Codes
import HandS.Conv
import HandS.TupAny
import HandS.TupMul
import HandS.Zip
import HandS.Rev
import HandS.Style
import HandS.SetFor
import HandS.IsInst
import HandS.Wide
import HandS.Flow
import HandS.SortKw
import HandS.RevRange
import HandS.Lambda
import HandS.EndTab
import HandS.Walk
import KE.GoesEnum
import HandS.ExcIs
import KE.DataMinMax
import HandS.SortInts
import HandS.SortRule
import PyProof.Rows.CountFlat
import HandS.Flt
import PyProof.ZipIter
import KE.KItemsList
import HandS.ExcValue
import HandS.Text
import HandS.StrMore
import HandS.StrSplit
import KE.KTupSum
import HandS.WideBits
import HandS.Deep
import HandS.Dict
import HandS.Strs
import PyProof.Rows.RowBridgeK
import KE.GoesMore
import HandS.Nested
import KE.SortKeyHeap
import HandS.Iter
import HandS.TupSets
import PySem.Challenge.RW_dipkin_k42_nothing_sought
set_option Elab.async false
set_option linter.all false
set_option maxRecDepth 100000
set_option maxHeartbeats 1000000
/-! A layer of words over plain data: each name of a def holds a plain value. -/
namespace GL
open PySem L2
abbrev Sg := List (Option V)

/-- how a value stands for plain data, in a heap -/
structure Rl (α : Type) where
  is : Hp → V → α → Prop
  mono : ∀ {H H' : Hp} {v : V} {a : α}, Same H H' → is H v a → is H' v a

def All2 {α : Type} (p : V → α → Prop) : List V → List α → Prop
  | [], [] => True
  | x :: xs, a :: l => p x a ∧ All2 p xs l
  | _, _ => False
theorem All2.imp {α : Type} {p q : V → α → Prop} (h : ∀ v a, p v a → q v a) : ∀ {xs : List V} {l : List α}, All2 p xs l → All2 q xs l
  | [], [], _ => trivial
  | _ :: _, _ :: _, ⟨a, b⟩ => ⟨h _ _ a, All2.imp h b⟩
theorem All2.len {α : Type} {p : V → α → Prop} : ∀ {xs : List V} {l : List α}, All2 p xs l → xs.length = l.length
  | [], [], _ => rfl
  | _ :: _, _ :: _, ⟨_, b⟩ => by rw [List.length_cons, List.length_cons, All2.len b]
theorem All2.get {α : Type} {p : V → α → Prop} : ∀ {xs : List V} {l : List α} {i : Nat} {a : α}, All2 p xs l → l[i]? = some a → ∃ v, xs[i]? = some v ∧ p v a
  | [], [], _, _, _, e => by simp at e
  | x :: _, b :: _, 0, a, ⟨h, _⟩, e => by simp at e; subst e; exact ⟨x, rfl, h⟩
  | _ :: _, _ :: _, i + 1, a, ⟨_, t⟩, e => by
    obtain ⟨v, h1, h2⟩ := All2.get (i := i) (a := a) t (by simpa using e)
    exact ⟨v, by simpa using h1, h2⟩
theorem All2.app {α : Type} {p : V → α → Prop} : ∀ {xs ys : List V} {l m : List α}, All2 p xs l → All2 p ys m → All2 p (xs ++ ys) (l ++ m)
  | [], _, [], _, _, h => h
  | _ :: _, _, _ :: _, _, ⟨a, b⟩, h => ⟨a, All2.app b h⟩
theorem All2.set {α : Type} {p : V → α → Prop} {v : V} {a : α} (h : p v a) : ∀ {xs : List V} {l : List α} (i : Nat), All2 p xs l → All2 p (xs.set i v) (l.set i a)
  | [], [], _, _ => trivial
  | _ :: _, _ :: _, 0, ⟨_, b⟩ => ⟨h, b⟩
  | _ :: _, _ :: _, i + 1, ⟨x, b⟩ => ⟨x, All2.set h i b⟩
theorem All2.take {α : Type} {p : V → α → Prop} : ∀ {xs : List V} {l : List α} (n : Nat), All2 p xs l → All2 p (xs.take n) (l.take n)
  | [], [], n, _ => by simp [All2]
  | _ :: _, _ :: _, 0, _ => trivial
  | _ :: _, _ :: _, n + 1, ⟨a, b⟩ => ⟨a, All2.take n b⟩
theorem All2.drop {α : Type} {p : V → α → Prop} : ∀ {xs : List V} {l : List α} (n : Nat), All2 p xs l → All2 p (xs.drop n) (l.drop n)
  | [], [], n, _ => by simp [All2]
  | _ :: _, _ :: _, 0, h => h
  | _ :: _, _ :: _, n + 1, ⟨_, b⟩ => All2.drop n b
theorem All2.ins {α : Type} {p : V → α → Prop} {v : V} {a : α} (h : p v a) : ∀ {xs : List V} {l : List α} (i : Nat), All2 p xs l → All2 p (xs.take i ++ v :: xs.drop i) (l.take i ++ a :: l.drop i) :=
  fun i t => (t.take i).app ⟨h, t.drop i⟩
theorem All2.erase {α : Type} {p : V → α → Prop} : ∀ {xs : List V} {l : List α} (n : Nat), All2 p xs l → All2 p (xs.eraseIdx n) (l.eraseIdx n)
  | [], [], n, _ => trivial
  | _ :: _, _ :: _, 0, ⟨_, b⟩ => b
  | _ :: _, _ :: _, n + 1, ⟨a, b⟩ => ⟨a, All2.erase n b⟩
theorem All2.dropLast {α : Type} {p : V → α → Prop} {xs : List V} {l : List α} (h : All2 p xs l) : All2 p xs.dropLast l.dropLast := by
  rw [List.dropLast_eq_take, List.dropLast_eq_take, h.len]
  exact h.take _
/-- flat items: the values are a map -/
theorem All2.map_eq {α : Type} {p : V → α → Prop} {f : α → V} (h : ∀ v a, p v a → v = f a) : ∀ {xs : List V} {l : List α}, All2 p xs l → xs = l.map f
  | [], [], _ => rfl
  | x :: xs, a :: l, ⟨q, b⟩ => by rw [List.map_cons, h _ _ q, All2.map_eq h b]
theorem All2.of_map {α : Type} {p : V → α → Prop} {f : α → V} (h : ∀ a, p (f a) a) : ∀ (l : List α), All2 p (l.map f) l
  | [] => trivial
  | a :: l => ⟨h a, All2.of_map h l⟩

/-! ### kinds of data -/
def rInt : Rl Int := ⟨fun _ v i => v = .int i, fun _ h => h⟩
def rBool : Rl Bool := ⟨fun _ v b => v = .bl b, fun _ h => h⟩
def rStr : Rl Str := ⟨fun _ v b => v = .str b, fun _ h => h⟩
def rNone : Rl Unit := ⟨fun _ v _ => v = .non, fun _ h => h⟩
def rOpt {α : Type} (R : Rl α) : Rl (Option α) := ⟨fun H v o => match o with | none => v = .non | some a => R.is H v a ∧ v ≠ .non, fun {H H' v o} s h => by
  cases o with
  | none => exact h
  | some a => exact ⟨R.mono s h.1, h.2⟩⟩
def rList {α : Type} (R : Rl α) : Rl (List α) := ⟨fun H v l => ∃ p xs, v = .ref p ∧ H p = some (.lst xs) ∧ All2 (R.is H) xs l,
  fun s ⟨p, xs, e, h, t⟩ => ⟨p, xs, e, s _ _ h, t.imp fun _ _ => R.mono s⟩⟩
theorem rd_mono {H H' : Hp} {p : Addr} {u : HO} (s : ∀ q o, H q = some o → H' q = some o) (h : Rd H p u) : Rd H' p u := h.imp (s _ _) fun ⟨o, h⟩ => ⟨o, s _ _ h⟩
def rTup {α : Type} (R : Rl α) : Rl (List α) := ⟨fun H v l => ∃ p xs, v = .ref p ∧ Rd H p (.tup xs) ∧ All2 (R.is H) xs l,
  fun s ⟨p, xs, e, h, t⟩ => ⟨p, xs, e, rd_mono s h, t.imp fun _ _ => R.mono s⟩⟩
/-- a list or a tuple -/
def rSeq {α : Type} (R : Rl α) : Rl (List α) := ⟨fun H v l => ∃ p xs, v = .ref p ∧ (H p = some (.lst xs) ∨ Rd H p (.tup xs)) ∧ All2 (R.is H) xs l,
  fun s ⟨p, xs, e, h, t⟩ => ⟨p, xs, e, h.imp (s _ _) (rd_mono s), t.imp fun _ _ => R.mono s⟩⟩
def rPair {α β : Type} (R : Rl α) (S : Rl β) : Rl (α × β) := ⟨fun H v l => ∃ p x y, v = .ref p ∧ H p = some (.tup [x, y]) ∧ R.is H x l.1 ∧ S.is H y l.2,
  fun s ⟨p, x, y, e, h, t, u⟩ => ⟨p, x, y, e, s _ _ h, R.mono s t, S.mono s u⟩⟩
def rTrip {α β γ : Type} (R : Rl α) (S : Rl β) (T : Rl γ) : Rl (α × β × γ) := ⟨fun H v l => ∃ p x y z, v = .ref p ∧ Rd H p (.tup [x, y, z]) ∧ R.is H x l.1 ∧ S.is H y l.2.1 ∧ T.is H z l.2.2,
  fun s ⟨p, x, y, z, e, h, t, u, w⟩ => ⟨p, x, y, z, e, rd_mono s h, R.mono s t, S.mono s u, T.mono s w⟩⟩
/-- the heap does not matter -/
def Flat {α : Type} (R : Rl α) : Prop := ∀ H H' v a, R.is H v a → R.is H' v a
theorem fl_int : Flat rInt := fun _ _ _ _ h => h
theorem fl_bool : Flat rBool := fun _ _ _ _ h => h
/-! ### the world of a running def -/
/-- tables of code objects, each with the name that its code objects bear -/
structure Tbs where
  l : List (Addr × Str)
  u : ∀ P q q', (P, q) ∈ l → (P, q') ∈ l → q = q'
def Tbs.nil : Tbs := ⟨[], fun _ _ _ h => nomatch h⟩
def Tbs.ads (T : Tbs) : List Addr := T.l.map Prod.fst
structure Cn where
  H0 : Hp
  vs0 : List Addr
  PI : HO → Prop
  F : Hp
  /-- a table of code objects that grows, the name that those bear; the ones known at the entry -/
  tb : Tbs
  kn : Hp
def Cn.isT (C : Cn) (p : Addr) : Prop := ∃ q, (p, q) ∈ C.tb.l
/-- each code object that the table tells is known, by its name -/
def Cods (q : Str) (G : Hp) (ps : Array Value) : Prop := TriplesOk ps.toList ∧ ∀ (pos : Pos) (cv : Value), codeAmong pos ps.toList = some cv → ∃ c, cv = .ref c ∧ G c = some (LamX.CodeO c q)
theorem Cods.mono {q : Str} {G G' : Hp} {ps : Array Value} (s : Same G G') (h : Cods q G ps) : Cods q G' ps := ⟨h.1, fun pos cv e => by
  obtain ⟨c, e1, e2⟩ := h.2 pos cv e
  exact ⟨c, e1, s _ _ e2⟩⟩
structure Wd where
  H : Hp
  G : Hp
  vs : List Addr
inductive Lv where
  | g | m | h
  deriving DecidableEq
open Classical in
def hid (H : Hp) (vs : List Addr) : Hp := fun p => if p ∈ vs then none else H p
theorem hid_in {H : Hp} {vs : List Addr} {p : Addr} (h : p ∈ vs) : hid H vs p = none := by unfold hid; rw [if_pos h]
theorem hid_out {H : Hp} {vs : List Addr} {p : Addr} (h : p ∉ vs) : hid H vs p = H p := by unfold hid; rw [if_neg h]
theorem hid_some {H : Hp} {vs : List Addr} {p : Addr} {o : HO} (h : hid H vs p = some o) : p ∉ vs ∧ H p = some o := by
  by_cases q : p ∈ vs
  · rw [hid_in q] at h; cases h
  · rw [hid_out q] at h; exact ⟨q, h⟩
theorem hid_nil {H : Hp} : hid H [] = H := by
  funext p
  exact hid_out (by simp)
def jn (B G : Hp) : Hp := fun p => match B p with | some o => some o | none => G p
theorem jn_l {B G : Hp} : Same B (jn B G) := fun p o h => by unfold jn; rw [h]
theorem jn_some {B G : Hp} {p : Addr} {o : HO} (h : jn B G p = some o) : B p = some o ∨ (B p = none ∧ G p = some o) := by
  unfold jn at h
  cases q : B p with
  | some u => rw [q] at h; exact .inl h
  | none => rw [q] at h; exact .inr ⟨rfl, h⟩
theorem jn_r {B G : Hp} {p : Addr} (h : B p = none) : jn B G p = G p := by unfold jn; rw [h]
def Mw (C : Cn) (W : Wd) : Hp := jn (hid C.H0 C.vs0) W.G
def Hm (W : Wd) : Hp := hid W.H W.vs
def wl (C : Cn) (W : Wd) : Lv → Hp
  | .g => W.G
  | .m => Mw C W
  | .h => Hm W
structure Bok (C : Cn) (W : Wd) : Prop where
  base : ∀ p o, C.H0 p = some o → p ∉ C.vs0 → W.H p = some o
  vol : ∀ p ∈ W.vs, ∃ o, W.H p = some o ∧ (¬ C.isT p → C.PI o)
  vsub : ∀ p ∈ C.vs0, p ∈ W.vs
  vnew : ∀ p ∈ W.vs, p ∉ C.vs0 → C.H0 p = none
  v0 : ∀ p ∈ C.vs0, C.H0 p ≠ none
  gv : ∀ p ∈ W.vs, W.G p = none
  g : ∀ p o, W.G p = some o → W.H p = some o
  gn : ∀ p o, W.G p = some o → C.H0 p = none
  fl : Same C.F W.G
  tab : ∀ P q, (P, q) ∈ C.tb.l → P ∈ W.vs ∧ ∃ ps, W.H P = some (.tbl ps) ∧ Cods q (jn C.kn W.G) ps
  knb : Same C.kn (hid C.H0 C.vs0)
structure Stp (W W' : Wd) : Prop where
  vs : W'.vs = W.vs
  g : Same W.G W'.G
  h : Same (Hm W) (Hm W')
  new : ∀ p o, W'.G p = some o → W.G p = some o ∨ W.H p = none
theorem Stp.refl (W : Wd) : Stp W W := ⟨rfl, Same.refl _, Same.refl _, fun _ _ h => .inl h⟩
theorem Bok.back {C : Cn} {W W' : Wd} (b : Bok C W) (b' : Bok C W') (s : Stp W W') {p : Addr} (h : W'.H p = none) : W.H p = none := by
  cases q : W.H p with
  | none => rfl
  | some o =>
    by_cases hv : p ∈ W.vs
    · obtain ⟨u, hu, _⟩ := b'.vol p (by rw [s.vs]; exact hv)
      rw [h] at hu; cases hu
    · have e : Hm W p = some o := (hid_out hv).trans q
      have e' := (hid_some (s.h _ _ e)).2
      rw [h] at e'; cases e'
theorem Stp.trans {C : Cn} {W W1 W2 : Wd} (b : Bok C W) (b1 : Bok C W1) (s : Stp W W1) (t : Stp W1 W2) : Stp W W2 :=
  ⟨t.vs.trans s.vs, s.g.trans t.g, s.h.trans t.h, fun p o h => by
    rcases t.new p o h with h | h
    · exact s.new p o h
    · exact .inr (b.back b1 s h)⟩
theorem Bok.gm {C : Cn} {W : Wd} (b : Bok C W) : Same W.G (Mw C W) := fun p o h => by
  unfold Mw
  rw [jn_r ?_]
  · exact h
  · by_cases hv : p ∈ C.vs0
    · exact hid_in hv
    · rw [hid_out hv]; exact b.gn _ _ h
theorem Bok.novs {C : Cn} {W : Wd} (b : Bok C W) {p : Addr} {o : HO} (h : W.G p = some o) : p ∉ W.vs := fun q => by
  rw [b.gv p q] at h; cases h
theorem Bok.mh {C : Cn} {W : Wd} (b : Bok C W) : Same (Mw C W) (Hm W) := fun p o h => by
  rcases jn_some h with h | ⟨_, h⟩
  · obtain ⟨h1, h2⟩ := hid_some h
    have hn : p ∉ W.vs := fun q => by
      have := b.vnew p q h1
      rw [h2] at this; cases this
    unfold Hm
    rw [hid_out hn]
    exact b.base p o h2 h1
  · unfold Hm
    rw [hid_out (b.novs h)]
    exact b.g _ _ h
theorem Bok.up {C : Cn} {W : Wd} (b : Bok C W) : ∀ ℓ : Lv, Same (wl C W ℓ) (Hm W)
  | .g => b.gm.trans b.mh
  | .m => b.mh
  | .h => Same.refl _
theorem Stp.lv {C : Cn} {W W' : Wd} (b : Bok C W) (s : Stp W W') : ∀ ℓ : Lv, Same (wl C W ℓ) (wl C W' ℓ)
  | .g => s.g
  | .m => fun p o h => by
    rcases jn_some h with h | ⟨n, h⟩
    · exact jn_l _ _ h
    · show jn _ _ p = some o
      rw [jn_r n]
      exact s.g _ _ h
  | .h => s.h
theorem Bok.hm {C : Cn} {W : Wd} {p : Addr} {o : HO} (h : Hm W p = some o) : W.H p = some o := (hid_some h).2
theorem Bok.h0 {C : Cn} {W : Wd} (b : Bok C W) {p : Addr} (h : W.H p = none) : C.H0 p = none := by
  cases q : C.H0 p with
  | none => rfl
  | some o =>
    by_cases hv : p ∈ C.vs0
    · obtain ⟨u, hu, _⟩ := b.vol p (b.vsub p hv)
      rw [h] at hu; cases hu
    · rw [b.base p o q hv] at h; cases h
theorem Bok.nvs {C : Cn} {W : Wd} (b : Bok C W) {p : Addr} (h : W.H p = none) : p ∉ W.vs := fun q => by
  obtain ⟨u, hu, _⟩ := b.vol p q
  rw [h] at hu; cases hu
theorem Bok.g0 {C : Cn} {W : Wd} (b : Bok C W) {p : Addr} (h : W.H p = none) : W.G p = none := by
  cases q : W.G p with
  | none => rfl
  | some o => rw [b.g _ _ q] at h; cases h
/-- a new object, not tracked as ours -/
def Wd.lay (W : Wd) (p : Addr) (o : HO) : Wd := ⟨upd W.H p o, W.G, W.vs⟩
/-- .. put among what never changes -/
def Wd.put (W : Wd) (p : Addr) (o : HO) : Wd := ⟨upd W.H p o, upd W.G p o, W.vs⟩
theorem jn_mono {B G G' : Hp} (s : Same G G') : Same (jn B G) (jn B G') := fun p o h => by
  rcases jn_some h with h | ⟨n, h⟩
  · exact jn_l _ _ h
  · rw [jn_r n]; exact s _ _ h
theorem same_upd {G : Hp} {p : Addr} {o : HO} (h : G p = none) : Same G (upd G p o) := fun q u e => by
  rw [upd_ne (ne_of_none e h)]; exact e
theorem Bok.lay {C : Cn} {W : Wd} (b : Bok C W) {p : Addr} {o : HO} (h : C.H0 p = none) (hv : p ∉ W.vs) (hg : W.G p = none) : Bok C (W.lay p o) where
  base := fun q u e n => by
    have ne : q ≠ p := ne_of_none e h
    show upd W.H p o q = _
    rw [upd_ne ne]; exact b.base q u e n
  vol := fun q hq => by
    have ne : q ≠ p := fun z => hv (z ▸ hq)
    show ∃ u, upd W.H p o q = some u ∧ _
    rw [upd_ne ne]; exact b.vol q hq
  vsub := b.vsub
  vnew := b.vnew
  v0 := b.v0
  gv := b.gv
  g := fun q u e => by
    have ne : q ≠ p := ne_of_none e hg
    show upd W.H p o q = _
    rw [upd_ne ne]; exact b.g q u e
  gn := b.gn
  fl := b.fl
  tab := fun P q e => by
    obtain ⟨h1, ps, h2, h3⟩ := b.tab P q e
    refine ⟨h1, ps, ?_, h3⟩
    have ne : P ≠ p := fun z => hv (z ▸ h1)
    show upd W.H p o P = _
    rw [upd_ne ne]; exact h2
  knb := b.knb
theorem Bok.put {C : Cn} {W : Wd} (b : Bok C W) {p : Addr} {o : HO} (h : C.H0 p = none) (hv : p ∉ W.vs) (hg : W.G p = none) : Bok C (W.put p o) where
  base := (b.lay h hv hg).base
  vol := (b.lay h hv hg).vol
  vsub := b.vsub
  vnew := b.vnew
  v0 := b.v0
  gv := fun q hq => by
    have ne : q ≠ p := fun z => hv (z ▸ hq)
    show upd W.G p o q = none
    rw [upd_ne ne]; exact b.gv q hq
  g := fun q u e => by
    by_cases z : q = p
    · subst z
      have e' : upd W.G q o q = some u := e
      show upd W.H q o q = some u
      rw [upd_same] at e' ⊢; exact e'
    · have e' : upd W.G p o q = some u := e
      rw [upd_ne z] at e'
      exact (b.lay h hv hg).g q u e'
  gn := fun q u e => by
    by_cases z : q = p
    · rw [z]; exact h
    · have e' : upd W.G p o q = some u := e
      rw [upd_ne z] at e'
      exact b.gn q u e'
  fl := fun q u e => by
    have e' := b.fl q u e
    show upd W.G p o q = _
    rw [upd_ne (ne_of_none e' hg)]; exact e'
  tab := fun P q e => by
    obtain ⟨h1, ps, h2, h3⟩ := (b.lay (o := o) h hv hg).tab P q e
    exact ⟨h1, ps, h2, h3.mono (jn_mono (same_upd hg))⟩
  knb := b.knb
theorem Stp.lay {C : Cn} {W : Wd} (b : Bok C W) {p : Addr} {o : HO} (h : W.H p = none) : Stp W (W.lay p o) :=
  ⟨rfl, Same.refl _, fun q u e => by
    obtain ⟨e1, e2⟩ := hid_some e
    show hid (upd W.H p o) W.vs q = _
    rw [hid_out e1, upd_ne (ne_of_none e2 h)]; exact e2, fun _ _ e => .inl e⟩
theorem Stp.put {C : Cn} {W : Wd} (b : Bok C W) {p : Addr} {o : HO} (h : W.H p = none) : Stp W (W.put p o) :=
  ⟨rfl, fun q u e => by
    show upd W.G p o q = _
    rw [upd_ne (ne_of_none e (b.g0 h))]; exact e, (Stp.lay b h).h, fun q u e => by
    by_cases z : q = p
    · subst z; exact .inr h
    · have e' : upd W.G p o q = some u := e
      rw [upd_ne z] at e'
      exact .inl e'⟩
/-- what stands there already (not ours) is put among what never changes -/
def Wd.frz (W : Wd) (p : Addr) (o : HO) : Wd := ⟨W.H, upd W.G p o, W.vs⟩
theorem Bok.frz {C : Cn} {W : Wd} (b : Bok C W) {p : Addr} {o : HO} (h : C.H0 p = none) (hv : p ∉ W.vs) (hp : W.H p = some o) (hg : W.G p = none) : Bok C (W.frz p o) where
  base := b.base
  vol := b.vol
  vsub := b.vsub
  vnew := b.vnew
  v0 := b.v0
  gv := fun q hq => by
    have ne : q ≠ p := fun z => hv (z ▸ hq)
    show upd W.G p o q = none
    rw [upd_ne ne]; exact b.gv q hq
  g := fun q u e => by
    by_cases z : q = p
    · subst z
      have e' : upd W.G q o q = some u := e
      rw [upd_same] at e'
      show W.H q = _
      rw [hp]; exact e'
    · have e' : upd W.G p o q = some u := e
      rw [upd_ne z] at e'
      exact b.g q u e'
  gn := fun q u e => by
    by_cases z : q = p
    · rw [z]; exact h
    · have e' : upd W.G p o q = some u := e
      rw [upd_ne z] at e'
      exact b.gn q u e'
  fl := fun q u e => by
    have e' := b.fl q u e
    show upd W.G p o q = _
    rw [upd_ne (ne_of_none e' hg)]; exact e'
  tab := fun P q e => by
    obtain ⟨h1, ps, h2, h3⟩ := b.tab P q e
    exact ⟨h1, ps, h2, h3.mono (jn_mono (same_upd hg))⟩
  knb := b.knb

/-! ### what the names hold -/
/-- an object of ours, of any make, over the addresses ps: K what is known, A the heap itself -/
structure Ob (α : Type) where
  is : Hp → Hp → V → List Addr → α → Prop
  mono : ∀ {K K' A A' : Hp} {v : V} {ps : List Addr} {a : α}, Same K K' → (∀ p ∈ ps, A' p = A p) → is K A v ps a → is K' A' v ps a
inductive Ent : Type 1 where
  | no : Ent
  | val {α : Type} (ℓ : Lv) (R : Rl α) (a : α) : Ent
  | own {α : Type} (p : Addr) (ℓ : Lv) (R : Rl α) (l : List α) : Ent
  | vol (p : Addr) : Ent
  | raw (v : V) : Ent
  | ob {α : Type} (v : V) (ps : List Addr) (ℓ : Lv) (S : Ob α) (a : α) : Ent
def Ent.ads : Ent → List Addr
  | .own p _ _ _ => [p]
  | .ob _ ps _ _ _ => ps
  | _ => []
/-- p is an address of ours, held at the name i -/
def adAt (Γ : List Ent) (i : Nat) (p : Addr) : Prop := ∃ e, Γ[i]? = some e ∧ p ∈ e.ads
theorem adAt.own {Γ : List Ent} {i : Nat} {α : Type} {p : Addr} {ℓ : Lv} {R : Rl α} {l : List α} (h : Γ[i]? = some (.own p ℓ R l)) : adAt Γ i p := ⟨_, h, List.mem_singleton.mpr rfl⟩
theorem adAt.ob {Γ : List Ent} {i : Nat} {α : Type} {v : V} {ps : List Addr} {q : Addr} {ℓ : Lv} {S : Ob α} {l : α} (h : Γ[i]? = some (.ob v ps ℓ S l)) (hq : q ∈ ps) : adAt Γ i q := ⟨_, h, hq⟩
def EntOk (C : Cn) (W : Wd) (x : Option V) : Ent → Prop
  | .no => True
  | .val ℓ R a => ℓ ≠ .h ∧ ∃ v, x = some v ∧ R.is (wl C W ℓ) v a
  | .own p ℓ R l => ℓ ≠ .h ∧ x = some (.ref p) ∧ p ∉ W.vs ∧ C.H0 p = none ∧ W.G p = none ∧ ∃ xs, W.H p = some (.lst xs) ∧ All2 (R.is (wl C W ℓ)) xs l
  | .vol p => x = some (.ref p) ∧ p ∈ W.vs ∧ ¬ C.isT p
  | .raw v => x = some v
  | .ob v ps ℓ S a => ℓ ≠ .h ∧ x = some v ∧ (∀ p ∈ ps, p ∉ W.vs ∧ C.H0 p = none ∧ W.G p = none ∧ W.H p ≠ none) ∧ S.is (wl C W ℓ) W.H v ps a
structure World (C : Cn) (σ : Sg) (W : Wd) (Γ : List Ent) : Prop where
  b : Bok C W
  len : σ.length = Γ.length
  ent : ∀ (i : Nat) (e : Ent), Γ[i]? = some e → ∃ x, σ[i]? = some x ∧ EntOk C W x e
  dis : ∀ (i j : Nat) (p q : Addr), i ≠ j → adAt Γ i p → adAt Γ j q → p ≠ q
/-- what is ours and not yet known stays so -/
theorem Stp.ours {W W' : Wd} (s : Stp W W') {p : Addr} (hv : p ∉ W.vs) (hg : W.G p = none) (hn : W.H p ≠ none) : W'.H p = W.H p ∧ W'.G p = none := by
  cases e : W.H p with
  | none => exact absurd e hn
  | some o =>
    have e1 : Hm W p = some o := (hid_out hv).trans e
    refine ⟨(hid_some (s.h _ _ e1)).2, ?_⟩
    cases q : W'.G p with
    | none => rfl
    | some u =>
      rcases s.new p u q with z | z
      · rw [hg] at z; cases z
      · rw [e] at z; cases z
theorem EntOk.stp {C : Cn} {W W' : Wd} {x : Option V} (b : Bok C W) (b' : Bok C W') (s : Stp W W') : ∀ {e : Ent}, EntOk C W x e → EntOk C W' x e
  | .no, _ => trivial
  | .val ℓ R a, ⟨n, v, e, h⟩ => ⟨n, v, e, R.mono (s.lv b ℓ) h⟩
  | .own p ℓ R l, ⟨n, e, hv, h0, hg, xs, hx, t⟩ => by
    have e1 : Hm W p = some (.lst xs) := (hid_out hv).trans hx
    refine ⟨n, e, by rw [s.vs]; exact hv, h0, ?_, xs, (hid_some (s.h _ _ e1)).2, t.imp fun _ _ => R.mono (s.lv b ℓ)⟩
    cases q : W'.G p with
    | none => rfl
    | some o =>
      rcases s.new p o q with z | z
      · rw [hg] at z; cases z
      · rw [hx] at z; cases z
  | .vol p, ⟨e, h⟩ => ⟨e, by rw [s.vs]; exact h⟩
  | .raw v, h => h
  | .ob v ps ℓ S a, ⟨n, e, hp, r⟩ => ⟨n, e, fun p m => by
      obtain ⟨h1, h2, h3, h4⟩ := hp p m
      obtain ⟨k1, k2⟩ := s.ours h1 h3 h4
      exact ⟨by rw [s.vs]; exact h1, h2, k2, by rw [k1]; exact h4⟩, S.mono (s.lv b ℓ) (fun p m => (s.ours (hp p m).1 (hp p m).2.2.1 (hp p m).2.2.2).1) r⟩
theorem World.stp {C : Cn} {σ : Sg} {W W' : Wd} {Γ : List Ent} (w : World C σ W Γ) (b' : Bok C W') (s : Stp W W') : World C σ W' Γ :=
  ⟨b', w.len, fun i e h => by
    obtain ⟨x, h1, h2⟩ := w.ent i e h
    exact ⟨x, h1, h2.stp w.b b' s⟩, w.dis⟩
theorem World.get {C : Cn} {σ : Sg} {W : Wd} {Γ : List Ent} (w : World C σ W Γ) {i : Nat} {e : Ent} (h : Γ[i]? = some e) : ∃ x, σ[i]? = some x ∧ EntOk C W x e := w.ent i e h
theorem World.lt {C : Cn} {σ : Sg} {W : Wd} {Γ : List Ent} (w : World C σ W Γ) {i : Nat} {e : Ent} (h : Γ[i]? = some e) : i < σ.length := by
  rw [w.len]
  exact (List.getElem?_eq_some_iff.mp h).1
theorem World.set {C : Cn} {σ : Sg} {W : Wd} {Γ : List Ent} (w : World C σ W Γ) (i : Nat) {x : Option V} {e : Ent} (h : EntOk C W x e) (hd : ∀ p, p ∈ e.ads → ∀ j q, j ≠ i → adAt Γ j q → p ≠ q) : World C (σ.set i x) W (Γ.set i e) := by
  refine ⟨w.b, by rw [List.length_set, List.length_set, w.len], fun j u hj => ?_, fun j k p q hjk hp hq => ?_⟩
  · by_cases z : i = j
    · subst z
      by_cases hl : i < Γ.length
      · rw [List.getElem?_set_self hl] at hj
        cases hj
        exact ⟨x, List.getElem?_set_self (by rw [w.len]; exact hl), h⟩
      · rw [List.getElem?_eq_none (by rw [List.length_set]; omega)] at hj
        cases hj
    · rw [List.getElem?_set_ne z] at hj
      obtain ⟨y, h1, h2⟩ := w.ent j u hj
      exact ⟨y, by rw [List.getElem?_set_ne z]; exact h1, h2⟩
  · have key : ∀ (j : Nat) (p : Addr), adAt (Γ.set i e) j p → (i = j ∧ p ∈ e.ads) ∨ (i ≠ j ∧ adAt Γ j p) := fun j p ⟨u, hu, hm⟩ => by
      by_cases z : i = j
      · subst z
        by_cases hl : i < Γ.length
        · rw [List.getElem?_set_self hl] at hu
          cases hu
          exact .inl ⟨rfl, hm⟩
        · rw [List.getElem?_eq_none (by rw [List.length_set]; omega)] at hu
          cases hu
      · rw [List.getElem?_set_ne z] at hu
        exact .inr ⟨z, u, hu, hm⟩
    rcases key j p hp with ⟨zj, mj⟩ | ⟨zj, aj⟩
    · rcases key k q hq with ⟨zk, _⟩ | ⟨zk, ak⟩
      · exact absurd (zj.symm.trans zk) hjk
      · exact hd p mj k q (Ne.symm zk) ak
    · rcases key k q hq with ⟨zk, mk⟩ | ⟨zk, ak⟩
      · exact Ne.symm (hd q mk j p (Ne.symm zj) aj)
      · exact w.dis j k p q hjk aj ak
/-- own addresses stand in the heap -/
theorem World.adH {C : Cn} {σ : Sg} {W : Wd} {Γ : List Ent} (w : World C σ W Γ) {j : Nat} {q : Addr} (h : adAt Γ j q) : W.H q ≠ none ∧ W.G q = none := by
  obtain ⟨u, e, hm⟩ := h
  obtain ⟨x, h1, h2⟩ := w.ent j u e
  cases u with
  | own p ℓ R l =>
    cases List.mem_singleton.mp hm
    obtain ⟨_, _, _, _, hg, xs, hx, _⟩ := h2
    exact ⟨(by rw [hx]; intro z; cases z), hg⟩
  | ob v ps ℓ S a => exact ⟨(h2.2.2.1 q hm).2.2.2, (h2.2.2.1 q hm).2.2.1⟩
  | no => cases hm
  | val _ _ _ => cases hm
  | vol _ => cases hm
  | raw _ => cases hm
end GL


set_option Elab.async false
set_option linter.all false
set_option maxRecDepth 100000
set_option maxHeartbeats 1000000
namespace GL
open PySem L2
/-! ### what an expression comes to -/
section
variable (C : Cn)
def EvP {α : Type} (te : TE) (Γ : List Ent) (ℓ : Lv) (R : Rl α) (P : α → Prop) : Prop :=
  ∀ σ W, World C σ W Γ → ∀ Q : VK, (∀ v W' a, Stp W W' → Bok C W' → R.is (wl C W' ℓ) v a → P a → Q v W'.H) → te σ W.H Q
abbrev Ev {α : Type} (te : TE) (Γ : List Ent) (ℓ : Lv) (R : Rl α) (a : α) : Prop := EvP C te Γ ℓ R (fun x => x = a)
inductive Kd where
  | l | t | e
def seqAt (k : Kd) (H : Hp) (p : Addr) (xs : List V) : Prop := match k with
  | .l => H p = some (.lst xs)
  | .t => Rd H p (.tup xs)
  | .e => H p = some (.lst xs) ∨ Rd H p (.tup xs)
/-- a list or tuple to be read; c: where it stands, ℓ: where its items stand -/
def EvS {α : Type} (te : TE) (Γ : List Ent) (k : Kd) (c ℓ : Lv) (R : Rl α) (P : List α → Prop) : Prop :=
  ∀ σ W, World C σ W Γ → ∀ Q : VK, (∀ p W' xs l, Stp W W' → Bok C W' → seqAt k (wl C W' c) p xs → All2 (R.is (wl C W' ℓ)) xs l → P l → Q (.ref p) W'.H) → te σ W.H Q
/-- a new list -/
def EvN {α : Type} (te : TE) (Γ : List Ent) (ℓ : Lv) (R : Rl α) (P : List α → Prop) : Prop :=
  ∀ σ W, World C σ W Γ → ∀ Q : VK, (∀ p W' xs l, Stp W W' → Bok C W' → W.H p = none → W'.H p = some (.lst xs) → W'.G p = none → All2 (R.is (wl C W' ℓ)) xs l → P l → Q (.ref p) W'.H) → te σ W.H Q
/-- a test -/
def EvB (tt : TT) (Γ : List Ent) (P : Bool → Prop) : Prop :=
  ∀ σ W, World C σ W Γ → ∀ Q : Bool → Hp → Prop, (∀ b W', Stp W W' → Bok C W' → P b → Q b W'.H) → tt σ W.H Q
abbrev EvC (tt : TT) (Γ : List Ent) (T : Prop) : Prop := EvB C tt Γ (fun b => b = true ↔ T)
/-- arguments -/
inductive Tel : Type 1 where
  | nil : Tel
  | cons {α : Type} (ℓ : Lv) (R : Rl α) (P : α → Prop) (t : Tel) : Tel
  | vol (p : Addr) (t : Tel) : Tel
def Tel.ok (C : Cn) (W : Wd) : Tel → List V → Prop
  | .nil, vs => vs = []
  | .cons ℓ R P t, vs => ∃ v r a, vs = v :: r ∧ R.is (wl C W ℓ) v a ∧ P a ∧ t.ok C W r
  | .vol p t, vs => ∃ r, vs = .ref p :: r ∧ p ∈ W.vs ∧ t.ok C W r
def EvA (ta : TA) (Γ : List Ent) (T : Tel) : Prop :=
  ∀ σ W, World C σ W Γ → ∀ Q : List V → Hp → Prop, (∀ vs W', Stp W W' → Bok C W' → T.ok C W' vs → Q vs W'.H) → ta σ W.H Q
end
section
variable {C : Cn} {Γ : List Ent} {α β γ δ : Type} {R : Rl α} {S : Rl β} {T : Rl γ} {U : Rl δ} {P : α → Prop} {P' : β → Prop} {P3 : γ → Prop} {ta tb tc te : TE} {ℓ ℓ' c c' : Lv} {K : PySem.W.Frag}
theorem Tel.stp {W W' : Wd} (b : Bok C W) (s : Stp W W') : ∀ {t : Tel} {vs : List V}, t.ok C W vs → t.ok C W' vs
  | .nil, _, h => h
  | .cons ℓ R P t, _, ⟨v, r, a, e, h, p, q⟩ => ⟨v, r, a, e, R.mono (s.lv b ℓ) h, p, Tel.stp b s q⟩
  | .vol p t, _, ⟨r, e, h, q⟩ => ⟨r, e, by rw [s.vs]; exact h, Tel.stp b s q⟩
theorem EvP.imp {P2 : α → Prop} (h : EvP C te Γ ℓ R P) (i : ∀ a, P a → P2 a) : EvP C te Γ ℓ R P2 := fun σ W w Q q => h σ W w Q fun v W' a s b r p => q v W' a s b r (i a p)
theorem EvP.toh (h : EvP C te Γ ℓ R P) : EvP C te Γ .h R P := fun σ W w Q q => h σ W w Q fun v W' a s b r p => q v W' a s b (R.mono (b.up ℓ) r) p
theorem EvP.fl (f : Flat R) (h : EvP C te Γ ℓ R P) : EvP C te Γ ℓ' R P := fun σ W w Q q => h σ W w Q fun v W' a s b r p => q v W' a s b (f _ _ _ _ r) p
theorem Ev.eq {a a' : α} (h : Ev C te Γ ℓ R a) (e : a = a') : Ev C te Γ ℓ R a' := h.imp fun x hx => hx.trans e
theorem EvS.imp {k : Kd} {P P2 : List α → Prop} (h : EvS C te Γ k c ℓ R P) (i : ∀ a, P a → P2 a) : EvS C te Γ k c ℓ R P2 := fun σ W w Q q => h σ W w Q fun p W' xs l s b e r z => q p W' xs l s b e r (i l z)
theorem EvN.imp {P P2 : List α → Prop} (h : EvN C te Γ ℓ R P) (i : ∀ a, P a → P2 a) : EvN C te Γ ℓ R P2 := fun σ W w Q q => h σ W w Q fun p W' xs l s b n hH hG r z => q p W' xs l s b n hH hG r (i l z)
theorem EvB.imp {tt : TT} {P P2 : Bool → Prop} (h : EvB C tt Γ P) (i : ∀ b, P b → P2 b) : EvB C tt Γ P2 := fun σ W w Q q => h σ W w Q fun b W' s bk p => q b W' s bk (i b p)
theorem seqAt.mono {k : Kd} {H H' : Hp} {p : Addr} {xs : List V} (s : Same H H') (h : seqAt k H p xs) : seqAt k H' p xs := by
  cases k with
  | l => exact s _ _ h
  | t => exact rd_mono s h
  | e => exact h.imp (s _ _) (rd_mono s)
theorem EvS.toh {k : Kd} {P : List α → Prop} (h : EvS C te Γ k c ℓ R P) : EvS C te Γ k .h .h R P := fun σ W w Q q => h σ W w Q fun p W' xs l s b e r z => q p W' xs l s b (e.mono (b.up c)) (r.imp fun _ _ => R.mono (b.up ℓ)) z
theorem EvS.fl {k : Kd} {P : List α → Prop} (f : Flat R) (h : EvS C te Γ k c ℓ R P) : EvS C te Γ k c ℓ' R P := fun σ W w Q q => h σ W w Q fun p W' xs l s b e r z => q p W' xs l s b e (r.imp fun _ _ => f _ _ _ _) z
theorem es_list {P : List α → Prop} (h : EvP C te Γ ℓ (rList R) P) : EvS C te Γ .l ℓ ℓ R P := fun σ W w Q q => h σ W w Q fun v W' a s b ⟨p, xs, e, h1, h2⟩ z => by subst e; exact q p W' xs a s b h1 h2 z
theorem es_tup {P : List α → Prop} (h : EvP C te Γ ℓ (rTup R) P) : EvS C te Γ .t ℓ ℓ R P := fun σ W w Q q => h σ W w Q fun v W' a s b ⟨p, xs, e, h1, h2⟩ z => by subst e; exact q p W' xs a s b h1 h2 z
theorem es_seq {P : List α → Prop} (h : EvP C te Γ ℓ (rSeq R) P) : EvS C te Γ .e ℓ ℓ R P := fun σ W w Q q => h σ W w Q fun v W' a s b ⟨p, xs, e, h1, h2⟩ z => by subst e; exact q p W' xs a s b h1 h2 z
/-- read as a row of any kind -/
theorem ev_seqL {P : List α → Prop} (h : EvP C te Γ ℓ (rList R) P) : EvP C te Γ ℓ (rSeq R) P := fun σ W w Q q => h σ W w Q fun v W' a s b ⟨p, xs, e, h1, h2⟩ z => q v W' a s b ⟨p, xs, e, .inl h1, h2⟩ z
theorem ev_seqT {P : List α → Prop} (h : EvP C te Γ ℓ (rTup R) P) : EvP C te Γ ℓ (rSeq R) P := fun σ W w Q q => h σ W w Q fun v W' a s b ⟨p, xs, e, h1, h2⟩ z => q v W' a s b ⟨p, xs, e, .inr h1, h2⟩ z
/-! names and constants -/
theorem ev_var {i : Nat} {a : α} (h : Γ[i]? = some (.val ℓ R a)) : Ev C (tVar i) Γ ℓ R a := fun σ W w Q q => by
  obtain ⟨x, h1, _, v, h2, h3⟩ := w.get h
  subst h2
  exact ⟨v, h1, q v W a (Stp.refl W) w.b h3 rfl⟩
theorem es_own {i : Nat} {p : Addr} {l : List α} (h : Γ[i]? = some (.own p ℓ R l)) : EvS C (tVar i) Γ .l .h ℓ R (fun x => x = l) := fun σ W w Q q => by
  obtain ⟨x, h1, _, h2, hv, _, _, xs, h3, h4⟩ := w.get h
  subst h2
  exact ⟨_, h1, q p W xs l (Stp.refl W) w.b ((hid_out hv).trans h3) h4 rfl⟩
/-- a row of ours as an argument -/
theorem ev_own {i : Nat} {p : Addr} {l : List α} (h : Γ[i]? = some (.own p ℓ R l)) : Ev C (tVar i) Γ .h (rList R) l := fun σ W w Q q => by
  obtain ⟨x, h1, _, h2, hv, _, _, xs, h3, h4⟩ := w.get h
  subst h2
  exact ⟨_, h1, q _ W l (Stp.refl W) w.b ⟨p, xs, rfl, (hid_out hv).trans h3, h4.imp fun _ _ => R.mono (w.b.up ℓ)⟩ rfl⟩
theorem ev_int {i : Int} : Ev C (tC (.int i)) Γ ℓ rInt i := fun σ W w Q q => q _ W i (Stp.refl W) w.b rfl rfl
theorem ev_bl {i : Bool} : Ev C (tC (.bl i)) Γ ℓ rBool i := fun σ W w Q q => q _ W i (Stp.refl W) w.b rfl rfl
theorem ev_non {α : Type} {R : Rl α} : Ev C (tC .non) Γ ℓ (rOpt R) none := fun σ W w Q q => q _ W none (Stp.refl W) w.b rfl rfl
/-! two operands -/
theorem evp_bin {r : R2} {P3 : γ → Prop} (ha : EvP C ta Γ .h R P) (hb : EvP C tb Γ .h S P')
    (hr : ∀ σ W x y a b (Q : VK), World C σ W Γ → R.is (Hm W) x a → S.is (Hm W) y b → P a → P' b → (∀ v W' z, Stp W W' → Bok C W' → T.is (wl C W' ℓ) v z → P3 z → Q v W'.H) → r x y W.H Q) : EvP C (tOp r ta tb) Γ ℓ T P3 := fun σ W w Q q =>
  ha σ W w _ fun x W1 a s1 b1 r1 p1 => hb σ W1 (w.stp b1 s1) _ fun y W2 b s2 b2 r2 p2 =>
    hr σ W2 x y a b Q ((w.stp b1 s1).stp b2 s2) (R.mono (s2.lv b1 .h) r1) r2 p1 p2 fun v W' z s3 b3 r3 p3 =>
      q v W' z ((s1.trans w.b b1 s2).trans w.b b2 s3) b3 r3 p3
theorem evp_I {g : Int → Int → V} {cd : Int → Int → Prop} {P P' : Int → Prop} {T : Rl γ} {f : Int → Int → γ} {P3 : γ → Prop} (ha : EvP C ta Γ .h rInt P) (hb : EvP C tb Γ .h rInt P') (hc : ∀ i j, P i → P' j → cd i j) (hg : ∀ H i j, T.is H (g i j) (f i j)) (hp : ∀ i j, P i → P' j → P3 (f i j)) :
    EvP C (tOp (rI cd g) ta tb) Γ ℓ T P3 := evp_bin ha hb fun σ W x y a b Q w r1 r2 p1 p2 q => ⟨a, b, r1, r2, hc a b p1 p2, q _ W _ (Stp.refl W) w.b (hg _ a b) (hp a b p1 p2)⟩
theorem evp_I0 {g : Int → Int → V} {P P' : Int → Prop} {T : Rl γ} {f : Int → Int → γ} {P3 : γ → Prop} (ha : EvP C ta Γ .h rInt P) (hb : EvP C tb Γ .h rInt P') (hg : ∀ H i j, T.is H (g i j) (f i j)) (hp : ∀ i j, P i → P' j → P3 (f i j)) :
    EvP C (tOp (rI0 g) ta tb) Γ ℓ T P3 := evp_bin ha hb fun σ W x y a b Q w r1 r2 p1 p2 q => ⟨a, b, r1, r2, q _ W _ (Stp.refl W) w.b (hg _ a b) (hp a b p1 p2)⟩
section
variable {i j : Int} {Pi Pj : Int → Prop}
theorem ev_add (ha : Ev C ta Γ .h rInt i) (hb : Ev C tb Γ .h rInt j) : Ev C (tOp (rI0 fun i j => .int (i + j)) ta tb) Γ ℓ rInt (i + j) := evp_I0 (f := fun i j => i + j) ha hb (fun _ _ _ => rfl) fun _ _ p q => by rw [p, q]
theorem ev_sub (ha : Ev C ta Γ .h rInt i) (hb : Ev C tb Γ .h rInt j) : Ev C (tOp (rI0 fun i j => .int (i - j)) ta tb) Γ ℓ rInt (i - j) := evp_I0 (f := fun i j => i - j) ha hb (fun _ _ _ => rfl) fun _ _ p q => by rw [p, q]
theorem ev_mul (ha : Ev C ta Γ .h rInt i) (hb : Ev C tb Γ .h rInt j) (hc : CMul i j) : Ev C (tOp (rI CMul fun i j => .int (i * j)) ta tb) Γ ℓ rInt (i * j) := evp_I (f := fun i j => i * j) ha hb (fun _ _ p q => by rw [p, q]; exact hc) (fun _ _ _ => rfl) fun _ _ p q => by rw [p, q]
theorem ev_fdiv (ha : Ev C ta Γ .h rInt i) (hb : Ev C tb Γ .h rInt j) (hc : CDiv i j) : Ev C (tOp (rI CDiv fun i j => .int (i / j)) ta tb) Γ ℓ rInt (i / j) := evp_I (f := fun i j => i / j) ha hb (fun _ _ p q => by rw [p, q]; exact hc) (fun _ _ _ => rfl) fun _ _ p q => by rw [p, q]
theorem ev_mod (ha : Ev C ta Γ .h rInt i) (hb : Ev C tb Γ .h rInt j) (hc : 0 < j) : Ev C (tOp (rI (fun _ j => 0 < j) fun i j => .int (i % j)) ta tb) Γ ℓ rInt (i % j) := evp_I (f := fun i j => i % j) ha hb (fun _ _ p q => by rw [q]; exact hc) (fun _ _ _ => rfl) fun _ _ p q => by rw [p, q]
theorem ev_pow (ha : Ev C ta Γ .h rInt i) (hb : Ev C tb Γ .h rInt j) (hc : CPow i j) : Ev C (tOp (rI CPow fun i j => .int (i ^ j.toNat)) ta tb) Γ ℓ rInt (i ^ j.toNat) := evp_I (f := fun i j => i ^ j.toNat) ha hb (fun _ _ p q => by rw [p, q]; exact hc) (fun _ _ _ => rfl) fun _ _ p q => by rw [p, q]
theorem evp_sub (ha : EvP C ta Γ .h rInt Pi) (hb : EvP C tb Γ .h rInt Pj) : EvP C (tOp (rI0 fun i j => .int (i - j)) ta tb) Γ ℓ rInt (fun z => ∃ x y, Pi x ∧ Pj y ∧ z = x - y) := evp_I0 (f := fun i j => i - j) ha hb (fun _ _ _ => rfl) fun x y p q => ⟨x, y, p, q, rfl⟩
theorem evp_mul (ha : EvP C ta Γ .h rInt Pi) (hb : EvP C tb Γ .h rInt Pj) (hc : ∀ x y, Pi x → Pj y → CMul x y) : EvP C (tOp (rI CMul fun i j => .int (i * j)) ta tb) Γ ℓ rInt (fun z => ∃ x y, Pi x ∧ Pj y ∧ z = x * y) := evp_I (f := fun i j => i * j) ha hb hc (fun _ _ _ => rfl) fun x y p q => ⟨x, y, p, q, rfl⟩
/-! comparisons of ints, as values -/
theorem ev_lt (ha : Ev C ta Γ .h rInt i) (hb : Ev C tb Γ .h rInt j) : Ev C (tOp (rI0 fun i j => .bl (decide (i < j))) ta tb) Γ ℓ rBool (decide (i < j)) := evp_I0 (f := fun i j => decide (i < j)) ha hb (fun _ _ _ => rfl) fun _ _ p q => by rw [p, q]
theorem ev_gt (ha : Ev C ta Γ .h rInt i) (hb : Ev C tb Γ .h rInt j) : Ev C (tOp (rI0 fun i j => .bl (decide (j < i))) ta tb) Γ ℓ rBool (decide (j < i)) := evp_I0 (f := fun i j => decide (j < i)) ha hb (fun _ _ _ => rfl) fun _ _ p q => by rw [p, q]
theorem ev_ge (ha : Ev C ta Γ .h rInt i) (hb : Ev C tb Γ .h rInt j) : Ev C (tOp (rI0 fun i j => .bl (decide (j ≤ i))) ta tb) Γ ℓ rBool (decide (j ≤ i)) := evp_I0 (f := fun i j => decide (j ≤ i)) ha hb (fun _ _ _ => rfl) fun _ _ p q => by rw [p, q]
theorem evp_eqI (ha : EvP C ta Γ .h rInt Pi) (hb : EvP C tb Γ .h rInt Pj) : EvP C (tOp rEq ta tb) Γ ℓ rBool (fun z => ∃ x y, Pi x ∧ Pj y ∧ z = decide (x = y)) := evp_bin ha hb fun σ W x y a b Q w r1 r2 p1 p2 q => by
  cases (show x = .int a from r1)
  cases (show y = .int b from r2)
  refine ⟨rfl, q _ W (decide (a = b)) (Stp.refl W) w.b ?_ ⟨a, b, p1, p2, rfl⟩⟩
  show V.bl _ = V.bl _
  congr 1
  exact decide_eq_decide.mpr ⟨fun h => V.int.inj h, fun h => by rw [h]⟩
theorem evp_neI (ha : EvP C ta Γ .h rInt Pi) (hb : EvP C tb Γ .h rInt Pj) : EvP C (tOp rNe ta tb) Γ ℓ rBool (fun z => ∃ x y, Pi x ∧ Pj y ∧ z = !decide (x = y)) := evp_bin ha hb fun σ W x y a b Q w r1 r2 p1 p2 q => by
  cases (show x = .int a from r1)
  cases (show y = .int b from r2)
  refine ⟨rfl, q _ W (!decide (a = b)) (Stp.refl W) w.b ?_ ⟨a, b, p1, p2, rfl⟩⟩
  show V.bl _ = V.bl _
  congr 2
  exact decide_eq_decide.mpr ⟨fun h => V.int.inj h, fun h => by rw [h]⟩
theorem ev_eqI (ha : Ev C ta Γ .h rInt i) (hb : Ev C tb Γ .h rInt j) : Ev C (tOp rEq ta tb) Γ ℓ rBool (decide (i = j)) := (evp_eqI ha hb).imp fun _ ⟨_, _, p, q, e⟩ => by rw [e, p, q]
theorem ev_neI (ha : Ev C ta Γ .h rInt i) (hb : Ev C tb Γ .h rInt j) : Ev C (tOp rNe ta tb) Γ ℓ rBool (!decide (i = j)) := (evp_neI ha hb).imp fun _ ⟨_, _, p, q, e⟩ => by rw [e, p, q]
end
/-! None -/
theorem ev_isN {o : Option α} (ha : Ev C ta Γ ℓ (rOpt R) o) : Ev C (tOp (fun x y H Q => y = .non ∧ Q (.bl (decide (x = .non))) H) ta (tC .non)) Γ ℓ' rBool o.isNone := fun σ W w Q q => ha σ W w _ fun x W1 a s b r p => ⟨rfl, q _ W1 _ s b (by
  subst p
  show V.bl _ = V.bl _
  congr 1
  cases a with
  | none => cases (show x = .non from r); rfl
  | some a => exact decide_eq_false r.2) rfl⟩
/-! tests -/
theorem eb_tst {P : Bool → Prop} (h : EvP C te Γ .h rBool P) : EvB C (tTest te) Γ P := fun σ W w Q q => h σ W w _ fun x W1 a s b r p => ⟨a, r, q a W1 s b p⟩
theorem eb_val {P : Bool → Prop} (h : EvP C te Γ .h rBool P) : EvB C (tB te) Γ P := fun σ W w Q q => h σ W w _ fun x W1 a s b r p => ⟨a, r, q a W1 s b p⟩
theorem ec_tst {p : Prop} [Decidable p] (h : Ev C te Γ .h rBool (decide p)) : EvC C (tTest te) Γ p := (eb_tst h).imp fun b e => by rw [e]; exact decide_eq_true_iff
theorem ec_tstN {p : Prop} [Decidable p] (h : Ev C te Γ .h rBool (!decide p)) : EvC C (tTest te) Γ (¬ p) := (eb_tst h).imp fun b e => by rw [e]; simp
theorem ec_valB {c : Bool} (h : Ev C te Γ .h rBool c) : EvC C (tB te) Γ (c = true) := (eb_val h).imp fun b e => by rw [e]
theorem ec_and {t u : TT} {p q : Prop} (h1 : EvC C t Γ p) (h2 : p → EvC C u Γ q) : EvC C (tAnd t u) Γ (p ∧ q) := fun σ W w Q k => h1 σ W w _ fun b W1 s1 b1 e1 => by
  cases b with
  | true =>
    have hp : p := e1.mp rfl
    show u σ W1.H Q
    exact h2 hp σ W1 (w.stp b1 s1) Q fun c W2 s2 b2 e2 => k c W2 (s1.trans w.b b1 s2) b2 ⟨(fun h => ⟨hp, e2.mp h⟩), fun h => e2.mpr h.2⟩
  | false =>
    show Q false W1.H
    exact k false W1 s1 b1 ⟨(fun h => by cases h), fun h => e1.mpr h.1⟩
theorem ec_or {t u : TT} {p q : Prop} (h1 : EvC C t Γ p) (h2 : ¬ p → EvC C u Γ q) : EvC C (tOr t u) Γ (p ∨ q) := fun σ W w Q k => h1 σ W w _ fun b W1 s1 b1 e1 => by
  cases b with
  | true =>
    show Q true W1.H
    exact k true W1 s1 b1 ⟨fun _ => .inl (e1.mp rfl), fun _ => rfl⟩
  | false =>
    have hp : ¬ p := fun h => by have := e1.mpr h; cases this
    show u σ W1.H Q
    exact h2 hp σ W1 (w.stp b1 s1) Q fun c W2 s2 b2 e2 => k c W2 (s1.trans w.b b1 s2) b2 ⟨fun h => .inr (e2.mp h), fun h => e2.mpr (h.resolve_left hp)⟩
theorem ec_not {t : TT} {p : Prop} (h1 : EvC C t Γ p) : EvC C (tNot t) Γ (¬ p) := fun σ W w Q k => h1 σ W w _ fun b W1 s1 b1 e1 => k _ W1 s1 b1 (by
  cases b with
  | true => exact ⟨(fun h => by cases h), fun h => absurd (e1.mp rfl) h⟩
  | false => exact ⟨(fun _ h => by have := e1.mpr h; cases this), fun _ => rfl⟩)
/-! and, or, not as values; the conditional expression -/
theorem ev_andV {a b : Bool} (h1 : Ev C ta Γ .h rBool a) (h2 : a = true → Ev C tb Γ .h rBool b) : Ev C (tAndV ta tb) Γ c rBool (a && b) := fun σ W w Q q => h1 σ W w _ fun x W1 a' s1 b1 r p => ⟨a', r, by
  subst p
  cases a' with
  | true => exact h2 rfl σ W1 (w.stp b1 s1) Q fun y W2 z s2 b2 r2 p2 => q y W2 z (s1.trans w.b b1 s2) b2 r2 (by rw [p2]; rfl)
  | false => exact q _ W1 false s1 b1 rfl rfl⟩
/-! arguments, displays -/
theorem World.adne {σ : Sg} {W : Wd} (w : World C σ W Γ) {p : Addr} (h : W.H p = none) (j : Nat) (q : Addr) (e : adAt Γ j q) : p ≠ q := fun z => by
  subst z
  exact (w.adH e).1 h
/-- a new list from a heap where it is laid -/
theorem fresh_go {σ : Sg} {W : Wd} {Q : VK} {xs : List V} {l : List α} {P : List α → Prop} (w : World C σ W Γ) {W1 : Wd} (s1 : Stp W W1) (b1 : Bok C W1)
    (q : ∀ p W' xs l, Stp W W' → Bok C W' → W.H p = none → W'.H p = some (.lst xs) → W'.G p = none → All2 (R.is (wl C W' ℓ)) xs l → P l → Q (.ref p) W'.H)
    (r : All2 (R.is (wl C W1 ℓ)) xs l) (hp : P l) : ∀ p, W1.H p = none → Q (.ref p) (upd W1.H p (.lst xs)) := fun p n => by
  have n0 := w.b.back b1 s1 n
  have sl := Stp.lay b1 (o := .lst xs) n
  exact q p (W1.lay p (.lst xs)) xs l (s1.trans w.b b1 sl) (b1.lay (b1.h0 n) (b1.nvs n) (b1.g0 n)) n0 upd_same (b1.g0 n) (r.imp fun _ _ => R.mono (sl.lv b1 ℓ)) hp
/-- what stands newly is put among what never changes -/
theorem frz_stp {W W' : Wd} {p : Addr} {o : HO} (s : Stp W W') (n : W.H p = none) (hG : W'.G p = none) : Stp W (W'.frz p o) :=
  ⟨s.vs, s.g.trans fun a u e => by
    show upd W'.G p _ a = _
    rw [upd_ne (ne_of_none e hG)]; exact e, s.h, fun a u e => by
    by_cases y : a = p
    · subst y
      exact .inr n
    · have e' : upd W'.G p o a = some u := e
      rw [upd_ne y] at e'
      exact s.new a u e'⟩
theorem frz_lv {W : Wd} {p : Addr} {o : HO} (b : Bok C W) (hG : W.G p = none) : ∀ ℓ : Lv, Same (wl C W ℓ) (wl C (W.frz p o) ℓ)
  | .g => fun a u e => by
    show upd W.G p _ a = _
    rw [upd_ne (ne_of_none e hG)]; exact e
  | .m => fun a u h => by
    rcases jn_some h with h | ⟨n, h⟩
    · exact jn_l _ _ h
    · show jn _ _ a = some u
      rw [jn_r n]
      show upd W.G p _ a = _
      rw [upd_ne (ne_of_none h hG)]; exact h
  | .h => Same.refl _
theorem frz_at {W : Wd} {p : Addr} {o : HO} (b : Bok C W) (h0 : C.H0 p = none) (hv : p ∉ W.vs) (hH : W.H p = some o) : ∀ ℓ : Lv, wl C (W.frz p o) ℓ p = some o
  | .g => upd_same
  | .m => by
    show jn _ _ p = some o
    rw [jn_r ?_]
    · exact upd_same
    · by_cases z : p ∈ C.vs0
      · exact hid_in z
      · rw [hid_out z]; exact h0
  | .h => (hid_out hv).trans hH
theorem ev_new {P : List α → Prop} (h : EvN C te Γ ℓ R P) : EvP C te Γ ℓ (rList R) P := fun σ W w Q q => h σ W w Q fun p W' xs l s b n hH hG r z => by
  have h0 := w.b.h0 n
  have hv : p ∉ W'.vs := by rw [s.vs]; exact w.b.nvs n
  have bf := b.frz (o := .lst xs) h0 hv hH hG
  exact q _ (W'.frz p (.lst xs)) l (frz_stp s n hG) bf ⟨p, xs, rfl, frz_at b h0 hv hH ℓ, r.imp fun _ _ => R.mono (frz_lv b hG ℓ)⟩ z
/-- a new tuple -/
theorem tup_go {σ : Sg} {W W1 : Wd} {Q : VK} {xs : List V} (w : World C σ W Γ) (s1 : Stp W W1) (b1 : Bok C W1)
    (q : ∀ p W', Stp W W' → Bok C W' → (∀ ℓ, Same (wl C W1 ℓ) (wl C W' ℓ)) → (∀ ℓ, wl C W' ℓ p = some (.tup xs)) → Q (.ref p) W'.H) : ∀ p, W1.H p = none → Q (.ref p) (upd W1.H p (.tup xs)) := fun p n => by
  have n0 := w.b.back b1 s1 n
  have bl := b1.put (o := .tup xs) (b1.h0 n) (b1.nvs n) (b1.g0 n)
  have sl := Stp.put b1 (o := .tup xs) n
  refine q p (W1.put p (.tup xs)) (s1.trans w.b b1 sl) bl (sl.lv b1) fun ℓ => ?_
  cases ℓ with
  | g => exact upd_same
  | m =>
    show jn _ _ p = _
    rw [jn_r ?_]
    · exact upd_same
    · by_cases z : p ∈ C.vs0
      · exact hid_in z
      · rw [hid_out z]; exact b1.h0 n
  | h => exact (hid_out (b1.nvs n)).trans upd_same
/-- argument lists of one kind of item -/
def Lis (C : Cn) (W : Wd) (ℓ : Lv) (R : Rl α) (vs : List V) (l : List α) : Prop := All2 (R.is (wl C W ℓ)) vs l
def EvM (C : Cn) (ta : TA) (Γ : List Ent) (ℓ : Lv) (R : Rl α) (P : List α → Prop) : Prop :=
  ∀ σ W, World C σ W Γ → ∀ Q : List V → Hp → Prop, (∀ vs W' l, Stp W W' → Bok C W' → All2 (R.is (wl C W' ℓ)) vs l → P l → Q vs W'.H) → ta σ W.H Q
theorem em_nil : EvM C tNil Γ ℓ R (fun l => l = []) := fun σ W w Q q => q [] W [] (Stp.refl W) w.b trivial rfl
theorem em_cons {tr : TA} {a : α} {l : List α} (h : Ev C te Γ ℓ R a) (hr : EvM C tr Γ ℓ R (fun x => x = l)) : EvM C (tCons te tr) Γ ℓ R (fun x => x = a :: l) := fun σ W w Q q =>
  h σ W w _ fun v W1 a' s1 b1 r p => hr σ W1 (w.stp b1 s1) _ fun vs W2 l' s2 b2 r2 p2 => q _ W2 (a' :: l') (s1.trans w.b b1 s2) b2 ⟨R.mono (s2.lv b1 ℓ) r, r2⟩ (by rw [p, p2])
theorem emp_cons {tr : TA} {Pr : List α → Prop} (h : EvP C te Γ ℓ R P) (hr : EvM C tr Γ ℓ R Pr) : EvM C (tCons te tr) Γ ℓ R (fun x => ∃ a l, x = a :: l ∧ P a ∧ Pr l) := fun σ W w Q q =>
  h σ W w _ fun v W1 a' s1 b1 r p => hr σ W1 (w.stp b1 s1) _ fun vs W2 l' s2 b2 r2 p2 => q _ W2 (a' :: l') (s1.trans w.b b1 s2) b2 ⟨R.mono (s2.lv b1 ℓ) r, r2⟩ ⟨a', l', rfl, p, p2⟩
theorem sizeLine_big : 1000000 ≤ sizeLine := by decide
theorem en_lst {ta : TA} {Pl : List α → Prop} (h : EvM C ta Γ ℓ R Pl) (hz : ∀ l, Pl l → l.length ≤ 1000000) : EvN C (tLst ta) Γ ℓ R Pl := fun σ W w Q q =>
  h σ W w _ fun vs W1 l s1 b1 r p => ⟨by rw [r.len]; exact Nat.le_trans (hz l p) sizeLine_big, fresh_go w s1 b1 q r p⟩
theorem ev_tup {ta : TA} {Pl : List α → Prop} (h : EvM C ta Γ ℓ R Pl) (hz : ∀ l, Pl l → l.length ≤ 1000000) : EvP C (tTup ta) Γ ℓ (rTup R) Pl := fun σ W w Q q =>
  h σ W w _ fun vs W1 l s1 b1 r p => ⟨by rw [r.len]; exact Nat.le_trans (hz l p) sizeLine_big, tup_go w s1 b1 fun a W' s b sm at_ => q _ W' l s b ⟨a, vs, rfl, .inl (at_ ℓ), r.imp fun _ _ => R.mono (sm ℓ)⟩ p⟩
theorem ev_pair (h : EvP C ta Γ ℓ R P) (h2 : EvP C tb Γ ℓ S P') : EvP C (tTup (tCons ta (tCons tb tNil))) Γ ℓ (rPair R S) (fun x => P x.1 ∧ P' x.2) := fun σ W w Q q =>
  h σ W w _ fun v W1 a s1 b1 r1 p1 => h2 σ W1 (w.stp b1 s1) _ fun u W2 b s2 b2 r2 p2 => ⟨by show 2 ≤ sizeLine; decide,
    tup_go w (s1.trans w.b b1 s2) b2 fun d W' s b' sm at_ => q _ W' (a, b) s b' ⟨d, v, u, rfl, at_ ℓ, R.mono (sm ℓ) (R.mono (s2.lv b1 ℓ) r1), S.mono (sm ℓ) r2⟩ ⟨p1, p2⟩⟩
end
end GL


set_option Elab.async false
set_option linter.all false
set_option maxRecDepth 100000
set_option maxHeartbeats 1000000
namespace GL
open PySem L2
/-! ### places -/
def gt {α : Type} [Inhabited α] (l : List α) (i : Int) : α := l.getD i.toNat default
def gtB {α : Type} [Inhabited α] (l : List α) (k : Nat) : α := l.getD (l.length - k) default
theorem gt_get {α : Type} [Inhabited α] {l : List α} {i : Int} (h : 0 ≤ i ∧ i < l.length) : l[i.toNat]? = some (gt l i) := by
  unfold gt
  rw [List.getD_eq_getElem?_getD]
  have : i.toNat < l.length := by omega
  rw [List.getElem?_eq_getElem this]
  rfl
theorem gtB_get {α : Type} [Inhabited α] {l : List α} {k : Nat} (h : 0 < k ∧ k ≤ l.length) : l[l.length - k]? = some (gtB l k) := by
  unfold gtB
  rw [List.getD_eq_getElem?_getD]
  have : l.length - k < l.length := by omega
  rw [List.getElem?_eq_getElem this]
  rfl
theorem atI_of {xs : List V} {i : Int} {v : V} (h0 : 0 ≤ i) (h : xs[i.toNat]? = some v) : atI xs i = some v := by
  have := atI_nat (j := i.toNat) h
  rwa [Int.toNat_of_nonneg h0] at this
theorem atI_back {xs : List V} {k : Nat} {v : V} (h : 0 < k ∧ k ≤ xs.length) (g : xs[xs.length - k]? = some v) : atI xs (-(k : Int)) = some v := by
  unfold atI ixN
  rw [if_neg (by omega), if_pos (by omega)]
  show xs[(-(k : Int) + (xs.length : Int)).toNat]? = some v
  rw [show (-(k : Int) + (xs.length : Int)).toNat = xs.length - k by omega]
  exact g
def sl {α : Type} (l : List α) (lo hi : Option Int) : List α := (l.drop (HT.sIx l.length 0 lo)).take (HT.sIx l.length l.length hi - HT.sIx l.length 0 lo)
section
variable {C : Cn} {Γ : List Ent} {α β γ δ : Type} {R : Rl α} {S : Rl β} {T : Rl γ} {P : α → Prop} {Pl : List α → Prop} {P' : β → Prop} {ta tb tc te : TE} {ℓ ℓ' c c' : Lv} {K : PySem.W.Frag}
theorem sqL_of {W : Wd} {p : Addr} {xs : List V} (b : Bok C W) {c : Lv} (h : seqAt .l (wl C W c) p xs) : SqL K W.H p xs := .inl (.inl (hid_some (b.up c _ _ h)).2)
theorem sqT_of {W : Wd} {p : Addr} {xs : List V} (b : Bok C W) {c : Lv} (h : seqAt .t (wl C W c) p xs) : SqT K W.H p xs := .inl (rd_mono (fun _ _ h => (hid_some (b.up c _ _ h)).2) h)
theorem sqE_of {W : Wd} {p : Addr} {xs : List V} (b : Bok C W) {c : Lv} (h : seqAt .e (wl C W c) p xs) : SqL K W.H p xs ∨ SqT K W.H p xs := h.imp (fun h => .inl (.inl (hid_some (b.up c _ _ h)).2)) fun h => .inl (rd_mono (fun _ _ h => (hid_some (b.up c _ _ h)).2) h)
theorem sqA_of {W : Wd} {k : Kd} {p : Addr} {xs : List V} (b : Bok C W) {c : Lv} (h : seqAt k (wl C W c) p xs) : SqL K W.H p xs ∨ SqT K W.H p xs := by
  cases k with
  | l => exact .inl (sqL_of b h)
  | t => exact .inr (sqT_of b h)
  | e => exact sqE_of b h
/-- the reading of a subscript by kind -/
def rIxK (K : PySem.W.Frag) : Kd → R2
  | .l => rIxL K
  | .t => rIxT K
  | .e => rIx K
theorem rIxK_go {k : Kd} {W : Wd} {p : Addr} {xs : List V} {i : Int} {v : V} {Q : VK} (b : Bok C W) {c : Lv} (h : seqAt k (wl C W c) p xs) (ha : atI xs i = some v) (q : Q v W.H) : rIxK K k (.ref p) (.int i) W.H Q := by
  cases k with
  | l => exact ⟨p, xs, i, v, rfl, rfl, sqL_of b h, ha, q⟩
  | t => exact ⟨p, xs, i, v, rfl, rfl, sqT_of b h, ha, q⟩
  | e =>
    rcases sqE_of b h with h | h
    · exact .inl ⟨p, xs, i, v, rfl, rfl, h, ha, q⟩
    · exact .inr (.inl ⟨p, xs, i, v, rfl, rfl, h, ha, q⟩)
theorem evp_ix {k : Kd} [Inhabited α] {Pi : Int → Prop} {P3 : α → Prop} (ha : EvS C ta Γ k c ℓ R Pl) (hb : EvP C tb Γ .h rInt Pi) (hc : ∀ l i, Pl l → Pi i → (0 ≤ i ∧ i < l.length) ∧ P3 (gt l i)) : EvP C (tOp (rIxK K k) ta tb) Γ ℓ R P3 := fun σ W w Q q =>
  ha σ W w _ fun p W1 xs l s1 b1 e1 r1 p1 => hb σ W1 (w.stp b1 s1) _ fun y W2 i s2 b2 r2 p2 => by
    cases (show y = .int i from r2)
    obtain ⟨h, h3⟩ := hc l i p1 p2
    obtain ⟨v, hv, rv⟩ := All2.get r1 (gt_get h)
    exact rIxK_go b2 (e1.mono (s2.lv b1 c)) (atI_of h.1 hv) (q v W2 _ (s1.trans w.b b1 s2) b2 (R.mono (s2.lv b1 ℓ) rv) h3)
theorem ev_ix {k : Kd} [Inhabited α] {l : List α} {i : Int} (ha : EvS C ta Γ k c ℓ R (fun x => x = l)) (hb : Ev C tb Γ .h rInt i) (hc : 0 ≤ i ∧ i < l.length) : Ev C (tOp (rIxK K k) ta tb) Γ ℓ R (gt l i) := evp_ix ha hb fun l' i' e1 e2 => by rw [e1, e2]; exact ⟨hc, rfl⟩
/-- from behind, a written place -/
theorem ev_ixB {k : Kd} [Inhabited α] {l : List α} {n : Nat} (ha : EvS C ta Γ k c ℓ R (fun x => x = l)) (hc : 0 < n ∧ n ≤ l.length) : Ev C (tOp (rIxK K k) ta (tUn (rU fun i => .int (-i)) (tC (.int (n : Int))))) Γ ℓ R (gtB l n) := fun σ W w Q q =>
  ha σ W w _ fun p W1 xs l' s1 b1 e1 r1 p1 => ⟨(n : Int), rfl, by
    subst p1
    have hl := r1.len
    obtain ⟨v, hv, rv⟩ := All2.get r1 (gtB_get hc)
    rw [← hl] at hv
    exact rIxK_go b1 e1 (atI_back (by rw [hl]; exact hc) hv) (q v W1 _ s1 b1 rv rfl)⟩
/-! len, list, tuple -/
abbrev rLenS (K : PySem.W.Frag) : List V → Hp → VK → Prop := fun xs H Q => ∃ p ys, xs = [.ref p] ∧ (SqL K H p ys ∨ SqT K H p ys) ∧ Q (.int ys.length) H
theorem evp_len {k : Kd} (ha : EvS C ta Γ k c ℓ R Pl) : EvP C (tCB (rLenS K) (tCons ta tNil)) Γ ℓ' rInt (fun z => ∃ l, Pl l ∧ z = l.length) := fun σ W w Q q =>
  ha σ W w _ fun p W1 xs l s b e r pl => ⟨p, xs, rfl, sqA_of b e, q _ W1 _ s b (by rw [r.len]; rfl) ⟨l, pl, rfl⟩⟩
theorem ev_len {k : Kd} {l : List α} (ha : EvS C ta Γ k c ℓ R (fun x => x = l)) : Ev C (tCB (rLenS K) (tCons ta tNil)) Γ ℓ' rInt (l.length : Int) := (evp_len ha).imp fun _ ⟨_, e, h⟩ => by rw [h, e]
abbrev rListOf (K : PySem.W.Frag) : List V → Hp → VK → Prop := fun xs H Q => ∃ p ys, xs = [.ref p] ∧ (SqL K H p ys ∨ SqT K H p ys) ∧ ∀ l, H l = none → Q (.ref l) (upd H l (.lst ys))
theorem en_list {k : Kd} (ha : EvS C ta Γ k c ℓ R Pl) : EvN C (tCB (rListOf K) (tCons ta tNil)) Γ ℓ R Pl := fun σ W w Q q =>
  ha σ W w _ fun p W1 xs l s b e r pl => ⟨p, xs, rfl, sqA_of b e, fresh_go w s b q r pl⟩
abbrev rTupOf (K : PySem.W.Frag) : List V → Hp → VK → Prop := fun xs H Q => ∃ p ys, xs = [.ref p] ∧ ((SqL K H p ys ∧ ∀ l, H l = none → Q (.ref l) (upd H l (.tup ys))) ∨ (SqT K H p ys ∧ Q (.ref p) H))
/-- tuple(x) of a list -/
theorem ev_tupL (ha : EvS C ta Γ .l c ℓ R Pl) : EvP C (tCB (rTupOf K) (tCons ta tNil)) Γ ℓ (rTup R) Pl := fun σ W w Q q =>
  ha σ W w _ fun p W1 xs l s b e r pl => ⟨p, xs, rfl, .inl ⟨sqL_of b e, tup_go w s b fun d W' s' b' sm at_ => q _ W' l s' b' ⟨d, xs, rfl, .inl (at_ ℓ), r.imp fun _ _ => R.mono (sm ℓ)⟩ pl⟩⟩
/-! slices -/
theorem All2.sl {p : V → α → Prop} {xs : List V} {l : List α} (h : All2 p xs l) (lo hi : Option Int) : All2 p (cutV xs lo hi) (sl l lo hi) := by
  unfold cutV GL.sl
  rw [h.len]
  exact (h.drop _).take _
def EvO (C : Cn) (to : TO) (Γ : List Ent) (P : Option Int → Prop) : Prop :=
  ∀ σ W, World C σ W Γ → ∀ Q : Option Int → Hp → Prop, (∀ o W', Stp W W' → Bok C W' → P o → Q o W'.H) → to σ W.H Q
theorem eo_no : EvO C tNoPart Γ (fun o => o = none) := fun σ W w Q q => q none W (Stp.refl W) w.b rfl
theorem eo_part {i : Int} (h : Ev C te Γ .h rInt i) : EvO C (tPart te) Γ (fun o => o = some i) := fun σ W w Q q => h σ W w _ fun x W1 a s b r p => ⟨a, r, q _ W1 s b (by rw [p])⟩
theorem en_slL {tl th : TO} {P1 P2 : Option Int → Prop} (ha : EvS C ta Γ .l c ℓ R Pl) (h1 : EvO C tl Γ P1) (h2 : EvO C th Γ P2) : EvN C (tSl (rSlL K) ta tl th) Γ ℓ R (fun z => ∃ l o1 o2, Pl l ∧ P1 o1 ∧ P2 o2 ∧ z = sl l o1 o2) := fun σ W w Q q =>
  ha σ W w _ fun p W1 xs l s1 b1 e1 r pl => h1 σ W1 (w.stp b1 s1) _ fun o1 W2 s2 b2 p1 => h2 σ W2 ((w.stp b1 s1).stp b2 s2) _ fun o2 W3 s3 b3 p2 =>
    ⟨p, xs, rfl, sqL_of b3 ((e1.mono (s2.lv b1 c)).mono (s3.lv b2 c)), fresh_go w ((s1.trans w.b b1 s2).trans w.b b2 s3) b3 q ((r.imp fun _ _ h => R.mono (s3.lv b2 ℓ) (R.mono (s2.lv b1 ℓ) h)).sl o1 o2) ⟨l, o1, o2, pl, p1, p2, rfl⟩⟩
/-- of either kind -/
def rSlE (K : PySem.W.Frag) : V → Option Int → Option Int → Hp → VK → Prop := fun x lo hi H Q => rSlL K x lo hi H Q ∨ rSlA K x lo hi H Q
theorem ev_slE {tl th : TO} {P1 P2 : Option Int → Prop} (ha : EvP C ta Γ ℓ (rSeq R) Pl) (h1 : EvO C tl Γ P1) (h2 : EvO C th Γ P2) : EvP C (tSl (rSlE K) ta tl th) Γ ℓ (rSeq R) (fun z => ∃ l o1 o2, Pl l ∧ P1 o1 ∧ P2 o2 ∧ z = sl l o1 o2) := fun σ W w Q q =>
  ha σ W w _ fun v W1 l s1 b1 ⟨p, xs, e, hp, r⟩ pl => h1 σ W1 (w.stp b1 s1) _ fun o1 W2 s2 b2 p1 => h2 σ W2 ((w.stp b1 s1).stp b2 s2) _ fun o2 W3 s3 b3 p2 => by
    have r3 := (r.imp fun _ _ h => R.mono (s3.lv b2 ℓ) (R.mono (s2.lv b1 ℓ) h)).sl o1 o2
    have s13 := (s1.trans w.b b1 s2).trans w.b b2 s3
    rcases hp with hp | hp
    · have e3 := (s3.lv b2 ℓ) _ _ ((s2.lv b1 ℓ) _ _ hp)
      refine .inl ⟨p, xs, e, sqL_of (c := ℓ) b3 e3, fresh_go (R := R) (ℓ := ℓ) (P := fun z => ∃ l o1 o2, Pl l ∧ P1 o1 ∧ P2 o2 ∧ z = sl l o1 o2) w s13 b3 (fun p W' xs l s b n hH hG r z => ?_) r3 ⟨l, o1, o2, pl, p1, p2, rfl⟩⟩
      have h0 := w.b.h0 n
      have hv : p ∉ W'.vs := by rw [s.vs]; exact w.b.nvs n
      exact q _ (W'.frz p (.lst xs)) l (frz_stp s n hG) (b.frz (o := .lst xs) h0 hv hH hG) ⟨p, xs, rfl, .inl (frz_at b h0 hv hH ℓ), r.imp fun _ _ => R.mono (frz_lv b hG ℓ)⟩ z
    · have e3 := rd_mono (s3.lv b2 ℓ) (rd_mono (s2.lv b1 ℓ) hp)
      refine .inr ⟨p, xs, e, sqT_of (c := ℓ) b3 e3, fun hw => ?_, fun _ => tup_go w s13 b3 fun d W' s' b' sm at_ => q _ W' _ s' b' ⟨d, _, rfl, .inr (.inl (at_ ℓ)), r3.imp fun _ _ => R.mono (sm ℓ)⟩ ⟨l, o1, o2, pl, p1, p2, rfl⟩⟩
      refine q _ W3 _ s13 b3 ⟨p, _, rfl, ?_, r3⟩ ⟨l, o1, o2, pl, p1, p2, rfl⟩
      have : cutV xs o1 o2 = xs := by
        unfold cutV
        rw [hw.1, hw.2]
        simp
      rw [this]
      exact .inr e3
/-! + and * of lists, + of tuples -/
theorem en_cat {Pm : List α → Prop} (ha : EvS C ta Γ .l c ℓ R Pl) (hb : EvS C tb Γ .l c' ℓ R Pm) (hz : ∀ l m, Pl l → Pm m → l.length + m.length ≤ 1000000) : EvN C (tOp rCat ta tb) Γ ℓ R (fun z => ∃ l m, Pl l ∧ Pm m ∧ z = l ++ m) := fun σ W w Q q =>
  ha σ W w _ fun p W1 xs l s1 b1 e1 r1 p1 => hb σ W1 (w.stp b1 s1) _ fun p' W2 ys m s2 b2 e2 r2 p2 =>
    ⟨p, p', xs, ys, rfl, rfl, (hid_some (b2.up c _ _ ((s2.lv b1 c) _ _ e1))).2, (hid_some (b2.up c' _ _ e2)).2, by rw [r1.len, r2.len]; exact Nat.le_trans (hz l m p1 p2) sizeLine_big,
      fresh_go w (s1.trans w.b b1 s2) b2 q ((r1.imp fun _ _ => R.mono (s2.lv b1 ℓ)).app r2) ⟨l, m, p1, p2, rfl⟩⟩
theorem All2.flat {p : V → α → Prop} {xs : List V} {l : List α} (h : All2 p xs l) : ∀ n : Nat, All2 p (List.replicate n xs).flatten (List.replicate n l).flatten
  | 0 => trivial
  | n + 1 => by
    rw [List.replicate_succ, List.replicate_succ, List.flatten_cons, List.flatten_cons]
    exact h.app (All2.flat h n)
/-! sums, least, greatest of ints -/
theorem All2.ints {H : Hp} {xs : List V} {l : List Int} (h : All2 (rInt.is H) xs l) : xs = l.map V.int := h.map_eq fun _ _ e => e
/-- int(a bool) -/
theorem evp_intB {Pb : Bool → Prop} (ha : EvP C ta Γ .h rBool Pb) : EvP C (tCB (fun xs H Q => (∃ i, xs = [.int i] ∧ Q (.int i) H) ∨ ∃ k, xs = [.bl k] ∧ Q (.int (if k then 1 else 0)) H) (tCons ta tNil)) Γ ℓ rInt (fun z => ∃ b, Pb b ∧ z = if b = true then 1 else 0) := fun σ W w Q q =>
  ha σ W w _ fun v W1 a s1 b1 r1 p1 => .inr ⟨a, by rw [show v = .bl a from r1], q _ W1 _ s1 b1 rfl ⟨a, p1, rfl⟩⟩
/-! == and != of data -/
structure Eqr (K : PySem.W.Frag) {α : Type} (R : Rl α) where
  enc : α → PyData
  dp : ∀ H v a, R.is H v a → Dp K H v (enc a)
  can : ∀ a, (enc a).canLay0 = true
  n : Nat
  dep : ∀ a, (enc a).depth ≤ n
  eqv : ∀ a b, PyData.eqv (enc a) (enc b) = true ↔ a = b
def eqr_int : Eqr K rInt := ⟨PyData.int, fun _ v a h => by cases (show v = .int a from h); exact .int a, fun _ => by simp [PyData.canLay0], 0, fun _ => by simp [PyData.depth], fun a b => by simp [PyData.eqv]⟩
def eqr_bool : Eqr K rBool := ⟨PyData.bool, fun _ v a h => by cases (show v = .bl a from h); exact .bl a, fun _ => by simp [PyData.canLay0], 0, fun _ => by simp [PyData.depth], fun a b => by simp [PyData.eqv]⟩
/-- what is never None -/
def eqr_optI : Eqr K (rOpt rInt) := ⟨fun o => match o with | none => .none | some i => .int i, fun _ v o h => by
  cases o with
  | none => cases (show v = .non from h); exact .non
  | some i => cases (show v = .int i from h.1); exact .int i, fun o => by cases o <;> simp [PyData.canLay0], 0, fun o => by cases o <;> simp [PyData.depth], fun a b => by cases a <;> cases b <;> simp [PyData.eqv]⟩
theorem dpAll {R : Rl α} (E : Eqr K R) {H : Hp} : ∀ {xs : List V} {l : List α}, All2 (R.is H) xs l → DpAll K H xs (l.map E.enc)
  | [], [], _ => .nil
  | _ :: _, _ :: _, ⟨h, t⟩ => .cons (E.dp _ _ _ h) (dpAll E t)
theorem eqvAll_iff {R : Rl α} (E : Eqr K R) : ∀ l m : List α, PyData.eqvAll (l.map E.enc) (m.map E.enc) = true ↔ l = m
  | [], [] => by simp [PyData.eqvAll]
  | [], _ :: _ => by simp [PyData.eqvAll]
  | _ :: _, [] => by simp [PyData.eqvAll]
  | a :: l, b :: m => by
    rw [List.map_cons, List.map_cons, PyData.eqvAll, Bool.and_eq_true, E.eqv, eqvAll_iff E l m, List.cons.injEq]
theorem canAll {R : Rl α} (E : Eqr K R) : ∀ l : List α, PyData.canLayAll0 (l.map E.enc) = true
  | [] => by simp [PyData.canLayAll0]
  | a :: l => by simp [PyData.canLayAll0, E.can a, canAll E l]
theorem depAll {R : Rl α} (E : Eqr K R) : ∀ l : List α, PyData.depthAll (l.map E.enc) ≤ E.n
  | [] => by simp [PyData.depthAll]
  | a :: l => by
    rw [List.map_cons, PyData.depthAll]
    exact Nat.max_le.mpr ⟨E.dep a, depAll E l⟩
def eqr_list {R : Rl α} (E : Eqr K R) : Eqr K (rList R) := ⟨fun l => .list (l.map E.enc), fun H v l ⟨p, xs, e, h, t⟩ => by subst e; exact .lst (.inl (.inl h)) (dpAll E t), fun l => by rw [PyData.canLay0]; exact canAll E l, E.n + 1,
  fun l => by rw [PyData.depth]; exact Nat.succ_le_succ (depAll E l), fun l m => by rw [PyData.eqv]; exact eqvAll_iff E l m⟩
def eqr_tup {R : Rl α} (E : Eqr K R) : Eqr K (rTup R) := ⟨fun l => .tuple (l.map E.enc), fun H v l ⟨p, xs, e, h, t⟩ => by subst e; exact .tup (.inl h) (dpAll E t), fun l => by rw [PyData.canLay0]; exact canAll E l, E.n + 1,
  fun l => by rw [PyData.depth]; exact Nat.succ_le_succ (depAll E l), fun l m => by rw [PyData.eqv]; exact eqvAll_iff E l m⟩
def eqr_pair {R : Rl α} {S : Rl β} (E : Eqr K R) (F : Eqr K S) : Eqr K (rPair R S) := ⟨fun l => .tuple [E.enc l.1, F.enc l.2], fun H v l ⟨p, x, y, e, h, t, u⟩ => by subst e; exact .tup (.inl (.inl h)) (.cons (E.dp _ _ _ t) (.cons (F.dp _ _ _ u) .nil)),
  fun l => by simp [PyData.canLay0, PyData.canLayAll0, E.can, F.can], max E.n F.n + 1, fun l => by
    have h1 := E.dep l.1
    have h2 := F.dep l.2
    simp only [PyData.depth, PyData.depthAll]
    omega, fun l m => by simp [PyData.eqv, PyData.eqvAll, E.eqv, F.eqv, Prod.ext_iff]⟩
def eqr_trip {R : Rl α} {S : Rl β} {T : Rl γ} (E : Eqr K R) (F : Eqr K S) (G : Eqr K T) : Eqr K (rTrip R S T) := ⟨fun l => .tuple [E.enc l.1, F.enc l.2.1, G.enc l.2.2], fun H v l ⟨p, x, y, z, e, h, t, u, w⟩ => by subst e; exact .tup (.inl h) (.cons (E.dp _ _ _ t) (.cons (F.dp _ _ _ u) (.cons (G.dp _ _ _ w) .nil))),
  fun l => by simp [PyData.canLay0, PyData.canLayAll0, E.can, F.can, G.can], max E.n (max F.n G.n) + 1, fun l => by
    have h1 := E.dep l.1
    have h2 := F.dep l.2.1
    have h3 := G.dep l.2.2
    simp only [PyData.depth, PyData.depthAll]
    omega, fun l m => by simp [PyData.eqv, PyData.eqvAll, E.eqv, F.eqv, G.eqv, Prod.ext_iff]⟩
theorem Eqr.sh {R : Rl α} (E : Eqr K R) (hn : E.n ≤ 64) (a : α) : SeqAt.shaped (E.enc a) = true := by
  unfold SeqAt.shaped
  rw [E.can a, Bool.true_and]
  exact decide_eq_true (Nat.le_trans (E.dep a) hn)
theorem evp_eqD {P1 P2 : α → Prop} (E : Eqr K R) (hn : E.n ≤ 64) (ha : EvP C ta Γ .h R P1) (hb : EvP C tb Γ .h R P2) : EvP C (tOp (rEqD K) ta tb) Γ ℓ rBool (fun z => ∃ a b, P1 a ∧ P2 b ∧ (z = true ↔ a = b)) := evp_bin ha hb fun σ W x y a b Q w r1 r2 p1 p2 q =>
  ⟨E.enc a, E.enc b, E.dp _ _ _ (R.mono (fun _ _ h => (hid_some h).2) r1), E.dp _ _ _ (R.mono (fun _ _ h => (hid_some h).2) r2), E.sh hn a, E.sh hn b, q _ W _ (Stp.refl W) w.b rfl ⟨a, b, p1, p2, E.eqv a b⟩⟩
theorem evp_neD {P1 P2 : α → Prop} (E : Eqr K R) (hn : E.n ≤ 64) (ha : EvP C ta Γ .h R P1) (hb : EvP C tb Γ .h R P2) : EvP C (tOp (rNeD K) ta tb) Γ ℓ rBool (fun z => ∃ a b, P1 a ∧ P2 b ∧ (z = true ↔ a ≠ b)) := evp_bin ha hb fun σ W x y a b Q w r1 r2 p1 p2 q =>
  ⟨E.enc a, E.enc b, E.dp _ _ _ (R.mono (fun _ _ h => (hid_some h).2) r1), E.dp _ _ _ (R.mono (fun _ _ h => (hid_some h).2) r2), E.sh hn a, E.sh hn b, q _ W _ (Stp.refl W) w.b rfl ⟨a, b, p1, p2, by
    have := E.eqv a b
    cases h : PyData.eqv (E.enc a) (E.enc b) with
    | true => rw [h] at this; simp [this.mp rfl]
    | false => rw [h] at this; simp; intro z; have := this.mpr z; cases this⟩⟩
theorem ev_eqD [DecidableEq α] {a b : α} (E : Eqr K R) (hn : E.n ≤ 64) (ha : Ev C ta Γ .h R a) (hb : Ev C tb Γ .h R b) : Ev C (tOp (rEqD K) ta tb) Γ ℓ rBool (decide (a = b)) := (evp_eqD E hn ha hb).imp fun z ⟨_, _, p, q, e⟩ => by
  subst p q
  rw [Bool.eq_iff_iff, e]; simp
theorem ev_neD [DecidableEq α] {a b : α} (E : Eqr K R) (hn : E.n ≤ 64) (ha : Ev C ta Γ .h R a) (hb : Ev C tb Γ .h R b) : Ev C (tOp (rNeD K) ta tb) Γ ℓ rBool (!decide (a = b)) := (evp_neD E hn ha hb).imp fun z ⟨_, _, p, q, e⟩ => by
  subst p q
  rw [Bool.eq_iff_iff, e]; simp
/-! in, index -/
theorem inV_int (x : Int) (l : List Int) : inV (.int x) (l.map V.int) = l.contains x := by
  unfold inV
  rw [List.any_map, List.contains_eq_any_beq]
  congr 1
  funext y
  show (y == x) = (x == y)
  exact Bool.beq_comm
theorem flat_ints (l : List Int) : (l.map V.int).all flatV = true := by
  rw [List.all_map]
  exact List.all_eq_true.mpr fun _ _ => rfl
theorem evp_nin {k : Kd} {Pi : Int → Prop} {Pl : List Int → Prop} (ha : EvP C ta Γ .h rInt Pi) (hb : EvS C tb Γ k c .h rInt Pl) : EvP C (tOp (rIn K true) ta tb) Γ ℓ rBool (fun z => ∃ x l, Pi x ∧ Pl l ∧ (z = true ↔ x ∉ l)) := fun σ W w Q q =>
  ha σ W w _ fun v W1 x s1 b1 r1 p1 => hb σ W1 (w.stp b1 s1) _ fun p W2 xs l s2 b2 e r2 p2 => ⟨p, xs, rfl, sqA_of b2 e, by rw [show v = .int x from r1]; rfl, by rw [r2.ints]; exact flat_ints l, q _ W2 (!inV v xs) (s1.trans w.b b1 s2) b2 rfl ⟨x, l, p1, p2, by
    rw [show v = .int x from r1, r2.ints, inV_int]; simp⟩⟩
theorem ev_nin {k : Kd} {x : Int} {l : List Int} (ha : Ev C ta Γ .h rInt x) (hb : EvS C tb Γ k c .h rInt (fun z => z = l)) : Ev C (tOp (rIn K true) ta tb) Γ ℓ rBool (!decide (x ∈ l)) := (evp_nin ha hb).imp fun z ⟨_, _, p, q, e⟩ => by
  subst p q
  rw [Bool.eq_iff_iff, e]; simp
end
end GL


set_option Elab.async false
set_option linter.all false
set_option maxRecDepth 100000
set_option maxHeartbeats 1000000
namespace GL
open PySem L2
/-! ### what is walked -/
/-- how far a fact about a heap carries: through deeds of the def itself (its own lists change), or through an expression alone -/
def per (C : Cn) (b : Bool) (W W' : Wd) : Prop := match b with
  | true => Same W.G W'.G
  | false => Stp W W'
theorem per.refl {C : Cn} {b : Bool} (W : Wd) : per C b W W := by
  cases b with
  | true => exact Same.refl _
  | false => exact Stp.refl W
theorem mw_same {C : Cn} {W W' : Wd} (h : Same W.G W'.G) : Same (Mw C W) (Mw C W') := fun p o e => by
  rcases jn_some e with e | ⟨n, e⟩
  · exact jn_l _ _ e
  · show jn _ _ p = some o
    rw [jn_r n]
    exact h _ _ e
structure Goes (C : Cn) {α : Type} (J : It) (ok : Wd → Prop) (ℓ : Lv) (R : Rl α) (l : List α) : Prop where
  go : ∀ V i, Bok C V → ok V → i < l.length → J.go i V.H
  stop : ∀ V, Bok C V → ok V → J.stop l.length V.H
  yld : ∀ V i x H' a, Bok C V → ok V → l[i]? = some a → J.yld i V.H x H' → ∃ V', V'.H = H' ∧ Bok C V' ∧ Stp V V' ∧ R.is (wl C V' ℓ) x a
def EvI (C : Cn) {α : Type} (b : Bool) (wi : TI) (Γ : List Ent) (ℓ : Lv) (R : Rl α) (P : List α → Prop) : Prop :=
  ∀ σ W, World C σ W Γ → ∀ Rk : It → Hp → Prop, (∀ J W' l (ok : Wd → Prop), Stp W W' → Bok C W' → ok W' → (∀ V1 V2, Bok C V1 → Bok C V2 → per C b V1 V2 → ok V1 → ok V2) → Goes C J ok ℓ R l → P l → Rk J W'.H) → wi σ W.H Rk
section
variable {C : Cn} {Γ : List Ent} {α β γ δ : Type} {R : Rl α} {S : Rl β} {T : Rl γ} {P : α → Prop} {Pl : List α → Prop} {P' : β → Prop} {ta tb tc te : TE} {ℓ ℓ' c c' : Lv} {K : PySem.W.Frag}
theorem EvI.imp {b : Bool} {wi : TI} {Pm : List α → Prop} (h : EvI C b wi Γ ℓ R Pl) (i : ∀ l, Pl l → Pm l) : EvI C b wi Γ ℓ R Pm := fun σ W w Rk k => h σ W w Rk fun J W' l ok s b o p g z => k J W' l ok s b o p g (i l z)
theorem Same.per {W W' : Wd} (s : Stp W W') : Same W.G W'.G := s.g
/-- where the container stands: c for a loop must be g or m -/
theorem per_wl {b : Bool} {c : Lv} (hc : b = true → c ≠ .h) {V1 V2 : Wd} (k1 : Bok C V1) (k : per C b V1 V2) : Same (wl C V1 c) (wl C V2 c) := by
  cases b with
  | true =>
    cases c with
    | g => exact k
    | m => exact mw_same k
    | h => exact absurd rfl (hc rfl)
  | false => exact Stp.lv k1 k c
theorem ei_list {b : Bool} (hc : b = true → c ≠ .h := by first | (intro h; exact absurd h (by decide)) | (intro _; decide)) (hl : b = true → ℓ ≠ .h := by first | (intro h; exact absurd h (by decide)) | (intro _; decide)) (ha : EvS C ta Γ .l c ℓ R Pl) : EvI C b (iList K ta) Γ ℓ R Pl := fun σ W w Rk k =>
  ha σ W w _ fun p W1 xs l s b1 e r pl => ⟨p, rfl, ⟨xs, sqL_of b1 e⟩, k _ W1 l (fun V => seqAt .l (wl C V c) p xs ∧ All2 (R.is (wl C V ℓ)) xs l) s b1 ⟨e, r⟩ (fun V1 V2 k1 k2 pr ⟨h1, h2⟩ => ⟨h1.mono (per_wl hc k1 pr), h2.imp fun _ _ => R.mono (per_wl hl k1 pr)⟩)
    ⟨fun V i bk ⟨h1, h2⟩ hi => ⟨xs, xs[i]'(by rw [h2.len]; exact hi), sqL_of bk h1, List.getElem?_eq_getElem _⟩, fun V bk ⟨h1, h2⟩ => ⟨xs, sqL_of bk h1, by rw [h2.len]; exact Nat.le_refl _⟩,
      fun V i x H' a bk ⟨h1, h2⟩ ha ⟨y1, y2⟩ => by
        obtain ⟨v, hv, rv⟩ := h2.get ha
        have := y2 xs (sqL_of bk h1)
        rw [hv] at this
        cases this
        exact ⟨V, y1.symm, bk, Stp.refl V, rv⟩⟩ pl⟩
/-- either -/
def iEith (K : PySem.W.Frag) (tl : TE) : TI := fun σ H R => tl σ H fun x H1 => ∃ a, x = .ref a ∧ (((∃ xs, SqL K H1 a xs) ∧ R (Itl K a) H1) ∨ ((∃ xs, SqT K H1 a xs) ∧ R (Itt K a) H1))
theorem ei_eith {b : Bool} (hc : b = true → ℓ ≠ .h := by first | (intro h; exact absurd h (by decide)) | (intro _; decide)) (ha : EvP C ta Γ ℓ (rSeq R) Pl) : EvI C b (iEith K ta) Γ ℓ R Pl := fun σ W w Rk k =>
  ha σ W w _ fun v W1 l s b1 ⟨p, xs, e, h, r⟩ pl => ⟨p, e, by
    rcases h with h | h
    · exact .inl ⟨⟨xs, sqL_of (c := ℓ) b1 h⟩, k _ W1 l (fun V => seqAt .l (wl C V ℓ) p xs ∧ All2 (R.is (wl C V ℓ)) xs l) s b1 ⟨h, r⟩ (fun V1 V2 k1 k2 pr ⟨h1, h2⟩ => ⟨h1.mono (per_wl hc k1 pr), h2.imp fun _ _ => R.mono (per_wl hc k1 pr)⟩)
        ⟨fun V i bk ⟨h1, h2⟩ hi => ⟨xs, xs[i]'(by rw [h2.len]; exact hi), sqL_of bk h1, List.getElem?_eq_getElem _⟩, fun V bk ⟨h1, h2⟩ => ⟨xs, sqL_of bk h1, by rw [h2.len]; exact Nat.le_refl _⟩,
          fun V i x H' a bk ⟨h1, h2⟩ ha ⟨y1, y2⟩ => by
            obtain ⟨v, hv, rv⟩ := h2.get ha
            have := y2 xs (sqL_of bk h1)
            rw [hv] at this
            cases this
            exact ⟨V, y1.symm, bk, Stp.refl V, rv⟩⟩ pl⟩
    · exact .inr ⟨⟨xs, sqT_of (c := ℓ) b1 h⟩, k _ W1 l (fun V => seqAt .t (wl C V ℓ) p xs ∧ All2 (R.is (wl C V ℓ)) xs l) s b1 ⟨h, r⟩ (fun V1 V2 k1 k2 pr ⟨h1, h2⟩ => ⟨h1.mono (per_wl hc k1 pr), h2.imp fun _ _ => R.mono (per_wl hc k1 pr)⟩)
        ⟨fun V i bk ⟨h1, h2⟩ hi => ⟨xs, xs[i]'(by rw [h2.len]; exact hi), sqT_of bk h1, List.getElem?_eq_getElem _⟩, fun V bk ⟨h1, h2⟩ => ⟨xs, sqT_of bk h1, by rw [h2.len]; exact Nat.le_refl _⟩,
          fun V i x H' a bk ⟨h1, h2⟩ ha ⟨y1, y2⟩ => by
            obtain ⟨v, hv, rv⟩ := h2.get ha
            have := y2 xs (sqT_of bk h1)
            rw [hv] at this
            cases this
            exact ⟨V, y1.symm, bk, Stp.refl V, rv⟩⟩ pl⟩⟩
/-- the ints lo, lo + 1, .. below hi -/
def rg (lo hi : Int) : List Int := (List.range (hi - lo).toNat).map fun (i : Nat) => lo + (i : Int)
theorem rg_len (lo hi : Int) : (rg lo hi).length = (hi - lo).toNat := by simp [rg]
theorem rg_get (lo hi : Int) (i : Nat) (h : i < (hi - lo).toNat) : (rg lo hi)[i]? = some (lo + (i : Int)) := by
  unfold rg
  rw [List.getElem?_map, List.getElem?_range h]; rfl
theorem goes_rg (lo hi : Int) : Goes C (Itr lo (hi - lo).toNat) (fun _ => True) ℓ rInt (rg lo hi) :=
  ⟨fun V i _ _ h => by rw [rg_len] at h; exact h, fun V _ _ => by rw [rg_len]; exact Nat.le_refl _, fun V i x H' a bk _ ha ⟨y1, y2⟩ => ⟨V, y1.symm, bk, Stp.refl V, by
    have hl : i < (hi - lo).toNat := by
      have := (List.getElem?_eq_some_iff.mp ha).1
      rwa [rg_len] at this
    rw [rg_get lo hi i hl] at ha
    cases ha
    exact y2⟩⟩
theorem ei_rg1 {b : Bool} {Pi : Int → Prop} (ha : EvP C ta Γ .h rInt Pi) (hz : ∀ i, Pi i → -(2 ^ 62) ≤ i ∧ i < 2 ^ 62) : EvI C b (iRng1 (tCons ta tNil)) Γ ℓ rInt (fun l => ∃ n, Pi n ∧ l = rg 0 n) := fun σ W w Rk k =>
  ha σ W w _ fun v W1 n s b1 r p => ⟨n, by rw [show v = .int n from r], (hz n p).1, (hz n p).2, k _ W1 (rg 0 n) (fun _ => True) s b1 trivial (fun _ _ _ _ _ _ => trivial) (by
    have := goes_rg (C := C) (ℓ := ℓ) 0 n
    rwa [Int.sub_zero] at this) ⟨n, p, rfl⟩⟩
theorem ei_rg2 {b : Bool} {Pi Pj : Int → Prop} (ha : EvP C ta Γ .h rInt Pi) (hb : EvP C tb Γ .h rInt Pj) (hz : ∀ i j, Pi i → Pj j → (-(2 ^ 62) ≤ i ∧ i < 2 ^ 62) ∧ (-(2 ^ 62) ≤ j ∧ j < 2 ^ 62)) : EvI C b (iRng2 (tCons ta (tCons tb tNil))) Γ ℓ rInt (fun l => ∃ i j, Pi i ∧ Pj j ∧ l = rg i j) := fun σ W w Rk k =>
  ha σ W w _ fun v W1 i s1 b1 r1 p1 => hb σ W1 (w.stp b1 s1) _ fun u W2 j s2 b2 r2 p2 => ⟨i, j, by rw [show v = .int i from r1, show u = .int j from r2], ⟨(hz i j p1 p2).1.1, (hz i j p1 p2).1.2, (hz i j p1 p2).2.1, (hz i j p1 p2).2.2⟩,
    k _ W2 (rg i j) (fun _ => True) (s1.trans w.b b1 s2) b2 trivial (fun _ _ _ _ _ _ => trivial) (goes_rg i j) ⟨i, j, p1, p2, rfl⟩⟩
/-- a new pair at each turn -/
theorem pair_yld {Z : Wd} {T : Addr} {x y : V} {a : α} {b : β} (bk : Bok C Z) (hT : Z.H T = none) (r1 : R.is (wl C Z ℓ) x a) (r2 : S.is (wl C Z ℓ) y b) : ∃ V' : Wd, V'.H = upd Z.H T (.tup [x, y]) ∧ Bok C V' ∧ Stp Z V' ∧ (rPair R S).is (wl C V' ℓ) (.ref T) (a, b) := by
  have bl := bk.put (o := .tup [x, y]) (bk.h0 hT) (bk.nvs hT) (bk.g0 hT)
  have sl := Stp.put bk (o := .tup [x, y]) hT
  refine ⟨Z.put T (.tup [x, y]), rfl, bl, sl, T, x, y, rfl, ?_, R.mono (sl.lv bk ℓ) r1, S.mono (sl.lv bk ℓ) r2⟩
  cases ℓ with
  | g => exact upd_same
  | m =>
    show jn _ _ T = _
    rw [jn_r ?_]
    · exact upd_same
    · by_cases z : T ∈ C.vs0
      · exact hid_in z
      · rw [hid_out z]; exact bk.h0 hT
  | h => exact (hid_out (bk.nvs hT)).trans upd_same
def enu {α : Type} (l : List α) : List (Int × α) := l.zipIdx.map fun p => ((p.2 : Int), p.1)
theorem enu_len {α : Type} (l : List α) : (enu l).length = l.length := by simp [enu]
theorem enu_get {α : Type} (l : List α) (i : Nat) : (enu l)[i]? = (l[i]?).map fun a => ((i : Int), a) := by
  unfold enu
  rw [List.getElem?_map, List.getElem?_zipIdx]
  cases l[i]? <;> simp
theorem ei_enum {b : Bool} (hc : b = true → c ≠ .h := by first | (intro h; exact absurd h (by decide)) | (intro _; decide)) (hl : b = true → ℓ ≠ .h := by first | (intro h; exact absurd h (by decide)) | (intro _; decide)) (ha : EvS C ta Γ .l c ℓ R Pl) : EvI C b (iEnum K (tCons ta tNil)) Γ ℓ (rPair rInt R) (fun z => ∃ l, Pl l ∧ z = enu l) := fun σ W w Rk k =>
  ha σ W w _ fun p W1 xs l s b1 e r pl => ⟨p, xs, rfl, sqL_of b1 e, k _ W1 (enu l) (fun V => seqAt .l (wl C V c) p xs ∧ All2 (R.is (wl C V ℓ)) xs l) s b1 ⟨e, r⟩ (fun V1 V2 k1 k2 pr ⟨h1, h2⟩ => ⟨h1.mono (per_wl hc k1 pr), h2.imp fun _ _ => R.mono (per_wl hl k1 pr)⟩)
    ⟨fun V i bk ⟨h1, h2⟩ hi => ⟨xs, xs[i]'(by rw [h2.len]; rwa [enu_len] at hi), sqL_of bk h1, List.getElem?_eq_getElem _⟩, fun V bk ⟨h1, h2⟩ => ⟨xs, sqL_of bk h1, by rw [enu_len, h2.len]; exact Nat.le_refl _⟩,
      fun V i x H' a bk ⟨h1, h2⟩ ha ⟨T, x', y1, y2, y3, y4⟩ => by
        rw [enu_get] at ha
        cases e : l[i]? with
        | none => rw [e] at ha; cases ha
        | some a' =>
          rw [e] at ha
          cases ha
          obtain ⟨v, hv, rv⟩ := h2.get e
          have := y4 xs (sqL_of bk h1)
          rw [hv] at this
          cases this
          subst y1 y3
          exact pair_yld bk y2 rfl rv⟩ ⟨l, pl, rfl⟩⟩
theorem EvI.fl {b : Bool} {wi : TI} (f : Flat R) (h : EvI C b wi Γ ℓ R Pl) : EvI C b wi Γ ℓ' R Pl := fun σ W w Rk k => h σ W w Rk fun J W' l ok s bk o p g z => k J W' l ok s bk o p ⟨g.go, g.stop, fun V i x H' a b1 o1 e y => by
  obtain ⟨V', h1, h2, h3, h4⟩ := g.yld V i x H' a b1 o1 e y
  exact ⟨V', h1, h2, h3, f _ _ _ _ h4⟩⟩ z
/-! ### comprehensions -/
def RL {α β : Type} (p : α → β → Prop) : List α → List β → Prop
  | [], [] => True
  | a :: l, b :: m => p a b ∧ RL p l m
  | _, _ => False
theorem RL.app {p : α → β → Prop} : ∀ {l l' : List α} {m m' : List β}, RL p l m → RL p l' m' → RL p (l ++ l') (m ++ m')
  | [], _, [], _, _, h => h
  | _ :: _, _, _ :: _, _, ⟨a, b⟩, h => ⟨a, RL.app b h⟩
theorem RL.len {p : α → β → Prop} : ∀ {l : List α} {m : List β}, RL p l m → l.length = m.length
  | [], [], _ => rfl
  | _ :: _, _ :: _, ⟨_, b⟩ => by rw [List.length_cons, List.length_cons, RL.len b]
theorem RL.eq {f : α → β} : ∀ {l : List α} {m : List β}, RL (fun a b => b = f a) l m → m = l.map f
  | [], [], _ => rfl
  | _ :: _, _ :: _, ⟨a, b⟩ => by rw [List.map_cons, a, RL.eq b]
theorem RL.get {p : α → β → Prop} : ∀ {l : List α} {m : List β} {i : Nat} {b : β}, RL p l m → m[i]? = some b → ∃ a, l[i]? = some a ∧ p a b
  | [], [], _, _, _, h => by simp at h
  | a :: _, _ :: _, 0, b, ⟨q, _⟩, h => by simp at h; subst h; exact ⟨a, rfl, q⟩
  | _ :: _, _ :: _, i + 1, b, ⟨_, t⟩, h => by
    obtain ⟨a, h1, h2⟩ := RL.get (i := i) (b := b) t (by simpa using h)
    exact ⟨a, by simpa using h1, h2⟩
theorem RL.mem {p : α → β → Prop} {l : List α} {m : List β} (h : RL p l m) {b : β} (hb : b ∈ m) : ∃ a, a ∈ l ∧ p a b := by
  obtain ⟨i, hi, e⟩ := List.getElem_of_mem hb
  obtain ⟨a, h1, h2⟩ := h.get (i := i) (b := b) (by rw [List.getElem?_eq_getElem hi, e])
  exact ⟨a, List.mem_of_getElem? h1, h2⟩
def wipeG (Γ : List Ent) : List Nat → List Ent
  | [] => Γ
  | v :: vs => (wipeG Γ vs).set v .no
theorem World.wipe {σ : Sg} {W : Wd} (w : World C σ W Γ) : ∀ vs : List Nat, World C (wipe σ vs) W (wipeG Γ vs)
  | [] => w
  | v :: vs => (World.wipe w vs).set v trivial fun p h => by cases h
theorem World.setv {σ : Sg} {W : Wd} (w : World C σ W Γ) (i : Nat) {v : V} {a : α} (hl : ℓ ≠ .h) (h : R.is (wl C W ℓ) v a) : World C (σ.set i (some v)) W (Γ.set i (.val ℓ R a)) :=
  w.set i ⟨hl, v, rfl, h⟩ fun p h => by cases h
theorem wipe1 {σ : Sg} {j : Nat} {x : Option V} : wipe ((wipe σ [j]).set j x) [j] = wipe σ [j] := by
  unfold wipe
  rw [show wipe σ [] = σ from rfl]
  show ((σ.set j none).set j x).set j none = σ.set j none
  rw [List.set_set, List.set_set]
/-- the core: g binds the item to slots as Γ' says -/
theorem en_lcG {wi : TI} {g : TG} {tt : TT} {vs : List Nat} {p : α → Bool} {Pe : α → β → Prop} (Γ' : α → List Ent) (hi : EvI C false wi Γ ℓ R Pl) (hlv : ℓ' ≠ .h := by decide) (hz : ∀ l, Pl l → l.length ≤ 1000000)
    (hg : ∀ (σ : Sg) W x a (Q : Sg → Hp → Prop), World C σ W Γ → R.is (wl C W ℓ) x a → (∀ σ2, World C σ2 W (Γ' a) → wipe σ2 vs = wipe σ vs → Q σ2 W.H) → g x (wipe σ vs) W.H Q)
    (ht : ∀ l a, Pl l → a ∈ l → EvB C tt (Γ' a) (fun b => b = p a)) (he : ∀ l a, Pl l → a ∈ l → p a = true → EvP C te (Γ' a) ℓ' S (fun b => Pe a b)) :
    EvN C (tLc wi g tt te vs) Γ ℓ' S (fun z => ∃ l, Pl l ∧ RL Pe (l.filter p) z) := fun σ W w Q q =>
  hi σ W w _ fun J W1 l ok s1 b1 o1 po gs pl D hD => by
    have w1 := w.stp b1 s1
    have n0 := w.b.back b1 s1 hD
    have hD0 := w.b.h0 n0
    have hDv : D ∉ W1.vs := by rw [s1.vs]; exact w.b.nvs n0
    -- a world within
    let Pv : Nat → Hp → Prop := fun i H => ∃ (Z : Wd) (acc : List V) (z : List β), Z.H = H ∧ Bok C Z ∧ Stp W1 Z ∧ Z.H D = some (.lst acc) ∧ Z.G D = none ∧ All2 (S.is (wl C Z ℓ')) acc z ∧ RL Pe ((l.take i).filter p) z
    have lay : ∀ (Z : Wd) (acc : List V), Bok C Z → Stp W1 Z → Z.G D = none → Bok C (Z.lay D (.lst acc)) ∧ Stp W1 (Z.lay D (.lst acc)) := fun Z acc bz sz hG => by
      have hv : D ∉ Z.vs := by rw [sz.vs]; exact hDv
      refine ⟨bz.lay hD0 hv hG, ⟨sz.vs, sz.g, fun a o e => ?_, sz.new⟩⟩
      have ne : a ≠ D := ne_of_none (hid_some e).2 hD
      have e' := sz.h a o e
      obtain ⟨e1, e2⟩ := hid_some e'
      show hid (upd Z.H D _) Z.vs a = _
      rw [hid_out e1, upd_ne ne]; exact e2
    have lvl : ∀ (Z : Wd) (acc : List V), Z.G D = none → ∀ ℓ'' : Lv, ℓ'' ≠ .h → Same (wl C Z ℓ'') (wl C (Z.lay D (.lst acc)) ℓ'') := fun Z acc hG ℓ'' hn => by
      cases ℓ'' with
      | g => exact Same.refl _
      | m => exact Same.refl _
      | h => exact absurd rfl hn
    refine ⟨fun i m H => m = l.length - i ∧ i ≤ l.length ∧ Pv i H, ⟨l.length, by omega, Nat.zero_le _, ?_⟩, ?_⟩
    · obtain ⟨b2, s2⟩ := lay W1 [] b1 (Stp.refl W1) (b1.g0 hD)
      exact ⟨W1.lay D (.lst []), [], [], rfl, b2, s2, upd_same, b1.g0 hD, trivial, trivial⟩
    · rintro i m H ⟨rfl, hil, Z, acc, z, rfl, bz, sz, hZ, hG, ha, hr⟩
      have okz := po W1 Z b1 bz sz o1
      by_cases hlt : i < l.length
      · refine .inr ⟨gs.go Z i bz okz hlt, Pv (i + 1), fun H' p' => ⟨l.length - (i + 1), by omega, rfl, hlt, p'⟩, fun x H' y => ?_⟩
        obtain ⟨Z', rfl, bz', sz', rx⟩ := gs.yld Z i x H' l[i] bz okz (List.getElem?_eq_getElem hlt) y
        have w' := (w1.stp bz sz).stp bz' sz'
        have hmem : l[i] ∈ l := List.getElem_mem hlt
        have keepD : ∀ {Z2 : Wd}, Bok C Z2 → Stp Z Z2 → Z2.H D = some (.lst acc) ∧ Z2.G D = none ∧ D ∉ Z2.vs := fun {Z2} b2 s2 => by
          have hv : D ∉ Z.vs := by rw [sz.vs]; exact hDv
          refine ⟨(hid_some (s2.h _ _ ((hid_out hv).trans hZ))).2, ?_, by rw [s2.vs]; exact hv⟩
          cases q : Z2.G D with
          | none => rfl
          | some o =>
            rcases s2.new D o q with e | e
            · rw [hG] at e; cases e
            · rw [hZ] at e; cases e
        refine hg σ Z' x l[i] _ w' rx fun σ2 w2 hw => ⟨hw, ?_⟩
        refine ht l l[i] pl hmem σ2 Z' w2 _ fun b Z3 s3 b3 hb => ?_
        have tk : (l.take (i + 1)).filter p = (l.take i).filter p ++ (if p l[i] = true then [l[i]] else []) := by
          rw [List.take_succ_eq_append_getElem hlt, List.filter_append]
          congr 1
          by_cases hp : p l[i] = true <;> simp [hp]
        cases b with
        | true =>
          have hp : p l[i] = true := hb.symm
          show te σ2 Z3.H _
          refine he l l[i] pl hmem hp σ2 Z3 (w2.stp b3 s3) _ fun y Z4 c s4 b4 r4 p4 => ?_
          have s34 := (sz'.trans bz bz' s3).trans bz b3 s4
          obtain ⟨k1, k2, k3⟩ := keepD b4 s34
          obtain ⟨b5, s5⟩ := lay Z4 (acc ++ [y]) b4 (sz.trans b1 bz s34) k2
          have hlen : z.length ≤ i := by
            have h1 := hr.len
            have h2 := List.length_filter_le p (l.take i)
            rw [List.length_take] at h2
            omega
          have hzl := hz l pl
          have sb := sizeLine_big
          refine ⟨acc, k1, by rw [ha.len]; omega, Z4.lay D (.lst (acc ++ [y])), acc ++ [y], z ++ [c], rfl, b5, s5, upd_same, k2, ?_, ?_⟩
          · refine All2.app (ha.imp fun _ _ h => S.mono (lvl Z4 _ k2 ℓ' hlv) (S.mono (s34.lv bz ℓ') h)) ⟨S.mono (lvl Z4 _ k2 ℓ' hlv) r4, trivial⟩
          · rw [tk, if_pos hp]
            exact hr.app ⟨p4, trivial⟩
        | false =>
          have hp : p l[i] = false := hb.symm
          show Pv (i + 1) Z3.H
          have s3' := sz'.trans bz bz' s3
          obtain ⟨k1, k2, k3⟩ := keepD b3 s3'
          refine ⟨Z3, acc, z, rfl, b3, sz.trans b1 bz s3', k1, k2, ha.imp fun _ _ h => S.mono (s3'.lv bz ℓ') h, ?_⟩
          rw [tk, if_neg (by rw [hp]; decide), List.append_nil]
          exact hr
      · have e : i = l.length := by omega
        subst e
        refine .inl ⟨gs.stop Z bz okz, ?_⟩
        rw [List.take_length] at hr
        exact q D Z acc z (s1.trans w.b b1 sz) bz n0 hZ hG ha ⟨l, pl, hr⟩
/-- the item in one name -/
theorem en_lc {wi : TI} {tt : TT} {j : Nat} {p : α → Bool} {Pe : α → β → Prop} (hi : EvI C false wi Γ ℓ R Pl) (hz : ∀ l, Pl l → l.length ≤ 1000000) (ht : ∀ l a, Pl l → a ∈ l → EvB C tt ((wipeG Γ [j]).set j (.val ℓ R a)) (fun b => b = p a))
    (he : ∀ l a, Pl l → a ∈ l → p a = true → EvP C te ((wipeG Γ [j]).set j (.val ℓ R a)) ℓ' S (fun b => Pe a b)) (hl : ℓ ≠ .h := by decide) (hlv : ℓ' ≠ .h := by decide) : EvN C (tLc wi (gName j) tt te [j]) Γ ℓ' S (fun z => ∃ l, Pl l ∧ RL Pe (l.filter p) z) :=
  en_lcG (fun a => (wipeG Γ [j]).set j (.val ℓ R a)) hi hlv hz (fun σ W x a Q w r k => k _ ((w.wipe [j]).setv j hl r) wipe1) ht he
theorem eb_yes : EvB C tYes Γ (fun b => b = true) := fun σ W w Q q => q true W (Stp.refl W) w.b rfl
/-- without a test, a function of the item -/
theorem en_map {wi : TI} {j : Nat} (f : α → β) (hi : EvI C false wi Γ ℓ R Pl) (hz : ∀ l, Pl l → l.length ≤ 1000000) (he : ∀ l a, Pl l → a ∈ l → Ev C te ((wipeG Γ [j]).set j (.val ℓ R a)) ℓ' S (f a)) (hl : ℓ ≠ .h := by decide) (hlv : ℓ' ≠ .h := by decide) :
    EvN C (tLc wi (gName j) tYes te [j]) Γ ℓ' S (fun z => ∃ l, Pl l ∧ z = l.map f) :=
  (en_lc (p := fun _ => true) (Pe := fun a b => b = f a) hi hz (fun _ _ _ _ => eb_yes) (fun l a h m _ => he l a h m) hl hlv).imp fun z ⟨l, h, r⟩ => ⟨l, h, by
    have := r.eq
    rwa [List.filter_eq_self.mpr (fun _ _ => rfl)] at this⟩
end
end GL


set_option Elab.async false
set_option linter.all false
set_option maxRecDepth 100000
set_option maxHeartbeats 1000000
namespace GL
open PySem L2
/-! ### statements -/
def Go (C : Cn) (t : TS) (D : Ends) (Γ : List Ent) : Prop := ∀ σ W, World C σ W Γ → t D σ W.H
def Nx (C : Cn) (k : Sg → Hp → Prop) (Γ : List Ent) : Prop := ∀ σ W, World C σ W Γ → k σ W.H
/-- some state of these forms -/
def Hol (C : Cn) {S : Type} (Γs : S → List Ent) (J : S → Prop) : Sg → Hp → Prop := fun σ H => ∃ s W, W.H = H ∧ World C σ W (Γs s) ∧ J s
/-- one may forget what a name holds -/
def LeG : List Ent → List Ent → Prop
  | [], [] => True
  | e :: Γ, e' :: Γ' => (e' = .no ∨ e' = e) ∧ LeG Γ Γ'
  | _, _ => False
theorem LeG.len : ∀ {Γ Γ' : List Ent}, LeG Γ Γ' → Γ.length = Γ'.length
  | [], [], _ => rfl
  | _ :: _, _ :: _, ⟨_, h⟩ => by rw [List.length_cons, List.length_cons, LeG.len h]
theorem LeG.get : ∀ {Γ Γ' : List Ent} {i : Nat} {e : Ent}, LeG Γ Γ' → Γ'[i]? = some e → e = .no ∧ i < Γ.length ∨ Γ[i]? = some e
  | [], [], _, _, _, h => by simp at h
  | a :: _, b :: _, 0, e, ⟨h, _⟩, k => by
    have k' : b = e := by simpa using k
    rcases h with h | h
    · exact .inl ⟨k' ▸ h, Nat.succ_pos _⟩
    · exact .inr (by show some a = some e; rw [← h, k'])
  | a :: Γ, b :: _, i + 1, e, ⟨_, h⟩, k => by
    rcases LeG.get (i := i) (e := e) h (by simpa using k) with ⟨h1, h2⟩ | h1
    · exact .inl ⟨h1, Nat.succ_lt_succ h2⟩
    · exact .inr (by simpa using h1)
theorem LeG.refl : ∀ (Γ : List Ent), LeG Γ Γ
  | [] => trivial
  | _ :: Γ => ⟨.inr rfl, LeG.refl Γ⟩
theorem World.le {C : Cn} {σ : Sg} {W : Wd} {Γ Γ' : List Ent} (w : World C σ W Γ) (h : LeG Γ Γ') : World C σ W Γ' := by
  refine ⟨w.b, w.len.trans h.len, fun i e k => ?_, fun i j p q hij hp hq => ?_⟩
  · rcases h.get k with ⟨rfl, hl⟩ | h1
    · obtain ⟨x, h2, _⟩ := w.ent i _ (List.getElem?_eq_getElem hl)
      exact ⟨x, h2, trivial⟩
    · exact w.ent i e h1
  · have back : ∀ (i : Nat) (p : Addr), adAt Γ' i p → adAt Γ i p := fun i p ⟨u, hu, hm⟩ => by
      rcases h.get hu with ⟨rfl, _⟩ | h1
      · cases hm
      · exact ⟨u, h1, hm⟩
    exact w.dis i j p q hij (back i p hp) (back j q hq)
/-- the same run, a later floor -/
structure Cex (C C' : Cn) : Prop where
  h0 : C'.H0 = C.H0
  vs0 : C'.vs0 = C.vs0
  pi : C'.PI = C.PI
  fl : Same C.F C'.F
  tb : C'.tb = C.tb
  kn : C'.kn = C.kn
theorem Cex.refl (C : Cn) : Cex C C := ⟨rfl, rfl, rfl, Same.refl _, rfl, rfl⟩
theorem Cex.trans {C C' C2 : Cn} (a : Cex C C') (b : Cex C' C2) : Cex C C2 := ⟨b.h0.trans a.h0, b.vs0.trans a.vs0, b.pi.trans a.pi, a.fl.trans b.fl, b.tb.trans a.tb, b.kn.trans a.kn⟩
theorem Bok.down {C C' : Cn} {W : Wd} (x : Cex C C') (b : Bok C' W) : Bok C W := by
  obtain ⟨h0, v0, pi, f0, tb0, kn0⟩ := C
  obtain ⟨h1, v1, pi1, f1, tb1, kn1⟩ := C'
  obtain ⟨e1, e2, e3, e4, e5, e6⟩ := x
  subst e1 e2 e3 e5 e6
  exact ⟨b.base, b.vol, b.vsub, b.vnew, b.v0, b.gv, b.g, b.gn, e4.trans b.fl, b.tab, b.knb⟩
theorem wl_ex {C C' : Cn} {W : Wd} (x : Cex C C') : ∀ ℓ, wl C' W ℓ = wl C W ℓ
  | .g => rfl
  | .m => by
    show jn (hid C'.H0 C'.vs0) W.G = jn (hid C.H0 C.vs0) W.G
    rw [x.h0, x.vs0]
  | .h => rfl
theorem EntOk.ex {C C' : Cn} {W : Wd} {y : Option V} (x : Cex C C') : ∀ {e : Ent}, EntOk C' W y e ↔ EntOk C W y e
  | .no => Iff.rfl
  | .val ℓ R a => by
    show (ℓ ≠ .h ∧ ∃ v, y = some v ∧ R.is (wl C' W ℓ) v a) ↔ (ℓ ≠ .h ∧ ∃ v, y = some v ∧ R.is (wl C W ℓ) v a)
    rw [wl_ex x]
  | .own p ℓ R l => by
    show (ℓ ≠ .h ∧ y = some (.ref p) ∧ p ∉ W.vs ∧ C'.H0 p = none ∧ W.G p = none ∧ ∃ xs, W.H p = some (.lst xs) ∧ All2 (R.is (wl C' W ℓ)) xs l) ↔ (ℓ ≠ .h ∧ y = some (.ref p) ∧ p ∉ W.vs ∧ C.H0 p = none ∧ W.G p = none ∧ ∃ xs, W.H p = some (.lst xs) ∧ All2 (R.is (wl C W ℓ)) xs l)
    rw [wl_ex x, x.h0]
  | .vol p => by
    show (y = some (.ref p) ∧ p ∈ W.vs ∧ ¬ C'.isT p) ↔ (y = some (.ref p) ∧ p ∈ W.vs ∧ ¬ C.isT p)
    unfold Cn.isT
    rw [x.tb]
  | .raw v => Iff.rfl
  | .ob v ps ℓ S a => by
    show (ℓ ≠ .h ∧ y = some v ∧ (∀ p ∈ ps, p ∉ W.vs ∧ C'.H0 p = none ∧ W.G p = none ∧ W.H p ≠ none) ∧ S.is (wl C' W ℓ) W.H v ps a) ↔ (ℓ ≠ .h ∧ y = some v ∧ (∀ p ∈ ps, p ∉ W.vs ∧ C.H0 p = none ∧ W.G p = none ∧ W.H p ≠ none) ∧ S.is (wl C W ℓ) W.H v ps a)
    rw [wl_ex x, x.h0]
theorem World.down {C C' : Cn} {σ : Sg} {W : Wd} {Γ : List Ent} (x : Cex C C') (w : World C' σ W Γ) : World C σ W Γ :=
  ⟨w.b.down x, w.len, fun i e h => by
    obtain ⟨y, h1, h2⟩ := w.ent i e h
    exact ⟨y, h1, (EntOk.ex x).mp h2⟩, w.dis⟩
/-- .. from a world whose own part holds the floor -/
theorem World.raise {C : Cn} {σ : Sg} {W : Wd} {Γ : List Ent} (w : World C σ W Γ) {F : Hp} (hF : Same C.F F) (h : Same F W.G) : World { C with F := F } σ W Γ := by
  have x : Cex C { C with F := F } := ⟨rfl, rfl, rfl, hF, rfl, rfl⟩
  exact ⟨⟨w.b.base, w.b.vol, w.b.vsub, w.b.vnew, w.b.v0, w.b.gv, w.b.g, w.b.gn, h, w.b.tab, w.b.knb⟩, w.len, fun i e k => by
    obtain ⟨y, h1, h2⟩ := w.ent i e k
    exact ⟨y, h1, (EntOk.ex x).mpr h2⟩, w.dis⟩
/-- what is wanted of a return | of an exception -/
def RetOk (C : Cn) (D : Ends) {β : Type} (R : Rl β) (P : β → Prop) : Prop := ∀ v W b, Bok C W → R.is W.G v b → P b → D.rt v W.H
def ExcOk (C : Cn) (E : XK) (P : Addr → Prop) : Prop := ∀ c W, Bok C W → P c → E (.ref c) none W.H
theorem RetOk.ex {C C' : Cn} {D : Ends} {β : Type} {R : Rl β} {P : β → Prop} (h : RetOk C D R P) (x : Cex C C') : RetOk C' D R P := fun v W b k => h v W b (k.down x)
theorem ExcOk.ex {C C' : Cn} {E : XK} {P : Addr → Prop} (h : ExcOk C E P) (x : Cex C C') : ExcOk C' E P := fun c W k => h c W (k.down x)
theorem exc0 {C : Cn} {E : XK} : ExcOk C E (fun _ => False) := fun _ _ _ h => h.elim
def tCut (t u : TS) : TS := fun D σ H => ∃ Mid : L2.St → Hp → Prop, t { D with nx := Mid } σ H ∧ ∀ σ' H', Mid σ' H' → u D σ' H'
theorem pss_cut {X : Cx} {st : Stmt} {rest : List Stmt} {t u : TS} (h1 : PS X st t) (h2 : PSs X rest u) : PSs X (st :: rest) (tCut t u) := by
  refine ⟨fun pins s σ H D I h => ?_⟩
  obtain ⟨Mid, hm, hu⟩ := h
  refine wpAny_execs_cons (thn (h1.run pins s σ H { D with nx := Mid } I hm) fun f s1 q => ?_)
  cases f with
  | next =>
    obtain ⟨σ', H', I', q⟩ := q
    exact h2.run pins s1 σ' H' D I' (hu σ' H' q)
  | ret v => exact q
  | brk => exact q
  | cont => exact q
section
variable {C : Cn} {Γ : List Ent} {α β γ δ : Type} {R : Rl α} {S : Rl β} {T : Rl γ} {P : α → Prop} {Pl : List α → Prop} {P' : β → Prop} {ta tb tc te : TE} {ℓ ℓ' c c' : Lv} {K : PySem.W.Frag} {D : Ends} {t u u' : TS}
theorem Go.le {Γ' : List Ent} (h : LeG Γ Γ') (g : Go C t D Γ') : Go C t D Γ := fun σ W w => g σ W (w.le h)
theorem hol_in {S : Type} {Γs : S → List Ent} {J : S → Prop} (s : S) (hJ : J s) (h : LeG Γ (Γs s)) : Nx C (Hol C Γs J) Γ := fun σ W w => ⟨s, W, rfl, w.le h, hJ⟩
theorem q_next (h : Nx C D.nx Γ) : Go C tNext D Γ := h
/-- x = e -/
theorem q_asg {i : Nat} (h : EvP C te Γ ℓ R P) (k : ∀ a, P a → Go C u D (Γ.set i (.val ℓ R a))) (hl : ℓ ≠ .h := by decide) : Go C (tSeq (tAsg te (gName i)) u) D Γ := fun σ W w =>
  h σ W w _ fun v W' a s b r p => k a p _ W' ((w.stp b s).setv i hl r)
/-- x = a new list, ours -/
theorem q_asgN {i : Nat} (h : EvN C te Γ ℓ R Pl) (k : ∀ p l, Pl l → Go C u D (Γ.set i (.own p ℓ R l))) (hl : ℓ ≠ .h := by decide) : Go C (tSeq (tAsg te (gName i)) u) D Γ := fun σ W w =>
  h σ W w _ fun p W' xs l s b n hH hG r z => k p l z _ W' ((w.stp b s).set i ⟨hl, rfl, by rw [s.vs]; exact w.b.nvs n, w.b.h0 n, hG, xs, hH, r⟩ fun q hq j q' hj e => by
    cases List.mem_singleton.mp hq
    exact w.adne n j q' e)
theorem q_drop (h : EvP C te Γ ℓ R P) (k : ∀ a, P a → Go C u D Γ) : Go C (tSeq (tDrop te) u) D Γ := fun σ W w => h σ W w _ fun v W' a s b r p => k a p _ W' (w.stp b s)
/-- our list is ours no more -/
theorem q_frz {i : Nat} {p : Addr} {l : List α} (h : Γ[i]? = some (.own p ℓ R l)) (k : Go C u D (Γ.set i (.val ℓ (rList R) l))) : Go C u D Γ := fun σ W w => by
  obtain ⟨x, h1, hl, h2, hv, h0, hG, xs, hH, r⟩ := w.get h
  subst h2
  have bf := w.b.frz (o := .lst xs) h0 hv hH hG
  have lv := frz_lv (C := C) w.b (p := p) (o := .lst xs) hG
  have ef : σ = σ.set i (some (.ref p)) := by
    refine List.ext_getElem? fun j => ?_
    by_cases e : i = j
    · subst e
      rw [List.getElem?_set_self (w.lt h), h1]
    · rw [List.getElem?_set_ne e]
  have wf : World C σ (W.frz p (.lst xs)) (Γ.set i .no) := by
    have w0 := w.set i (x := some (.ref p)) (e := .no) trivial fun q hq => by cases hq
    rw [← ef] at w0
    refine ⟨bf, w0.len, fun j e hj => ?_, w0.dis⟩
    obtain ⟨y, y1, y2⟩ := w0.ent j e hj
    refine ⟨y, y1, ?_⟩
    cases e with
    | no => trivial
    | val ℓ' R' a => exact ⟨y2.1, let ⟨v, e, q⟩ := y2.2; ⟨v, e, R'.mono (lv ℓ') q⟩⟩
    | own q ℓ' R' l' =>
      obtain ⟨z1, z2, z3, z4, z5, ys, z6, z7⟩ := y2
      refine ⟨z1, z2, z3, z4, ?_, ys, z6, z7.imp fun _ _ => R'.mono (lv ℓ')⟩
      have ne : q ≠ p := by
        by_cases e : i = j
        · subst e
          rw [List.getElem?_set_self (by rw [← w.len]; exact w.lt h)] at hj
          cases hj
        · rw [List.getElem?_set_ne e] at hj
          exact Ne.symm (w.dis i j p q e (.own h) (.own hj))
      show upd W.G p _ q = none
      rw [upd_ne ne]; exact z5
    | vol q => exact y2
    | raw v => exact y2
    | ob v ps ℓ' S' a' =>
      obtain ⟨z1, z2, z3, z4⟩ := y2
      refine ⟨z1, z2, fun q m => ?_, S'.mono (lv ℓ') (fun _ _ => rfl) z4⟩
      obtain ⟨k1, k2, k3, k4⟩ := z3 q m
      have ne : q ≠ p := by
        by_cases e : i = j
        · subst e
          rw [List.getElem?_set_self (by rw [← w.len]; exact w.lt h)] at hj
          cases hj
        · rw [List.getElem?_set_ne e] at hj
          exact Ne.symm (w.dis i j p q e (.own h) (.ob hj m))
      refine ⟨k1, k2, ?_, k4⟩
      show upd W.G p _ q = none
      rw [upd_ne ne]; exact k3
  have w1 := wf.setv i (ℓ := ℓ) (R := rList R) (v := .ref p) (a := l) hl ⟨p, xs, rfl, frz_at w.b h0 hv hH ℓ, r.imp fun _ _ => R.mono (lv ℓ)⟩
  rw [← ef, List.set_set] at w1
  exact k σ (W.frz p (.lst xs)) w1
/-- our list changes -/
theorem World.own_set {σ : Sg} {W : Wd} (w : World C σ W Γ) {i : Nat} {p : Addr} {l l' : List α} {xs' : List V} (h : Γ[i]? = some (.own p ℓ R l)) (r : All2 (R.is (wl C W ℓ)) xs' l') : World C σ (W.lay p (.lst xs')) (Γ.set i (.own p ℓ R l')) := by
  obtain ⟨x, h1, hl, h2, hv, h0, hG, xs, hH, _⟩ := w.get h
  subst h2
  have lv : ∀ ℓ' : Lv, ℓ' ≠ .h → Same (wl C W ℓ') (wl C (W.lay p (.lst xs')) ℓ') := fun ℓ' hn => by
    cases ℓ' with
    | g => exact Same.refl _
    | m => exact Same.refl _
    | h => exact absurd rfl hn
  refine ⟨w.b.lay h0 hv hG, by rw [List.length_set]; exact w.len, fun j e hj => ?_, ?_⟩
  · by_cases e' : i = j
    · subst e'
      rw [List.getElem?_set_self (by rw [← w.len]; exact w.lt h)] at hj
      cases hj
      exact ⟨_, h1, hl, rfl, hv, h0, hG, xs', upd_same, r.imp fun _ _ => R.mono (lv ℓ hl)⟩
    · rw [List.getElem?_set_ne e'] at hj
      obtain ⟨y, y1, y2⟩ := w.ent j e hj
      refine ⟨y, y1, ?_⟩
      cases e with
      | no => trivial
      | val ℓ' R' a => exact ⟨y2.1, let ⟨v, e, q⟩ := y2.2; ⟨v, e, R'.mono (lv ℓ' y2.1) q⟩⟩
      | own q ℓ' R' l' =>
        obtain ⟨z1, z2, z3, z4, z5, ys, z6, z7⟩ := y2
        have ne : q ≠ p := Ne.symm (w.dis i j p q e' (.own h) (.own hj))
        exact ⟨z1, z2, z3, z4, z5, ys, by show upd W.H p _ q = _; rw [upd_ne ne]; exact z6, z7.imp fun _ _ => R'.mono (lv ℓ' z1)⟩
      | vol q => exact y2
      | raw v => exact y2
      | ob v ps ℓ' S' a' =>
        obtain ⟨z1, z2, z3, z4⟩ := y2
        have ne : ∀ q ∈ ps, q ≠ p := fun q m => Ne.symm (w.dis i j p q e' (.own h) (.ob hj m))
        refine ⟨z1, z2, fun q m => ?_, S'.mono (lv ℓ' z1) (fun q m => upd_ne (ne q m)) z4⟩
        obtain ⟨k1, k2, k3, k4⟩ := z3 q m
        exact ⟨k1, k2, k3, by show upd W.H p _ q ≠ none; rw [upd_ne (ne q m)]; exact k4⟩
  · have key : ∀ (j : Nat) (q : Addr), adAt (Γ.set i (.own p ℓ R l')) j q → adAt Γ j q := fun j q ⟨u, hu, hm⟩ => by
      by_cases e : i = j
      · subst e
        rw [List.getElem?_set_self (by rw [← w.len]; exact w.lt h)] at hu
        cases hu
        exact ⟨_, h, hm⟩
      · rw [List.getElem?_set_ne e] at hu
        exact ⟨u, hu, hm⟩
    exact fun a b q q' hab hq hq' => w.dis a b q q' hab (key a q hq) (key b q' hq')
theorem own_lit {σ : Sg} {W : Wd} (w : World C σ W Γ) {i : Nat} {p : Addr} {l : List α} (h : Γ[i]? = some (.own p ℓ R l)) : σ[i]? = some (some (.ref p)) ∧ ∃ xs, W.H p = some (.lst xs) ∧ All2 (R.is (wl C W ℓ)) xs l := by
  obtain ⟨x, h1, hl, h2, hv, h0, hG, xs, hH, r⟩ := w.get h
  subst h2
  exact ⟨h1, xs, hH, r⟩
/-- x.append(e) -/
theorem q_app {i : Nat} {p : Addr} {l : List α} (h : Γ[i]? = some (.own p ℓ R l)) (he : EvP C te Γ ℓ R P) (hz : l.length < 1000000) (k : ∀ a, P a → Go C u D (Γ.set i (.own p ℓ R (l ++ [a])))) :
    Go C (tSeq (tDrop (tBM K "list" rAppend (tVar i) (tCons te tNil))) u) D Γ := fun σ W w => by
  obtain ⟨h1, xs, hH, r⟩ := own_lit w h
  refine ⟨_, h1, .inl ⟨rfl, _, .inl (.inl hH)⟩, he σ W w _ fun v W' a s b rv pa => ?_⟩
  have w' := w.stp b s
  obtain ⟨_, xs', hH', r'⟩ := own_lit w' h
  exact ⟨p, xs', v, rfl, rfl, hH', by rw [r'.len]; exact Nat.lt_of_lt_of_le hz sizeLine_big, k a pa σ _ (w'.own_set h (r'.app (ys := [v]) ⟨rv, trivial⟩))⟩
theorem q_popD {i : Nat} {p : Addr} {l : List α} [Inhabited α] (h : Γ[i]? = some (.own p ℓ R l)) (hz : l ≠ []) (k : Go C u D (Γ.set i (.own p ℓ R l.dropLast))) :
    Go C (tSeq (tDrop (tBM0 K "list" rPop (tVar i))) u) D Γ := fun σ W w => by
  obtain ⟨h1, xs, hH, r⟩ := own_lit w h
  have hp : 0 < l.length := List.length_pos_iff.mpr hz
  obtain ⟨v, hv, rv⟩ := r.get (gtB_get (l := l) (k := 1) (by omega))
  exact ⟨_, h1, .inl ⟨rfl, _, .inl (.inl hH)⟩, p, xs, v, rfl, rfl, hH, by rw [r.len]; exact hv, k _ _ (w.own_set (l' := l.dropLast) h r.dropLast)⟩
/-- if -/
theorem q_if {tt : TT} {Pb : Bool → Prop} (h : EvB C tt Γ Pb) (h1 : Pb true → Go C t { D with nx := u D } Γ) (h2 : Pb false → Go C u' { D with nx := u D } Γ) : Go C (tSeq (tIfS tt t u') u) D Γ := fun σ W w => h σ W w _ fun b W' s bk p => by
  cases b with
  | true => exact h1 p σ W' (w.stp bk s)
  | false => exact h2 p σ W' (w.stp bk s)
theorem q_ifC {tt : TT} {p : Prop} (h : EvC C tt Γ p) (h1 : p → Go C t { D with nx := u D } Γ) (h2 : ¬ p → Go C u' { D with nx := u D } Γ) : Go C (tSeq (tIfS tt t u') u) D Γ :=
  q_if h (fun e => h1 (e.mp rfl)) fun e => h2 fun z => by have := e.mpr z; cases this
/-- an if, its branches joined behind it -/
theorem q_cut {S : Type} (Γs : S → List Ent) (J : S → Prop) (h : Go C t { D with nx := Hol C Γs J } Γ) (k : ∀ s, J s → Go C u D (Γs s)) : Go C (tCut t u) D Γ := fun σ W w =>
  ⟨_, h σ W w, fun σ' H' ⟨s, W', e, w', hJ⟩ => by subst e; exact k s hJ σ' W' w'⟩
theorem c_if {tt : TT} {Pb : Bool → Prop} (h : EvB C tt Γ Pb) (h1 : Pb true → Go C t D Γ) (h2 : Pb false → Go C u' D Γ) : Go C (tIfS tt t u') D Γ := fun σ W w => h σ W w _ fun b W' s bk p => by
  cases b with
  | true => exact h1 p σ W' (w.stp bk s)
  | false => exact h2 p σ W' (w.stp bk s)
theorem c_ifC {tt : TT} {p : Prop} (h : EvC C tt Γ p) (h1 : p → Go C t D Γ) (h2 : ¬ p → Go C u' D Γ) : Go C (tIfS tt t u') D Γ :=
  c_if h (fun e => h1 (e.mp rfl)) fun e => h2 fun z => by have := e.mpr z; cases this
/-- return -/
theorem q_ret (h : EvP C te Γ .g R P) {Pr : α → Prop} (hR : RetOk C D R Pr) (k : ∀ a, P a → Pr a) : Go C (tSeq (tRet te) u) D Γ := fun σ W w => h σ W w _ fun v W' a s b r p => hR v W' a b r (k a p)
/-- a def without a return: its end -/
theorem q_retE {Pr : Unit → Prop} (hR : RetOk C D rNone Pr) (hn : ∀ H, D.rt .non H → ∀ σ, D.nx σ H) (k : Pr ()) : Go C tNext D Γ := fun σ W w => hn _ (hR _ W () w.b rfl k) _
/-- raise -/
theorem q_raise {E : XK} {c : Addr} {Pe : Addr → Prop} (hE : ExcOk C E Pe) (k : Pe c) : Go C (tSeq (fun _ σ H => E (.ref c) none H) u) D Γ := fun σ W w => hE c W w.b k
/-- for x in .. -/
theorem q_forG {S : Type} {wi : TI} {g : TG} (Γs : S → List Ent) (I : List α → Nat → S → Prop) (Γ' : S → α → List Ent) (hi : EvI C true wi Γ ℓ R Pl) (h0 : ∀ l, Pl l → ∃ s, I l 0 s ∧ LeG Γ (Γs s))
    (hg : ∀ (C' : Cn) (σ : Sg) W x a s (Q : Sg → Hp → Prop), World C' σ W (Γs s) → R.is (wl C' W ℓ) x a → (∀ σ2, World C' σ2 W (Γ' s a) → Q σ2 W.H) → g x σ W.H Q)
    (hs : ∀ C', Cex C C' → ∀ l i a s, Pl l → l[i]? = some a → I l i s → Go C' t { D with nx := Hol C' Γs (I l (i + 1)), ct := Hol C' Γs (I l (i + 1)), bk := u D } (Γ' s a)) (hd : ∀ l s, Pl l → I l l.length s → Go C u D (Γs s)) : Go C (tSeq (tFor wi g t) u) D Γ := fun σ W w =>
  hi σ W w _ fun J W1 l ok s1 b1 o1 po gs pl => by
    obtain ⟨s0, i0, le0⟩ := h0 l pl
    have w1 := (w.stp b1 s1).le le0
    have x1 : Cex C { C with F := W1.G } := ⟨rfl, rfl, rfl, b1.fl, rfl, rfl⟩
    refine ⟨fun i m σ H => m = l.length - i ∧ i ≤ l.length ∧ Hol { C with F := W1.G } Γs (I l i) σ H, ⟨l.length, by omega, Nat.zero_le _, s0, W1, rfl, w1.raise b1.fl (Same.refl _), i0⟩, ?_⟩
    rintro i m σ' H ⟨rfl, hil, s, Z, rfl, wz, hI⟩
    have bz : Bok C Z := wz.b.down x1
    have okz := po W1 Z b1 bz wz.b.fl o1
    by_cases hlt : i < l.length
    · refine .inr ⟨gs.go Z i bz okz hlt, Hol { C with F := W1.G } Γs (I l (i + 1)), fun σ2 H2 p' => ⟨l.length - (i + 1), by omega, rfl, hlt, p'⟩, fun x H' y => ?_⟩
      obtain ⟨Z', rfl, bz', sz', rx⟩ := gs.yld Z i x H' l[i] bz okz (List.getElem?_eq_getElem hlt) y
      have bz2 : Bok { C with F := W1.G } Z' := ⟨bz'.base, bz'.vol, bz'.vsub, bz'.vnew, bz'.v0, bz'.gv, bz'.g, bz'.gn, wz.b.fl.trans sz'.g, bz'.tab, bz'.knb⟩
      have w' := wz.stp bz2 sz'
      exact hg _ σ' Z' x l[i] s _ w' rx fun σ2 w2 => hs _ x1 l i l[i] s pl (List.getElem?_eq_getElem hlt) hI σ2 Z' w2
    · have e : i = l.length := by omega
      subst e
      exact .inl ⟨gs.stop Z bz okz, hd l s pl hI σ' Z (wz.down x1)⟩
theorem q_for {S : Type} {wi : TI} {j : Nat} (Γs : S → List Ent) (I : List α → Nat → S → Prop) (hi : EvI C true wi Γ ℓ R Pl) (h0 : ∀ l, Pl l → ∃ s, I l 0 s ∧ LeG Γ (Γs s))
    (hs : ∀ C', Cex C C' → ∀ l i a s, Pl l → l[i]? = some a → I l i s → Go C' t { D with nx := Hol C' Γs (I l (i + 1)), ct := Hol C' Γs (I l (i + 1)), bk := u D } ((Γs s).set j (.val ℓ R a))) (hd : ∀ l s, Pl l → I l l.length s → Go C u D (Γs s)) (hl : ℓ ≠ .h := by decide) : Go C (tSeq (tFor wi (gName j) t) u) D Γ :=
  q_forG Γs I (fun s a => (Γs s).set j (.val ℓ R a)) hi h0 (fun C' σ W x a s Q w r k => k _ (w.setv j hl r)) hs hd
theorem q_for2 {S : Type} {wi : TI} {i j : Nat} {Pq : List (α × β) → Prop} {S' : Rl β} (Γs : S → List Ent) (I : List (α × β) → Nat → S → Prop) (hi : EvI C true wi Γ ℓ (rPair R S') Pq) (h0 : ∀ l, Pq l → ∃ s, I l 0 s ∧ LeG Γ (Γs s))
    (hs : ∀ C', Cex C C' → ∀ l n a s, Pq l → l[n]? = some a → I l n s → Go C' t { D with nx := Hol C' Γs (I l (n + 1)), ct := Hol C' Γs (I l (n + 1)), bk := u D } (((Γs s).set i (.val ℓ R a.1)).set j (.val ℓ S' a.2))) (hd : ∀ l s, Pq l → I l l.length s → Go C u D (Γs s)) (hl : ℓ ≠ .h := by decide) :
    Go C (tSeq (tFor wi (gTup K 2 (gCons (gName i) (gCons (gName j) gNil))) t) u) D Γ :=
  q_forG Γs I (fun s a => ((Γs s).set i (.val ℓ R a.1)).set j (.val ℓ S' a.2)) hi h0 (fun C' σ W x a s Q w ⟨q, y, z, e, h, r1, r2⟩ k =>
    ⟨q, [y, z], e, sqT_of (c := ℓ) w.b (.inl h), rfl, y, [z], rfl, z, [], rfl, rfl, k _ ((w.setv i hl r1).setv j hl r2)⟩) hs hd
/-- while -/
theorem q_while {S : Type} {tt : TT} (Γs : S → List Ent) (I : S → Prop) (μ : S → Nat) (p : S → Prop) (s0 : S) (i0 : I s0) (le0 : LeG Γ (Γs s0)) (hc : ∀ s, I s → EvC C tt (Γs s) (p s))
    (hs : ∀ s, I s → p s → Go C t { D with nx := Hol C Γs (fun s' => I s' ∧ μ s' < μ s), ct := Hol C Γs (fun s' => I s' ∧ μ s' < μ s), bk := u D } (Γs s)) (hd : ∀ s, I s → ¬ p s → Go C u D (Γs s)) : Go C (tSeq (tWhile tt t) u) D Γ := fun σ W w => by
  refine ⟨fun m σ H => Hol C Γs (fun s => I s ∧ μ s = m) σ H, ⟨μ s0, s0, W, rfl, w.le le0, i0, rfl⟩, ?_⟩
  rintro m σ' H ⟨s, Z, rfl, wz, hI, rfl⟩
  refine hc s hI σ' Z wz _ fun b Z' sz bz e => ?_
  cases b with
  | true =>
    show ∃ N, _
    exact ⟨_, fun σ2 H2 ⟨s', Z2, e2, w2, i2, hm⟩ => ⟨μ s', hm, s', Z2, e2, w2, i2, rfl⟩, hs s hI (e.mp rfl) σ' Z' (wz.stp bz sz)⟩
  | false => exact hd s hI (fun z => by have := e.mpr z; cases this) σ' Z' (wz.stp bz sz)
/-- a, b = .. -/
theorem q_asg2 {i j : Nat} {Pq : α × β → Prop} {S' : Rl β} (h : EvP C te Γ ℓ (rPair R S') Pq) (k : ∀ a, Pq a → Go C u D ((Γ.set i (.val ℓ R a.1)).set j (.val ℓ S' a.2))) (hl : ℓ ≠ .h := by decide) :
    Go C (tSeq (tAsg te (gTup K 2 (gCons (gName i) (gCons (gName j) gNil)))) u) D Γ := fun σ W w =>
  h σ W w _ fun v W' a s b ⟨q, y, z, e, hq, r1, r2⟩ p => ⟨q, [y, z], e, sqT_of (c := ℓ) b (.inl hq), rfl, y, [z], rfl, z, [], rfl, rfl, k a p _ W' (((w.stp b s).setv i hl r1).setv j hl r2)⟩
end
end GL


set_option Elab.async false
set_option linter.all false
set_option maxRecDepth 100000
set_option maxHeartbeats 1000000
namespace GL
open PySem L2
/-! ### promises -/
/-- what is new in H' -/
def fresh (H H' : Hp) : Hp := fun p => match H p with
  | none => H' p
  | some _ => none
theorem fresh_some {H H' : Hp} {p : Addr} {o : HO} (h : fresh H H' p = some o) : H p = none ∧ H' p = some o := by
  unfold fresh at h
  cases e : H p with
  | none => rw [e] at h; exact ⟨rfl, h⟩
  | some u => rw [e] at h; cases h
theorem fresh_of {H H' : Hp} {p : Addr} (h : H p = none) : fresh H H' p = H' p := by unfold fresh; rw [h]
abbrev Args (α : Type) := List V → Hp → α → Prop
def aNil : Args Unit := fun vs _ _ => vs = []
def aCons {α β : Type} (R : Rl α) (A : Args β) : Args (α × β) := fun vs H a => ∃ v r, vs = v :: r ∧ R.is H v a.1 ∧ A r H a.2
/-- called with such arguments it hands back a value that is new as a whole, or raises; what stood stands -/
def spF {α β : Type} (A : Args α) (pre : α → Prop) (R : Rl β) (post : α → β → Prop) (exc : α → Addr → Prop) : Sp := fun vs H Q E =>
  ∃ a, A vs H a ∧ pre a ∧ (∀ v H' b, Same H H' → R.is (fresh H H') v b → post a b → Q v H') ∧ (∀ c H', Same H H' → exc a c → E (.ref c) none H')
/-- the same, the first argument a row that it changes, keeping PI -/
def spV {α β : Type} (PI : HO → Prop) (A : Args α) (pre : α → Prop) (R : Rl β) (post : α → β → Prop) : Sp := fun vs H Q _ =>
  ∃ p r a o, vs = .ref p :: r ∧ H p = some o ∧ PI o ∧ A r (hid H [p]) a ∧ pre a ∧ (∀ v H' b, Same (hid H [p]) (hid H' [p]) → (∃ o', H' p = some o' ∧ PI o') → R.is (fresh H H') v b → post a b → Q v H')
def EvX (C : Cn) (te : TE) (Γ : List Ent) (Res : Wd → V → Hp → Prop) : Prop :=
  ∀ σ W, World C σ W Γ → ∀ Q : VK, (∀ W1 v H', Stp W W1 → Bok C W1 → Res W1 v H' → Q v H') → te σ W.H Q
/-- W1, then a call that has left v and H' -/
structure ResF {β : Type} (C : Cn) (R : Rl β) (P : β → Prop) (W : Wd) (v : V) (H' : Hp) : Prop where
  keep : ∀ p o, W.H p = some o → p ∉ W.vs → H' p = some o
  vol : ∀ p ∈ W.vs, ∃ o, H' p = some o ∧ (¬ C.isT p → C.PI o)
  tab : ∀ P q, (P, q) ∈ C.tb.l → ∃ ps, H' P = some (.tbl ps) ∧ Cods q (jn C.kn W.G) ps
  val : ∃ b, R.is (fresh W.H H') v b ∧ P b
section
variable {C : Cn} {Γ : List Ent} {α β γ δ : Type} {R : Rl α} {S : Rl β} {P : α → Prop} {te : TE} {ta : TA} {ℓ : Lv}
/-- the heap as it is, what is new put among what never changes (whole) or not (bare) -/
theorem bare_ok {W : Wd} (b : Bok C W) {H' : Hp} (k : ∀ p o, W.H p = some o → p ∉ W.vs → H' p = some o) (kv : ∀ p ∈ W.vs, ∃ o, H' p = some o ∧ (¬ C.isT p → C.PI o)) (kt : ∀ P q, (P, q) ∈ C.tb.l → ∃ ps, H' P = some (.tbl ps) ∧ Cods q (jn C.kn W.G) ps) : Bok C ⟨H', W.G, W.vs⟩ ∧ Stp W ⟨H', W.G, W.vs⟩ :=
  ⟨⟨(fun p o e n => by
      have h1 := b.base p o e n
      refine k p o h1 fun q => ?_
      have := b.vnew p q n
      rw [e] at this; cases this), kv, b.vsub, b.vnew, b.v0, b.gv, fun p o e => k p o (b.g p o e) (b.novs e), b.gn, b.fl, fun P q e => ⟨(b.tab P q e).1, kt P q e⟩, b.knb⟩,
   ⟨rfl, Same.refl _, fun p o e => by
      obtain ⟨e1, e2⟩ := hid_some e
      exact (hid_out e1).trans (k p o e2 e1), fun _ _ e => .inl e⟩⟩
theorem whole_ok {W : Wd} (b : Bok C W) {H' : Hp} (k : ∀ p o, W.H p = some o → p ∉ W.vs → H' p = some o) (kv : ∀ p ∈ W.vs, ∃ o, H' p = some o ∧ (¬ C.isT p → C.PI o)) (kt : ∀ P q, (P, q) ∈ C.tb.l → ∃ ps, H' P = some (.tbl ps) ∧ Cods q (jn C.kn W.G) ps) : Bok C ⟨H', jn W.G (fresh W.H H'), W.vs⟩ ∧ Stp W ⟨H', jn W.G (fresh W.H H'), W.vs⟩ ∧ Same (fresh W.H H') (jn W.G (fresh W.H H')) := by
  obtain ⟨b1, s1⟩ := bare_ok b k kv kt
  refine ⟨⟨b1.base, b1.vol, b1.vsub, b1.vnew, b1.v0, fun p hp => ?_, fun p o e => ?_, fun p o e => ?_, b.fl.trans jn_l, fun P q e => ⟨(b.tab P q e).1, let ⟨ps, h1, h2⟩ := kt P q e; ⟨ps, h1, h2.mono (jn_mono jn_l)⟩⟩, b.knb⟩, ⟨rfl, jn_l, s1.h, fun p o e => ?_⟩, fun p o e => ?_⟩
  · show jn _ _ p = none
    rw [jn_r (b.gv p hp)]
    obtain ⟨o, ho, _⟩ := b.vol p hp
    unfold fresh
    rw [ho]
  · rcases jn_some e with e | ⟨_, e⟩
    · exact b1.g p o e
    · exact (fresh_some e).2
  · rcases jn_some e with e | ⟨_, e⟩
    · exact b.gn p o e
    · exact b.h0 (fresh_some e).1
  · rcases jn_some e with e | ⟨_, e⟩
    · exact .inl e
    · exact .inr (fresh_some e).1
  · rw [jn_r (b.g0 (fresh_some e).1)]
    exact e
theorem ev_call (h : EvX C te Γ (ResF C R P)) : EvP C te Γ .g R P := fun σ W w Q q => h σ W w Q fun W1 v H' s1 b1 r => by
  obtain ⟨b, rb, pb⟩ := r.val
  obtain ⟨b2, s2, sm⟩ := whole_ok b1 r.keep r.vol r.tab
  exact q v _ b (s1.trans w.b b1 s2) b2 (R.mono sm rb) pb
/-- a new list of flat items, ours -/
theorem en_call {Pl : List α → Prop} (f : Flat R) (h : EvX C te Γ (ResF C (rList R) Pl)) : EvN C te Γ ℓ R Pl := fun σ W w Q q => h σ W w Q fun W1 v H' s1 b1 r => by
  obtain ⟨b, ⟨p, xs, e, hp, t⟩, pb⟩ := r.val
  subst e
  obtain ⟨b2, s2⟩ := bare_ok b1 r.keep r.vol r.tab
  obtain ⟨h1, h2⟩ := fresh_some hp
  exact q p ⟨H', W1.G, W1.vs⟩ xs b (s1.trans w.b b1 s2) b2 (w.b.back b1 s1 h1) h2 (b1.g0 h1) (t.imp fun _ _ h => f _ _ _ _ h) pb
theorem tab_same {W : Wd} (b : Bok C W) {H' : Hp} (s : Same W.H H') : ∀ P q, (P, q) ∈ C.tb.l → ∃ ps, H' P = some (.tbl ps) ∧ Cods q (jn C.kn W.G) ps := fun P q e =>
  let ⟨_, ps, h1, h2⟩ := b.tab P q e; ⟨ps, s _ _ h1, h2⟩
/-- ours from now on: what PI says of it -/
theorem exc_up {E : XK} {Pe : Addr → Prop} (hE : ExcOk C E Pe) {W : Wd} (b : Bok C W) (c : Addr) {H' : Hp} (s : Same W.H H') (p : Pe c) : E (.ref c) none H' := by
  obtain ⟨b1, _⟩ := bare_ok b (fun p o e _ => s p o e) (fun p hp => by
    obtain ⟨o, h1, h2⟩ := b.vol p hp
    exact ⟨o, s p o h1, h2⟩) (tab_same b s)
  exact hE c ⟨H', W.G, W.vs⟩ b1 p
theorem resF_of {W : Wd} (b : Bok C W) {v : V} {H' : Hp} (s : Same W.H H') {z : α} (r : R.is (fresh W.H H') v z) (p : P z) : ResF C R P W v H' :=
  ⟨fun q o e _ => s q o e, fun q hq => by
    obtain ⟨o, h1, h2⟩ := b.vol q hq
    exact ⟨o, s q o h1, h2⟩, tab_same b s, z, r, p⟩

theorem ex_call1 {α1 : Type} {R1 : Rl α1} {t1 : TE} {P1 : α1 → Prop} {R : Rl β} {pre : α1 × Unit → Prop} {post : α1 × Unit → β → Prop} {exc : α1 × Unit → Addr → Prop} {E : XK} {Pe : Addr → Prop} (h1 : EvP C t1 Γ .h R1 P1) (hp : ∀ a1, P1 a1 → pre (a1, ())) (hE : ExcOk C E Pe) (he : ∀ a1, P1 a1 → ∀ c, exc (a1, ()) c → Pe c) :
    EvX C (tCall (spF (aCons R1 aNil) pre R post exc) [] E (tCons t1 tNil)) Γ (ResF C R (fun b => ∃ a1, P1 a1 ∧ post (a1, ()) b)) := fun σ W w Q q =>
  h1 σ W w _ fun v1 W1 a1 s1 b1 r1 p1 =>
  have w1 := w.stp b1 s1
  ⟨(a1, ()), ⟨v1, _, rfl, (R1.mono (fun _ _ h => (hid_some h).2) r1), rfl⟩, hp a1 p1, fun v H' b sm rb po => q W1 v H' (s1) w1.b (resF_of w1.b sm rb ⟨a1, p1, po⟩), fun c H' sm ec => exc_up hE w1.b c sm (he a1 p1 c ec)⟩
theorem ed_call1 {α1 : Type} {R1 : Rl α1} {t1 : TE} {a1 : α1} {R : Rl β} {pre : α1 × Unit → Prop} {post : α1 × Unit → β → Prop} {exc : α1 × Unit → Addr → Prop} {E : XK} {Pe : Addr → Prop} (h1 : Ev C t1 Γ .h R1 a1) (hp : pre (a1, ())) (hE : ExcOk C E Pe) (he : ∀ c, exc (a1, ()) c → Pe c) :
    EvX C (tCall (spF (aCons R1 aNil) pre R post exc) [] E (tCons t1 tNil)) Γ (ResF C R (fun b => post (a1, ()) b)) := fun σ W w Q q =>
  ex_call1 h1 (fun x1 e1 => by subst e1; exact hp) hE (fun x1 e1 => by subst e1; exact he) σ W w Q fun W1 v H' s1 b1 r => q W1 v H' s1 b1 ⟨r.keep, r.vol, r.tab, by
    obtain ⟨b, rb, x1, e1, po⟩ := r.val
    subst e1
    exact ⟨b, rb, po⟩⟩
theorem ex_call2 {α1 : Type} {α2 : Type} {R1 : Rl α1} {t1 : TE} {P1 : α1 → Prop} {R2 : Rl α2} {t2 : TE} {P2 : α2 → Prop} {R : Rl β} {pre : α1 × α2 × Unit → Prop} {post : α1 × α2 × Unit → β → Prop} {exc : α1 × α2 × Unit → Addr → Prop} {E : XK} {Pe : Addr → Prop} (h1 : EvP C t1 Γ .h R1 P1) (h2 : EvP C t2 Γ .h R2 P2) (hp : ∀ a1 a2, P1 a1 → P2 a2 → pre (a1, a2, ())) (hE : ExcOk C E Pe) (he : ∀ a1 a2, P1 a1 → P2 a2 → ∀ c, exc (a1, a2, ()) c → Pe c) :
    EvX C (tCall (spF (aCons R1 (aCons R2 aNil)) pre R post exc) [] E (tCons t1 (tCons t2 tNil))) Γ (ResF C R (fun b => ∃ a1 a2, P1 a1 ∧ P2 a2 ∧ post (a1, a2, ()) b)) := fun σ W w Q q =>
  h1 σ W w _ fun v1 W1 a1 s1 b1 r1 p1 =>
  have w1 := w.stp b1 s1
  h2 σ W1 w1 _ fun v2 W2 a2 s2 b2 r2 p2 =>
  have w2 := w1.stp b2 s2
  ⟨(a1, a2, ()), ⟨v1, _, rfl, (R1.mono (fun _ _ h => (hid_some h).2) (R1.mono (s2.lv w1.b .h) r1)), ⟨v2, _, rfl, (R2.mono (fun _ _ h => (hid_some h).2) r2), rfl⟩⟩, hp a1 a2 p1 p2, fun v H' b sm rb po => q W2 v H' ((s1.trans w.b w1.b s2)) w2.b (resF_of w2.b sm rb ⟨a1, a2, p1, p2, po⟩), fun c H' sm ec => exc_up hE w2.b c sm (he a1 a2 p1 p2 c ec)⟩
theorem ed_call2 {α1 : Type} {α2 : Type} {R1 : Rl α1} {t1 : TE} {a1 : α1} {R2 : Rl α2} {t2 : TE} {a2 : α2} {R : Rl β} {pre : α1 × α2 × Unit → Prop} {post : α1 × α2 × Unit → β → Prop} {exc : α1 × α2 × Unit → Addr → Prop} {E : XK} {Pe : Addr → Prop} (h1 : Ev C t1 Γ .h R1 a1) (h2 : Ev C t2 Γ .h R2 a2) (hp : pre (a1, a2, ())) (hE : ExcOk C E Pe) (he : ∀ c, exc (a1, a2, ()) c → Pe c) :
    EvX C (tCall (spF (aCons R1 (aCons R2 aNil)) pre R post exc) [] E (tCons t1 (tCons t2 tNil))) Γ (ResF C R (fun b => post (a1, a2, ()) b)) := fun σ W w Q q =>
  ex_call2 h1 h2 (fun x1 x2 e1 e2 => by subst e1 e2; exact hp) hE (fun x1 x2 e1 e2 => by subst e1 e2; exact he) σ W w Q fun W1 v H' s1 b1 r => q W1 v H' s1 b1 ⟨r.keep, r.vol, r.tab, by
    obtain ⟨b, rb, x1, x2, e1, e2, po⟩ := r.val
    subst e1 e2
    exact ⟨b, rb, po⟩⟩
theorem ex_call3 {α1 : Type} {α2 : Type} {α3 : Type} {R1 : Rl α1} {t1 : TE} {P1 : α1 → Prop} {R2 : Rl α2} {t2 : TE} {P2 : α2 → Prop} {R3 : Rl α3} {t3 : TE} {P3 : α3 → Prop} {R : Rl β} {pre : α1 × α2 × α3 × Unit → Prop} {post : α1 × α2 × α3 × Unit → β → Prop} {exc : α1 × α2 × α3 × Unit → Addr → Prop} {E : XK} {Pe : Addr → Prop} (h1 : EvP C t1 Γ .h R1 P1) (h2 : EvP C t2 Γ .h R2 P2) (h3 : EvP C t3 Γ .h R3 P3) (hp : ∀ a1 a2 a3, P1 a1 → P2 a2 → P3 a3 → pre (a1, a2, a3, ())) (hE : ExcOk C E Pe) (he : ∀ a1 a2 a3, P1 a1 → P2 a2 → P3 a3 → ∀ c, exc (a1, a2, a3, ()) c → Pe c) :
    EvX C (tCall (spF (aCons R1 (aCons R2 (aCons R3 aNil))) pre R post exc) [] E (tCons t1 (tCons t2 (tCons t3 tNil)))) Γ (ResF C R (fun b => ∃ a1 a2 a3, P1 a1 ∧ P2 a2 ∧ P3 a3 ∧ post (a1, a2, a3, ()) b)) := fun σ W w Q q =>
  h1 σ W w _ fun v1 W1 a1 s1 b1 r1 p1 =>
  have w1 := w.stp b1 s1
  h2 σ W1 w1 _ fun v2 W2 a2 s2 b2 r2 p2 =>
  have w2 := w1.stp b2 s2
  h3 σ W2 w2 _ fun v3 W3 a3 s3 b3 r3 p3 =>
  have w3 := w2.stp b3 s3
  ⟨(a1, a2, a3, ()), ⟨v1, _, rfl, (R1.mono (fun _ _ h => (hid_some h).2) (R1.mono (s3.lv w2.b .h) (R1.mono (s2.lv w1.b .h) r1))), ⟨v2, _, rfl, (R2.mono (fun _ _ h => (hid_some h).2) (R2.mono (s3.lv w2.b .h) r2)), ⟨v3, _, rfl, (R3.mono (fun _ _ h => (hid_some h).2) r3), rfl⟩⟩⟩, hp a1 a2 a3 p1 p2 p3, fun v H' b sm rb po => q W3 v H' (((s1.trans w.b w1.b s2).trans w.b w2.b s3)) w3.b (resF_of w3.b sm rb ⟨a1, a2, a3, p1, p2, p3, po⟩), fun c H' sm ec => exc_up hE w3.b c sm (he a1 a2 a3 p1 p2 p3 c ec)⟩
theorem ed_call3 {α1 : Type} {α2 : Type} {α3 : Type} {R1 : Rl α1} {t1 : TE} {a1 : α1} {R2 : Rl α2} {t2 : TE} {a2 : α2} {R3 : Rl α3} {t3 : TE} {a3 : α3} {R : Rl β} {pre : α1 × α2 × α3 × Unit → Prop} {post : α1 × α2 × α3 × Unit → β → Prop} {exc : α1 × α2 × α3 × Unit → Addr → Prop} {E : XK} {Pe : Addr → Prop} (h1 : Ev C t1 Γ .h R1 a1) (h2 : Ev C t2 Γ .h R2 a2) (h3 : Ev C t3 Γ .h R3 a3) (hp : pre (a1, a2, a3, ())) (hE : ExcOk C E Pe) (he : ∀ c, exc (a1, a2, a3, ()) c → Pe c) :
    EvX C (tCall (spF (aCons R1 (aCons R2 (aCons R3 aNil))) pre R post exc) [] E (tCons t1 (tCons t2 (tCons t3 tNil)))) Γ (ResF C R (fun b => post (a1, a2, a3, ()) b)) := fun σ W w Q q =>
  ex_call3 h1 h2 h3 (fun x1 x2 x3 e1 e2 e3 => by subst e1 e2 e3; exact hp) hE (fun x1 x2 x3 e1 e2 e3 => by subst e1 e2 e3; exact he) σ W w Q fun W1 v H' s1 b1 r => q W1 v H' s1 b1 ⟨r.keep, r.vol, r.tab, by
    obtain ⟨b, rb, x1, x2, x3, e1, e2, e3, po⟩ := r.val
    subst e1 e2 e3
    exact ⟨b, rb, po⟩⟩
theorem ex_call4 {α1 : Type} {α2 : Type} {α3 : Type} {α4 : Type} {R1 : Rl α1} {t1 : TE} {P1 : α1 → Prop} {R2 : Rl α2} {t2 : TE} {P2 : α2 → Prop} {R3 : Rl α3} {t3 : TE} {P3 : α3 → Prop} {R4 : Rl α4} {t4 : TE} {P4 : α4 → Prop} {R : Rl β} {pre : α1 × α2 × α3 × α4 × Unit → Prop} {post : α1 × α2 × α3 × α4 × Unit → β → Prop} {exc : α1 × α2 × α3 × α4 × Unit → Addr → Prop} {E : XK} {Pe : Addr → Prop} (h1 : EvP C t1 Γ .h R1 P1) (h2 : EvP C t2 Γ .h R2 P2) (h3 : EvP C t3 Γ .h R3 P3) (h4 : EvP C t4 Γ .h R4 P4) (hp : ∀ a1 a2 a3 a4, P1 a1 → P2 a2 → P3 a3 → P4 a4 → pre (a1, a2, a3, a4, ())) (hE : ExcOk C E Pe) (he : ∀ a1 a2 a3 a4, P1 a1 → P2 a2 → P3 a3 → P4 a4 → ∀ c, exc (a1, a2, a3, a4, ()) c → Pe c) :
    EvX C (tCall (spF (aCons R1 (aCons R2 (aCons R3 (aCons R4 aNil)))) pre R post exc) [] E (tCons t1 (tCons t2 (tCons t3 (tCons t4 tNil))))) Γ (ResF C R (fun b => ∃ a1 a2 a3 a4, P1 a1 ∧ P2 a2 ∧ P3 a3 ∧ P4 a4 ∧ post (a1, a2, a3, a4, ()) b)) := fun σ W w Q q =>
  h1 σ W w _ fun v1 W1 a1 s1 b1 r1 p1 =>
  have w1 := w.stp b1 s1
  h2 σ W1 w1 _ fun v2 W2 a2 s2 b2 r2 p2 =>
  have w2 := w1.stp b2 s2
  h3 σ W2 w2 _ fun v3 W3 a3 s3 b3 r3 p3 =>
  have w3 := w2.stp b3 s3
  h4 σ W3 w3 _ fun v4 W4 a4 s4 b4 r4 p4 =>
  have w4 := w3.stp b4 s4
  ⟨(a1, a2, a3, a4, ()), ⟨v1, _, rfl, (R1.mono (fun _ _ h => (hid_some h).2) (R1.mono (s4.lv w3.b .h) (R1.mono (s3.lv w2.b .h) (R1.mono (s2.lv w1.b .h) r1)))), ⟨v2, _, rfl, (R2.mono (fun _ _ h => (hid_some h).2) (R2.mono (s4.lv w3.b .h) (R2.mono (s3.lv w2.b .h) r2))), ⟨v3, _, rfl, (R3.mono (fun _ _ h => (hid_some h).2) (R3.mono (s4.lv w3.b .h) r3)), ⟨v4, _, rfl, (R4.mono (fun _ _ h => (hid_some h).2) r4), rfl⟩⟩⟩⟩, hp a1 a2 a3 a4 p1 p2 p3 p4, fun v H' b sm rb po => q W4 v H' ((((s1.trans w.b w1.b s2).trans w.b w2.b s3).trans w.b w3.b s4)) w4.b (resF_of w4.b sm rb ⟨a1, a2, a3, a4, p1, p2, p3, p4, po⟩), fun c H' sm ec => exc_up hE w4.b c sm (he a1 a2 a3 a4 p1 p2 p3 p4 c ec)⟩
theorem ed_call4 {α1 : Type} {α2 : Type} {α3 : Type} {α4 : Type} {R1 : Rl α1} {t1 : TE} {a1 : α1} {R2 : Rl α2} {t2 : TE} {a2 : α2} {R3 : Rl α3} {t3 : TE} {a3 : α3} {R4 : Rl α4} {t4 : TE} {a4 : α4} {R : Rl β} {pre : α1 × α2 × α3 × α4 × Unit → Prop} {post : α1 × α2 × α3 × α4 × Unit → β → Prop} {exc : α1 × α2 × α3 × α4 × Unit → Addr → Prop} {E : XK} {Pe : Addr → Prop} (h1 : Ev C t1 Γ .h R1 a1) (h2 : Ev C t2 Γ .h R2 a2) (h3 : Ev C t3 Γ .h R3 a3) (h4 : Ev C t4 Γ .h R4 a4) (hp : pre (a1, a2, a3, a4, ())) (hE : ExcOk C E Pe) (he : ∀ c, exc (a1, a2, a3, a4, ()) c → Pe c) :
    EvX C (tCall (spF (aCons R1 (aCons R2 (aCons R3 (aCons R4 aNil)))) pre R post exc) [] E (tCons t1 (tCons t2 (tCons t3 (tCons t4 tNil))))) Γ (ResF C R (fun b => post (a1, a2, a3, a4, ()) b)) := fun σ W w Q q =>
  ex_call4 h1 h2 h3 h4 (fun x1 x2 x3 x4 e1 e2 e3 e4 => by subst e1 e2 e3 e4; exact hp) hE (fun x1 x2 x3 x4 e1 e2 e3 e4 => by subst e1 e2 e3 e4; exact he) σ W w Q fun W1 v H' s1 b1 r => q W1 v H' s1 b1 ⟨r.keep, r.vol, r.tab, by
    obtain ⟨b, rb, x1, x2, x3, x4, e1, e2, e3, e4, po⟩ := r.val
    subst e1 e2 e3 e4
    exact ⟨b, rb, po⟩⟩
theorem ex_vol1 {α1 : Type} {R1 : Rl α1} {t1 : TE} {P1 : α1 → Prop} {R : Rl β} {PI : HO → Prop} {pre : α1 × Unit → Prop} {post : α1 × Unit → β → Prop} {E : XK} {i : Nat} {p : Addr} (hv : Γ[i]? = some (.vol p)) (hPI : C.PI = PI) (h1 : EvP C t1 Γ .h R1 P1) (hp : ∀ a1, P1 a1 → pre (a1, ())) :
    EvX C (tCall (spV PI (aCons R1 aNil) pre R post) [] E (tCons (tVar i) (tCons t1 tNil))) Γ (ResF C R (fun b => ∃ a1, P1 a1 ∧ post (a1, ()) b)) := fun σ W w Q q => by
  obtain ⟨x, h1x, h2x, h3x, hnt⟩ := w.get hv
  subst h2x
  refine ⟨_, h1x, ?_⟩
  refine h1 σ W w _ fun v1 W1 a1 s1 b1 r1 p1 => ?_
  have w1 := w.stp b1 s1
  have hin : p ∈ W1.vs := by
    obtain ⟨x, z1, z2, z3, _⟩ := w1.get hv
    exact z3
  obtain ⟨o, ho, hpi⟩ := w1.b.vol p hin
  have hm : Same (Hm W1) (hid W1.H [p]) := fun q u e => by
    obtain ⟨e1, e2⟩ := hid_some e
    rw [hid_out (by intro z; rw [List.mem_singleton] at z; subst z; exact e1 hin)]; exact e2
  refine ⟨p, _, (a1, ()), o, rfl, ho, hPI ▸ (hpi hnt), ⟨v1, _, rfl, (R1.mono hm r1), rfl⟩, hp a1 p1, fun v H' b sm kv rb po => q W1 v H' (s1) w1.b ⟨fun q u e hq => ?_, fun q hq => ?_, fun P q e => ?_, b, rb, ⟨a1, p1, po⟩⟩⟩
  · have ne : q ≠ p := fun z => hq (z ▸ hin)
    have e1 : hid W1.H [p] q = some u := (hid_out (by intro z; rw [List.mem_singleton] at z; exact ne z)).trans e
    exact (hid_some (sm q u e1)).2
  · by_cases z : q = p
    · subst z
      obtain ⟨o', h1, h2⟩ := kv
      exact ⟨o', h1, fun _ => hPI ▸ h2⟩
    · obtain ⟨u, h1, h2⟩ := w1.b.vol q hq
      have e1 : hid W1.H [p] q = some u := (hid_out (by intro y; rw [List.mem_singleton] at y; exact z y)).trans h1
      exact ⟨u, (hid_some (sm q u e1)).2, h2⟩
  · obtain ⟨_, ps, h1, h2⟩ := w1.b.tab P q e
    have ne : P ≠ p := fun z => hnt ⟨q, z ▸ e⟩
    have e1 : hid W1.H [p] P = some (.tbl ps) := (hid_out (by intro y; rw [List.mem_singleton] at y; exact ne y)).trans h1
    exact ⟨ps, (hid_some (sm P _ e1)).2, h2⟩
end
/-! ### a def's start -/
def Cn0 (PI : HO → Prop) (H : Hp) : Cn := ⟨H, [], PI, fun _ => none, .nil, fun _ => none⟩
def CnV (H : Hp) (p : Addr) (PI : HO → Prop) : Cn := ⟨H, [p], PI, fun _ => none, .nil, fun _ => none⟩
def W0 (H : Hp) (vs : List Addr) : Wd := ⟨H, fun _ => none, vs⟩
theorem bok0 {PI : HO → Prop} (H : Hp) : Bok (Cn0 PI H) (W0 H []) :=
  ⟨fun _ _ e _ => e, (fun _ h => by cases h), (fun _ h => h), (fun _ h => by cases h), (fun _ h => by cases h), (fun _ h => by cases h), (fun _ _ e => by cases e), (fun _ _ e => by cases e), (fun _ _ e => by cases e), (fun _ _ e => by cases e), (fun _ _ e => by cases e)⟩
theorem bokV {H : Hp} {p : Addr} {PI : HO → Prop} {o : HO} (h : H p = some o) (hp : PI o) : Bok (CnV H p PI) (W0 H [p]) :=
  ⟨fun _ _ e _ => e, (fun q hq => by have e : q = p := List.mem_singleton.mp hq; subst e; exact ⟨o, h, fun _ => hp⟩), (fun _ h => h), (fun _ h n => absurd h n), (fun q hq => by have e : q = p := List.mem_singleton.mp hq; subst e; show H q ≠ none; rw [h]; intro z; cases z), (fun _ _ => rfl), (fun _ _ e => by cases e), (fun _ _ e => by cases e), (fun _ _ e => by cases e), (fun _ _ e => by cases e), (fun _ _ e => by cases e)⟩
def Pw (C : Cn) (W : Wd) : Sg → List Ent → Prop
  | [], [] => True
  | x :: σ, e :: Γ => EntOk C W x e ∧ Pw C W σ Γ
  | _, _ => False
theorem Pw.len {C : Cn} {W : Wd} : ∀ {σ : Sg} {Γ : List Ent}, Pw C W σ Γ → σ.length = Γ.length
  | [], [], _ => rfl
  | _ :: _, _ :: _, ⟨_, h⟩ => by rw [List.length_cons, List.length_cons, Pw.len h]
theorem Pw.get {C : Cn} {W : Wd} : ∀ {σ : Sg} {Γ : List Ent} {i : Nat} {e : Ent}, Pw C W σ Γ → Γ[i]? = some e → ∃ x, σ[i]? = some x ∧ EntOk C W x e
  | [], [], _, _, _, h => by simp at h
  | x :: _, _ :: _, 0, e, ⟨a, _⟩, h => by simp at h; subst h; exact ⟨x, rfl, a⟩
  | _ :: _, _ :: _, i + 1, e, ⟨_, b⟩, h => by
    obtain ⟨x, h1, h2⟩ := Pw.get (i := i) (e := e) b (by simpa using h)
    exact ⟨x, by simpa using h1, h2⟩
def noAd : List Ent → Bool
  | [] => true
  | e :: Γ => e.ads.isEmpty && noAd Γ
theorem noAd_get : ∀ {Γ : List Ent}, noAd Γ = true → ∀ (i : Nat) (p : Addr), adAt Γ i p → False
  | [], _, i, p, ⟨_, h, _⟩ => by simp at h
  | e :: Γ, hn, 0, p, ⟨u, h, hm⟩ => by
    have h1 : e = u := by simpa using h
    subst h1
    unfold noAd at hn
    rw [Bool.and_eq_true, List.isEmpty_iff] at hn
    rw [hn.1] at hm
    cases hm
  | e :: Γ, hn, i + 1, p, ⟨u, h, hm⟩ => by
    unfold noAd at hn
    rw [Bool.and_eq_true] at hn
    exact noAd_get hn.2 i p ⟨u, by simpa using h, hm⟩
theorem world_of {C : Cn} {W : Wd} {σ : Sg} {Γ : List Ent} (b : Bok C W) (h : Pw C W σ Γ) (hn : noAd Γ = true) : World C σ W Γ :=
  ⟨b, h.len, fun _ _ e => h.get e, fun i j p q _ hp _ => (noAd_get hn i p hp).elim⟩
theorem mw0 {PI : HO → Prop} (H : Hp) : Same H (wl (Cn0 PI H) (W0 H []) .m) := fun p o e => jn_l _ _ (by rw [show (Cn0 PI H).vs0 = [] from rfl, hid_nil]; exact e)
theorem mwV (H : Hp) (p : Addr) (PI : HO → Prop) : Same (hid H [p]) (wl (CnV H p PI) (W0 H [p]) .m) := fun _ _ e => jn_l _ _ e
theorem spF_open (PI : HO → Prop) {α β : Type} {A : Args α} {pre : α → Prop} {R : Rl β} {post : α → β → Prop} {exc : α → Addr → Prop} {vs : List V} {H : Hp} {Q : VK} {E : XK} {n : Sg → Hp → Prop} (h : spF A pre R post exc vs H Q E) :
    ∃ a, A vs H a ∧ pre a ∧ RetOk (Cn0 PI H) { nx := n, rt := Q } R (post a) ∧ ExcOk (Cn0 PI H) E (exc a) := by
  obtain ⟨a, ha, hp, hq, he⟩ := h
  refine ⟨a, ha, hp, fun v W b k r p => hq v W.H b (fun q o e => k.base q o e (by simp [Cn0])) (R.mono (fun q o e => ?_) r) p, fun c W k p => he c W.H (fun q o e => k.base q o e (by simp [Cn0])) p⟩
  rw [show fresh H W.H q = W.H q from fresh_of (k.gn q o e)]
  exact k.g q o e
theorem spV_open {α β : Type} {PI : HO → Prop} {A : Args α} {pre : α → Prop} {R : Rl β} {post : α → β → Prop} {vs : List V} {H : Hp} {Q : VK} {E : XK} {n : Sg → Hp → Prop} (h : spV PI A pre R post vs H Q E) :
    ∃ p r a, vs = .ref p :: r ∧ Bok (CnV H p PI) (W0 H [p]) ∧ A r (hid H [p]) a ∧ pre a ∧ RetOk (CnV H p PI) { nx := n, rt := Q } R (post a) := by
  obtain ⟨p, r, a, o, ev, ho, hpi, ha, hp, hq⟩ := h
  refine ⟨p, r, a, ev, bokV ho hpi, ha, hp, fun v W b k rb pb => hq v W.H b (fun q o e => ?_) ?_ (R.mono (fun q o e => ?_) rb) pb⟩
  · obtain ⟨e1, e2⟩ := hid_some e
    exact (hid_out e1).trans (k.base q o e2 e1)
  · obtain ⟨o', h1, h2⟩ := k.vol p (k.vsub p (List.mem_singleton.mpr rfl))
    exact ⟨o', h1, h2 fun ⟨_, z⟩ => by cases z⟩
  · rw [show fresh H W.H q = W.H q from fresh_of (k.gn q o e)]
    exact k.g q o e
end GL

set_option Elab.async false
set_option linter.all false
set_option maxRecDepth 100000
set_option maxHeartbeats 1000000
namespace GL
open PySem L2
/-! ### forms for printed proofs -/
theorem LeG.nil : LeG [] [] := trivial
theorem LeG.cons {e e' : Ent} {Γ Γ' : List Ent} (h : e' = .no ∨ e' = e) (t : LeG Γ Γ') : LeG (e :: Γ) (e' :: Γ') := ⟨h, t⟩
theorem LeG.f {e : Ent} {Γ Γ' : List Ent} (t : LeG Γ Γ') : LeG (e :: Γ) (.no :: Γ') := ⟨.inl rfl, t⟩
theorem LeG.k {e : Ent} {Γ Γ' : List Ent} (t : LeG Γ Γ') : LeG (e :: Γ) (e :: Γ') := ⟨.inr rfl, t⟩
section
variable {C : Cn} {Γ : List Ent} {α β γ δ : Type} {R : Rl α} {S : Rl β} {T : Rl γ} {P : α → Prop} {Pl : List α → Prop} {P' : β → Prop} {ta tb tc te : TE} {ℓ ℓ' c c' : Lv} {K : PySem.W.Frag} {D : Ends} {t u u' : TS}
theorem q_ifT {tt : TT} {p : Prop} (h : EvC C tt Γ p) (h1 : p → Go C t { D with nx := u D } Γ) (h2 : ¬ p → Go C u D Γ) : Go C (tSeq (tIfS tt t tNext) u) D Γ := q_ifC h h1 fun n => q_next (h2 n)
/-- one list, told -/
theorem q_forD {σS : Type} {wi : TI} {j : Nat} {l : List α} (Γs : σS → List Ent) (I : Nat → σS → Prop) (s0 : σS) (hi : EvI C true wi Γ ℓ R (fun x => x = l)) (i0 : I 0 s0) (le0 : LeG Γ (Γs s0))
    (hs : ∀ C', Cex C C' → ∀ i a s, l[i]? = some a → I i s → Go C' t { D with nx := Hol C' Γs (I (i + 1)), ct := Hol C' Γs (I (i + 1)), bk := u D } ((Γs s).set j (.val ℓ R a))) (hd : ∀ s, I l.length s → Go C u D (Γs s)) (hl : ℓ ≠ .h := by decide) : Go C (tSeq (tFor wi (gName j) t) u) D Γ :=
  q_for Γs (fun _ => I) hi (fun _ _ => ⟨s0, i0, le0⟩) (fun C' x l' i a s e => by subst e; exact hs C' x i a s) (fun l' s e => by subst e; exact hd s) hl
theorem q_forD2 {σS : Type} {wi : TI} {i j : Nat} {l : List (α × β)} {S' : Rl β} (Γs : σS → List Ent) (I : Nat → σS → Prop) (s0 : σS) (hi : EvI C true wi Γ ℓ (rPair R S') (fun x => x = l)) (i0 : I 0 s0) (le0 : LeG Γ (Γs s0))
    (hs : ∀ C', Cex C C' → ∀ n a s, l[n]? = some a → I n s → Go C' t { D with nx := Hol C' Γs (I (n + 1)), ct := Hol C' Γs (I (n + 1)), bk := u D } (((Γs s).set i (.val ℓ R a.1)).set j (.val ℓ S' a.2))) (hd : ∀ s, I l.length s → Go C u D (Γs s)) (hl : ℓ ≠ .h := by decide) :
    Go C (tSeq (tFor wi (gTup K 2 (gCons (gName i) (gCons (gName j) gNil))) t) u) D Γ :=
  q_for2 Γs (fun _ => I) hi (fun _ _ => ⟨s0, i0, le0⟩) (fun C' x l' i a s e => by subst e; exact hs C' x i a s) (fun l' s e => by subst e; exact hd s) hl
/-! told exactly -/
theorem ei_rg1d {b : Bool} {n : Int} (ha : Ev C ta Γ .h rInt n) (hz : -(2 ^ 62) ≤ n ∧ n < 2 ^ 62) : EvI C b (iRng1 (tCons ta tNil)) Γ ℓ rInt (fun l => l = rg 0 n) := (ei_rg1 ha (fun i e => by rw [e]; exact hz)).imp fun _ ⟨_, e, h⟩ => by rw [h, e]
theorem ei_rg2d {b : Bool} {i j : Int} (ha : Ev C ta Γ .h rInt i) (hb : Ev C tb Γ .h rInt j) (hz : (-(2 ^ 62) ≤ i ∧ i < 2 ^ 62) ∧ (-(2 ^ 62) ≤ j ∧ j < 2 ^ 62)) : EvI C b (iRng2 (tCons ta (tCons tb tNil))) Γ ℓ rInt (fun l => l = rg i j) := (ei_rg2 ha hb (fun _ _ e e' => by rw [e, e']; exact hz)).imp fun _ ⟨_, _, e, e', h⟩ => by rw [h, e, e']
theorem ei_enumd {b : Bool} {l : List α} (hc : b = true → c ≠ .h := by first | (intro h; exact absurd h (by decide)) | (intro _; decide)) (hl : b = true → ℓ ≠ .h := by first | (intro h; exact absurd h (by decide)) | (intro _; decide)) (ha : EvS C ta Γ .l c ℓ R (fun x => x = l)) : EvI C b (iEnum K (tCons ta tNil)) Γ ℓ (rPair rInt R) (fun x => x = enu l) := (ei_enum hc hl ha).imp fun _ ⟨_, e, h⟩ => by rw [h, e]
theorem en_mapd {wi : TI} {j : Nat} {l : List α} (f : α → β) (hi : EvI C false wi Γ ℓ R (fun x => x = l)) (hz : l.length ≤ 1000000) (he : ∀ a, a ∈ l → Ev C te ((wipeG Γ [j]).set j (.val ℓ R a)) ℓ' S (f a)) (hl : ℓ ≠ .h := by decide) (hlv : ℓ' ≠ .h := by decide) : EvN C (tLc wi (gName j) tYes te [j]) Γ ℓ' S (fun z => z = l.map f) :=
  (en_map f hi (fun _ e => by rw [e]; exact hz) (fun _ a e m => he a (e ▸ m)) hl hlv).imp fun _ ⟨_, e, h⟩ => by rw [h, e]
theorem en_catd {l m : List α} (ha : EvS C ta Γ .l c ℓ R (fun x => x = l)) (hb : EvS C tb Γ .l c' ℓ R (fun x => x = m)) (hz : l.length + m.length ≤ 1000000) : EvN C (tOp rCat ta tb) Γ ℓ R (fun z => z = l ++ m) := (en_cat ha hb (fun _ _ e e' => by rw [e, e']; exact hz)).imp fun _ ⟨_, _, e, e', h⟩ => by rw [h, e, e']
theorem en_slLd {tl th : TO} {o1 o2 : Option Int} {l : List α} (ha : EvS C ta Γ .l c ℓ R (fun x => x = l)) (h1 : EvO C tl Γ (fun x => x = o1)) (h2 : EvO C th Γ (fun x => x = o2)) : EvN C (tSl (rSlL K) ta tl th) Γ ℓ R (fun z => z = sl l o1 o2) := (en_slL ha h1 h2).imp fun _ ⟨_, _, _, e, e1, e2, h⟩ => by rw [h, e, e1, e2]
theorem ev_slEd {tl th : TO} {o1 o2 : Option Int} {l : List α} (ha : Ev C ta Γ ℓ (rSeq R) l) (h1 : EvO C tl Γ (fun x => x = o1)) (h2 : EvO C th Γ (fun x => x = o2)) : Ev C (tSl (rSlE K) ta tl th) Γ ℓ (rSeq R) (sl l o1 o2) := (ev_slE ha h1 h2).imp fun _ ⟨_, _, _, e, e1, e2, h⟩ => by rw [h, e, e1, e2]
theorem en_lstd {ta : TA} {l : List α} (h : EvM C ta Γ ℓ R (fun x => x = l)) (hz : l.length ≤ 1000000 := by decide) : EvN C (tLst ta) Γ ℓ R (fun x => x = l) := en_lst h (fun _ e => by rw [e]; exact hz)
theorem ev_paird {a : α} {b : β} (h : Ev C ta Γ ℓ R a) (h2 : Ev C tb Γ ℓ S b) : Ev C (tTup (tCons ta (tCons tb tNil))) Γ ℓ (rPair R S) (a, b) := (ev_pair h h2).imp fun x ⟨p, q⟩ => Prod.ext p q
theorem ev_some {a : α} (h : Ev C te Γ ℓ R a) (hn : ∀ H a, ¬ R.is H .non a) : Ev C te Γ ℓ (rOpt R) (some a) := fun σ W w Q q => h σ W w Q fun v W' x s b r p => q v W' (some x) s b ⟨r, fun z => by subst z; exact hn _ _ r⟩ (by rw [p])
theorem nn_pair (H : Hp) (a : α × β) : ¬ (rPair R S).is H .non a := fun ⟨_, _, _, e, _⟩ => by cases e
/-- an option known to be something -/
theorem ev_the {o : Option α} {a : α} (h : Ev C te Γ ℓ (rOpt R) o) (ho : o = some a) : Ev C te Γ ℓ R a := fun σ W w Q q => h σ W w Q fun v W' x s b r p => by
  subst p
  subst ho
  exact q v W' a s b r.1 rfl
end
theorem rg_at {lo hi : Int} {i : Nat} {a : Int} (h : (rg lo hi)[i]? = some a) : a = lo + (i : Int) ∧ lo + (i : Int) < hi := by
  have hl : i < (hi - lo).toNat := by
    have := (List.getElem?_eq_some_iff.mp h).1
    rwa [rg_len] at this
  rw [rg_get lo hi i hl] at h
  exact ⟨(Option.some.inj h).symm, by omega⟩
theorem rg_mem {lo hi a : Int} : a ∈ rg lo hi ↔ lo ≤ a ∧ a < hi := by
  unfold rg
  rw [List.mem_map]
  constructor
  · rintro ⟨i, h, e⟩
    rw [List.mem_range] at h
    omega
  · intro h
    exact ⟨(a - lo).toNat, by rw [List.mem_range]; omega, by omega⟩
theorem enu_at {α : Type} {l : List α} {i : Nat} {a : Int × α} (h : (enu l)[i]? = some a) : a.1 = (i : Int) ∧ l[i]? = some a.2 := by
  rw [enu_get] at h
  cases e : l[i]? with
  | none => rw [e] at h; cases h
  | some b =>
    rw [e] at h
    have := Option.some.inj h
    subst this
    exact ⟨rfl, rfl⟩
theorem at_lt {α : Type} {l : List α} {i : Nat} {a : α} (h : l[i]? = some a) : i < l.length := (List.getElem?_eq_some_iff.mp h).1
/-! ### a def that is called -/
structure Cal (P : Program) (w : PySem.World) (K : PySem.W.Frag) (mg : Str → Option Value) (base : Heap) (CX : CXT) (k : Nat) (x : Str) (ps : List Str) (sp : Sp) (f : Addr) (fd : FuncData) : Prop where
  ok : FnOk P w K mg base CX k f fd ps sp
  kp : PySem.W.keepIn K (.ref f) = true
  b : Binds K fd ps []
  g : mg x = some (.ref f)
end GL


set_option Elab.async false
set_option linter.all false
set_option maxRecDepth 100000
set_option maxHeartbeats 1000000
namespace GL
open PySem L2
theorem bt_len : bootBuiltins "len" = some (.builtin "len") := by decide +kernel
theorem bt_list : bootBuiltins "list" = some (.type "list") := by decide +kernel
theorem bt_tuple : bootBuiltins "tuple" = some (.type "tuple") := by decide +kernel
theorem bt_int : bootBuiltins "int" = some (.type "int") := by decide +kernel
section
variable {X : Cx}
theorem sl_eith : SlR X (rSlE X.K) := sl_list.or sl_tupA
theorem pi_eith {tg l : Expr} {tl : TE} (hl : PE X l tl) : PI X tg l (iEith X.K tl) := by
  refine ⟨fun pins s σ H R I h => ?_⟩
  refine thn (hl.run pins s σ H _ I h) fun v s1 ⟨x, H1, I1, r1, q1⟩ => ?_
  obtain ⟨a, e, ⟨⟨xs, hq⟩, q⟩ | ⟨⟨xs, hq⟩, q⟩⟩ := q1
  · subst e
    cases r1
    obtain ⟨its, rv, p, hz⟩ := I1.list hq
    refine wpAny_pyIter_list p.isList ?_
    refine ⟨s1.heap.objs.size, [s1.heap.objs.size], _, _, H1, rfl, I1.kept (t' := s1.toks) fun b o e => Heap.get?_push_of_some _ e, turn_list a _, ⟨_, Heap.get?_push_size _ rfl, rfl, rfl⟩, fun b hb => ?_, q⟩
    have e : b = s1.heap.objs.size := by simpa using hb
    subst e
    exact I1.fpOk (Nat.le_refl _) (I1.hok.fresh (Nat.le_refl _))
  · subst e
    cases r1
    obtain ⟨its, rv, p, hz⟩ := I1.tuple hq
    refine wpAny_pyIter_tuple (show s1.heap.IsTuple a its.toArray from p) ?_
    refine ⟨s1.heap.objs.size, [s1.heap.objs.size], _, _, H1, rfl, I1.kept (t' := s1.toks) fun b o e => Heap.get?_push_of_some _ e, turn_tuple a _, ⟨_, Heap.get?_push_size _ rfl, rfl, rfl⟩, fun b hb => ?_, q⟩
    have e : b = s1.heap.objs.size := by simpa using hb
    subst e
    exact I1.fpOk (Nat.le_refl _) (I1.hok.fresh (Nat.le_refl _))
end
section
variable {C : Cn} {Γ : List Ent} {α β γ δ : Type} {R : Rl α} {S : Rl β} {T : Rl γ} {P : α → Prop} {Pl : List α → Prop} {P' : β → Prop} {ta tb tc te : TE} {ℓ ℓ' c c' : Lv} {K : PySem.W.Frag} {D : Ends} {t u u' : TS}
theorem rgV_eq (a b : Int) : rgV a b = (rg a b).map V.int := by
  unfold rgV rg
  rw [List.map_map]
  rfl
theorem en_listRg1 {n : Int} (ha : Ev C ta Γ .h rInt n) (hz : -(2 ^ 62) ≤ n ∧ n ≤ 1000000) : EvN C (tLstRg (tRg1 ta)) Γ .g rInt (fun x => x = rg 0 n) := fun σ W w Q q =>
  ha σ W w _ fun v W1 a s1 b1 r1 p1 => ⟨a, r1, ⟨by decide, by decide, by omega, by omega, by have := p1; omega⟩, by
    subst p1
    rw [rgV_eq]
    exact fresh_go w s1 b1 q (All2.of_map (p := rInt.is _) (f := V.int) (fun _ => rfl) _) rfl⟩
theorem ev_intB' {b : Bool} (ha : Ev C ta Γ .h rBool b) : Ev C (tCB (fun xs H Q => (∃ i, xs = [.int i] ∧ Q (.int i) H) ∨ ∃ k, xs = [.bl k] ∧ Q (.int (if k then 1 else 0)) H) (tCons ta tNil)) Γ ℓ rInt (if b = true then (1 : Int) else 0) := (evp_intB ha).imp fun _ ⟨_, e, h⟩ => by rw [h, e]
end
end GL


set_option Elab.async false
set_option linter.all false
set_option maxRecDepth 100000
set_option maxHeartbeats 2000000
namespace PySem
open Sem (wp)
theorem meets_enumerate_gl {v : Value} {o : Obj} {H : Heap → Prop} (B : Begins v o H) :
    Meets (Builtin.«enumerate.__new__» ⟨[.type "enumerate", v], []⟩) (fun _ R s => H s.heap ∧
      R (.ok (.ret (.ref (s.heap.push o).objs.size))) { s with heap := (s.heap.push o).push { cls := .type "enumerate", data := .fields #[.none, .bool false, .ref s.heap.objs.size, rawInt 0, .none, .none] } }) :=
  .of_wp fun prog w A R s h => by
    obtain ⟨hp, g, d, tk, os⟩ := s; obtain ⟨h1, h⟩ := h
    have hsub := sub_enumerate
    have q1 : ∀ {A' : Around} {E : Value → Shared → Prop} {Q : Value → Shared → Prop}, Q (.ref hp.objs.size) ⟨hp.push o, g, d, tk, os⟩ → wpAny (model prog w) A' (pyIter v) Q E ⟨hp, g, d, tk, os⟩ :=
      fun q => B.iter prog w _ _ ⟨hp, g, d, tk, os⟩ _ h1 q
    wp_walk using q1
    refine wpAny_stack_any fun st => wpAny_pure ?_
    split
    · rename_i c _ _ _ _ _
      cases (c == Value.type "enumerate")
      · wp_walk using q1
        exact ⟨_, rfl, h⟩
      · wp_walk using q1
        exact ⟨_, rfl, h⟩
    · wp_walk using q1
      exact ⟨_, rfl, h⟩
section
variable {prog : Program} {w : World} {A : Around} {E : Value → Shared → Prop} {s : Shared}
theorem enum_begins_gl {v : Value} {o : Obj} {H : Heap → Prop} {Q : Value → Shared → Prop} (B : Begins v o H) (h1 : H s.heap)
    (h : ∀ h', IsEnum h' (s.heap.objs.size + 1) s.heap.objs.size 0 .none → h'.get? s.heap.objs.size = some o → h'.objs.size = s.heap.objs.size + 2 →
      (∀ b o, s.heap.get? b = some o → h'.get? b = some o) → Q (.ref (s.heap.objs.size + 1)) { s with heap := h' }) :
    wpAny (model prog w) A (call (.type "enumerate") [v]) Q E s := by
  refine callType_new F.called_enumerate (by decide) (F.typeCall_enumerate_1 _) (F.newCall_enumerate_1 _) (fun obj => F.args_object_init_2 obj _) F.entry_enumerate_new
    (meets_enumerate_gl B) ⟨h1, ?_⟩
  have hz : (s.heap.push o).objs.size = s.heap.objs.size + 1 := Heap.size_push ..
  show _ ∧ _
  rw [hz]
  have he : IsEnum ((s.heap.push o).push { cls := .type "enumerate", data := .fields #[.none, .bool false, .ref s.heap.objs.size, rawInt 0, .none, .none] }) (s.heap.objs.size + 1) s.heap.objs.size 0 .none := by
    have := Heap.get?_push_size (s.heap.push o) (o := { cls := .type "enumerate", data := .fields #[.none, .bool false, .ref s.heap.objs.size, rawInt 0, .none, .none] }) rfl
    rw [hz] at this; exact this
  refine ⟨⟨_, he, rfl⟩, h _ he (Heap.get?_push_of_some _ (Heap.get?_push_size _ B.free)) (by rw [Heap.size_push, hz]) fun b o x => Heap.get?_push_of_some _ (Heap.get?_push_of_some _ x)⟩
end
end PySem
namespace L2
open PySem PySem.Spec PyProof.Rows
/-! ### enumerate(tuple) -/
def IteT (K : PySem.W.Frag) (a : Addr) : It :=
  ⟨fun i H => ∃ (xs : List V) (x : V), SqT K H a xs ∧ xs[i]? = some x, fun i H v H' => ∃ T x, v = .ref T ∧ H T = none ∧ H' = upd H T (.tup [.int (i : Nat), x]) ∧ ∀ xs, SqT K H a xs → xs[i]? = some x, fun i H => ∃ xs : List V, SqT K H a xs ∧ xs.length ≤ i⟩
theorem turn_enumT {P : Program} {w : World} {K : PySem.W.Frag} {elts : List Expr} {kk : Nat} {tpos : Pos} (a e it : Addr) :
    Turn P w K (.Tuple elts kk tpos) (IteT K a) [e, it] e (fun i h => (∃ old, IsEnum h e it ((i : Nat) : Int) old) ∧ h.IsTupleIter it a i ∧ e ≠ it) where
  mem := by simp
  obj := fun i h st b hb => by
    obtain ⟨⟨old, he⟩, ⟨o, ho, hc, hd⟩, _⟩ := st
    have e' : b = e ∨ b = it := by simpa using hb
    rcases e' with z | z
    · rw [z]; exact ⟨_, he, fun v q => nomatch q⟩
    · rw [z]; exact ⟨o, ho, fun v q => by rw [hd] at q; cases q⟩
  keep := fun i h h' st k => let ⟨⟨old, he⟩, hi, hne⟩ := st; ⟨⟨old, k e (by simp) _ he⟩, hi.at fun o q => k it (by simp) o q, hne⟩
  item := by
    intro X hP hw hK hc i pins s σ H E I hf st hg
    subst hP hw hK
    obtain ⟨⟨old, he⟩, hit, hne⟩ := st
    obtain ⟨xs, x, hq, hx⟩ := hg
    obtain ⟨its, rv, p, hz⟩ := I.tuple hq
    obtain ⟨u, hu, ru⟩ := rv.get hx
    have hel : e < s.heap.objs.size := Heap.lt_size he
    have hil : it < s.heap.objs.size := by obtain ⟨_, q, _⟩ := hit; exact Heap.lt_size q
    have pt : s.heap.IsTuple a its.toArray := p
    have hat : a ≠ it := fun z => by
      obtain ⟨o1, q1, c1, _⟩ := hit
      obtain ⟨o2, q2, c2, _⟩ := pt
      rw [z, q1] at q2; cases q2
      rw [c1] at c2; exact absurd c2 (by decide)
    have hae : e ∉ [it, a] := fun z => by
      rcases List.mem_cons.mp z with z | z
      · exact hne z
      · have z' : e = a := by simpa using z
        obtain ⟨o2, q2, c2, _⟩ := pt
        rw [← z', show s.heap.get? e = some _ from he] at q2
        cases q2
        have c3 : Value.type "enumerate" = Value.type "tuple" := c2
        exact absurd c3 (by decide)
    have hd1 : X.A.in1.handled = none := I.ok.hd hc
    refine wpAny_pyNext_enum_itemD (Draws.tuple hd1 it a hat its.toArray) he ⟨hit, pt⟩ (i := i) (by
      have := (List.getElem?_eq_some_iff.mp hu).1
      simpa using this) hne hae fun x' h' tk hPx ho hst' hT hsz hk => ?_
    have ex : x' = u := by
      have h1 : its[i]? = some x' := by simpa using hPx
      rw [hu] at h1; exact (Option.some.inj h1).symm
    subst ex
    have hit' := hst'.1
    refine ⟨_, rfl, wpAny_letOwnedTupleGo_enum (s := { s with heap := h', toks := tk + 1 }) ho fun h'' he' sb => ?_⟩
    have hT2 : h''.get? s.heap.objs.size = some { cls := .type "tuple", data := .seq #[.int i tk, x'] } := (sb.2 _ (Nat.ne_of_gt hel)).trans hT
    have new : ObjOk X.prog X.w (upd H s.heap.objs.size (.tup [.int (i : Nat), x])) h'' s.heap.objs.size (.tup [.int (i : Nat), x]) :=
      ⟨by show 2 ≤ sizeLine; decide, [.int i tk, x'], .cons ⟨_, rfl⟩ (.cons ru .nil), ⟨_, hT2, rfl, _, rfl⟩⟩
    have I1 : Inv X pins σ (upd H s.heap.objs.size (.tup [.int (i : Nat), x])) { s with heap := h'', toks := tk + 1 } :=
      I.turnedNew (ch := [e, it]) (fun b ob hb q => (sb.2 b (fun z => hb (by simp [z]))).trans (hk b ob (fun z => hb (by simp [z])) (fun z => hb (by simp [z])) q)) hf (Nat.le_refl _) new
    refine ⟨.ref s.heap.objs.size, _, I1, rfl, ⟨_, x, rfl, I.hok.fresh (Nat.le_refl _), rfl, fun ys hy => by rw [I.tuple_inj hy hq]; exact hx⟩, ⟨⟨x', ?_⟩, hit'.at fun o q => (sb.2 it (Ne.symm hne)).trans q, hne⟩, fun b hb => ?_⟩
    · have e1 : ((i + 1 : Nat) : Int) = (i : Int) + 1 := by omega
      rw [e1]; exact he'
    · have hb' : b < s.heap.objs.size := by
        have e' : b = e ∨ b = it := by simpa using hb
        rcases e' with z | z
        · rw [z]; exact hel
        · rw [z]; exact hil
      rw [upd_ne (Nat.ne_of_lt hb')]
      exact (hf b hb).1
  done := by
    intro X hP hw hK hc i pins s σ H E I hf st hg
    subst hP hw hK
    obtain ⟨⟨old, he⟩, hit, hne⟩ := st
    obtain ⟨xs, hq, hx⟩ := hg
    obtain ⟨its, rv, p, hz⟩ := I.tuple hq
    obtain ⟨f0, f1, f2, f3, f4, f5⟩ := hf it (by simp)
    have hl := rv.length
    have pt : s.heap.IsTuple a its.toArray := p
    have hd1 : X.A.in1.handled = none := I.ok.hd hc
    have hT : s.TypeIs (.ref e) "enumerate" := ⟨_, he, rfl⟩
    unfold pyNext
    refine wpAny_bind (wpAny_attempt (wpAny_callSpecial?_slot (name := Str.ofString "__next__") hT F.slot_enumerate_next
      (wpAny_call_entry F.slot_enumerate_next hT F.entry_enumerate_next ?_ (F.args_enumerate_next_1 _))))
    show wpAny _ _ (field (.ref e) 2 >>= _) _ _ _
    refine wpAny_bind (wpAny_field he rfl (x := .ref it) rfl ?_)
    refine wpAny_bind (wpAny_nextOf_tuple_end hd1 hit pt (by simp; omega) fun h' x he' hx' => ?_)
    obtain ⟨o, ho, hc'⟩ := hx'
    refine wpAny_bind (wpAny_isInstance (T := "StopIteration") (b := true) ⟨o, ho, hc'⟩ isSubtype_stop ?_)
    exact wpAny_pure ⟨rfl, I.turned (t' := s.toks) (fun b o hb q => he' b o hb q) f0 f1 f3 f4 f5⟩
  self := fun A i s Q E st h => let ⟨⟨_, he⟩, _⟩ := st; wpAny_pyIter_enum he h
def iEnumT (K : PySem.W.Frag) (ta : TA) : TI := fun σ H R => ta σ H fun vs H1 => ∃ a xs, vs = [.ref a] ∧ SqT K H1 a xs ∧ R (IteT K a) H1
def iEnumE (K : PySem.W.Frag) (ta : TA) : TI := fun σ H R => ta σ H fun vs H1 => ∃ a xs, vs = [.ref a] ∧ ((SqL K H1 a xs ∧ R (Ite K a) H1) ∨ (SqT K H1 a xs ∧ R (IteT K a) H1))
theorem pi_enumE {X : Cx} {e : Expr} {ta : TA} {p pos tpos : Pos} {elts : List Expr} {kk : Nat} (hg : Gl X "enumerate") (hm : X.mg "enumerate" = none) (ha : PA X [e] ta) (hs : starEach [e] X.env = [(false, eval e X.env)] := by rfl) :
    PI X (.Tuple elts kk tpos) (.Call (.Name "enumerate" p) [e] [] pos) (iEnumE X.K ta) := by
  refine ⟨fun pins s σ H R I h => ?_⟩
  refine Call_ (ld_blt I hg hm boot_enumerate (PyProof.Rows.callWith_type1 (thn (ha.run pos pins s σ H _ I h) fun us s1 ⟨vs, H1, I1, r1, q1⟩ => ?_) hs rfl))
  obtain ⟨a, xs, ex, ⟨hq, q⟩ | ⟨hq, q⟩⟩ := q1
  · subst ex
    cases r1 with
    | cons r rr =>
      cases rr
      cases r
      obtain ⟨its, rv, p', hz⟩ := I1.list hq
      refine call_enumerate_list p'.isList fun h' he hit hsz hk => wpAny_pyIter_enum he ?_
      have I2 : Inv X pins σ H1 { s1 with heap := h' } := I1.kept (t' := s1.toks) hk
      refine ⟨s1.heap.objs.size + 1, [s1.heap.objs.size + 1, s1.heap.objs.size], _, _, H1, rfl, I2, turn_enum a (s1.heap.objs.size + 1) s1.heap.objs.size, ⟨⟨.none, he⟩, hit, Nat.succ_ne_self _⟩, fun b hb => ?_, q⟩
      have e' : b = s1.heap.objs.size + 1 ∨ b = s1.heap.objs.size := by simpa using hb
      have hle : s1.heap.objs.size ≤ b := by
        rcases e' with z | z
        · rw [z]; exact Nat.le_add_right _ _
        · rw [z]; exact Nat.le_refl _
      exact I1.fpOk hle (I1.hok.fresh hle)
  · subst ex
    cases r1 with
    | cons r rr =>
      cases rr
      cases r
      obtain ⟨its, rv, p', hz⟩ := I1.tuple hq
      refine enum_begins_gl (begins_tuple a its.toArray) (show s1.heap.IsTuple a its.toArray from p') fun h' he hit hsz hk => wpAny_pyIter_enum he ?_
      have I2 : Inv X pins σ H1 { s1 with heap := h' } := I1.kept (t' := s1.toks) hk
      refine ⟨s1.heap.objs.size + 1, [s1.heap.objs.size + 1, s1.heap.objs.size], _, _, H1, rfl, I2, turn_enumT a (s1.heap.objs.size + 1) s1.heap.objs.size, ⟨⟨.none, he⟩, ⟨_, hit, rfl, rfl⟩, Nat.succ_ne_self _⟩, fun b hb => ?_, q⟩
      have e' : b = s1.heap.objs.size + 1 ∨ b = s1.heap.objs.size := by simpa using hb
      have hle : s1.heap.objs.size ≤ b := by
        rcases e' with z | z
        · rw [z]; exact Nat.le_add_right _ _
        · rw [z]; exact Nat.le_refl _
      exact I1.fpOk hle (I1.hok.fresh hle)
end L2

namespace GL
open PySem L2
theorem bt_isinstance : bootBuiltins "isinstance" = some (.builtin "isinstance") := by decide +kernel
theorem bt_bool : bootBuiltins "bool" = some (.type "bool") := by decide +kernel
theorem bt_all : bootBuiltins "all" = some (.builtin "all") := by decide +kernel
section
variable {C : Cn} {Γ : List Ent} {α β γ δ : Type} {R : Rl α} {S : Rl β} {T : Rl γ} {P : α → Prop} {Pl : List α → Prop} {P' : β → Prop} {ta tb tc te : TE} {ℓ ℓ' c c' : Lv} {K : PySem.W.Frag} {D : Ends} {t u u' : TS}
theorem ei_enumEd {b : Bool} {l : List α} (hc : b = true → ℓ ≠ .h := by first | (intro h; exact absurd h (by decide)) | (intro _; decide)) (ha : Ev C ta Γ ℓ (rSeq R) l) : EvI C b (iEnumE K (tCons ta tNil)) Γ ℓ (rPair rInt R) (fun x => x = enu l) := fun σ W w Rk k =>
  ha σ W w _ fun v W1 l' s b1 ⟨p, xs, e, h, r⟩ pl => ⟨p, xs, by rw [e], by
    subst pl
    rcases h with h | h
    · refine .inl ⟨sqL_of (c := ℓ) b1 h, k _ W1 (enu l') (fun V => seqAt .l (wl C V ℓ) p xs ∧ All2 (R.is (wl C V ℓ)) xs l') s b1 ⟨h, r⟩ (fun V1 V2 k1 k2 pr ⟨h1, h2⟩ => ⟨h1.mono (per_wl hc k1 pr), h2.imp fun _ _ => R.mono (per_wl hc k1 pr)⟩)
        ⟨fun V i bk ⟨h1, h2⟩ hi => ⟨xs, xs[i]'(by rw [h2.len]; rwa [enu_len] at hi), sqL_of bk h1, List.getElem?_eq_getElem _⟩, fun V bk ⟨h1, h2⟩ => ⟨xs, sqL_of bk h1, by rw [enu_len, h2.len]; exact Nat.le_refl _⟩,
          fun V i x H' a bk ⟨h1, h2⟩ ha ⟨T, x', y1, y2, y3, y4⟩ => ?_⟩ rfl⟩
      obtain ⟨e1, e2⟩ := enu_at ha
      obtain ⟨v, hv, rv⟩ := h2.get e2
      have := y4 xs (sqL_of bk h1)
      rw [hv] at this
      cases this
      subst y1 y3
      obtain ⟨a1, a2⟩ := a
      have e1' : a1 = (i : Int) := e1
      subst e1'
      exact pair_yld bk y2 rfl rv
    · refine .inr ⟨sqT_of (c := ℓ) b1 h, k _ W1 (enu l') (fun V => seqAt .t (wl C V ℓ) p xs ∧ All2 (R.is (wl C V ℓ)) xs l') s b1 ⟨h, r⟩ (fun V1 V2 k1 k2 pr ⟨h1, h2⟩ => ⟨h1.mono (per_wl hc k1 pr), h2.imp fun _ _ => R.mono (per_wl hc k1 pr)⟩)
        ⟨fun V i bk ⟨h1, h2⟩ hi => ⟨xs, xs[i]'(by rw [h2.len]; rwa [enu_len] at hi), sqT_of bk h1, List.getElem?_eq_getElem _⟩, fun V bk ⟨h1, h2⟩ => ⟨xs, sqT_of bk h1, by rw [enu_len, h2.len]; exact Nat.le_refl _⟩,
          fun V i x H' a bk ⟨h1, h2⟩ ha ⟨T, x', y1, y2, y3, y4⟩ => ?_⟩ rfl⟩
      obtain ⟨e1, e2⟩ := enu_at ha
      obtain ⟨v, hv, rv⟩ := h2.get e2
      have := y4 xs (sqT_of bk h1)
      rw [hv] at this
      cases this
      subst y1 y3
      obtain ⟨a1, a2⟩ := a
      have e1' : a1 = (i : Int) := e1
      subst e1'
      exact pair_yld bk y2 rfl rv⟩
/-! isinstance -/
structure Tyd (K : PySem.W.Frag) {α : Type} (R : Rl α) (n : String) : Prop where
  ty : ∀ H v a, R.is H v a → TyX K H v (.type n)
/-! all, any of bools -/
theorem All2.bools {H : Hp} {xs : List V} {l : List Bool} (h : All2 (rBool.is H) xs l) : xs = l.map V.bl := h.map_eq fun _ _ e => e
theorem ev_all {l : List Bool} (ha : EvS C ta Γ .l c .h rBool (fun x => x = l)) : Ev C (tCB (rAll K) (tCons ta tNil)) Γ ℓ rBool (l.all id) := fun σ W w Q q =>
  ha σ W w _ fun p W1 xs l' s b e r pl => ⟨p, l', rfl, by rw [← r.bools]; exact sqL_of b e, q _ W1 _ s b rfl (by rw [pl])⟩
/-! min, max, index as functions -/
def lmin : List Int → Int
  | [] => 0
  | [x] => x
  | x :: y :: l => min x (lmin (y :: l))
def lmax : List Int → Int
  | [] => 0
  | [x] => x
  | x :: y :: l => max x (lmax (y :: l))
theorem lmin_spec : ∀ (l : List Int), l ≠ [] → lmin l ∈ l ∧ ∀ y ∈ l, lmin l ≤ y
  | [], h => absurd rfl h
  | [x], _ => by simp [lmin]
  | x :: y :: l, _ => by
    obtain ⟨h1, h2⟩ := lmin_spec (y :: l) (by simp)
    unfold lmin
    refine ⟨?_, fun z hz => ?_⟩
    · rcases Int.le_total x (lmin (y :: l)) with h | h
      · rw [Int.min_eq_left h]; simp
      · rw [Int.min_eq_right h]; exact List.mem_cons_of_mem _ h1
    · rcases List.mem_cons.mp hz with rfl | hz
      · omega
      · have := h2 z hz; omega
theorem lmax_spec : ∀ (l : List Int), l ≠ [] → lmax l ∈ l ∧ ∀ y ∈ l, y ≤ lmax l
  | [], h => absurd rfl h
  | [x], _ => by simp [lmax]
  | x :: y :: l, _ => by
    obtain ⟨h1, h2⟩ := lmax_spec (y :: l) (by simp)
    unfold lmax
    refine ⟨?_, fun z hz => ?_⟩
    · rcases Int.le_total x (lmax (y :: l)) with h | h
      · rw [Int.max_eq_right h]; exact List.mem_cons_of_mem _ h1
      · rw [Int.max_eq_left h]; simp
    · rcases List.mem_cons.mp hz with rfl | hz
      · omega
      · have := h2 z hz; omega
theorem lmin_uniq {l : List Int} {m : Int} (h1 : m ∈ l) (h2 : ∀ y ∈ l, m ≤ y) : m = lmin l := by
  obtain ⟨a, b⟩ := lmin_spec l (by intro e; rw [e] at h1; cases h1)
  exact Int.le_antisymm (h2 _ a) (b _ h1)
theorem lmax_uniq {l : List Int} {m : Int} (h1 : m ∈ l) (h2 : ∀ y ∈ l, y ≤ m) : m = lmax l := by
  obtain ⟨a, b⟩ := lmax_spec l (by intro e; rw [e] at h1; cases h1)
  exact Int.le_antisymm (b _ h1) (h2 _ a)
/-- x.insert(n, e) -/
abbrev rIns : V → List V → Hp → VK → Prop := fun x vs H Q => ∃ (l : Addr) (xs : List V) (i : Int) (y : V), x = .ref l ∧ vs = [.int i, y] ∧ H l = some (.lst xs) ∧ xs.length < sizeLine ∧ 0 ≤ i ∧ i < 2 ^ 63 ∧
    Q .non (upd H l (.lst (xs.take i.toNat ++ [y] ++ xs.drop i.toNat)))
theorem q_ins {i : Nat} {p : Addr} {l : List α} {Pi : Int → Prop} (h : Γ[i]? = some (.own p ℓ R l)) (hx : EvP C ta Γ .h rInt Pi) (he : EvP C te Γ ℓ R P) (hz : l.length < 1000000) (hn : ∀ n, Pi n → 0 ≤ n ∧ n < 2 ^ 63) (k : ∀ n a, Pi n → P a → Go C u D (Γ.set i (.own p ℓ R (l.take n.toNat ++ [a] ++ l.drop n.toNat)))) :
    Go C (tSeq (tDrop (tBM K "list" rIns (tVar i) (tCons ta (tCons te tNil)))) u) D Γ := fun σ W w => by
  obtain ⟨h1, xs, hH, r⟩ := own_lit w h
  refine ⟨_, h1, .inl ⟨rfl, _, .inl (.inl hH)⟩, hx σ W w _ fun y W1 n s1 b1 r1 p1 => ?_⟩
  have w1 := w.stp b1 s1
  refine he σ W1 w1 _ fun v W2 a s2 b2 r2 p2 => ?_
  have w2 := w1.stp b2 s2
  obtain ⟨_, xs', hH', r'⟩ := own_lit w2 h
  refine ⟨p, xs', n, v, rfl, by rw [show y = .int n from r1], hH', by rw [r'.len]; exact Nat.lt_of_lt_of_le hz sizeLine_big, (hn n p1).1, (hn n p1).2, ?_⟩
  refine k n a p1 p2 σ _ (w2.own_set h ?_)
  exact ((r'.take n.toNat).app (ys := [v]) (m := [a]) ⟨r2, trivial⟩).app (r'.drop n.toNat)
/-! a row of ours that any def may change as long as PI holds of it -/
theorem q_asgV {i : Nat} {Pl : List α → Prop} (f : Flat R) (h : EvX C te Γ (ResF C (rList R) Pl)) (hv : ∀ xs l, Pl l → (∀ H, All2 (R.is H) xs l) → C.PI (.lst xs)) (k : ∀ p, ¬ C.isT p → Go C u D (Γ.set i (.vol p))) : Go C (tSeq (tAsg te (gName i)) u) D Γ := fun σ W w =>
  h σ W w _ fun W1 v H' s1 b1 r => by
    obtain ⟨l, ⟨p, xs, e, hp, t⟩, pl⟩ := r.val
    obtain ⟨n1, ho⟩ := fresh_some hp
    have hPI := hv xs l pl (fun H => t.imp fun _ _ h => f _ _ _ _ h)
    subst e
    have w1 := w.stp b1 s1
    have hv : p ∉ W1.vs := b1.nvs n1
    obtain ⟨b2, s2⟩ := bare_ok b1 r.keep r.vol r.tab
    have w2 := w1.stp b2 s2
    have b3 : Bok C ⟨H', W1.G, p :: W1.vs⟩ := ⟨b2.base, fun q hq => by
      rcases List.mem_cons.mp hq with e | hq
      · subst e; exact ⟨_, ho, fun _ => hPI⟩
      · exact b2.vol q hq, fun q hq => List.mem_cons_of_mem _ (b2.vsub q hq), fun q hq n => by
      rcases List.mem_cons.mp hq with e | hq
      · subst e; exact b1.h0 n1
      · exact b2.vnew q hq n, b2.v0, fun q hq => by
      rcases List.mem_cons.mp hq with e | hq
      · subst e; exact b1.g0 n1
      · exact b2.gv q hq, b2.g, b2.gn, b2.fl, fun P q e => ⟨List.mem_cons_of_mem _ (b2.tab P q e).1, (b2.tab P q e).2⟩, b2.knb⟩
    have w3 : World C σ ⟨H', W1.G, p :: W1.vs⟩ Γ := ⟨b3, w2.len, fun j e hj => by
      obtain ⟨y, y1, y2⟩ := w2.ent j e hj
      refine ⟨y, y1, ?_⟩
      have lv : ∀ ℓ' : Lv, ℓ' ≠ .h → Same (wl C ⟨H', W1.G, W1.vs⟩ ℓ') (wl C ⟨H', W1.G, p :: W1.vs⟩ ℓ') := fun ℓ' hn => by
        cases ℓ' with
        | g => exact Same.refl _
        | m => exact Same.refl _
        | h => exact absurd rfl hn
      cases e with
      | no => trivial
      | val ℓ' R' a => exact ⟨y2.1, let ⟨v, e, q⟩ := y2.2; ⟨v, e, R'.mono (lv ℓ' y2.1) q⟩⟩
      | own q ℓ' R' l' =>
        obtain ⟨z1, z2, z3, z4, z5, ys, z6, z7⟩ := y2
        have ne : q ≠ p := fun z => by
          subst z
          have := (w1.adH (j := j) (q := q) (.own hj)).1
          exact this n1
        exact ⟨z1, z2, fun z => by rcases List.mem_cons.mp z with z | z; exact ne z; exact z3 z, z4, z5, ys, z6, z7.imp fun _ _ => R'.mono (lv ℓ' z1)⟩
      | vol q => exact ⟨y2.1, List.mem_cons_of_mem _ y2.2.1, y2.2.2⟩
      | raw v => exact y2
      | ob v ps ℓ' S' a' =>
        obtain ⟨z1, z2, z3, z4⟩ := y2
        refine ⟨z1, z2, fun q m => ?_, S'.mono (lv ℓ' z1) (fun _ _ => rfl) z4⟩
        obtain ⟨k1, k2, k3, k4⟩ := z3 q m
        have ne : q ≠ p := fun z => by
          subst z
          exact (w1.adH (j := j) (q := q) (.ob hj m)).1 n1
        exact ⟨fun z => by rcases List.mem_cons.mp z with z | z; exact ne z; exact k1 z, k2, k3, k4⟩, w2.dis⟩
    have hnt : ¬ C.isT p := fun ⟨q, z⟩ => by
      obtain ⟨_, ps, h1, _⟩ := b1.tab p q z
      rw [h1] at n1; cases n1
    exact k p hnt _ _ (w3.set i ⟨rfl, List.mem_cons_self, hnt⟩ fun q hq => by cases hq)
end
end GL


set_option Elab.async false
set_option linter.all false
set_option maxRecDepth 100000
set_option maxHeartbeats 2000000
namespace GL
open PySem L2
/-! ### values that are not told exactly -/
theorem gt_mem {α : Type} [Inhabited α] {l : List α} {i : Int} (h : 0 ≤ i ∧ i < l.length) : gt l i ∈ l := List.mem_of_getElem? (gt_get h)
theorem gtB_mem {α : Type} [Inhabited α] {l : List α} {n : Nat} (h : 0 < n ∧ n ≤ l.length) : gtB l n ∈ l := List.mem_of_getElem? (gtB_get h)
/-- the script -/
def rScr (K : PySem.W.Frag) : Rl (List Int) := ⟨fun H v l => ∃ p, v = .ref p ∧ SqL K H p (l.map V.int), fun s ⟨p, e, h⟩ => ⟨p, e, s.seq h⟩⟩
section
variable {C : Cn} {Γ : List Ent} {α β γ δ : Type} {R : Rl α} {S : Rl β} {T : Rl γ} {P : α → Prop} {Pl : List α → Prop} {P' : β → Prop} {ta tb tc te : TE} {ℓ ℓ' c c' : Lv} {K : PySem.W.Frag} {D : Ends} {t u u' : TS}
/-- an item of a written row -/
theorem evp_pick {k : Kd} [Inhabited α] {Pi : Int → Prop} (ha : EvS C ta Γ k c ℓ R Pl) (hb : EvP C tb Γ .h rInt Pi) (hc : ∀ l i, Pl l → Pi i → 0 ≤ i ∧ i < l.length) : EvP C (tOp (rIxK K k) ta tb) Γ ℓ R (fun z => ∃ l, Pl l ∧ z ∈ l) :=
  evp_ix ha hb fun l i h1 h2 => ⟨hc l i h1 h2, l, h1, gt_mem (hc l i h1 h2)⟩
theorem em_nilP : EvM C tNil Γ ℓ R (fun l => l = []) := em_nil
theorem EvB.tt {tt : TT} {Pb : Bool → Prop} (h : EvB C tt Γ Pb) : EvB C tt Γ (fun _ => True) := h.imp fun _ _ => trivial
theorem ev_mulW {i j : Int} (ha : Ev C ta Γ .h rInt i) (hb : Ev C tb Γ .h rInt j) (hc : CMulW i j) : Ev C (tOp (rI CMulW fun i j => .int (i * j)) ta tb) Γ ℓ rInt (i * j) := evp_I (f := fun i j => i * j) ha hb (fun _ _ p q => by rw [p, q]; exact hc) (fun _ _ _ => rfl) fun _ _ p q => by rw [p, q]
theorem ex_voln1 {α1 : Type} {R1 : Rl α1} {t1 : TE} {P1 : α1 → Prop} {R0 : Rl β} {PI : HO → Prop} {pre : α1 × Unit → Prop} {post : α1 × Unit → β → Prop} {E : XK} {S0 : Rl γ} {Pz : List γ → Prop} (f0 : Flat S0) (h0 : EvX C te Γ (ResF C (rList S0) Pz)) (hv : ∀ xs l, Pz l → (∀ H, All2 (S0.is H) xs l) → PI (.lst xs)) (h1 : EvP C t1 Γ .h R1 P1) (g1 : Flat R1) (hp : ∀ a1, P1 a1 → pre (a1, ())) :
    EvX C (tCall (spV PI (aCons R1 aNil) pre R0 post) [] E (tCons te (tCons t1 tNil))) Γ (ResF C R0 (fun b => ∃ a1, P1 a1 ∧ post (a1, ()) b)) := fun σ W w Q q => by
  refine h0 σ W w _ fun Wz vz Hz sz bz rz => ?_
  obtain ⟨lz, ⟨pz, xz, ez, hz, tz⟩, plz⟩ := rz.val
  obtain ⟨nz, hoz⟩ := fresh_some hz
  have hPIz := hv xz lz plz (fun H => tz.imp fun _ _ h => f0 _ _ _ _ h)
  subst ez
  obtain ⟨b0, sb0⟩ := bare_ok bz rz.keep rz.vol rz.tab
  have s0 := sz.trans w.b bz sb0
  have w0 := w.stp b0 s0
  have nW : W.H pz = none := w.b.back bz sz nz
  have gz : (⟨Hz, Wz.G, Wz.vs⟩ : Wd).G pz = none := bz.g0 nz
  have vz' : pz ∉ (⟨Hz, Wz.G, Wz.vs⟩ : Wd).vs := bz.nvs nz
  refine h1 σ _ w0 _ fun v1 W1 a1 s1 b1 r1 p1 => ?_
  have w1 := w0.stp b1 s1
  have sn := s1
  have hpz : W1.H pz = some (.lst xz) := (hid_some (sn.h _ _ ((hid_out vz').trans hoz))).2
  have gpz : W1.G pz = none := by
    cases e : W1.G pz with
    | none => rfl
    | some o =>
      rcases sn.new pz o e with h | h
      · rw [gz] at h; cases h
      · rw [show (⟨Hz, Wz.G, Wz.vs⟩ : Wd).H pz = some (.lst xz) from hoz] at h; cases h
  have vpz : pz ∉ W1.vs := by rw [sn.vs]; exact vz'
  have hh : ∀ q u, (hid W1.H [pz]) q = some u → q ≠ pz ∧ W1.H q = some u := fun q u e => by
    obtain ⟨e1, e2⟩ := hid_some e
    exact ⟨fun z => e1 (z ▸ List.mem_singleton.mpr rfl), e2⟩
  have ho : ∀ q, q ≠ pz → (hid W1.H [pz]) q = W1.H q := fun q z => hid_out (by intro y; rw [List.mem_singleton] at y; exact z y)
  have bn := w1.b
  have s9 := (s0.trans w.b w0.b s1)
  have b9 : Bok C ⟨hid W1.H [pz], W1.G, W1.vs⟩ := ⟨(fun q u e n => by
      have z : q ≠ pz := fun z => by rw [z, w.b.h0 nW] at e; cases e
      show hid _ _ q = _
      rw [ho q z]; exact bn.base q u e n), (fun q hq => by
      have z : q ≠ pz := fun z => vpz (z ▸ hq)
      show ∃ o, hid _ _ q = some o ∧ _
      rw [ho q z]; exact bn.vol q hq), bn.vsub, bn.vnew, bn.v0, bn.gv, (fun q u e => by
      have z : q ≠ pz := fun z => by rw [z, gpz] at e; cases e
      show hid _ _ q = _
      rw [ho q z]; exact bn.g q u e), bn.gn, bn.fl, (fun P q e => by
      obtain ⟨h1, ps, h2, h3⟩ := bn.tab P q e
      have z : P ≠ pz := fun z => vpz (z ▸ h1)
      exact ⟨h1, ps, (ho P z).trans h2, h3⟩), bn.knb⟩
  have s10 : Stp W ⟨hid W1.H [pz], W1.G, W1.vs⟩ := ⟨s9.vs, s9.g, (fun q u e => by
      have z : q ≠ pz := fun z => by rw [z] at e; rw [(hid_some e).2] at nW; cases nW
      obtain ⟨e1, e2⟩ := hid_some (s9.h q u e)
      show hid (hid _ _) _ q = _
      rw [hid_out e1, ho q z]; exact e2), s9.new⟩
  refine ⟨pz, _, (a1, ()), _, rfl, hpz, hPIz, ⟨v1, _, rfl, (g1 _ _ _ _ r1), rfl⟩, hp a1 p1, fun v H' b sm kv rb po => ?_⟩
  refine q _ v H' s10 b9 ⟨fun q u e hq => ?_, fun q hq => ?_, fun P q e => ?_, b, R0.mono (fun q u e => ?_) rb, ⟨a1, p1, po⟩⟩
  · exact (hid_some (sm q u e)).2
  · obtain ⟨u, h1, h2⟩ := b9.vol q hq
    exact ⟨u, (hid_some (sm q u h1)).2, h2⟩
  · obtain ⟨_, ps, h1, h2⟩ := b9.tab P q e
    exact ⟨ps, (hid_some (sm P _ h1)).2, h2⟩
  · obtain ⟨e1, e2⟩ := fresh_some e
    have z : q ≠ pz := fun z => by
      rw [z] at e1
      cases hpz.symm.trans e1
    rw [fresh_of (show (hid W1.H [pz]) q = none by rw [ho q z]; exact e1)]; exact e2
theorem ResF.imp {Pb Pc : β → Prop} {S' : Rl β} {W : Wd} {v : V} {H' : Hp} (r : ResF C S' Pb W v H') (h : ∀ b, Pb b → Pc b) : ResF C S' Pc W v H' := ⟨r.keep, r.vol, r.tab, let ⟨b, x, y⟩ := r.val; ⟨b, x, h b y⟩⟩
theorem EvX.imp {Pb Pc : β → Prop} {S' : Rl β} (r : EvX C te Γ (ResF C S' Pb)) (h : ∀ b, Pb b → Pc b) : EvX C te Γ (ResF C S' Pc) := fun σ W w Q q => r σ W w Q fun W1 v H' s b x => q W1 v H' s b (x.imp h)
end
end GL

set_option Elab.async false
set_option linter.all false
set_option maxRecDepth 100000
set_option maxHeartbeats 1000000
namespace GL
open PySem L2
/-! ### more words -/
section
variable {C : Cn} {Γ : List Ent} {α β γ δ : Type} {R : Rl α} {S : Rl β} {T : Rl γ} {P : α → Prop} {Pl : List α → Prop} {te ta tb tc : TE} {u : TS} {D : Ends} {ℓ ℓ' c : Lv} {K : PySem.W.Frag}
/-- such data stand without a list's own place -/
def but (H : Hp) (p : Addr) : Hp := fun q => if q = p then none else H q
def NoL (R : Rl α) : Prop := ∀ H p xs v a, H p = some (.lst xs) → R.is H v a → R.is (but H p) v a
/-- a cut of the script -/
theorem all2_ints : ∀ (H : Hp) (l : List Int), All2 (rInt.is H) (l.map V.int) l
  | _, [] => trivial
  | H, x :: l => ⟨rfl, all2_ints H l⟩
theorem en_slScr {tl th : TO} {P1 P2 : Option Int → Prop} {l : List Int} (ha : Ev C ta Γ .h (rScr K) l) (h1 : EvO C tl Γ P1) (h2 : EvO C th Γ P2) : EvN C (tSl (rSlL K) ta tl th) Γ ℓ rInt (fun z => ∃ o1 o2, P1 o1 ∧ P2 o2 ∧ z = sl l o1 o2) := fun σ W w Q q =>
  ha σ W w _ fun v W1 a s1 b1 ⟨p, e, hs⟩ pl => h1 σ W1 (w.stp b1 s1) _ fun o1 W2 s2 b2 p1 => h2 σ W2 ((w.stp b1 s1).stp b2 s2) _ fun o2 W3 s3 b3 p2 => by
    subst pl
    have s13 := (s1.trans w.b b1 s2).trans w.b b2 s3
    have hs3 : SqL K W3.H p (a.map V.int) := Same.seq (fun _ _ h => (hid_some h).2) (Same.seq (s3.lv b2 .h) (Same.seq (s2.lv b1 .h) hs))
    exact ⟨p, a.map V.int, e, hs3, fresh_go w s13 b3 q ((all2_ints _ a).sl o1 o2) ⟨o1, o2, p1, p2, rfl⟩⟩
theorem en_slScrd {tl th : TO} {o1 o2 : Option Int} {l : List Int} (ha : Ev C ta Γ .h (rScr K) l) (h1 : EvO C tl Γ (fun o => o = o1)) (h2 : EvO C th Γ (fun o => o = o2)) : EvN C (tSl (rSlL K) ta tl th) Γ ℓ rInt (fun z => z = sl l o1 o2) :=
  (en_slScr ha h1 h2).imp fun z ⟨a, b, e1, e2, h⟩ => by rw [h, e1, e2]
theorem ev_eqc {x c : Int} (h : Ev C te Γ ℓ rInt x) (e : x = c) : Ev C te Γ ℓ rInt c := by rw [← e]; exact h
theorem sl_len_le {l : List α} (o1 o2 : Option Int) : (sl l o1 o2).length ≤ l.length := by
  unfold sl
  rw [List.length_take, List.length_drop]
  omega
end
end GL


set_option Elab.async false
set_option linter.all false
set_option maxRecDepth 100000
set_option maxHeartbeats 1000000
/-! ### an exception that is caught and kept -/
namespace L2
open PySem PySem.Spec PyProof.Rows
/-- a caught exception of the class cls at a, without own dict -/
def ExH (cls : Value) (a : Addr) : HO := .ext fun h => ∃ (oe : Obj) (vs : Array Value), h.get? a = some oe ∧ Zc cls none oe ∧ oe.data = .fields vs
section
variable {X : Cx} {pins : List (Addr × Obj)} {σ : St} {H : Hp} {s : Shared}
theorem Inv.track (I : Inv X pins σ H s) {a : Addr} {oe : Obj} {vs : Array Value} {cls : Value} (he : s.heap.get? a = some oe) (hz : Zc cls none oe) (hd : oe.data = .fields vs) (na : H a = none) (n0 : X.s_0.heap.get? a = none) (nL : a ≠ X.env.locals) (np : ∀ p ∈ X.pn ++ pins, p.1 ≠ a) : Inv X pins σ (upd H a (ExH cls a)) s := by
  have nf : ∀ b o, H b = some o → b ≠ a := fun b o e z => by rw [z, na] at e; cases e
  refine ⟨I.ok, I.os, I.bare, ⟨I.base.keep, I.base.slot, fun b o e n hx => ?_, I.base.there, fun b xs e => ?_, fun b o u e => ?_, fun b ps e => ?_⟩, I.loc, I.cell, ?_, fun x c e => ?_, fun p hp => ?_, fun b o e => ?_, I.len⟩
  · rw [upd_ne (fun z => by rw [z, n0] at e; cases e)]; exact I.base.free b o e n hx
  · have := I.base.tups b xs e; rw [upd_ne (nf _ _ this)]; exact this
  · have := I.base.frzs b o u e; rw [upd_ne (nf _ _ this)]; exact this
  · obtain ⟨m, h⟩ := I.base.tbls b ps e; exact ⟨m, by rw [upd_ne (nf _ _ h)]; exact h⟩
  · rw [upd_ne (Ne.symm nL)]; exact I.free
  · have hc := I.freeC x c e
    have : c ≠ a := fun z => by
      obtain ⟨v, o, ho, hdc⟩ := I.cell x c e
      subst z; rw [he] at ho; cases ho; rw [hd] at hdc; cases hdc
    rw [upd_ne this]; exact hc
  · obtain ⟨h1, h2, h3⟩ := I.pin p hp
    exact ⟨h1, by rw [upd_ne (np p hp)]; exact h2, h3⟩
  · by_cases hb : b = a
    · subst hb; rw [upd_same] at e; cases e
      exact ⟨⟨oe, vs, he, hz, hd⟩, ⟨oe, he⟩, fun h1 h2 ⟨o, v, q, r⟩ k => ⟨o, v, k o q, r⟩⟩
    · rw [upd_ne hb] at e
      exact (I.hok b o e).stay (fun c v _ q => q) (fun c q => by rw [upd_ne (nf _ _ q)]; exact q) fun c xs q => by rw [upd_ne (nf _ _ q)]; exact q
theorem Inv.suite0 (I : Inv X pins σ H s) {a : Addr} : Inv (X.suite a (X.pn ++ pins)) [] σ H s :=
  ⟨I.ok.suite _ _, I.os, I.bare, I.base, I.loc, I.cell, I.free, I.freeC, fun p hp => by
    have hp' : p ∈ X.pn ++ pins := by rw [List.append_nil] at hp; exact hp
    exact I.pin p hp', I.hok, I.len⟩
theorem Inv.unsuite0 {a : Addr} {pn' : List (Addr × Obj)} (I : Inv (X.suite a (X.pn ++ pins)) pn' σ H s) (ok : X.Ok) : Inv X pins σ H s :=
  ⟨ok, I.os, I.bare, I.base, I.loc, I.cell, I.free, I.freeC, fun p hp => I.pin p (List.mem_append_left _ hp), I.hok, I.len⟩
end
/-- what the clause 'except x as n' wishes: the exception is tracked from then on; slot i is n's -/
def wKeep (K : PySem.W.Frag) (c : Value) (i : Nat) (ts : TS) (D : Ends) : WX := fun cls d σ H =>
  d = none ∧ PySem.W.exmOne K cls c = some true ∧ ∀ a, H a = none → ts { nx := fun σ' H' => D.nx (σ'.set i none) H', rt := D.rt, bk := fun σ' H' => D.bk (σ'.set i none) H', ct := fun σ' H' => D.ct (σ'.set i none) H' } (σ.set i (some (.ref a))) (upd H a (ExH cls a))
/-- a try whose exception is kept -/
def tTry (K : PySem.W.Frag) (c : Value) (i : Nat) (tb : WX → TS) (ts : TS) : TS := fun D σ H => tb (wKeep K c i ts D) D σ H
section
variable {X : Cx} {ps : List (Addr × Obj)} {σ : St} {H : Hp} {D : Ends}
/-- the ways a body ends, seen from outside its try -/
theorem SP.offTry {f : Flow} {t : Shared} {xe : Value → Shared → Prop} (ok : X.Ok) (h : SP (X.tr (X.pn ++ ps) xe) [] D f t) : SP X ps D f t := by
  cases f with
  | ret u => exact let ⟨v, σ1, H1, J, r, q⟩ := h; ⟨v, σ1, H1, J.ofTry ok, r, q⟩
  | next => exact let ⟨σ1, H1, J, q⟩ := h; ⟨σ1, H1, J.ofTry ok, q⟩
  | brk => exact let ⟨σ1, H1, J, q⟩ := h; ⟨σ1, H1, J.ofTry ok, q⟩
  | cont => exact let ⟨σ1, H1, J, q⟩ := h; ⟨σ1, H1, J.ofTry ok, q⟩
/-- an error's own object is none of the frames -/
theorem offFrames {B h : Heap} {l : List Env} {a : Addr} {o : Obj} {ws : Array Value} (F : h.FunFrames B l) (e : h.get? a = some o) (dd : o.data = .fields ws) : a ∉ frs l := fun m =>
  let ⟨_, u, eu, no⟩ := F.mem m
  no ws (by rw [e] at eu; cases eu; exact dd)
/-- an error's object is newer than the def's frame -/
theorem Inv.newer {B : Heap} {t : Shared} (J : Inv X ps σ H t) (hex : X.ex = []) (nb : ∀ b o, t.heap.get? b = some o → b ∉ frs X.stack → B.get? b = some o) {a : Addr} (nB : B.get? a = none) (nf : a ∉ frs X.stack) :
    t.heap.get? a = none ∧ X.s_0.heap.get? a = none ∧ ∀ p ∈ X.pn ++ ps, p.1 ≠ a := by
  have h1 : t.heap.get? a = none := Option.eq_none_iff_forall_ne_some.mpr fun o e => by
    have := nB.symm.trans (nb a o e nf)
    cases this
  refine ⟨h1, Option.eq_none_iff_forall_ne_some.mpr fun o e => ?_, fun p m z => ?_⟩
  · obtain ⟨u, eu⟩ := J.base.there a o e (hex ▸ List.not_mem_nil)
    cases h1.symm.trans eu
  · have := (z ▸ (J.pin p m).1 : t.heap.get? a = some p.2)
    cases h1.symm.trans this
variable {x n : Str} {c : Value} {i : Nat} {body suite : List Stmt} {b₀ : Stmt} {np pos pos' : Pos} {tb : WX → TS} {ts : TS}
/-- the clause, once the error has landed in it -/
theorem keep_suite (hN : X.N.Nodup) (hi : X.N[i]? = some n) (hln : X.env.kindOf n = some .local) (hsu : ∀ (a : Addr) (pn : List (Addr × Obj)), PSs (X.suite a pn) (b₀ :: suite) ts) {a : Addr} {cls : Value} {t : Shared} {A1 A3 : Around} {M1 M3 : Model} {E1 E2 E3 : Value → Shared → Prop}
    (J : Inv X ps σ (upd H a (ExH cls a)) t) (q : ts { nx := fun σ' H' => D.nx (σ'.set i none) H', rt := D.rt, bk := fun σ' H' => D.bk (σ'.set i none) H', ct := fun σ' H' => D.ct (σ'.set i none) H' } (σ.set i (some (.ref a))) (upd H a (ExH cls a))) :
    wpAny M1 A1 (storeName X.env n (.ref a)) (fun _ t1 => wpAny (model X.prog X.w) (X.A.mark (some (.ref a))) (execs (b₀ :: suite) X.env)
      (fun f t2 => wpAny M3 A3 (do bindName X.env n .none; unbindBehindTheSuite X.env n pos') (fun _ t3 => SP X ps D f t3) E3 t2) E2 t1) E1 t := by
  refine store_ok (X := X.suite a (X.pn ++ ps)) (v := .ref a) (J.suite0 : Inv (X.suite a (X.pn ++ ps)) [] σ _ t) hN hi (.inl hln) rfl (fun t1 J1 => ?_) (.inr hln)
  refine wpAny_mono ((hsu a (X.pn ++ ps)).run [] t1 _ _ _ J1 q) (fun f t2 z => ?_) (fun _ _ z => False.elim z)
  have back : ∀ {σ6 : St} {H6 : Hp}, Inv (X.suite a (X.pn ++ ps)) [] σ6 H6 t2 → Inv X ps σ6 H6 t2 := fun k => k.unsuite0 J.ok
  cases f with
  | ret u => exact let ⟨v, _, _, k, r, w⟩ := z; gone_ok (back k) hN hi hln fun _ k3 => ⟨v, _, _, k3, r, w⟩
  | next => exact let ⟨_, _, k, w⟩ := z; gone_ok (back k) hN hi hln fun _ k3 => ⟨_, _, k3, w⟩
  | brk => exact let ⟨_, _, k, w⟩ := z; gone_ok (back k) hN hi hln fun _ k3 => ⟨_, _, k3, w⟩
  | cont => exact let ⟨_, _, k, w⟩ := z; gone_ok (back k) hN hi hln fun _ k3 => ⟨_, _, k3, w⟩
/-- the class that the clause names is found -/
theorem named (hc : Names X x c) {a : Addr} {t : Shared} {Q E : Value → Shared → Prop} (J : Inv (X.suite a (X.pn ++ ps)) [] σ H t) (q : Q c t) : wpAny (model X.prog X.w) (X.A.mark (some (.ref a))) (eval (.Name x np) X.env) Q E t := by
  rcases hc with ⟨g, nd, e | ⟨e, b, nn⟩⟩
  · exact ld_glob (X := X.suite a (X.pn ++ ps)) J g e q nd
  · exact ld_blt (X := X.suite a (X.pn ++ ps)) J g e b q nn nd
theorem ps_try_keep (hs : X.stack = X.env :: X.outer) (hf : X.env.frame = some X.env.locals) (hex : X.ex = []) (hN : X.N.Nodup) (hi : X.N[i]? = some n) (hln : X.env.kindOf n = some .local) (hc : Names X x c)
    (hb : ∀ (W : WX) (pn : List (Addr × Obj)) (xe : Value → Shared → Prop), Takes (X.tr pn xe) W → PassesOwn (model X.prog X.w) X.A X.env xe → PSs (X.tr pn xe) body (tb W))
    (hsu : ∀ (a : Addr) (pn : List (Addr × Obj)), PSs (X.suite a pn) (b₀ :: suite) ts) :
    PS X (.Try body [.ExceptHandler (some (.Name x np)) (some n) (b₀ :: suite) pos'] [] [] pos) (tTry X.K c i tb ts) := ⟨fun ps t σ H D I h => by
  have fr : X.A.frames = some (X.env :: X.outer) := I.ok.frames.trans (congrArg some hs)
  refine wpAny_Try_except (wpAny_mono ((hb (wKeep X.K c i ts D) (X.pn ++ ps) _ (fun u t1 xx => ?_) PassesOwn.looking).run [] t σ H D (I.toTry _) h) (fun f t1 z => ?_) (fun _ _ z => z))
  · -- an error is in the air of the body
    obtain ⟨a, B, tI, _, σ1, H1, cls, d, rfl, J0, nb, up, sky, na, os, bare, rfl, exm, go⟩ := xx
    replace J0 : Inv X ps σ1 H1 tI := J0.ofTry I.ok
    replace sky : Sky B (X.env :: X.outer) a (Zc cls none) X.env.locals t1.heap := hs ▸ sky
    show wpAny (model X.prog X.w) X.A (noteFrame (.ref a) X.env) _ _ _
    refine Sky.land Zc.steady fr hf sky fun g fl upg => ?_
    -- what is known of the error, at any heap of the handler
    have held : ∀ {g' : Heap}, HandSPX.FlyingZ B (X.env :: X.outer) a (Zc cls none) g' → tI.heap.UpToSlots g' → Inv X ps σ1 (upd H1 a (ExH cls a)) { t1 with heap := g' } ∧ ∃ o ws, g'.get? a = some o ∧ Zc cls none o ∧ o.data = .fields ws := fun {g'} fg ug => by
      obtain ⟨o, ws, e, z, dd⟩ := fg.there
      have off := offFrames fg.2.2.1 e dd
      obtain ⟨_, n0, npn⟩ := J0.newer hex nb fg.2.1 (hs ▸ off)
      have nL : a ≠ X.env.locals := fun z => off (List.mem_filterMap.mpr ⟨X.env, List.mem_cons_self, hf.trans (congrArg some z.symm)⟩)
      exact ⟨(J0.landed nb fg.1 ug os bare : Inv X ps σ1 H1 { t1 with heap := g' }).track e z dd na n0 nL npn, o, ws, e, z, dd⟩
    obtain ⟨J1, o1, ws1, e1, z1, dd1⟩ := held fl (up.trans upg)
    refine wpAny_handleBy_cons (codeAny_handlers_test (named hc (J1.suite0 : Inv (X.suite a (X.pn ++ ps)) [] σ1 _ _) ((PySem.W.exm_one (M := model X.prog X.w) J1.kIn (fun _ _ _ _ k q => wpAny_typeOf_ref (k _ _ e1) (z1.1 ▸ q)) exm).here ?_))) (fun z => nomatch z)
    exact codeAny_handlers_suite_as (HandSPX.lands_againZ fl fun g2 fl2 up2 => keep_suite hN hi hln hsu (held fl2 ((up.trans upg).trans up2)).1 (go a na))
  · have w := SP.offTry I.ok z
    cases f with
    | next => exact wpAny_execs_nil w
    | ret u => exact w
    | brk => exact w
    | cont => exact w⟩
end
/-- isinstance(e, c), e an exception that is kept -/
def rIsX (K : PySem.W.Frag) : List V → Hp → VK → Prop := fun xs H Q => ∃ (a D : Addr) (c : V) (cv : Value) (b : Bool), xs = [.ref a, c] ∧ (∀ u, RelV c u → u = cv) ∧ H a = some (ExH (.ref D) a) ∧ ExcC K D ∧ PySem.W.kitOne K (.ref D) cv = some b ∧ Q (.bl b) H
theorem call_isX {X : Cx} : CallR X (.builtin "isinstance") (rIsX X.K) := by
  intro pins s σ H xs us Q I r h
  obtain ⟨a, D, c, cv, b, rfl, hcv, hH, C, e, q⟩ := h
  cases r with
  | cons rx rr =>
    cases rr with
    | cons rt rr =>
      cases rr
      cases rx
      have ec := hcv _ rt
      subst ec
      obtain ⟨⟨oe, vs, hget, hz, hv⟩, _⟩ := I.hok a _ hH
      have J : PySem.W.InstAt s.heap a oe D none := by
        obtain ⟨oc, od, oda, osl⟩ := oe
        obtain ⟨h1, h2⟩ := hz
        dsimp only at h1 h2 hv
        subst h1 h2 hv
        exact ⟨hget, rfl, rfl, trivial⟩
      exact PySem.W.kia_one (PySem.W.handS_kitx_exc C.hg C.hk C.hs C.hd C.ha C.hn C.ht C.hm) I.kIn J e (fun z => nomatch z) fun tk => ⟨.bl b, H, I.kept (t' := tk) fun _ _ z => z, rfl, q⟩
end L2
namespace GL
open PySem L2
/-- a kept exception, by its class -/
def rExc : Rl Addr := ⟨fun H v c => ∃ a, v = .ref a ∧ H a = some (ExH (.ref c) a), fun s ⟨a, e, h⟩ => ⟨a, e, s _ _ h⟩⟩
theorem nn_exc (H : Hp) (a : Addr) : ¬ rExc.is H .non a := fun ⟨_, e, _⟩ => by cases e
/-- a kept exception, or a value -/
def rEx {α : Type} (R : Rl α) : Rl (Sum Addr α) := ⟨fun H v s => match s with | .inl c => rExc.is H v c | .inr a => R.is H v a, fun {H H' v s} h k => by
  cases s with
  | inl c => exact rExc.mono h k
  | inr a => exact R.mono h k⟩
theorem nn_ex {α : Type} {R : Rl α} (h : ∀ H a, ¬ R.is H .non a) (H : Hp) : ∀ a, ¬ (rEx R).is H .non a
  | .inl c => nn_exc H c
  | .inr a => h H a
theorem ev_inl {C : Cn} {Γ : List Ent} {te : TE} {ℓ : Lv} {α : Type} {R : Rl α} {c : Addr} (h : Ev C te Γ ℓ rExc c) : Ev C te Γ ℓ (rEx R) (.inl c) := fun σ W w Q q => h σ W w Q fun v W' x s b r p => q v W' (.inl x) s b r (by rw [p])
def ExcOkG (C : Cn) (W : WX) (Γ : List Ent) (Pe : Addr → Prop) : Prop := ∀ c σ Wd, World C σ Wd Γ → Pe c → W (.ref c) none σ Wd.H
section
variable {C : Cn} {Γ : List Ent} {α β γ δ : Type} {R : Rl α} {S : Rl β} {P : α → Prop} {ta tb te : TE} {ℓ ℓ' : Lv} {K : PySem.W.Frag} {D : Ends} {t u : TS}
theorem q_nextX {i : Nat} {k : Sg → Hp → Prop} {r : V → Hp → Prop} {b c : Sg → Hp → Prop} (h : Nx C k (Γ.set i .no)) : Go C tNext { nx := fun σ' H' => k (σ'.set i none) H', rt := r, bk := b, ct := c } Γ := fun σ W w =>
  h _ W (w.set i (x := none) (e := .no) trivial fun q hq => by cases hq)
theorem c_try {tb : WX → TS} {ts : TS} {cv : Value} {i : Nat} {Pe : Addr → Prop} (h1 : ∀ W, ExcOkG C W Γ Pe → Go C (tb W) D Γ)
    (h2 : ∀ c, Pe c → Go C ts { nx := fun σ' H' => D.nx (σ'.set i none) H', rt := D.rt, bk := fun σ' H' => D.bk (σ'.set i none) H', ct := fun σ' H' => D.ct (σ'.set i none) H' } (Γ.set i (.val .g rExc c)))
    (he : ∀ c, Pe c → PySem.W.exmOne K (.ref c) cv = some true) : Go C (tTry K cv i tb ts) D Γ := fun σ W w =>
  h1 (wKeep K cv i ts D) (fun c σ' W' w' pc => ⟨rfl, he c pc, fun a na => by
    have hb := w'.b
    have w1 := w'.stp (hb.put (o := ExH (.ref c) a) (hb.h0 na) (hb.nvs na) (hb.g0 na)) (Stp.put hb na)
    exact h2 c pc _ (W'.put a (ExH (.ref c) a)) (w1.setv i (ℓ := .g) (R := rExc) (a := c) (by decide) ⟨a, rfl, upd_same⟩)⟩) σ W w
/-- raises within a try's body -/
theorem excG_up {W : WX} {Pe : Addr → Prop} (hE : ExcOkG C W Γ Pe) {σ : Sg} {Wd : GL.Wd} (w : World C σ Wd Γ) (c : Addr) {H' : Hp} (s : Same Wd.H H') (p : Pe c) : W (.ref c) none σ H' := by
  obtain ⟨b1, s1⟩ := bare_ok w.b (fun p o e _ => s p o e) (fun p hp => by
    obtain ⟨o, h1, h2⟩ := w.b.vol p hp
    exact ⟨o, s p o h1, h2⟩) (tab_same w.b s)
  exact hE c σ ⟨H', Wd.G, Wd.vs⟩ (w.stp b1 s1) p
theorem ev_isX {c : Addr} {cV : V} {cv : Value} {p : Prop} [Decidable p] (h : Ev C ta Γ ℓ rExc c) (hc : ∀ u, RelV cV u → u = cv) (hx : ExcC K c) (hk : PySem.W.kitOne K (.ref c) cv = some (decide p)) :
    Ev C (tCB (rIsX K) (tCons ta (tCons (tC cV) tNil))) Γ ℓ' rBool (decide p) := fun σ W w Q q => h σ W w _ fun v W1 a s1 b1 ⟨x, e, hH⟩ pa => by
  subst e; subst pa
  exact ⟨x, a, cV, cv, _, rfl, hc, (hid_some (b1.up ℓ _ _ hH)).2, hx, hk, q _ W1 _ s1 b1 rfl rfl⟩
/-! classes of exceptions -/
def AllP {α : Type} (p : α → Prop) : List α → Prop
  | [] => True
  | a :: l => p a ∧ AllP p l
theorem AllP.of {α : Type} {p : α → Prop} : ∀ {l : List α}, AllP p l → ∀ a, a ∈ l → p a
  | b :: l, h, a, m => by
    rcases List.mem_cons.mp m with e | m
    · subst e; exact h.1
    · exact AllP.of h.2 a m
/-- what the classes L of errors that are caught answer when they are asked after the classes Ls, and d, that is over all -/
structure KitF (K : PySem.W.Frag) (L Ls : List Addr) (d : Addr) : Prop where
  c : AllP (fun a => ExcC K a) L
  k : AllP (fun a => AllP (fun b => ∃ r, PySem.W.subIn K (.ref a) (.ref b) = some r ∧ (r = true ↔ a = b)) Ls) L
  ld : AllP (fun a => PySem.W.subIn K (.ref a) (.ref d) = some true) L
  v : AllP (fun a => PySem.W.subIn K (.ref a) (.type "ValueError") = some true) L
  t : AllP (fun b => PySem.W.hasDictIn K b = true ∧ PySem.W.typeIn K (.ref b) = some (.type "type")) Ls
  td : PySem.W.hasDictIn K d = true ∧ PySem.W.typeIn K (.ref d) = some (.type "type") ∧ PySem.W.subIn K (.ref d) (.type "BaseException") = some true
  nd : Ls.Nodup
theorem kitCls_ref {t : Value} {b : Addr} {r : Bool} (h1 : PySem.W.hasDictIn K b = true) (h2 : PySem.W.typeIn K (.ref b) = some (.type "type")) (h : PySem.W.subIn K t (.ref b) = some r) : PySem.W.kitCls K t (.ref b) = some r := by
  obtain ⟨cd, hc, _⟩ := PySem.W.any_some h1
  have e2 : ((PySem.W.clsIn K b).isSome && PySem.W.typeIn K (.ref b) == some (.type "type")) = true := by rw [hc, h2]; rfl
  show (if ((PySem.W.clsIn K b).isSome && PySem.W.typeIn K (.ref b) == some (.type "type")) = true then PySem.W.subIn K t (.ref b) else none) = _
  rw [if_pos e2]; exact h
variable {L Ls : List Addr} {d : Addr}
theorem KitF.kit (h : KitF K L Ls d) {a b : Addr} (ha : a ∈ L) (hb : b ∈ Ls) : PySem.W.kitOne K (.ref a) (.ref b) = some (decide (a = b)) := by
  obtain ⟨r, h1, h2⟩ := (h.k.of a ha).of b hb
  obtain ⟨h3, h4⟩ := h.t.of b hb
  unfold PySem.W.kitOne
  rw [kitCls_ref h3 h4 h1]
  by_cases e : a = b
  · subst e; rw [h2.mpr rfl]; simp
  · rw [if_neg (fun z => e (Value.ref.inj (beq_iff_eq.mp z)))]
    cases r with
    | true => exact absurd (h2.mp rfl) e
    | false => simp [e]
theorem kitOne_true {t c : Value} (h : PySem.W.kitCls K t c = some true) : PySem.W.kitOne K t c = some (decide True) := by
  unfold PySem.W.kitOne
  split
  · rfl
  · rw [h]; rfl
theorem KitF.kitD (h : KitF K L Ls d) {a : Addr} (ha : a ∈ L) : PySem.W.kitOne K (.ref a) (.ref d) = some (decide True) :=
  kitOne_true (kitCls_ref h.td.1 h.td.2.1 (h.ld.of a ha))
theorem KitF.kitV (h : KitF K L Ls d) {a : Addr} (ha : a ∈ L) : PySem.W.kitOne K (.ref a) (.type "ValueError") = some (decide True) := by
  refine kitOne_true ?_
  show (if PySem.W.kitMeta "ValueError" = true then PySem.W.subIn K (.ref a) (.type "ValueError") else none) = _
  rw [if_pos (by decide +kernel)]
  exact h.v.of a ha
theorem KitF.exm (h : KitF K L Ls d) {a : Addr} (ha : a ∈ L) : PySem.W.exmOne K (.ref a) (.ref d) = some true :=
  PySem.W.exm_ref h.td.2.2 h.td.1 h.td.2.1 (h.ld.of a ha)
/-- one class alone -/
def alone (Ls : List Addr) (e : Option Addr) (at_ : Int) : Bool := match e with
  | none => false
  | some c => decide ((Ls.map fun a => decide (c = a)) ++ [true, true] = ((rg 0 10).map fun k => decide (k = at_)) ++ [true, true])
/-- the same, as the other laws ask it -/
def alone2 (Ls : List Addr) (e : Option Addr) (at_ : Int) : Bool := match e with
  | none => false
  | some c => decide ((((Ls.map fun a => decide (c = a)).count true : Nat) : Int) = 1) && gt (Ls.map fun a => decide (c = a)) at_
end
end GL


set_option Elab.async false
set_option linter.all false
set_option maxRecDepth 100000
set_option maxHeartbeats 1000000
namespace GL
open PySem L2
section
variable {C : Cn} {Γ : List Ent} {β : Type}

theorem es_call1 {α1 : Type} {R1 : Rl α1} {t1 : TE} {P1 : α1 → Prop} {R : Rl β} {pre : α1 × Unit → Prop} {post : α1 × Unit → β → Prop} {exc : α1 × Unit → Addr → Prop} {W0 : WX} {Pe : Addr → Prop} (h1 : EvP C t1 Γ .h R1 P1) (hp : ∀ a1, P1 a1 → pre (a1, ())) (hE : ExcOkG C W0 Γ Pe) (he : ∀ a1, P1 a1 → ∀ c, exc (a1, ()) c → Pe c) :
    EvX C (tCallS (spF (aCons R1 aNil) pre R post exc) (WE W0) (tCons t1 tNil)) Γ (ResF C R (fun b => ∃ a1, P1 a1 ∧ post (a1, ()) b)) := fun σ W w Q q =>
  h1 σ W w _ fun v1 W1 a1 s1 b1 r1 p1 =>
  have w1 := w.stp b1 s1
  ⟨(a1, ()), ⟨v1, _, rfl, (R1.mono (fun _ _ h => (hid_some h).2) r1), rfl⟩, hp a1 p1, fun v H' b sm rb po => q W1 v H' (s1) w1.b (resF_of w1.b sm rb ⟨a1, p1, po⟩), fun c H' sm ec => excG_up hE w1 c sm (he a1 p1 c ec)⟩
theorem esd_call1 {α1 : Type} {R1 : Rl α1} {t1 : TE} {a1 : α1} {R : Rl β} {pre : α1 × Unit → Prop} {post : α1 × Unit → β → Prop} {exc : α1 × Unit → Addr → Prop} {W0 : WX} {Pe : Addr → Prop} (h1 : Ev C t1 Γ .h R1 a1) (hp : pre (a1, ())) (hE : ExcOkG C W0 Γ Pe) (he : ∀ c, exc (a1, ()) c → Pe c) :
    EvX C (tCallS (spF (aCons R1 aNil) pre R post exc) (WE W0) (tCons t1 tNil)) Γ (ResF C R (fun b => post (a1, ()) b)) := fun σ W w Q q =>
  es_call1 h1 (fun x1 e1 => by subst e1; exact hp) hE (fun x1 e1 => by subst e1; exact he) σ W w Q fun W1 v H' s1 b1 r => q W1 v H' s1 b1 ⟨r.keep, r.vol, r.tab, by
    obtain ⟨b, rb, x1, e1, po⟩ := r.val
    subst e1
    exact ⟨b, rb, po⟩⟩
theorem es_call2 {α1 : Type} {α2 : Type} {R1 : Rl α1} {t1 : TE} {P1 : α1 → Prop} {R2 : Rl α2} {t2 : TE} {P2 : α2 → Prop} {R : Rl β} {pre : α1 × α2 × Unit → Prop} {post : α1 × α2 × Unit → β → Prop} {exc : α1 × α2 × Unit → Addr → Prop} {W0 : WX} {Pe : Addr → Prop} (h1 : EvP C t1 Γ .h R1 P1) (h2 : EvP C t2 Γ .h R2 P2) (hp : ∀ a1 a2, P1 a1 → P2 a2 → pre (a1, a2, ())) (hE : ExcOkG C W0 Γ Pe) (he : ∀ a1 a2, P1 a1 → P2 a2 → ∀ c, exc (a1, a2, ()) c → Pe c) :
    EvX C (tCallS (spF (aCons R1 (aCons R2 aNil)) pre R post exc) (WE W0) (tCons t1 (tCons t2 tNil))) Γ (ResF C R (fun b => ∃ a1 a2, P1 a1 ∧ P2 a2 ∧ post (a1, a2, ()) b)) := fun σ W w Q q =>
  h1 σ W w _ fun v1 W1 a1 s1 b1 r1 p1 =>
  have w1 := w.stp b1 s1
  h2 σ W1 w1 _ fun v2 W2 a2 s2 b2 r2 p2 =>
  have w2 := w1.stp b2 s2
  ⟨(a1, a2, ()), ⟨v1, _, rfl, (R1.mono (fun _ _ h => (hid_some h).2) (R1.mono (s2.lv w1.b .h) r1)), ⟨v2, _, rfl, (R2.mono (fun _ _ h => (hid_some h).2) r2), rfl⟩⟩, hp a1 a2 p1 p2, fun v H' b sm rb po => q W2 v H' ((s1.trans w.b w1.b s2)) w2.b (resF_of w2.b sm rb ⟨a1, a2, p1, p2, po⟩), fun c H' sm ec => excG_up hE w2 c sm (he a1 a2 p1 p2 c ec)⟩
theorem esd_call2 {α1 : Type} {α2 : Type} {R1 : Rl α1} {t1 : TE} {a1 : α1} {R2 : Rl α2} {t2 : TE} {a2 : α2} {R : Rl β} {pre : α1 × α2 × Unit → Prop} {post : α1 × α2 × Unit → β → Prop} {exc : α1 × α2 × Unit → Addr → Prop} {W0 : WX} {Pe : Addr → Prop} (h1 : Ev C t1 Γ .h R1 a1) (h2 : Ev C t2 Γ .h R2 a2) (hp : pre (a1, a2, ())) (hE : ExcOkG C W0 Γ Pe) (he : ∀ c, exc (a1, a2, ()) c → Pe c) :
    EvX C (tCallS (spF (aCons R1 (aCons R2 aNil)) pre R post exc) (WE W0) (tCons t1 (tCons t2 tNil))) Γ (ResF C R (fun b => post (a1, a2, ()) b)) := fun σ W w Q q =>
  es_call2 h1 h2 (fun x1 x2 e1 e2 => by subst e1 e2; exact hp) hE (fun x1 x2 e1 e2 => by subst e1 e2; exact he) σ W w Q fun W1 v H' s1 b1 r => q W1 v H' s1 b1 ⟨r.keep, r.vol, r.tab, by
    obtain ⟨b, rb, x1, x2, e1, e2, po⟩ := r.val
    subst e1 e2
    exact ⟨b, rb, po⟩⟩
theorem es_call3 {α1 : Type} {α2 : Type} {α3 : Type} {R1 : Rl α1} {t1 : TE} {P1 : α1 → Prop} {R2 : Rl α2} {t2 : TE} {P2 : α2 → Prop} {R3 : Rl α3} {t3 : TE} {P3 : α3 → Prop} {R : Rl β} {pre : α1 × α2 × α3 × Unit → Prop} {post : α1 × α2 × α3 × Unit → β → Prop} {exc : α1 × α2 × α3 × Unit → Addr → Prop} {W0 : WX} {Pe : Addr → Prop} (h1 : EvP C t1 Γ .h R1 P1) (h2 : EvP C t2 Γ .h R2 P2) (h3 : EvP C t3 Γ .h R3 P3) (hp : ∀ a1 a2 a3, P1 a1 → P2 a2 → P3 a3 → pre (a1, a2, a3, ())) (hE : ExcOkG C W0 Γ Pe) (he : ∀ a1 a2 a3, P1 a1 → P2 a2 → P3 a3 → ∀ c, exc (a1, a2, a3, ()) c → Pe c) :
    EvX C (tCallS (spF (aCons R1 (aCons R2 (aCons R3 aNil))) pre R post exc) (WE W0) (tCons t1 (tCons t2 (tCons t3 tNil)))) Γ (ResF C R (fun b => ∃ a1 a2 a3, P1 a1 ∧ P2 a2 ∧ P3 a3 ∧ post (a1, a2, a3, ()) b)) := fun σ W w Q q =>
  h1 σ W w _ fun v1 W1 a1 s1 b1 r1 p1 =>
  have w1 := w.stp b1 s1
  h2 σ W1 w1 _ fun v2 W2 a2 s2 b2 r2 p2 =>
  have w2 := w1.stp b2 s2
  h3 σ W2 w2 _ fun v3 W3 a3 s3 b3 r3 p3 =>
  have w3 := w2.stp b3 s3
  ⟨(a1, a2, a3, ()), ⟨v1, _, rfl, (R1.mono (fun _ _ h => (hid_some h).2) (R1.mono (s3.lv w2.b .h) (R1.mono (s2.lv w1.b .h) r1))), ⟨v2, _, rfl, (R2.mono (fun _ _ h => (hid_some h).2) (R2.mono (s3.lv w2.b .h) r2)), ⟨v3, _, rfl, (R3.mono (fun _ _ h => (hid_some h).2) r3), rfl⟩⟩⟩, hp a1 a2 a3 p1 p2 p3, fun v H' b sm rb po => q W3 v H' (((s1.trans w.b w1.b s2).trans w.b w2.b s3)) w3.b (resF_of w3.b sm rb ⟨a1, a2, a3, p1, p2, p3, po⟩), fun c H' sm ec => excG_up hE w3 c sm (he a1 a2 a3 p1 p2 p3 c ec)⟩
theorem esd_call3 {α1 : Type} {α2 : Type} {α3 : Type} {R1 : Rl α1} {t1 : TE} {a1 : α1} {R2 : Rl α2} {t2 : TE} {a2 : α2} {R3 : Rl α3} {t3 : TE} {a3 : α3} {R : Rl β} {pre : α1 × α2 × α3 × Unit → Prop} {post : α1 × α2 × α3 × Unit → β → Prop} {exc : α1 × α2 × α3 × Unit → Addr → Prop} {W0 : WX} {Pe : Addr → Prop} (h1 : Ev C t1 Γ .h R1 a1) (h2 : Ev C t2 Γ .h R2 a2) (h3 : Ev C t3 Γ .h R3 a3) (hp : pre (a1, a2, a3, ())) (hE : ExcOkG C W0 Γ Pe) (he : ∀ c, exc (a1, a2, a3, ()) c → Pe c) :
    EvX C (tCallS (spF (aCons R1 (aCons R2 (aCons R3 aNil))) pre R post exc) (WE W0) (tCons t1 (tCons t2 (tCons t3 tNil)))) Γ (ResF C R (fun b => post (a1, a2, a3, ()) b)) := fun σ W w Q q =>
  es_call3 h1 h2 h3 (fun x1 x2 x3 e1 e2 e3 => by subst e1 e2 e3; exact hp) hE (fun x1 x2 x3 e1 e2 e3 => by subst e1 e2 e3; exact he) σ W w Q fun W1 v H' s1 b1 r => q W1 v H' s1 b1 ⟨r.keep, r.vol, r.tab, by
    obtain ⟨b, rb, x1, x2, x3, e1, e2, e3, po⟩ := r.val
    subst e1 e2 e3
    exact ⟨b, rb, po⟩⟩
theorem es_call4 {α1 : Type} {α2 : Type} {α3 : Type} {α4 : Type} {R1 : Rl α1} {t1 : TE} {P1 : α1 → Prop} {R2 : Rl α2} {t2 : TE} {P2 : α2 → Prop} {R3 : Rl α3} {t3 : TE} {P3 : α3 → Prop} {R4 : Rl α4} {t4 : TE} {P4 : α4 → Prop} {R : Rl β} {pre : α1 × α2 × α3 × α4 × Unit → Prop} {post : α1 × α2 × α3 × α4 × Unit → β → Prop} {exc : α1 × α2 × α3 × α4 × Unit → Addr → Prop} {W0 : WX} {Pe : Addr → Prop} (h1 : EvP C t1 Γ .h R1 P1) (h2 : EvP C t2 Γ .h R2 P2) (h3 : EvP C t3 Γ .h R3 P3) (h4 : EvP C t4 Γ .h R4 P4) (hp : ∀ a1 a2 a3 a4, P1 a1 → P2 a2 → P3 a3 → P4 a4 → pre (a1, a2, a3, a4, ())) (hE : ExcOkG C W0 Γ Pe) (he : ∀ a1 a2 a3 a4, P1 a1 → P2 a2 → P3 a3 → P4 a4 → ∀ c, exc (a1, a2, a3, a4, ()) c → Pe c) :
    EvX C (tCallS (spF (aCons R1 (aCons R2 (aCons R3 (aCons R4 aNil)))) pre R post exc) (WE W0) (tCons t1 (tCons t2 (tCons t3 (tCons t4 tNil))))) Γ (ResF C R (fun b => ∃ a1 a2 a3 a4, P1 a1 ∧ P2 a2 ∧ P3 a3 ∧ P4 a4 ∧ post (a1, a2, a3, a4, ()) b)) := fun σ W w Q q =>
  h1 σ W w _ fun v1 W1 a1 s1 b1 r1 p1 =>
  have w1 := w.stp b1 s1
  h2 σ W1 w1 _ fun v2 W2 a2 s2 b2 r2 p2 =>
  have w2 := w1.stp b2 s2
  h3 σ W2 w2 _ fun v3 W3 a3 s3 b3 r3 p3 =>
  have w3 := w2.stp b3 s3
  h4 σ W3 w3 _ fun v4 W4 a4 s4 b4 r4 p4 =>
  have w4 := w3.stp b4 s4
  ⟨(a1, a2, a3, a4, ()), ⟨v1, _, rfl, (R1.mono (fun _ _ h => (hid_some h).2) (R1.mono (s4.lv w3.b .h) (R1.mono (s3.lv w2.b .h) (R1.mono (s2.lv w1.b .h) r1)))), ⟨v2, _, rfl, (R2.mono (fun _ _ h => (hid_some h).2) (R2.mono (s4.lv w3.b .h) (R2.mono (s3.lv w2.b .h) r2))), ⟨v3, _, rfl, (R3.mono (fun _ _ h => (hid_some h).2) (R3.mono (s4.lv w3.b .h) r3)), ⟨v4, _, rfl, (R4.mono (fun _ _ h => (hid_some h).2) r4), rfl⟩⟩⟩⟩, hp a1 a2 a3 a4 p1 p2 p3 p4, fun v H' b sm rb po => q W4 v H' ((((s1.trans w.b w1.b s2).trans w.b w2.b s3).trans w.b w3.b s4)) w4.b (resF_of w4.b sm rb ⟨a1, a2, a3, a4, p1, p2, p3, p4, po⟩), fun c H' sm ec => excG_up hE w4 c sm (he a1 a2 a3 a4 p1 p2 p3 p4 c ec)⟩
theorem esd_call4 {α1 : Type} {α2 : Type} {α3 : Type} {α4 : Type} {R1 : Rl α1} {t1 : TE} {a1 : α1} {R2 : Rl α2} {t2 : TE} {a2 : α2} {R3 : Rl α3} {t3 : TE} {a3 : α3} {R4 : Rl α4} {t4 : TE} {a4 : α4} {R : Rl β} {pre : α1 × α2 × α3 × α4 × Unit → Prop} {post : α1 × α2 × α3 × α4 × Unit → β → Prop} {exc : α1 × α2 × α3 × α4 × Unit → Addr → Prop} {W0 : WX} {Pe : Addr → Prop} (h1 : Ev C t1 Γ .h R1 a1) (h2 : Ev C t2 Γ .h R2 a2) (h3 : Ev C t3 Γ .h R3 a3) (h4 : Ev C t4 Γ .h R4 a4) (hp : pre (a1, a2, a3, a4, ())) (hE : ExcOkG C W0 Γ Pe) (he : ∀ c, exc (a1, a2, a3, a4, ()) c → Pe c) :
    EvX C (tCallS (spF (aCons R1 (aCons R2 (aCons R3 (aCons R4 aNil)))) pre R post exc) (WE W0) (tCons t1 (tCons t2 (tCons t3 (tCons t4 tNil))))) Γ (ResF C R (fun b => post (a1, a2, a3, a4, ()) b)) := fun σ W w Q q =>
  es_call4 h1 h2 h3 h4 (fun x1 x2 x3 x4 e1 e2 e3 e4 => by subst e1 e2 e3 e4; exact hp) hE (fun x1 x2 x3 x4 e1 e2 e3 e4 => by subst e1 e2 e3 e4; exact he) σ W w Q fun W1 v H' s1 b1 r => q W1 v H' s1 b1 ⟨r.keep, r.vol, r.tab, by
    obtain ⟨b, rb, x1, x2, x3, x4, e1, e2, e3, e4, po⟩ := r.val
    subst e1 e2 e3 e4
    exact ⟨b, rb, po⟩⟩
end
end GL


set_option Elab.async false
set_option linter.all false
set_option maxRecDepth 100000
set_option maxHeartbeats 1000000
/-! ### further words -/
namespace GL
open PySem L2
section
variable {C : Cn} {Γ : List Ent} {α β γ δ : Type} {R : Rl α} {S : Rl β} {T : Rl γ} {U : Rl δ} {P : α → Prop} {ta tb te : TE} {ℓ ℓ' c c' : Lv} {K : PySem.W.Frag} {D : Ends} {t u : TS}
/-! places of tuples of two and three -/
theorem tix_go {W : Wd} {ℓ : Lv} {p : Addr} {xs : List V} {i : Nat} {v : V} {Q : VK} (b : Bok C W) (h : Rd (wl C W ℓ) p (.tup xs)) (hv : xs[i]? = some v) (q : Q v W.H) : rIxK K .t (.ref p) (.int (i : Int)) W.H Q :=
  rIxK_go (k := .t) (c := ℓ) b h (atI_of (i := (i : Int)) (by omega) (by rw [Int.toNat_natCast]; exact hv)) q
theorem ev_pair0 {a : α × β} (h : Ev C ta Γ ℓ (rPair R S) a) : Ev C (tOp (rIxK K .t) ta (tC (.int 0))) Γ ℓ R a.1 := fun σ W w Q q => h σ W w _ fun v W1 a' s1 b1 ⟨p, x, y, e, hp, r1, r2⟩ pa => by
  subst e; subst pa
  exact tix_go (i := 0) b1 (.inl hp) rfl (q x W1 _ s1 b1 r1 rfl)
theorem ev_pair1 {a : α × β} (h : Ev C ta Γ ℓ (rPair R S) a) : Ev C (tOp (rIxK K .t) ta (tC (.int 1))) Γ ℓ S a.2 := fun σ W w Q q => h σ W w _ fun v W1 a' s1 b1 ⟨p, x, y, e, hp, r1, r2⟩ pa => by
  subst e; subst pa
  exact tix_go (i := 1) b1 (.inl hp) rfl (q y W1 _ s1 b1 r2 rfl)
end
end GL
namespace GL
theorem bt_ValueError : PySem.bootBuiltins "ValueError" = some (.type "ValueError") := by decide +kernel
end GL
namespace GL
open PySem L2
section
variable {C : Cn} {Γ : List Ent} {α β γ δ : Type} {R : Rl α} {S : Rl β} {T : Rl γ} {ta tb te : TE} {ℓ ℓ' c c' : Lv} {K : PySem.W.Frag}
/-! comprehensions whose items are not told exactly -/
theorem RL.at {p : α → β → Prop} {l : List α} {m : List β} (h : RL p l m) : m.length = l.length ∧ ∀ (i : Nat) b, m[i]? = some b → ∃ a, l[i]? = some a ∧ p a b := ⟨h.len.symm, fun _ _ e => h.get e⟩
end
end GL
namespace GL
open PySem L2
section
variable {C : Cn} {Γ : List Ent} {α : Type} {R : Rl α} {Pl : List α → Prop} {te : TE} {ℓ c : Lv} {K : PySem.W.Frag} {D : Ends} {u : TS}
end
end GL
namespace GL
open PySem L2
section
variable {C : Cn} {Γ : List Ent} {α : Type} {R : Rl α} {P : α → Prop} {te : TE} {ℓ : Lv}
theorem evp_some (h : EvP C te Γ ℓ R P) (hn : ∀ H a, ¬ R.is H .non a) : EvP C te Γ ℓ (rOpt R) (fun o => ∃ a, o = some a ∧ P a) := fun σ W w Q q => h σ W w Q fun v W' x s b r p => q v W' (some x) s b ⟨r, fun z => by subst z; exact hn _ _ r⟩ ⟨x, rfl, p⟩
theorem evp_inr (h : EvP C te Γ ℓ R P) : EvP C te Γ ℓ (rEx R) (fun o => ∃ a, o = .inr a ∧ P a) := fun σ W w Q q => h σ W w Q fun v W' x s b r p => q v W' (.inr x) s b r ⟨x, rfl, p⟩
end
end GL


set_option Elab.async false
set_option linter.all false
set_option maxRecDepth 100000
set_option maxHeartbeats 1000000
/-! ### min(x, default=d), max(x, default=d) of ints -/
namespace GL
def dmin (l : List Int) (d : Int) : Int := if l = [] then d else lmin l
def dmax (l : List Int) (d : Int) : Int := if l = [] then d else lmax l
end GL
namespace L2
open PySem PySem.Spec PyProof.Rows PySem.SeqAt
open PySem.W (AlikeAll minD maxD minD_ints maxD_ints min_list_default max_list_default min_tuple_default max_tuple_default min_list_data max_list_data)
def rBestD (K : PySem.W.Frag) (mx : Bool) : List V → List V → Hp → VK → Prop := fun xs zs H Q => ∃ (p : Addr) (ns : List Int) (d : Int), xs = [.ref p] ∧ zs = [.int d] ∧ (SqL K H p (ns.map V.int) ∨ SqT K H p (ns.map V.int)) ∧ Q (.int (if mx then GL.dmax ns d else GL.dmin ns d)) H
section
variable {X : Cx}
end
end L2
namespace GL
open PySem L2
section
variable {C : Cn} {Γ : List Ent} {ta tb : TE} {ℓ c : Lv} {K : PySem.W.Frag}
end
end GL


set_option Elab.async false
set_option linter.all false
set_option maxRecDepth 100000
set_option maxHeartbeats 1000000
/-! ### sorted -/
namespace GL
open PySem L2
def isort (l : List Int) : List Int := l.mergeSort (fun a b => decide (a ≤ b))
theorem isort_perm (l : List Int) : (isort l).Perm l := List.mergeSort_perm l _
theorem isort_sorted (l : List Int) : (isort l).Pairwise (· ≤ ·) := by
  have h := List.pairwise_mergeSort (le := fun a b : Int => decide (a ≤ b)) (fun a b c h1 h2 => by simp only [decide_eq_true_eq] at *; omega) (fun a b => by simp only [Bool.or_eq_true, decide_eq_true_eq]; omega) l
  exact h.imp fun h => of_decide_eq_true h
theorem sorted_uniq {l m : List Int} (h : l.Perm m) (h1 : l.Pairwise (· ≤ ·)) (h2 : m.Pairwise (· ≤ ·)) : l = m :=
  List.Perm.eq_of_pairwise (fun a b _ _ x y => Int.le_antisymm x y) h1 h2 h
theorem isort_uniq {l m : List Int} (h : m.Perm l) (h1 : m.Pairwise (· ≤ ·)) : m = isort l := sorted_uniq (h.trans (isort_perm l).symm) h1 (isort_sorted l)
section
variable {C : Cn} {Γ : List Ent} {ta tb : TE} {ℓ c : Lv} {K : PySem.W.Frag}
theorem en_sortI {l : List Int} (ha : EvS C ta Γ .l c .h rInt (fun x => x = l)) : EvN C (tCB (rSortedI K) (tCons ta tNil)) Γ ℓ rInt (fun z => z = isort l) := fun σ W w Q q =>
  ha σ W w _ fun p W1 xs l' s1 b1 e1 r1 p1 => ⟨p, l', rfl, by rw [← r1.ints]; exact sqL_of b1 e1, fun ns' a hp hs n =>
    fresh_go (R := rInt) (ℓ := ℓ) (P := fun z => z = isort l) w s1 b1 q (xs := ns'.map V.int) (l := ns') (All2.of_map (p := rInt.is (wl C W1 ℓ)) (f := V.int) (fun _ => rfl) ns') (by subst p1; exact isort_uniq hp hs) a n⟩
end
end GL
namespace GL
theorem bt_sorted : PySem.bootBuiltins "sorted" = some (.builtin "sorted") := by decide +kernel
end GL


set_option Elab.async false
set_option linter.all false
set_option maxRecDepth 100000
set_option maxHeartbeats 1000000
namespace GL
open PySem L2
section
variable {C : Cn} {Γ : List Ent} {α β γ : Type} {R : Rl α} {S : Rl β} {T : Rl γ} {ta tb te : TE} {ℓ ℓ' c : Lv} {K : PySem.W.Frag}
/-! is, is not of bools -/
/-! list(a pair), list(three) of things of one kind -/
end
/-- options of what is compared -/
def eqr_opt {K : PySem.W.Frag} {α : Type} {R : Rl α} (E : Eqr K R) (hn : ∀ a, E.enc a ≠ .none) (hv : ∀ a, PyData.eqv .none (E.enc a) = false ∧ PyData.eqv (E.enc a) .none = false) : Eqr K (rOpt R) := ⟨fun o => match o with | none => .none | some a => E.enc a, fun H v o h => by
    cases o with
    | none => cases (show v = .non from h); exact .non
    | some a => exact E.dp H v a h.1, fun o => by
    cases o with
    | none => simp [PyData.canLay0]
    | some a => exact E.can a, E.n, fun o => by
    cases o with
    | none => simp [PyData.depth]
    | some a => exact E.dep a, fun a b => by
    cases a with
    | none => cases b with
      | none => simp [PyData.eqv]
      | some b => simp [(hv b).1]
    | some a => cases b with
      | none => simp [(hv a).2]
      | some b => simp [E.eqv]⟩
end GL
namespace GL
open PySem L2
theorem EvN.fl {C : Cn} {Γ : List Ent} {α : Type} {R : Rl α} {te : TE} {ℓ ℓ' : Lv} {P : List α → Prop} (f : Flat R) (h : EvN C te Γ ℓ R P) : EvN C te Γ ℓ' R P := fun σ W w Q q => h σ W w Q fun p W' xs l s b n hH hG r z => q p W' xs l s b n hH hG (r.imp fun _ _ => f _ _ _ _) z
end GL
namespace GL
open PySem L2
section
variable {C : Cn} {Γ : List Ent} {ta tb : TE} {ℓ ℓ1 ℓ2 : Lv} {P1 P2 : Bool → Prop}
end
end GL


set_option Elab.async false
set_option linter.all false
set_option maxRecDepth 100000
set_option maxHeartbeats 1000000
/-! ### x.count(True) of a list of bools -/
namespace L2
open PySem PySem.Spec PyProof.Rows PySem.SeqAt
def rCountB (K : PySem.W.Frag) : V → List V → Hp → VK → Prop := fun x ys H Q => ∃ (p : Addr) (bs : List Bool) (b : Bool), x = .ref p ∧ ys = [.bl b] ∧ SqL K H p (bs.map V.bl) ∧ Q (.int ((bs.count b : Nat) : Int)) H
theorem reads_of_bools {h : Heap} : ∀ {bs : List Bool} {us : List Value}, Vals (bs.map V.bl) us → ReadsAll h us (bs.map PyData.bool) []
  | [], _, r => by cases r; exact .nil
  | b :: bs, _, r => by
    cases r with
    | cons r1 r2 =>
      rename_i u us
      obtain rfl : u = .bool b := r1
      exact .cons (as := []) (.bool b) (reads_of_bools r2)
theorem countIn_bools (b : Bool) : ∀ bs : List Bool, Spec.countIn (.bool b) (bs.map PyData.bool) = ((bs.count b : Nat) : Int)
  | [] => rfl
  | c :: bs => by
    rw [List.map_cons, Spec.countIn, countIn_bools b bs, List.count_cons]
    cases c <;> cases b <;> simp [Spec.same] <;> omega
section
variable {X : Cx}
theorem mt_countB : MtR X "list.count" (rCountB X.K) := by
  rintro pins s σ H x ys v us Q I rx rys ⟨p, bs, b, rfl, rfl, hs, q⟩
  cases rx
  cases rys with
  | cons ry rt =>
    rename_i uy ut
    cases rt
    obtain rfl : uy = .bool b := ry
    obtain ⟨its, rv, hl, _⟩ := I.list hs
    obtain ⟨o, n, ho, hc, _, hd⟩ := id hl
    refine count_list_bools ⟨o, ho, hc, n, hd⟩ (reads_of_bools (h := s.heap) rv) (by rw [List.all_map]; exact List.all_eq_true.mpr fun _ _ => rfl) ?_
    rw [countIn_bools]
    exact ⟨.int _, H, I.tok _, ⟨_, rfl⟩, q⟩
end
end L2
namespace GL
open PySem L2
theorem ev_countB {C : Cn} {Γ : List Ent} {ta : TE} {c ℓ : Lv} {K : PySem.W.Frag} {l : List Bool} {b : Bool} (ha : EvS C ta Γ .l c .h rBool (fun z => z = l)) : Ev C (tBM K "list" (rCountB K) ta (tCons (tC (.bl b)) tNil)) Γ ℓ rInt ((l.count b : Nat) : Int) := fun σ W w Q q =>
  ha σ W w _ fun p W1 xs l' s1 b1 e r1 p1 => ⟨by
    exact .inl ⟨rfl, xs, sqL_of b1 e⟩, p, l', b, rfl, rfl, by rw [← All2.bools r1]; exact sqL_of b1 e, q _ W1 _ s1 b1 rfl (by rw [p1])⟩
theorem alone2_at {Ls : List Addr} (nd : Ls.Nodup) {c : Addr} {at_ : Int} (h0 : 0 ≤ at_) (h : Ls[at_.toNat]? = some c) : alone2 Ls (some c) at_ = true := by
  have hm : c ∈ Ls := List.mem_of_getElem? h
  have e1 : (Ls.map fun a => decide (c = a)).count true = 1 := by
    rw [← List.Nodup.count nd |>.trans (if_pos hm), List.count_eq_countP, List.countP_map, List.count_eq_countP]
    refine List.countP_congr fun a _ => ?_
    show ((decide (c = a)) == true) = true ↔ (a == c) = true
    rw [beq_true, decide_eq_true_iff, beq_iff_eq]; exact ⟨Eq.symm, Eq.symm⟩
  have e2 : gt (Ls.map fun a => decide (c = a)) at_ = true := by
    unfold gt; rw [List.getD_eq_getElem?_getD, List.getElem?_map, h]; simp
  show (decide ((((Ls.map fun a => decide (c = a)).count true : Nat) : Int) = 1) && gt (Ls.map fun a => decide (c = a)) at_) = true
  rw [e1, e2]; rfl
end GL


set_option Elab.async false
set_option linter.all false
set_option maxRecDepth 100000
set_option maxHeartbeats 1000000
/-! ### sorted, of pairs of ints -/
namespace GL
open PySem L2
def ple (a b : Int × Int) : Bool := decide (a.1 < b.1 ∨ (a.1 = b.1 ∧ a.2 ≤ b.2))
def psort (l : List (Int × Int)) : List (Int × Int) := l.mergeSort ple
theorem psort_perm (l : List (Int × Int)) : (psort l).Perm l := List.mergeSort_perm l _
theorem psort_sorted (l : List (Int × Int)) : (psort l).Pairwise (fun a b => ple a b = true) :=
  List.pairwise_mergeSort (le := ple) (fun a b c h1 h2 => by unfold ple at *; simp only [decide_eq_true_eq] at *; omega) (fun a b => by unfold ple; simp only [Bool.or_eq_true, decide_eq_true_eq]; omega) l
theorem ple_anti {a b : Int × Int} (h1 : ple a b = true) (h2 : ple b a = true) : a = b := by
  unfold ple at *
  simp only [decide_eq_true_eq] at *
  exact Prod.ext (by omega) (by omega)
theorem psort_uniq {l m : List (Int × Int)} (h : m.Perm l) (h1 : m.Pairwise (fun a b => ple a b = true)) : m = psort l :=
  List.Perm.eq_of_pairwise (fun a b _ _ x y => ple_anti x y) h1 (psort_sorted l) (h.trans (psort_perm l).symm)
def keyOf (H : Hp) : V → Int × Int
  | .ref t => match H t with
    | some (.tup [.int a, .int b]) => (a, b)
    | _ => (0, 0)
  | _ => (0, 0)
section
variable {C : Cn} {Γ : List Ent} {ta tb : TE} {ℓ c : Lv} {K : PySem.W.Frag}
/-! min, max of three ints -/
variable {tc : TE}
end
end GL


set_option Elab.async false
set_option linter.all false
set_option maxRecDepth 100000
set_option maxHeartbeats 1000000
/-! ### tuples of three as triples; loops with three names -/
namespace GL
open PySem L2
variable {C : Cn} {Γ : List Ent} {ta tb te : TE} {ℓ c : Lv} {K : PySem.W.Frag} {D : Ends} {u : TS} {α β γ : Type} {R : Rl α} {S' : Rl β} {T' : Rl γ}
def to3 {α : Type} [Inhabited α] (x : List α) : α × α × α := (gt x 0, gt x 1, gt x 2)
theorem trip_of [Inhabited α] {H : Hp} {v : V} {x : List α} (h : (rTup R).is H v x) (hl : x.length = 3) : (rTrip R R R).is H v (to3 x) := by
  obtain ⟨p, xs, rfl, hp, r⟩ := h
  match x, xs, hl, r with
  | [a, b, d], [v1, v2, v3], _, ⟨r1, r2, r3, _⟩ => exact ⟨p, v1, v2, v3, rfl, hp, r1, r2, r3⟩
theorem all2_trips [Inhabited α] {H : Hp} : ∀ {xs : List V} {l : List (List α)}, (∀ x ∈ l, x.length = 3) → All2 ((rTup R).is H) xs l → All2 ((rTrip R R R).is H) xs (l.map to3)
  | [], [], _, _ => trivial
  | x :: xs, a :: l, h, ⟨h1, h2⟩ => ⟨trip_of h1 (h a (by simp)), all2_trips (fun y hy => h y (by simp [hy])) h2⟩
theorem q_forD3 {σS : Type} {wi : TI} {t : TS} {i j n : Nat} {l : List (α × β × γ)} (Γs : σS → List Ent) (I : Nat → σS → Prop) (s0 : σS) (hi : EvI C true wi Γ ℓ (rTrip R S' T') (fun x => x = l)) (i0 : I 0 s0) (le0 : LeG Γ (Γs s0))
    (hs : ∀ C', Cex C C' → ∀ m a s, l[m]? = some a → I m s → Go C' t { D with nx := Hol C' Γs (I (m + 1)), ct := Hol C' Γs (I (m + 1)), bk := u D } ((((Γs s).set i (.val ℓ R a.1)).set j (.val ℓ S' a.2.1)).set n (.val ℓ T' a.2.2))) (hd : ∀ s, I l.length s → Go C u D (Γs s)) (hl : ℓ ≠ .h := by decide) :
    Go C (tSeq (tFor wi (gTup K 3 (gCons (gName i) (gCons (gName j) (gCons (gName n) gNil)))) t) u) D Γ :=
  q_forG Γs (fun _ => I) (fun s a => (((Γs s).set i (.val ℓ R a.1)).set j (.val ℓ S' a.2.1)).set n (.val ℓ T' a.2.2)) hi (fun l' e => ⟨s0, i0, le0⟩)
    (fun C' σ W x a s Q w ⟨q, y, z, v, e, h, r1, r2, r3⟩ k => ⟨q, [y, z, v], e, sqT_of (c := ℓ) w.b h, rfl, y, [z, v], rfl, z, [v], rfl, v, [], rfl, rfl, k _ (((w.setv i hl r1).setv j hl r2).setv n hl r3)⟩)
    (fun C' x l' m a s e => by subst e; exact hs C' x m a s) (fun l' s e => by subst e; exact hd s)
end GL


set_option Elab.async false
set_option linter.all false
set_option maxRecDepth 100000
set_option maxHeartbeats 1000000
/-! ### list(zip(xs, ys)) -/
namespace ZL
open PySem PySem.Calls PyProof.Rows PySem.Spec
section
variable {prog : Program} {w : World} {A : Around} {E : Value → Shared → Prop} {s : Shared}
/-- a zip whose last tuple is still held -/
def Held (h : Heap) (z TI TO T : Addr) (b : Bool) : Prop := h.get? z = some { cls := .type "zip", dict := none, data := .fields #[rawInt T, .bool b, .bool false, .ref TI, .ref TO], slots := #[] }
end
/-- where a zip of two lists stands; the tuple it still holds is none of those named -/
structure ZS (h : Heap) (z TI TO i1 i2 l1 l2 S : Addr) (xs ys : Array Value) (i : Nat) : Prop where
  ti : IsPair h TI (.ref i1) (.ref i2)
  a1 : h.IsListIter i1 l1 i
  a2 : h.IsListIter i2 l2 i
  b1 : h.IsList l1 xs
  b2 : h.IsList l2 ys
  st : (IsZip h z TI TO .none ∧ ∃ a b, IsPair h TO a b) ∨ ∃ T b oT, Held h z TI TO T b ∧ h.get? T = some oT ∧ T ≠ z ∧ T ≠ i1 ∧ T ≠ i2 ∧ T ≠ S
section
variable {prog : Program} {w : World} {A : Around} {E : Value → Shared → Prop} {s : Shared} {z TI TO i1 i2 l1 l2 S : Addr} {xs ys : Array Value} {i : Nat}
theorem ZS.upd {h h' : Heap} (st : ZS h z TI TO i1 i2 l1 l2 S xs ys i) (hz : z ≠ S) (hTI : TI ≠ S) (hTO : TO ≠ S) (h1 : i1 ≠ S) (h2 : i2 ≠ S) (g1 : l1 ≠ S) (g2 : l2 ≠ S)
    (k : ∀ b o, b ≠ S → h.get? b = some o → h'.get? b = some o) : ZS h' z TI TO i1 i2 l1 l2 S xs ys i := by
  refine ⟨k _ _ hTI st.ti, st.a1.at fun o e => k _ o h1 e, st.a2.at fun o e => k _ o h2 e, st.b1.at fun o e => k _ o g1 e, st.b2.at fun o e => k _ o g2 e, ?_⟩
  rcases st.st with ⟨q, a, b, q2⟩ | ⟨T, b, oT, q, q2, n1, n2, n3, n4⟩
  · exact .inl ⟨k _ _ hz q, a, b, k _ _ hTO q2⟩
  · exact .inr ⟨T, b, oT, k _ _ hz q, k _ _ n4 q2, n1, n2, n3, n4⟩
end
/-- the tuples made so far -/
structure TG (xs ys : Array Value) (lo : Addr) (h : Heap) (as : List Addr) : Prop where
  rise : as.Pairwise (· < ·)
  above : ∀ a ∈ as, lo ≤ a ∧ a < h.objs.size
  pairs : ∀ (j : Nat) (a : Addr), as[j]? = some a → ∃ x y, xs[j]? = some x ∧ ys[j]? = some y ∧ IsPair h a x y
theorem TG.upd {xs ys : Array Value} {lo : Addr} {h h' : Heap} {as : List Addr} (g : TG xs ys lo h as) (k : ∀ b o, lo ≤ b → h.get? b = some o → h'.get? b = some o) : TG xs ys lo h' as :=
  ⟨g.rise, fun a ha => by
    obtain ⟨j, hj⟩ := List.mem_iff_getElem?.mp ha
    obtain ⟨x, y, _, _, e⟩ := g.pairs j a hj
    exact ⟨(g.above a ha).1, Heap.lt_size (k a _ (g.above a ha).1 e)⟩, fun j a hj => by
    obtain ⟨x, y, hx, hy, e⟩ := g.pairs j a hj
    exact ⟨x, y, hx, hy, k a _ (g.above a (List.mem_of_getElem? hj)).1 e⟩⟩
theorem TG.snoc {xs ys : Array Value} {lo : Addr} {h : Heap} {as : List Addr} {a : Addr} {x y : Value} (g : TG xs ys lo h as) (ha : ∀ b ∈ as, b < a) (hlo : lo ≤ a) (hs : a < h.objs.size) (hx : xs[as.length]? = some x) (hy : ys[as.length]? = some y) (hp : IsPair h a x y) : TG xs ys lo h (as ++ [a]) := by
  refine ⟨List.pairwise_append.mpr ⟨g.rise, List.pairwise_singleton _ _, fun b hb c hc => by rw [List.mem_singleton.mp hc]; exact ha b hb⟩, fun b hb => ?_, fun j b hj => ?_⟩
  · rcases List.mem_append.mp hb with q | q
    · exact g.above b q
    · rw [List.mem_singleton.mp q]; exact ⟨hlo, hs⟩
  · by_cases e : j < as.length
    · rw [List.getElem?_append_left e] at hj; exact g.pairs j b hj
    · by_cases e2 : j = as.length
      · subst e2
        rw [List.getElem?_append_right (Nat.le_refl _), Nat.sub_self] at hj
        have : b = a := by simpa using hj.symm
        rw [this]; exact ⟨x, y, hx, hy, hp⟩
      · rw [List.getElem?_eq_none (by rw [List.length_append, List.length_singleton]; omega)] at hj; cases hj
/-- the new list stands apart from the zip -/
structure Ap (S z TI TO i1 i2 l1 l2 lo : Addr) : Prop where
  nz : z ≠ S
  nti : TI ≠ S
  nto : TO ≠ S
  na1 : i1 ≠ S
  na2 : i2 ≠ S
  nb1 : l1 ≠ S
  nb2 : l2 ≠ S
  loS : S < lo
  loz : z < lo
  lot : TO < lo
  lo1 : i1 < lo
  lo2 : i2 < lo
section
variable {prog : Program} {w : World} {A : Around} {s : Shared} {R : Result → Shared → Prop} {z TI TO i1 i2 l1 l2 S lo : Addr} {xs ys : Array Value}
end
section
variable {prog : Program} {w : World} {A : Around} {s : Shared} {R : Result → Shared → Prop} {z TI TO i1 i2 l1 l2 S lo : Addr} {xs ys : Array Value}
end
section
variable {prog : Program} {w : World} {A : Around} {E : Value → Shared → Prop} {s : Shared} {z TI TO i1 i2 l1 l2 : Addr} {xs ys : Array Value}
end
end ZL


set_option Elab.async false
set_option linter.all false
set_option maxRecDepth 100000
set_option maxHeartbeats 2000000
/-! ### list(zip(xs, ys)) as a word of the layer -/
namespace L2
open PySem PySem.Spec PyProof.Rows
/-- pairs laid one behind the other -/
inductive Lay : Hp → List (V × V) → List Addr → Hp → Prop
  | nil (H : Hp) : Lay H [] [] H
  | cons {H H2 : Hp} {x y : V} {a : Addr} {ps : List (V × V)} {as : List Addr} : H a = none → Lay (upd H a (.tup [x, y])) ps as H2 → Lay H ((x, y) :: ps) (a :: as) H2
theorem Lay.out {H H2 : Hp} {ps : List (V × V)} {as : List Addr} (h : Lay H ps as H2) : ∀ b, b ∉ as → H2 b = H b := by
  induction h with
  | nil => intro b _; rfl
  | cons _ _ ih =>
    intro b hb
    rw [ih b (fun z => hb (List.mem_cons_of_mem _ z)), upd_ne (fun z => hb (by rw [z]; exact List.mem_cons_self))]
section
variable {P : Program} {w : World} {fs : List Addr} {h0 h' : Heap}
end
def tLstZip (K : PySem.W.Frag) (ta : TA) : TE := fun σ H Q => ta σ H fun vs H1 => ∃ (a b : Addr) (xs ys : List V), vs = [.ref a, .ref b] ∧ SqL K H1 a xs ∧ SqL K H1 b ys ∧ ∀ H2 as q, Lay H1 (xs.zip ys) as H2 → H1 q = none → q ∉ as → Q (.ref q) (upd H2 q (.lst (as.map V.ref)))
section
variable {X : Cx}
end
end L2
namespace GL
open PySem L2
section
variable {C : Cn} {Γ : List Ent} {α β : Type} {R : Rl α} {S' : Rl β} {ta tb : TE} {ℓ c c' : Lv} {K : PySem.W.Frag}
end
end GL


set_option Elab.async false
set_option linter.all false
set_option maxRecDepth 100000
set_option maxHeartbeats 1000000
namespace GL
open PySem L2
/-! texts -/
abbrev tl (x : Str) : List Nat := TL.tl x
def TS_ (l : List Nat) : Str := ⟨l.toArray⟩
def sg (c : Nat) : Str := TS_ [c]
def signs (a : Str) : List Str := (tl a).map sg
def smul (x : Str) (n : Int) : Str := TS_ (List.replicate n.toNat (tl x)).flatten
section
variable {X : Cx}
abbrev rMulS : R2 := fun x y H Q => ∃ i k, x = .str i ∧ y = .int k ∧ MulOk i k ∧ Q (.str (Txt.mul i k)) H
abbrev rAddS_ : R2 := fun x y H Q => ∃ i j, x = .str i ∧ y = .str j ∧ i.length + j.length ≤ sizeLine ∧ Q (.str (i ++ j)) H
abbrev rJoin (K : PySem.W.Frag) : V → List V → Hp → VK → Prop := fun x xs H Q => ∃ a p, ∃ ys : List Str, x = .str a ∧ xs = [.ref p] ∧ (SqL K H p (ys.map V.str) ∨ SqT K H p (ys.map V.str)) ∧ (ys.map (·.length)).sum + ys.length * a.length ≤ 16777216 ∧ Q (.str (Txt.join a ys)) H
abbrev rSplit : V → List V → Hp → VK → Prop := fun x xs H Q => ∃ a b, x = .str a ∧ xs = [.str b] ∧ (b.length == 0) = false ∧ a.length + 2 ≤ sizeLine ∧ rNewStrs (Txt.split a b) H Q
abbrev rCountS : V → List V → Hp → VK → Prop := fun x xs H Q => ∃ a b, x = .str a ∧ xs = [.str b] ∧ Q (.int (Txt.count a b)) H
abbrev rRstripS : V → List V → Hp → VK → Prop := fun x xs H Q => ∃ a b, x = .str a ∧ xs = [.str b] ∧ a.length ≤ sizeLine ∧ Q (.str (Txt.rstripChars a b)) H
open PyProof.Rows PySem.Spec in
def rSumA (K : PySem.W.Frag) : List V → Hp → VK → Prop := fun vs H Q => ∃ (a : Addr) (ns : List Int), vs = [V.ref a] ∧ (SqL K H a (ns.map V.int) ∨ SqT K H a (ns.map V.int)) ∧ Q (.int ns.sum) H
end
section
variable {C : Cn} {Γ : List Ent} {α : Type} {ta tb tc te : TE} {ℓ ℓ' c c' : Lv} {K : PySem.W.Frag} {a b : Str}
def orS (a b : Str) : Str := if tl a = [] then b else a
def slS (a : Str) (lo hi : Option Int) : Str := TS_ (sl (tl a) lo hi)
abbrev rIxS : R2 := fun x y H Q => ∃ z i c, x = .str z ∧ y = .int i ∧ 0 ≤ i ∧ i < 2 ^ 63 ∧ i < z.length ∧ z.cps[i.toNat]? = some c ∧ Q (.str ⟨#[c]⟩) H
abbrev rInSg : R2 := fun x y H Q => ∃ (c : Nat) (z : Str), x = .str ⟨#[c]⟩ ∧ y = .str z ∧ Q (.bl (decide (c ∈ z.cps.toList))) H
end
end GL


set_option Elab.async false
set_option linter.all false
set_option maxRecDepth 100000
set_option maxHeartbeats 1000000
namespace GL
open PySem L2
/-! shifts, low bits; in a list of data -/
section
variable {C : Cn} {Γ : List Ent} {α : Type} {R : Rl α} {ta tb tc te : TE} {ℓ ℓ' c c' : Lv} {K : PySem.W.Frag} {i j : Int}
abbrev rShl1 : R2 := fun x y H Q => ∃ k : Nat, x = .int 1 ∧ y = .int (k : Int) ∧ k ≤ 134217727 ∧ Q (.int (2 ^ k)) H
abbrev rAndM : R2 := fun x y H Q => ∃ (i : Int) (k : Nat), x = .int i ∧ y = .int (2 ^ k - 1) ∧ Q (.int (i % 2 ^ k)) H
end
end GL


set_option Elab.async false
set_option linter.all false
set_option maxRecDepth 100000
set_option maxHeartbeats 1000000
namespace GL
open PySem L2
/-! a row of numbers and Nones -/
section
variable {C : Cn} {Γ : List Ent} {α : Type} {R : Rl α} {ta te : TE} {ℓ ℓ' c : Lv} {K : PySem.W.Frag}
end
end GL


set_option Elab.async false
set_option linter.all false
set_option maxRecDepth 100000
set_option maxHeartbeats 1000000
namespace GL
open PySem L2
/-! a name's value seen otherwise -/
section
variable {C : Cn} {Γ : List Ent} {α β : Type} {R : Rl α} {S : Rl β} {ta te : TE} {ℓ ℓ' c : Lv} {K : PySem.W.Frag} {D : Ends} {u : TS}
theorem q_view {i : Nat} {a : α} {b : β} (h : Γ[i]? = some (.val ℓ R a)) (hc : ∀ H v, R.is H v a → S.is H v b) (k : Go C u D (Γ.set i (.val ℓ S b))) : Go C u D Γ := fun σ W w => by
  refine k σ W ⟨w.b, by rw [List.length_set]; exact w.len, fun j e hj => ?_, fun j j' p q hn h1 h2 => ?_⟩
  · by_cases z : i = j
    · subst z
      rw [List.getElem?_set_self (by rw [← w.len]; exact w.lt h)] at hj
      cases hj
      obtain ⟨x, h1, h2⟩ := w.ent i _ h
      obtain ⟨n, v, e, r⟩ := h2
      exact ⟨x, h1, n, v, e, hc _ _ r⟩
    · rw [List.getElem?_set_ne z] at hj
      exact w.ent j e hj
  · have key : ∀ (m : Nat) (r : Addr), adAt (Γ.set i (.val ℓ S b)) m r → adAt Γ m r := fun m r ⟨u, hu, hm⟩ => by
      by_cases z : i = m
      · subst z
        rw [List.getElem?_set_self (by rw [← w.len]; exact w.lt h)] at hu
        cases hu
        cases hm
      · rw [List.getElem?_set_ne z] at hu
        exact ⟨u, hu, hm⟩
    exact w.dis j j' p q hn (key j p h1) (key j' q h2)
theorem vw_exr {x : α} : ∀ H v, (rOpt (rEx R)).is H v (some (Sum.inr x)) → R.is H v x := fun _ _ h => h.1
theorem vw_exl {x : Addr} : ∀ H v, (rOpt (rEx R)).is H v (some (Sum.inl x)) → rExc.is H v x := fun _ _ h => h.1
abbrev rNInSg : R2 := fun x y H Q => ∃ (c : Nat) (z : Str), x = .str ⟨#[c]⟩ ∧ y = .str z ∧ Q (.bl (!decide (c ∈ z.cps.toList))) H
end
theorem alone2_is {Ls : List Addr} (nd : Ls.Nodup) {c : Addr} (hm : c ∈ Ls) {at_ : Int} (h : 0 ≤ at_ ∧ at_ < Ls.length) : alone2 Ls (some c) at_ = decide (gt Ls at_ = c) := by
  have hg := gt_get h
  by_cases e : gt Ls at_ = c
  · rw [alone2_at nd h.1 (by rw [hg, e]), decide_eq_true e]
  · rw [decide_eq_false e]
    have e2 : gt (Ls.map fun a => decide (c = a)) at_ = false := by
      unfold gt at e ⊢
      rw [List.getD_eq_getElem?_getD, List.getElem?_map, hg]
      rw [List.getD_eq_getElem?_getD, hg] at e
      exact decide_eq_false fun z => e z.symm
    show (decide _ && gt (Ls.map fun a => decide (c = a)) at_) = false
    rw [e2, Bool.and_false]
end GL


set_option Elab.async false
set_option linter.all false
set_option maxRecDepth 100000
set_option maxHeartbeats 1000000
/-! ### zip of a list or a tuple with a list or a tuple -/
namespace ZM
open PySem PySem.Calls PyProof.Rows PySem.Spec
/-- the kinds: true is a tuple -/
def Ib : Bool → Heap → Addr → Addr → Nat → Prop
  | false => fun h it l i => h.IsListIter it l i
  | true => fun h it l i => h.IsTupleIter it l i
def Sb : Bool → Heap → Addr → Array Value → Prop
  | false => fun h l xs => h.IsList l xs
  | true => fun h l xs => h.IsTuple l xs
def nb_ : Bool → String
  | false => "list_iterator"
  | true => "tuple_iterator"
theorem Ib.ext : ∀ {k : Bool} {h h' : Heap} {a b l i}, Ib k h a l i → Heap.ExtBut b h h' → a ≠ b → Ib k h' a l i
  | false, _, _, _, _, _, _, x, hs, hab => Heap.IsListIter.extBut x hs hab
  | true, _, _, _, _, _, _, x, hs, hab => Heap.IsTupleIter.extBut x hs hab
theorem Ib.at_ : ∀ {k : Bool} {h h' : Heap} {a l i}, Ib k h a l i → (∀ o, h.get? a = some o → h'.get? a = some o) → Ib k h' a l i
  | false, _, _, _, _, _, x, e => Heap.IsListIter.at x e
  | true, _, _, _, _, _, x, e => Heap.IsTupleIter.at x e
theorem Ib.obj : ∀ {k : Bool} {h : Heap} {a l i}, Ib k h a l i → ∃ o, h.get? a = some o ∧ ∀ v, o.data ≠ .cell v
  | false, _, _, _, _, ⟨o, e, _, d⟩ => ⟨o, e, fun v q => by rw [d] at q; cases q⟩
  | true, _, _, _, _, ⟨o, e, _, d⟩ => ⟨o, e, fun v q => by rw [d] at q; cases q⟩
theorem Sb.ext : ∀ {k : Bool} {h h' : Heap} {b l xs}, Sb k h l xs → Heap.ExtBut b h h' → l ≠ b → Sb k h' l xs
  | false, _, _, _, _, _, x, hs, hab => Heap.IsList.extBut x hs hab
  | true, _, _, _, _, _, x, hs, hab => Heap.IsTuple.extBut x hs hab
section
variable {prog : Program} {w : World} {A : Around} {E : Value → Shared → Prop} {s : Shared}
theorem step : ∀ {k : Bool} {it l : Addr} {i : Nat} {items : Array Value} {x : Value} {Q : Value → Shared → Prop}, Ib k s.heap it l i → Sb k s.heap l items → items[i]? = some x →
    (∀ h', Ib k h' it l (i + 1) → Heap.SameBut it s.heap h' → Q x { s with heap := h' }) → wpAny (model prog w) A (Builtin.SmallTypes.nextOf (.ref it)) Q E s
  | false, _, _, _, _, _, _, h1, h2, h3, h4 => wpAny_nextOf_list_item h1 h2 h3 h4
  | true, _, _, _, _, _, _, h1, h2, h3, h4 => RZ.nextOf_tuple_item h1 h2 h3 h4
theorem stop (hh : A.handled = none) : ∀ {k : Bool} {it l : Addr} {i : Nat} {items : Array Value} {Q : Value → Shared → Prop}, Ib k s.heap it l i → Sb k s.heap l items → items[i]? = none →
    (∀ h' e, Heap.ExtBut it s.heap h' → (∃ o, h'.get? e = some o ∧ o.cls = .type "StopIteration") → E (.ref e) { s with heap := h' }) → wpAny (model prog w) A (Builtin.SmallTypes.nextOf (.ref it)) Q E s
  | false, _, _, _, _, _, h1, h2, h3, h4 => wpAny_nextOf_list_end hh h1 h2 h3 h4
  | true, _, _, _, _, _, h1, h2, h3, h4 => RZ.nextOf_tuple_end hh h1 h2 h3 h4
end
end ZM
namespace ZM
open PySem PySem.Calls PyProof.Rows PySem.Spec
abbrev G1 (p : Bool) (h : Heap) (l1 : Addr) : Heap := h.push { cls := .type (nb_ p), data := .fields #[.ref l1, .int 0 0] }
abbrev G2 (p q : Bool) (h : Heap) (l1 l2 : Addr) : Heap := (G1 p h l1).push { cls := .type (nb_ q), data := .fields #[.ref l2, .int 0 0] }
abbrev G3 (p q : Bool) (h : Heap) (l1 l2 : Addr) : Heap := (G2 p q h l1 l2).push { cls := .type "tuple", data := .seq #[.ref h.objs.size, .ref (G1 p h l1).objs.size] }
abbrev G4 (p q : Bool) (h : Heap) (l1 l2 : Addr) : Heap := (G3 p q h l1 l2).push { cls := .type "tuple", data := .seq #[.none, .none] }
abbrev G5 (p q : Bool) (h : Heap) (l1 l2 : Addr) : Heap := (G4 p q h l1 l2).push { cls := .type "zip", data := .fields #[.none, .bool false, .bool false, .ref (G2 p q h l1 l2).objs.size, .ref (G3 p q h l1 l2).objs.size] }
theorem Ib.new : ∀ {k : Bool} {h : Heap} {a l : Addr}, h.get? a = some { cls := .type (nb_ k), data := .fields #[.ref l, .int 0 0] } → Ib k h a l 0
  | false, _, _, _, g => ⟨_, g, rfl, rfl⟩
  | true, _, _, _, g => ⟨_, g, rfl, rfl⟩
section
variable {prog : Program} {w : World} {A : Around} {E : Value → Shared → Prop} {s : Shared}
end
end ZM
namespace L2
open PySem ZM
def SqB (K : PySem.W.Frag) : Bool → Hp → Addr → List V → Prop
  | false => fun H a xs => SqL K H a xs
  | true => fun H a xs => SqT K H a xs
end L2
namespace L2
open PySem ZM PyProof.Rows
/-- what stands at a and b at each turn, the items in new pairs -/
def ItM (K : PySem.W.Frag) (p q : Bool) (a b : Addr) : It :=
  ⟨fun i H => ∃ (xs ys : List V) (x y : V), SqB K p H a xs ∧ SqB K q H b ys ∧ xs[i]? = some x ∧ ys[i]? = some y,
    fun i H v H' => ∃ T x y, v = .ref T ∧ H T = none ∧ H' = upd H T (.tup [x, y]) ∧ (∀ xs, SqB K p H a xs → xs[i]? = some x) ∧ ∀ ys, SqB K q H b ys → ys[i]? = some y,
    fun i H => ∃ xs ys : List V, SqB K p H a xs ∧ SqB K q H b ys ∧ (xs.length ≤ i ∨ ys.length ≤ i)⟩
section
variable {X : Cx} {pins : List (Addr × Obj)} {s : Shared} {σ : L2.St} {H : Hp}
end
def iZipM (K : PySem.W.Frag) (ta : TA) : TI := fun σ H R => ta σ H fun vs H1 => ∃ (p q : Bool) (a b : Addr) (xs ys : List V), vs = [.ref a, .ref b] ∧ SqB K p H1 a xs ∧ SqB K q H1 b ys ∧ R (ItM K p q a b) H1
end L2
namespace GL
open PySem L2 ZM
section
variable {C : Cn} {Γ : List Ent} {α β : Type} {R : Rl α} {S : Rl β} {ta tb te : TE} {ℓ ℓ' c c' : Lv} {K : PySem.W.Frag}
def kdB : Bool → Kd
  | false => .l
  | true => .t
end
end GL


set_option Elab.async false
set_option linter.all false
set_option maxRecDepth 100000
set_option maxHeartbeats 1000000
namespace GL
open PySem L2
/-! comprehensions over pairs with a test; over a thing and a pair; over triples -/
section
variable {C : Cn} {Γ : List Ent} {α β γ δ : Type} {R : Rl α} {S : Rl β} {T : Rl γ} {U : Rl δ} {te : TE} {ℓ ℓ' c : Lv} {K : PySem.W.Frag}
end
end GL


set_option Elab.async false
set_option linter.all false
set_option maxRecDepth 100000
set_option maxHeartbeats 1000000
namespace GL
open PySem L2
/-! one thing or another; tuples of four -/
section
variable {C : Cn} {Γ : List Ent} {α β γ δ : Type} {R : Rl α} {S : Rl β} {T : Rl γ} {U : Rl δ} {ta tb tc td te : TE} {ℓ ℓ' c : Lv} {K : PySem.W.Frag} {D : Ends} {u : TS}
def rAlt {α β : Type} (R : Rl α) (S : Rl β) : Rl (α ⊕ β) := ⟨fun H v s => match s with | .inl a => R.is H v a | .inr b => S.is H v b, fun {H H' v s} h k => by
  cases s with
  | inl a => exact R.mono h k
  | inr b => exact S.mono h k⟩
def eqr_alt (E : Eqr K R) (F : Eqr K S) (hd : ∀ a b, PyData.eqv (E.enc a) (F.enc b) = false ∧ PyData.eqv (F.enc b) (E.enc a) = false) : Eqr K (rAlt R S) := ⟨fun s => match s with | .inl a => E.enc a | .inr b => F.enc b, fun H v s h => by
    cases s with
    | inl a => exact E.dp H v a h
    | inr b => exact F.dp H v b h, fun s => by
    cases s with
    | inl a => exact E.can a
    | inr b => exact F.can b, max E.n F.n, fun s => by
    cases s with
    | inl a => exact Nat.le_trans (E.dep a) (Nat.le_max_left ..)
    | inr b => exact Nat.le_trans (F.dep b) (Nat.le_max_right ..), fun s t => by
    cases s with
    | inl a => cases t with
      | inl a' => simp [E.eqv]
      | inr b => simp [(hd a b).1]
    | inr b => cases t with
      | inl a => simp [(hd a b).2]
      | inr b' => simp [F.eqv]⟩
def rQuad {α β γ δ : Type} (R : Rl α) (S : Rl β) (T : Rl γ) (U : Rl δ) : Rl (α × β × γ × δ) := ⟨fun H v l => ∃ p x y z o, v = .ref p ∧ Rd H p (.tup [x, y, z, o]) ∧ R.is H x l.1 ∧ S.is H y l.2.1 ∧ T.is H z l.2.2.1 ∧ U.is H o l.2.2.2,
  fun s ⟨p, x, y, z, o, e, h, t, u, w, k⟩ => ⟨p, x, y, z, o, e, rd_mono s h, R.mono s t, S.mono s u, T.mono s w, U.mono s k⟩⟩
def eqr_quad (E : Eqr K R) (F : Eqr K S) (G : Eqr K T) (I : Eqr K U) : Eqr K (rQuad R S T U) := ⟨fun l => .tuple [E.enc l.1, F.enc l.2.1, G.enc l.2.2.1, I.enc l.2.2.2], fun H v l ⟨p, x, y, z, o, e, h, t, u, w, k⟩ => by subst e; exact .tup (.inl h) (.cons (E.dp _ _ _ t) (.cons (F.dp _ _ _ u) (.cons (G.dp _ _ _ w) (.cons (I.dp _ _ _ k) .nil)))),
  fun l => by simp [PyData.canLay0, PyData.canLayAll0, E.can, F.can, G.can, I.can], max E.n (max F.n (max G.n I.n)) + 1, fun l => by
    have h1 := E.dep l.1
    have h2 := F.dep l.2.1
    have h3 := G.dep l.2.2.1
    have h4 := I.dep l.2.2.2
    simp only [PyData.depth, PyData.depthAll]
    omega, fun l m => by simp [PyData.eqv, PyData.eqvAll, E.eqv, F.eqv, G.eqv, I.eqv, Prod.ext_iff]⟩
def rOr (r1 r2 : R2) : R2 := fun x y H Q => r1 x y H Q ∨ r2 x y H Q
end
end GL


set_option Elab.async false
set_option linter.all false
set_option maxRecDepth 100000
set_option maxHeartbeats 1000000
/-! ### dicts -/
namespace GL
open PySem L2
section
variable {κ : Type} [DecidableEq κ] {α : Type}
/-- d[k] -/
def dget (l : List (κ × α)) (k : κ) : Option α := (l.find? fun p => decide (p.1 = k)).map (·.2)
/-- d[k] = a : in its place, or at the end -/
def dput (l : List (κ × α)) (k : κ) (a : α) : List (κ × α) := if (l.any fun p => decide (p.1 = k)) = true then l.map (fun p => if p.1 = k then (p.1, a) else p) else l ++ [(k, a)]
theorem dget_nil {k : κ} : dget ([] : List (κ × α)) k = none := rfl
theorem dget_cons {p : κ × α} {l : List (κ × α)} {k : κ} : dget (p :: l) k = if p.1 = k then some p.2 else dget l k := by
  unfold dget
  rw [List.find?_cons]
  by_cases h : p.1 = k
  · rw [if_pos h]; simp [h]
  · rw [if_neg h]; simp [h]
theorem dget_any {k : κ} : ∀ l : List (κ × α), (l.any fun p => decide (p.1 = k)) = (dget l k).isSome
  | [] => rfl
  | p :: l => by
    rw [List.any_cons, dget_cons, dget_any l]
    by_cases h : p.1 = k <;> simp [h]
theorem dget_map {k j : κ} {a : α} : ∀ l : List (κ × α), dget (l.map fun p => if p.1 = k then (p.1, a) else p) j = if k = j then (dget l j).map (fun _ => a) else dget l j
  | [] => by rw [List.map_nil, dget_nil]; split <;> rfl
  | p :: l => by
    have ih := dget_map (k := k) (j := j) (a := a) l
    rw [List.map_cons, dget_cons, dget_cons, ih]
    by_cases h : p.1 = k
    · subst h
      by_cases hj : p.1 = j <;> simp [hj]
    · by_cases hj : k = j
      · subst hj; simp [h]
      · simp [h, hj]
theorem dget_app {k j : κ} {a : α} : ∀ l : List (κ × α), dget (l ++ [(k, a)]) j = (dget l j).or (if k = j then some a else none)
  | [] => by rw [List.nil_append, dget_cons]; rfl
  | p :: l => by
    rw [List.cons_append, dget_cons, dget_cons, dget_app l]
    split <;> rfl
theorem dget_dput {l : List (κ × α)} {k j : κ} {a : α} : dget (dput l k a) j = if k = j then some a else dget l j := by
  unfold dput
  rw [dget_any]
  split
  · rename_i h
    rw [dget_map]
    split
    · rename_i e
      subst e
      cases hd : dget l k with
      | none => rw [hd] at h; cases h
      | some x => rfl
    · rfl
  · rename_i h
    rw [dget_app]
    split
    · rename_i e
      subst e
      cases hd : dget l k with
      | none => rfl
      | some x => rw [hd] at h; exact absurd rfl h
    · cases dget l j <;> rfl
theorem dput_len {l : List (κ × α)} {k : κ} {a : α} : (dput l k a).length = if (dget l k).isSome then l.length else l.length + 1 := by
  unfold dput
  rw [dget_any]
  split <;> simp
theorem dput_le {l : List (κ × α)} {k : κ} {a : α} : (dput l k a).length ≤ l.length + 1 := by rw [dput_len]; split <;> omega
end
/-- keys of one kind -/
structure DK (κ : Type) [DecidableEq κ] where
  K' : Type
  dec : DecidableEq K'
  f : κ → K'
  inj : ∀ a b, f a = f b → a = b
  ho : List (K' × V) → HO
  hoi : ∀ a b, ho a = ho b → a = b
  kR : Rl κ
  get : ∀ (H : Hp) a y k kvs, H a = some (ho kvs) → kR.is H y k → DGet H a y (valV kvs (f k))
  put : ∀ (H : Hp) a y k v kvs, H a = some (ho kvs) → kR.is H y k → kvs.length < sizeLine → DPut H a y v (upd H a (ho (putK kvs (f k) v)))
def dkInt : DK Int := ⟨Key, inferInstance, Sum.inl, fun _ _ e => Sum.inl.inj e, HO.dK, fun _ _ e => HO.dK.inj e, rInt, fun H a y k kvs h r => by
  cases (show y = .int k from r)
  exact DGet.k (k := Sum.inl k) h, fun H a y k v kvs h r hl => by
  cases (show y = .int k from r)
  exact DPut.k (k := Sum.inl k) h hl⟩
theorem tupKeys {H : Hp} {xs : List V} {l : List Int} (h : All2 (rInt.is H) xs l) : xs = (l.map (Sum.inl : Int → Key)).map kV := by
  rw [h.map_eq (f := V.int) (fun _ _ e => e), List.map_map]; rfl
/-- a tuple as a key -/
def rTupS {α : Type} (R : Rl α) : Rl (List α) := ⟨fun H v l => ∃ p xs, v = .ref p ∧ H p = some (.tup xs) ∧ All2 (R.is H) xs l,
  fun s ⟨p, xs, e, h, t⟩ => ⟨p, xs, e, s _ _ h, t.imp fun _ _ => R.mono s⟩⟩
def dkTup : DK (List Int) := ⟨List Key, inferInstance, List.map Sum.inl, fun a b e => (List.map_inj_right (fun _ _ z => Sum.inl.inj z)).mp e, HO.dT, fun _ _ e => HO.dT.inj e, rTupS rInt, fun H a y k kvs h ⟨p, xs, e, hp, t⟩ => by
  subst e
  refine DGet.t (k := k.map Sum.inl) h ?_
  rw [hp, tupKeys t], fun H a y k v kvs h ⟨p, xs, e, hp, t⟩ hl => by
  subst e
  refine DPut.t (k := k.map Sum.inl) h ?_ hl
  rw [hp, tupKeys t]⟩
section
variable {κ : Type} [DecidableEq κ] {α : Type}
/-- entry by entry -/
def DRel (k : DK κ) (p : V → α → Prop) : List (k.K' × V) → List (κ × α) → Prop
  | [], [] => True
  | x :: xs, a :: l => x.1 = k.f a.1 ∧ p x.2 a.2 ∧ DRel k p xs l
  | _, _ => False
theorem DRel.imp {k : DK κ} {p q : V → α → Prop} (h : ∀ v a, p v a → q v a) : ∀ {xs : List (k.K' × V)} {l : List (κ × α)}, DRel k p xs l → DRel k q xs l
  | [], [], _ => trivial
  | _ :: _, _ :: _, ⟨a, b, c⟩ => ⟨a, h _ _ b, DRel.imp h c⟩
theorem DRel.len {k : DK κ} {p : V → α → Prop} : ∀ {xs : List (k.K' × V)} {l : List (κ × α)}, DRel k p xs l → xs.length = l.length
  | [], [], _ => rfl
  | _ :: _, _ :: _, ⟨_, _, c⟩ => by rw [List.length_cons, List.length_cons, DRel.len c]
theorem DRel.get {k : DK κ} {p : V → α → Prop} (j : κ) : ∀ {xs : List (k.K' × V)} {l : List (κ × α)}, DRel k p xs l → (∀ a, dget l j = some a → ∃ v, @valV _ k.dec xs (k.f j) = some v ∧ p v a) ∧ (dget l j = none → @valV _ k.dec xs (k.f j) = none)
  | [], [], _ => ⟨fun a h => (by rw [dget_nil] at h; cases h), fun _ => rfl⟩
  | x :: xs, a :: l, ⟨h1, h2, h3⟩ => by
    letI := k.dec
    obtain ⟨i1, i2⟩ := DRel.get j h3
    rw [dget_cons]
    by_cases e : a.1 = j
    · rw [if_pos e, valV_pos (by rw [h1, e])]
      exact ⟨fun b hb => ⟨_, rfl, by cases hb; exact h2⟩, fun z => (by cases z)⟩
    · rw [if_neg e, valV_neg (fun z => e (k.inj _ _ (h1.symm.trans z)))]
      exact ⟨i1, i2⟩
theorem DRel.any {k : DK κ} {p : V → α → Prop} (j : κ) : ∀ {xs : List (k.K' × V)} {l : List (κ × α)}, DRel k p xs l → (xs.any fun x => @decide (x.1 = k.f j) (k.dec _ _)) = (l.any fun x => decide (x.1 = j))
  | [], [], _ => rfl
  | x :: xs, a :: l, ⟨h1, h2, h3⟩ => by
    letI := k.dec
    rw [List.any_cons, List.any_cons, DRel.any j h3]
    congr 1
    by_cases e : a.1 = j
    · simp [h1, e]
    · have e1 : ¬ x.1 = k.f j := fun z => e (k.inj _ _ (h1.symm.trans z))
      simp [e, e1]
theorem DRel.map {k : DK κ} {p : V → α → Prop} (j : κ) {v : V} {b : α} (hp : p v b) : ∀ {xs : List (k.K' × V)} {l : List (κ × α)}, DRel k p xs l → DRel k p (xs.map fun x => @ite _ (x.1 = k.f j) (k.dec _ _) (x.1, v) x) (l.map fun x => if x.1 = j then (x.1, b) else x)
  | [], [], _ => trivial
  | x :: xs, a :: l, ⟨h1, h2, h3⟩ => by
    letI := k.dec
    rw [List.map_cons, List.map_cons]
    have ih := DRel.map j hp h3
    by_cases e : a.1 = j
    · rw [if_pos e, if_pos (by rw [h1, e])]
      exact ⟨h1, hp, ih⟩
    · rw [if_neg e, if_neg (fun z => e (k.inj _ _ (h1.symm.trans z)))]
      exact ⟨h1, h2, ih⟩
theorem DRel.app {k : DK κ} {p : V → α → Prop} (j : κ) {v : V} {b : α} (hp : p v b) : ∀ {xs : List (k.K' × V)} {l : List (κ × α)}, DRel k p xs l → DRel k p (xs ++ [(k.f j, v)]) (l ++ [(j, b)])
  | [], [], _ => ⟨rfl, hp, trivial⟩
  | x :: xs, a :: l, ⟨h1, h2, h3⟩ => ⟨h1, h2, DRel.app j hp h3⟩
theorem DRel.put {k : DK κ} {p : V → α → Prop} (j : κ) {v : V} {b : α} (hp : p v b) {xs : List (k.K' × V)} {l : List (κ × α)} (h : DRel k p xs l) : DRel k p (@putK _ k.dec xs (k.f j) v) (dput l j b) := by
  letI := k.dec
  unfold putK dput
  rw [h.any j]
  split
  · exact h.map j hp
  · exact h.app j hp
end
/-- what stands for a dict, told entry by entry -/
def rDict {κ α : Type} [DecidableEq κ] (k : DK κ) (R : Rl α) : Rl (List (κ × α)) := ⟨fun H v l => ∃ p xs, v = .ref p ∧ H p = some (k.ho xs) ∧ DRel k (R.is H) xs l, fun s ⟨p, xs, e, h, t⟩ => ⟨p, xs, e, s _ _ h, t.imp fun _ _ => R.mono s⟩⟩
def obDict {κ α : Type} [DecidableEq κ] (k : DK κ) (R : Rl α) : Ob (List (κ × α)) := ⟨fun K A v ps l => ∃ p xs, v = .ref p ∧ ps = [p] ∧ A p = some (k.ho xs) ∧ DRel k (R.is K) xs l, fun {K K' A A' v ps l} s h ⟨p, xs, e, e2, ha, t⟩ => ⟨p, xs, e, e2, by rw [h p (by rw [e2]; exact List.mem_singleton.mpr rfl)]; exact ha, t.imp fun _ _ => R.mono s⟩⟩
/-- a dict to be read; c: where it stands, ℓ: where its values stand -/
def EvD (C : Cn) {κ α : Type} [DecidableEq κ] (te : TE) (Γ : List Ent) (c ℓ : Lv) (k : DK κ) (R : Rl α) (l : List (κ × α)) : Prop :=
  ∀ σ W, World C σ W Γ → ∀ Q : VK, (∀ p W' xs, Stp W W' → Bok C W' → wl C W' c p = some (k.ho xs) → DRel k (R.is (wl C W' ℓ)) xs l → Q (.ref p) W'.H) → te σ W.H Q
/-- an object of ours changes, all else stays -/
theorem World.ob_set {C : Cn} {Γ : List Ent} {σ : Sg} {W : Wd} {α : Type} {v : V} {ps : List Addr} {ℓ : Lv} {S : Ob α} {a a' : α} {H' : Hp} (w : World C σ W Γ) {i : Nat} (h : Γ[i]? = some (.ob v ps ℓ S a)) (hH : ∀ q, q ∉ ps → H' q = W.H q) (hn : ∀ q ∈ ps, H' q ≠ none) (r : S.is (wl C W ℓ) H' v ps a') : World C σ ⟨H', W.G, W.vs⟩ (Γ.set i (.ob v ps ℓ S a')) := by
  obtain ⟨x, h1, hl, h2, hp, _⟩ := w.get h
  have lv : ∀ ℓ' : Lv, ℓ' ≠ .h → wl C W ℓ' = wl C ⟨H', W.G, W.vs⟩ ℓ' := fun ℓ' hn => by
    cases ℓ' with
    | g => rfl
    | m => rfl
    | h => exact absurd rfl hn
  have nW : ∀ q o, W.H q = some o → (W.G q ≠ none ∨ q ∈ W.vs ∨ C.H0 q ≠ none) → q ∉ ps := fun q o e z hq => by
    obtain ⟨k1, k2, k3, k4⟩ := hp q hq
    rcases z with z | z | z
    · exact z k3
    · exact k1 z
    · exact z k2
  have hb : Bok C ⟨H', W.G, W.vs⟩ := by
    have b := w.b
    refine ⟨fun p o e n => ?_, fun p hp' => ?_, b.vsub, b.vnew, b.v0, b.gv, fun p o e => ?_, b.gn, b.fl, fun P q e => ?_, b.knb⟩
    · have e1 := b.base p o e n
      show H' p = _
      rw [hH p (nW p o e1 (.inr (.inr (by rw [e]; intro z; cases z))))]; exact e1
    · obtain ⟨o, e1, e2⟩ := b.vol p hp'
      exact ⟨o, by show H' p = _; rw [hH p (nW p o e1 (.inr (.inl hp')))]; exact e1, e2⟩
    · have e1 := b.g p o e
      show H' p = _
      rw [hH p (nW p o e1 (.inl (by rw [e]; intro z; cases z)))]; exact e1
    · obtain ⟨h1, ps, h2, h3⟩ := b.tab P q e
      exact ⟨h1, ps, (hH P (nW P _ h2 (.inr (.inl h1)))).trans h2, h3⟩
  refine ⟨hb, by rw [List.length_set]; exact w.len, fun j e hj => ?_, ?_⟩
  · by_cases e' : i = j
    · subst e'
      rw [List.getElem?_set_self (by rw [← w.len]; exact w.lt h)] at hj
      cases hj
      exact ⟨_, h1, hl, h2, fun q hq => ⟨(hp q hq).1, (hp q hq).2.1, (hp q hq).2.2.1, hn q hq⟩, by rw [← lv ℓ hl]; exact r⟩
    · rw [List.getElem?_set_ne e'] at hj
      obtain ⟨y, y1, y2⟩ := w.ent j e hj
      refine ⟨y, y1, ?_⟩
      cases e with
      | no => trivial
      | val ℓ' R' a => exact ⟨y2.1, by rw [← lv ℓ' y2.1]; exact y2.2⟩
      | own q ℓ' R' l' =>
        obtain ⟨z1, z2, z3, z4, z5, ys, z6, z7⟩ := y2
        have ne : q ∉ ps := fun z => w.dis i j q q e' (.ob h z) (.own hj) rfl
        exact ⟨z1, z2, z3, z4, z5, ys, by show H' q = _; rw [hH q ne]; exact z6, by rw [← lv ℓ' z1]; exact z7⟩
      | vol q => exact y2
      | raw v => exact y2
      | ob v ps' ℓ' S' a' =>
        obtain ⟨z1, z2, z3, z4⟩ := y2
        have ne : ∀ q ∈ ps', q ∉ ps := fun q m z => w.dis i j q q e' (.ob h z) (.ob hj m) rfl
        refine ⟨z1, z2, fun q m => ?_, S'.mono (fun q o e => by rw [← lv ℓ' z1]; exact e) (fun q m => hH q (ne q m)) z4⟩
        obtain ⟨k1, k2, k3, k4⟩ := z3 q m
        exact ⟨k1, k2, k3, by show H' q ≠ none; rw [hH q (ne q m)]; exact k4⟩
  · have key : ∀ (j : Nat) (q : Addr), adAt (Γ.set i (.ob v ps ℓ S a')) j q → adAt Γ j q := fun j q ⟨u, hu, hm⟩ => by
      by_cases e : i = j
      · subst e
        rw [List.getElem?_set_self (by rw [← w.len]; exact w.lt h)] at hu
        cases hu
        exact ⟨_, h, hm⟩
      · rw [List.getElem?_set_ne e] at hu
        exact ⟨u, hu, hm⟩
    exact fun a b q q' hab hq hq' => w.dis a b q q' hab (key a q hq) (key b q' hq')
section
variable {C : Cn} {Γ : List Ent} {κ α β γ : Type} [DecidableEq κ] {k : DK κ} {R : Rl α} {P : α → Prop} {te ta tb td ty tv : TE} {ℓ ℓ' c : Lv} {D : Ends} {u : TS} {l : List (κ × α)}
theorem ob_lit {σ : Sg} {W : Wd} (w : World C σ W Γ) {i : Nat} {v : V} {ps : List Addr} {S : Ob β} {a : β} (h : Γ[i]? = some (.ob v ps ℓ S a)) : σ[i]? = some (some v) ∧ ℓ ≠ .h ∧ (∀ p ∈ ps, p ∉ W.vs ∧ C.H0 p = none ∧ W.G p = none ∧ W.H p ≠ none) ∧ S.is (wl C W ℓ) W.H v ps a := by
  obtain ⟨x, h1, hl, h2, hp, r⟩ := w.get h
  subst h2
  exact ⟨h1, hl, hp, r⟩
theorem EvD.fl (f : Flat R) (h : EvD C te Γ c ℓ k R l) : EvD C te Γ c ℓ' k R l := fun σ W w Q q => h σ W w Q fun p W' xs s b e r => q p W' xs s b e (r.imp fun _ _ => f _ _ _ _)
theorem EvD.toh (h : EvD C te Γ c ℓ k R l) : EvD C te Γ .h .h k R l := fun σ W w Q q => h σ W w Q fun p W' xs s b e r => q p W' xs s b (b.up c _ _ e) (r.imp fun _ _ => R.mono (b.up ℓ))
def dgetV [Inhabited α] (l : List (κ × α)) (j : κ) : α := (dget l j).getD default
end
end GL


set_option Elab.async false
set_option linter.all false
set_option maxRecDepth 100000
set_option maxHeartbeats 1000000
/-! ### tuples that are known to have no dict; tuple.index -/
namespace L2
open PySem PySem.Spec PyProof.Rows
section
variable {X : Cx}
def rIndexTI (K : PySem.W.Frag) : V → List V → Hp → VK → Prop := fun x xs H Q => ∃ (p : Addr) (ys : List Int) (z : Int) (j : Nat), x = .ref p ∧ xs = [.int z] ∧ SqT K H p (ys.map V.int) ∧ ys[j]? = some z ∧ (∀ m, m < j → ys[m]? ≠ some z) ∧ Q (.int (j : Nat)) H
/-- a tuple, as the object that it is -/
def FrzT (H : Hp) (p : Addr) (xs : List V) : Prop := ∃ o : Obj, o.dict = none ∧ H p = some (.frz o (.tup xs))
def tBMN (r : V → List V → Hp → VK → Prop) (to : TE) (t : TA) : TE := fun σ H Q => to σ H fun x H1 => (∃ p xs, x = .ref p ∧ FrzT H1 p xs) ∧ t σ H1 fun vs H2 => r x vs H2 Q
variable {o e : Expr} {es : List Expr} {to : TE} {t : TA} {name : Str} {apos cpos : Pos} {id : String} {r : V → List V → Hp → VK → Prop}
def rTupOfN (K : PySem.W.Frag) : List V → Hp → VK → Prop := fun xs H Q => ∃ p ys, xs = [.ref p] ∧ SqL K H p ys ∧ ∀ (l : Addr) (o : Obj), H l = none → o.dict = none → Q (.ref l) (upd H l (.frz o (.tup ys)))
end
end L2
namespace GL
open PySem L2
section
variable {C : Cn} {Γ : List Ent} {α : Type} {R : Rl α} {ta tb te : TE} {ℓ ℓ' c : Lv} {K : PySem.W.Frag} {P : List α → Prop}
def rTupN {α : Type} (R : Rl α) : Rl (List α) := ⟨fun H v l => ∃ p xs, v = .ref p ∧ FrzT H p xs ∧ All2 (R.is H) xs l,
  fun s ⟨p, xs, e, ⟨o, d, h⟩, t⟩ => ⟨p, xs, e, ⟨o, d, s _ _ h⟩, t.imp fun _ _ => R.mono s⟩⟩
theorem idx_first {l : List Int} {x : Int} (hx : x ∈ l) : l[l.idxOf x]? = some x ∧ ∀ m, m < l.idxOf x → l[m]? ≠ some x := by
  have ex := List.idxOf_lt_length_of_mem hx
  refine ⟨by rw [List.getElem?_eq_getElem ex, List.getElem_idxOf ex], fun m hmj hy => ?_⟩
  have hml : m < l.length := (List.getElem?_eq_some_iff.mp hy).1
  have := List.not_of_lt_findIdx (p := (· == x)) (xs := l) hmj
  rw [List.getElem?_eq_getElem hml] at hy
  have hy' := Option.some.inj hy
  rw [hy'] at this
  simp at this
end
end GL


set_option Elab.async false
set_option linter.all false
set_option maxRecDepth 100000
set_option maxHeartbeats 1000000
/-! ### order of tuples of ints; list.index of data -/
namespace GL
open PySem L2
/-- order of rows -/
def lexB : List Int → List Int → Bool
  | [], [] => false
  | [], _ :: _ => true
  | _ :: _, [] => false
  | a :: l, b :: m => decide (a < b) || (decide (a = b) && lexB l m)
section
variable {C : Cn} {Γ : List Ent} {ta tb tc : TE} {ℓ ℓ' ℓ1 ℓ2 c : Lv} {K : PySem.W.Frag} {α : Type} {R : Rl α}
end
end GL
namespace GL
open PySem L2
end GL


set_option Elab.async false
set_option linter.all false
set_option maxRecDepth 100000
set_option maxHeartbeats 1000000
/-! ### one tuple of ints above another -/
namespace HT
open PySem PySem.Spec PyProof.Rows
def gtB : List Int → List Int → Bool
  | [], [] => false
  | [], _ :: _ => false
  | _ :: _, [] => true
  | x :: xs, y :: ys => if x = y then gtB xs ys else decide (x > y)
section
open PySem.SeqAt
open PySem.AutoSeq1 (wpAny_loadPart')
open PySem.MeetsSeq PySem.MeetsSeq2 PySem.MeetsSeq3
end
section
variable {prog : Program} {w : World} {A : Around} {E : Value → Shared → Prop} {s : Shared}
end
end HT
namespace L2
open PySem PySem.Spec PyProof.Rows
def rGtT (K : PySem.W.Frag) : R2 := fun x y H Q => ∃ a b ns ms, x = .ref a ∧ y = .ref b ∧ SqT K H a (ns.map V.int) ∧ SqT K H b (ms.map V.int) ∧ Q (.bl (HT.gtB ns ms)) H
end L2
namespace GL
open PySem L2
end GL


set_option Elab.async false
set_option linter.all false
set_option maxRecDepth 100000
set_option maxHeartbeats 1000000
/-! ### one of two kinds; tuple(range(..)) without dict -/
namespace L2
open PySem PySem.Spec PyProof.Rows
section
variable {X : Cx} {e : Expr} {te : St → Hp → (Int → Int → Hp → Prop) → Prop} {pos : Pos}
def tTupRgN (te : St → Hp → (Int → Int → Hp → Prop) → Prop) : TE := fun σ H Q => te σ H fun a b H1 => RgOk a b ∧ ∀ q (o : Obj), H1 q = none → o.dict = none → Q (.ref q) (upd H1 q (.frz o (.tup (rgV a b))))
end
end L2
namespace GL
open PySem L2
section
variable {C : Cn} {Γ : List Ent} {α β : Type} {R : Rl α} {S : Rl β} {te ta tb : TE} {ℓ : Lv} {P : α → Prop} {Pb : β → Prop}
def altL {α : Type} : Sum (List α) (List α) → List α := Sum.elim id id
variable {K : PySem.W.Frag}
end
end GL
namespace GL
open PySem L2
section
variable {C : Cn} {Γ : List Ent} {β : Type} {S : Rl β} {te ta : TE} {ℓ' : Lv}
/-- [.. for x in range(n)], n not told exactly -/
theorem en_lcR {j : Nat} {Pi : Int → Prop} {Pe : Int → β → Prop} (ha : EvP C ta Γ .h rInt Pi) (hz : ∀ n, Pi n → -(2 ^ 62) ≤ n ∧ n ≤ 1000000) (he : ∀ n a, Pi n → a ∈ rg 0 n → EvP C te ((wipeG Γ [j]).set j (.val .g rInt a)) ℓ' S (fun b => Pe a b)) (hlv : ℓ' ≠ .h := by decide) :
    EvN C (tLc (iRng1 (tCons ta tNil)) (gName j) tYes te [j]) Γ ℓ' S (fun z => ∃ n, Pi n ∧ z.length = (rg 0 n).length ∧ ∀ (i : Nat) b, z[i]? = some b → ∃ a, (rg 0 n)[i]? = some a ∧ Pe a b) :=
  (en_lc (ℓ := .g) (p := fun _ => true) (Pe := Pe) (ei_rg1 ha (fun n h => ⟨(hz n h).1, by have := (hz n h).2; omega⟩)) (fun l ⟨n, hn, e⟩ => by subst e; have := (hz n hn).2; rw [rg_len]; omega) (fun _ _ _ _ => eb_yes) (fun l a ⟨n, hn, e⟩ m _ => by subst e; exact he n a hn m) (by decide) hlv).imp fun z ⟨l, ⟨n, hn, e⟩, h⟩ => by
    subst e
    rw [List.filter_eq_self.mpr (fun _ _ => rfl)] at h
    exact ⟨n, hn, h.at⟩
end
end GL
namespace GL
open PySem L2
section
variable {C : Cn} {Γ : List Ent}
end
end GL
namespace GL
end GL


set_option Elab.async false
set_option linter.all false
set_option maxRecDepth 100000
set_option maxHeartbeats 2000000
/-! ### the greatest of a list of pairs of ints -/
namespace L2
open PySem PySem.Spec PyProof.Rows PySem.SeqAt
open PySem.W (AlikeAll maxD max_list_data dataLt readsAll_at)
def rMaxA (K : PySem.W.Frag) : List V → Hp → VK → Prop := fun xs H Q => ∃ (p : Addr) (vs : List V) (d : PyData) (ds : List PyData), xs = [.ref p] ∧ SqL K H p vs ∧ DpAll K H vs (d :: ds) ∧ AlikeAll (d :: ds) ∧ PyData.depthAll (d :: ds) ≤ 60 ∧ ∀ (i : Nat) (v : V), vs[i]? = some v → (d :: ds)[i]? = some (maxD d ds) → Q v H
section
variable {X : Cx}
end
end L2

namespace GL
open PySem L2
open PySem.W (AlikeAll maxD dataLt alike alikeAll keyToks keyToksAll)
/-- one pair below another -/
def ltP (a b : Int × Int) : Bool := decide (a.1 < b.1) || (decide (a.1 = b.1) && decide (a.2 < b.2))
def encP (a : Int × Int) : PyData := .tuple [.int a.1, .int a.2]
def bestP (a : Int × Int) (l : List (Int × Int)) : Int × Int := l.foldl (fun a y => if ltP a y then y else a) a
section
variable {C : Cn} {Γ : List Ent} {ta : TA} {tb te : TE} {c ℓ : Lv} {K : PySem.W.Frag}
end
end GL


set_option Elab.async false
set_option linter.all false
set_option maxRecDepth 100000
set_option maxHeartbeats 1000000
/-! ### results that are a triple or a pair with a text ahead; a triple from its second on -/
namespace GL
open PySem L2
section
variable {C : Cn} {Γ : List Ent} {α β γ δ : Type} {R : Rl α} {S : Rl β} {T : Rl γ} {U : Rl δ} {te : TE} {ℓ : Lv} {K : PySem.W.Frag}
def alt0 {α β γ δ : Type} : Sum (α × β × γ) (α × δ) → α
  | .inl a => a.1
  | .inr a => a.1
def altA {α β : Type} [Inhabited α] : Sum α β → α
  | .inl a => a
  | .inr _ => default
def altB {α β : Type} [Inhabited β] : Sum α β → β
  | .inl _ => default
  | .inr a => a
/-- the greatest of a list of pairs -/
def bestL : List (Int × Int) → Int × Int
  | [] => (0, 0)
  | a :: l => bestP a l
end
end GL


set_option Elab.async false
set_option linter.all false
set_option maxRecDepth 100000
set_option maxHeartbeats 2000000
/-! ### zip of three, each a list or a tuple -/
namespace ZM
open PySem PySem.Calls PyProof.Rows PySem.Spec
theorem Sb.at_ : ∀ {k : Bool} {h h' : Heap} {l xs}, Sb k h l xs → (∀ o, h.get? l = some o → h'.get? l = some o) → Sb k h' l xs
  | false, _, _, _, _, x, e => Heap.IsList.at x e
  | true, _, _, _, _, x, e => Heap.IsTuple.at x e
section
variable {prog : Program} {w : World} {A : Around} {E : Value → Shared → Prop} {s : Shared}
variable {p q r : Bool} {z TI TO i1 i2 i3 l1 l2 l3 : Addr} {i : Nat} {xs ys zs : Array Value} {a1 a2 a3 : Value}
end
end ZM
namespace L2
open PySem ZM PyProof.Rows
def ItM3 (K : PySem.W.Frag) (p q r : Bool) (a b c : Addr) : It :=
  ⟨fun i H => ∃ (xs ys zs : List V), SqB K p H a xs ∧ SqB K q H b ys ∧ SqB K r H c zs ∧ i < xs.length ∧ i < ys.length ∧ i < zs.length,
    fun i H v H' => ∃ T x y z, v = .ref T ∧ H T = none ∧ H' = upd H T (.tup [x, y, z]) ∧ (∀ xs, SqB K p H a xs → xs[i]? = some x) ∧ (∀ ys, SqB K q H b ys → ys[i]? = some y) ∧ ∀ zs, SqB K r H c zs → zs[i]? = some z,
    fun i H => ∃ xs ys zs : List V, SqB K p H a xs ∧ SqB K q H b ys ∧ SqB K r H c zs ∧ i ≤ xs.length ∧ i ≤ ys.length ∧ i ≤ zs.length ∧ (i = xs.length ∨ i = ys.length ∨ i = zs.length)⟩
end L2
namespace L2
open PySem ZM PyProof.Rows
def iZip3 (K : PySem.W.Frag) (ta : TA) : TI := fun σ H R => ta σ H fun vs H1 => ∃ (p q r : Bool) (a b c : Addr) (xs ys zs : List V), vs = [.ref a, .ref b, .ref c] ∧ SqB K p H1 a xs ∧ SqB K q H1 b ys ∧ SqB K r H1 c zs ∧ R (ItM3 K p q r a b c) H1
end L2
namespace GL
open PySem L2 ZM
section
variable {C : Cn} {Γ : List Ent} {α β γ : Type} {R : Rl α} {S : Rl β} {T : Rl γ} {ta tb tc te : TE} {ℓ ℓ' c c' c'' : Lv} {K : PySem.W.Frag}
end
end GL
namespace GL
open PySem L2
section
variable {C : Cn} {Γ : List Ent} {α : Type} {R : Rl α} {te : TE} {ℓ : Lv}
end
end GL


set_option Elab.async false
set_option linter.all false
set_option maxRecDepth 100000
set_option maxHeartbeats 2000000
/-! ### for x in zip(a list, a list), one name -/
namespace ZM
open PySem PySem.Calls PyProof.Rows PySem.Spec
def HE (h : Heap) (z TI TO : Addr) (b : Bool) : Prop := h.get? z = some { cls := .type "zip", dict := none, data := .fields #[.ellipsis, .bool b, .bool false, .ref TI, .ref TO], slots := #[] }
section
variable {prog : Program} {w : World} {A : Around} {E : Value → Shared → Prop} {s : Shared}
def NS (h : Heap) (z TI TO i1 i2 a b : Addr) (i : Nat) : Prop :=
  IsPair h TI (.ref i1) (.ref i2) ∧ h.IsListIter i1 a i ∧ h.IsListIter i2 b i ∧ (∃ x y, IsPair h TO x y) ∧ (IsZip h z TI TO .none ∨ ∃ T bb, ZL.Held h z TI TO T bb)
end
end ZM
namespace L2
open PySem ZM PyProof.Rows
end L2


set_option Elab.async false
set_option linter.all false
set_option maxRecDepth 100000
set_option maxHeartbeats 2000000
/-! ### sorted(range(n), key=lambda x: ..) -/
namespace LamS
open PySem PySem.Spec PyProof.Rows L2 NdefX LamX
section
variable {X : Cx} {pins : List (Addr × Obj)} {σ : L2.St} {H : Hp} {s : Shared}
end
/-! sorting by keys that a function tells, in a running def -/
def IV (v : Value) (i : Int) : Prop := ∃ t, v = .int i t
section
variable {X : Cx} {pins : List (Addr × Obj)} {σ : L2.St} {H : Hp} {s : Shared}
def KeyQ (P : Addr) (q : Str) (N : List Str) (js : List Nat) (tb : TE) (σ : L2.St) (Q : VK) (n : Int) (H1 : Hp) : Prop :=
  0 ≤ n ∧ n ≤ 1000000 ∧ ∃ (κ : Int → Int) (Kn : Hp) (ps : Array Value), H1 P = some (.tbl ps) ∧ GL.Cods q Kn ps ∧ Same Kn H1 ∧
    ∀ H2 : Hp, (∀ b o, b ≠ P → H1 b = some o → H2 b = some o) → (∀ b, H2 b = none → H1 b = none) → (∃ ps', H2 P = some (.tbl ps') ∧ GL.Cods q (GL.jn Kn (GL.fresh H1 H2)) ps') → (∀ b o, GL.fresh H1 H2 b = some o → o = CodeO b q) →
      (∀ (H3 : Hp) (i : Int), Same H2 H3 → 0 ≤ i → i < n → tb (startF N [.int i] (js.map (slotAt σ))) H3 (fun v H4 => v = .int (κ i) ∧ Same H3 H4)) ∧
      (∀ (H3 : Hp) (l : Addr), Same H2 H3 → H3 l = none → Q (.ref l) (upd H3 l (.lst (((GL.rg 0 n).mergeSort fun x y => decide (κ x ≤ κ y)).map V.int))))
def tSortLam (P : Addr) (q : Str) (N : List Str) (js : List Nat) (te tb : TE) : TE := fun σ H Q => te σ H fun x H1 => ∃ n, x = V.int n ∧ KeyQ P q N js tb σ Q n H1
end
section
variable {X : Cx}
end
end LamS


set_option Elab.async false
set_option linter.all false
set_option maxRecDepth 100000
set_option maxHeartbeats 1000000
/-! ### defs that make a lambda: a table of code objects that grows -/
namespace GL
open PySem L2
/-- the code objects of what is new -/
noncomputable def codP (T : Tbs) (F : Hp) : Hp := open Classical in fun p => if ∃ x ∈ T.l, F p = some (LamX.CodeO p x.2) then F p else none
noncomputable def frC (T : Tbs) (F : Hp) : Hp := open Classical in fun p => if ∃ x ∈ T.l, F p = some (LamX.CodeO p x.2) then none else F p
/-- such data stand without code objects -/
def NoC {α : Type} (R : Rl α) : Prop := ∀ (T : Tbs) (H : Hp) v a, R.is H v a → R.is (frC T H) v a
theorem frC_keep {T : Tbs} {F : Hp} {p : Addr} {o : HO} (h : F p = some o) (n : ∀ φ, o ≠ .ext φ) : frC T F p = some o := by
  unfold frC
  rw [if_neg (fun ⟨x, _, z⟩ => by rw [h] at z; exact n _ (Option.some.inj z))]
  exact h
theorem frC_rd {T : Tbs} {F : Hp} {p : Addr} {xs : List V} (h : Rd F p (.tup xs)) : Rd (frC T F) p (.tup xs) := by
  rcases h with h | ⟨o, h⟩
  · exact .inl (frC_keep h (fun φ z => nomatch z))
  · exact .inr ⟨o, frC_keep h (fun φ z => nomatch z)⟩
section
variable {α β γ : Type} {R : Rl α} {S : Rl β} {U : Rl γ}
end
section
variable {α : Type} {R : Rl α}
end
/-! promises -/
/-- the tables as they stand -/
def TabsAt (T : Tbs) (Kn H : Hp) : Prop := ∀ x ∈ T.l, ∃ ps, H x.1 = some (.tbl ps) ∧ Cods x.2 Kn ps
/-- n rows that it changes ahead, keeping PI; the tables of code objects may grow -/
def spT {α β : Type} (n : Nat) (T : Tbs) (PI : HO → Prop) (A : Args α) (pre : α → Prop) (R : Rl β) (post : α → β → Prop) (exc : α → Addr → Prop) : Sp := fun vs H Q E =>
  ∃ (ks : List Addr) (r : List V) (a : α) (Kn : Hp), vs = ks.map V.ref ++ r ∧ ks.length = n ∧ (∀ p ∈ ks, p ∉ T.ads ∧ ∃ o, H p = some o ∧ PI o) ∧ Same Kn (hid H (ks ++ T.ads)) ∧ TabsAt T Kn H ∧ A r (hid H (ks ++ T.ads)) a ∧ pre a ∧
    (∀ v H' b, Same (hid H (ks ++ T.ads)) (hid H' (ks ++ T.ads)) → (∀ p ∈ ks, ∃ o', H' p = some o' ∧ PI o') → TabsAt T (jn Kn (fresh H H')) H' → R.is (frC T (fresh H H')) v b → post a b → Q v H') ∧
    (∀ c H', Same (hid H (ks ++ T.ads)) (hid H' (ks ++ T.ads)) → (∀ p ∈ ks, ∃ o', H' p = some o' ∧ PI o') → TabsAt T (jn Kn (fresh H H')) H' → exc a c → E (.ref c) none H')
def CnT (H : Hp) (ks : List Addr) (T : Tbs) (PI : HO → Prop) (Kn : Hp) : Cn := ⟨H, ks ++ T.ads, PI, fun _ => none, T, Kn⟩
section
variable {C : Cn} {Γ : List Ent} {α β γ δ : Type} {R : Rl β} {T : Tbs} {ks : List Addr} {P : Addr} {q : Str}
/-- what is handed in, one by one -/
def EvAr (C : Cn) (ta : TA) (Γ : List Ent) {α : Type} (A : Args α) (P : α → Prop) : Prop :=
  ∀ σ W, World C σ W Γ → ∀ Q : List V → Hp → Prop, (∀ vs W' a, Stp W W' → Bok C W' → A vs (Hm W') a → P a → Q vs W'.H) → ta σ W.H Q
/-- what is known of it lasts -/
def AMonoH {α : Type} (A : Args α) : Prop := ∀ vs H H' a, Same H H' → A vs H a → A vs H' a
end
end GL
namespace L2
open PySem PySem.Spec PyProof.Rows
end L2
namespace LamX
open PySem PySem.Spec PyProof.Rows L2
/-- the code object of the def x, its table, empty at the head -/
def TabAt (K : PySem.W.Frag) (x : Str) (h : Heap) : Prop := ∀ c P : Addr, PySem.W.tabIn K x = some (c, P) → PySem.W.CodeHd h c P ∧ h.get? P = some { cls := .none, data := .fields #[] }
end LamX


set_option Elab.async false
set_option linter.all false
set_option maxRecDepth 100000
set_option maxHeartbeats 2000000
/-! ### the greatest of a list of triples of ints -/
namespace GL
open PySem L2
open PySem.W (AlikeAll maxD dataLt alike alikeAll keyToks keyToksAll)
abbrev I3 := Int × Int × Int
def ltT (a b : I3) : Bool := decide (a.1 < b.1) || (decide (a.1 = b.1) && ltP a.2 b.2)
def encT (a : I3) : PyData := .tuple [.int a.1, .int a.2.1, .int a.2.2]
def bestT (a : I3) (l : List I3) : I3 := l.foldl (fun a y => if ltT a y then y else a) a
section
variable {C : Cn} {Γ : List Ent} {ta : TA} {tb te : TE} {c ℓ : Lv} {K : PySem.W.Frag}
def bestL3 : List I3 → I3
  | [] => (0, 0, 0)
  | a :: l => bestT a l
end
end GL


set_option Elab.async false
set_option linter.all false
set_option maxRecDepth 100000
set_option maxHeartbeats 2000000
/-! ### defs whose answer may hold what they were handed (what never changes) -/
namespace GL
open PySem L2
/-- H without A -/
noncomputable def wo (H A : Hp) : Hp := open Classical in fun p => if A p = none then H p else none
def W0G (H B : Hp) (vs : List Addr) : Wd := ⟨H, B, vs⟩
section
variable {C : Cn} {Γ : List Ent} {α : Type} {R : Rl α} {te : TE} {k : Kd} {c ℓ : Lv}
end
end GL


set_option Elab.async false
set_option linter.all false
set_option maxRecDepth 100000
set_option maxHeartbeats 2000000
/-! ### an answer of which no more is told than that it is a bool or a tuple -/
namespace GL
open PySem L2
def rThing : Rl Unit := ⟨fun H v _ => (∃ b, v = .bl b) ∨ ∃ p xs, v = .ref p ∧ Rd H p (.tup xs), fun s h => h.elim .inl fun ⟨p, xs, e, h⟩ => .inr ⟨p, xs, e, rd_mono s h⟩⟩
section
variable {C : Cn} {Γ : List Ent} {α β γ δ ε : Type} {R : Rl α} {S : Rl β} {T : Rl γ} {U : Rl δ} {V_ : Rl ε} {te : TE} {ℓ : Lv} {K : PySem.W.Frag}
end
end GL
namespace L2
/-- isinstance of an exception or of anything else -/
def rIsXI (K : PySem.W.Frag) : List V → Hp → VK → Prop := fun xs H Q => rIsX K xs H Q ∨ rIsi K xs H Q
end L2
namespace GL
open PySem L2
section
variable {C : Cn} {Γ : List Ent} {te : TE} {ℓ ℓ' : Lv} {K : PySem.W.Frag}
def exB {α : Type} : Sum Addr α → Bool
  | .inl _ => true
  | .inr _ => false
end
end GL


set_option Elab.async false
set_option linter.all false
set_option maxRecDepth 100000
set_option maxHeartbeats 1000000
/-! ### d.get(k, x); all that a dict holds, key by key -/
namespace GL
open PySem L2
section
variable {C : Cn} {Γ : List Ent} {κ α β γ : Type} [DecidableEq κ] {k : DK κ} {R : Rl α} {P : α → Prop} {te ta tb tc td ty tv tx : TE} {ℓ ℓ' c : Lv} {D : Ends} {u : TS} {l : List (κ × α)}
def DK.isD (k : DK κ) : Prop := ∀ (H : Hp) a kvs, H a = some (k.ho kvs) → IsD H a
end
end GL


set_option Elab.async false
set_option linter.all false
set_option maxRecDepth 100000
set_option maxHeartbeats 1000000
/-! ### a call's answer, a list of lists, that is changed row by row -/
namespace GL
open PySem L2
def butS (H : Hp) (ps : List Addr) : Hp := fun q => if q ∈ ps then none else H q
/-- a row's item is no list -/
def NotL {α : Type} (R : Rl α) : Prop := ∀ H p xs a, H p = some (.lst xs) → ¬ R.is H (.ref p) a
/-- exact, rows may be one object -/
def obRows {α : Type} (R : Rl α) : Ob (List (List α)) := ⟨fun K A v ps a => ∃ p qs, v = .ref p ∧ ps = p :: qs ∧ p ∉ qs ∧ A p = some (.lst (qs.map V.ref)) ∧ All2 (fun v l => ∃ q xs, v = .ref q ∧ q ∈ ps ∧ A q = some (.lst xs) ∧ All2 (R.is K) xs l) (qs.map V.ref) a,
  fun {K K' A A' v ps a} s h ⟨p, qs, e, e2, e3, e4, t⟩ => ⟨p, qs, e, e2, e3, by rw [h p (by rw [e2]; exact List.mem_cons_self)]; exact e4, t.imp fun v l ⟨q, xs, z1, z2, z3, z4⟩ => ⟨q, xs, z1, z2, by rw [h q z2]; exact z3, z4.imp fun _ _ => R.mono s⟩⟩⟩
/-- some lists, of which some are not looked at -/
def obLoose {α : Type} (R : Rl α) (B : Nat) : Ob (Addr × List Addr × List Addr) := ⟨fun K A v ps a => v = .ref a.1 ∧ ps = a.1 :: a.2.1.filter (fun q => decide (q ∉ a.2.2)) ∧ a.1 ∉ a.2.1 ∧ A a.1 = some (.lst (a.2.1.map V.ref)) ∧ ∀ q ∈ a.2.1, q ∉ a.2.2 → ∃ xs l, A q = some (.lst xs) ∧ All2 (R.is K) xs l ∧ l.length ≤ B,
  fun {K K' A A' v ps a} s h ⟨e, e2, e3, e4, t⟩ => ⟨e, e2, e3, by rw [h a.1 (by rw [e2]; exact List.mem_cons_self)]; exact e4, fun q hq hn => by
    obtain ⟨xs, l, z1, z2, z3⟩ := t q hq hn
    exact ⟨xs, l, by rw [h q (by rw [e2]; exact List.mem_cons_of_mem _ (List.mem_filter.mpr ⟨hq, decide_eq_true hn⟩))]; exact z1, z2.imp fun _ _ => R.mono s, z3⟩⟩⟩
def obAny : Ob HO := ⟨fun K A v ps o => ∃ p, v = .ref p ∧ ps = [p] ∧ A p = some o, fun {K K' A A' v ps o} s h ⟨p, e, e2, e3⟩ => ⟨p, e, e2, by rw [h p (by rw [e2]; exact List.mem_singleton.mpr rfl)]; exact e3⟩⟩
section
variable {C : Cn} {Γ : List Ent} {α β γ : Type} {R : Rl α} {P : α → Prop} {te ta tb tc td ty tv tx : TE} {ℓ ℓ' c : Lv} {K : PySem.W.Frag} {D : Ends} {t u : TS}
/-! in and not in, of data -/
end
end GL


set_option Elab.async false
set_option linter.all false
set_option maxRecDepth 100000
set_option maxHeartbeats 1000000
/-! ### a comprehension over such rows -/
namespace GL
open PySem L2
def rAt {α : Type} (ps : List Addr) (a : List α) : Rl (α × Addr) := ⟨fun _ v x => v = .ref x.2 ∧ ∃ n : Nat, ps.tail[n]? = some x.2 ∧ a[n]? = some x.1, fun _ h => h⟩
section
variable {C : Cn} {Γ : List Ent} {α β γ : Type} {R : Rl α} {S : Rl β} {P : α → Prop} {te ta tb tc td ty tv tx : TE} {ℓ ℓ' c : Lv} {K : PySem.W.Frag} {D : Ends} {t u : TS}
end
end GL


set_option Elab.async false
set_option linter.all false
set_option maxRecDepth 100000
set_option maxHeartbeats 1000000
/-! ### a list of lists of ours, each an object of its own -/
namespace GL
open PySem L2
section
variable {α : Type}
def Gr (R : Rl α) (K A : Hp) : List Addr → List (List α) → Prop
  | [], [] => True
  | q :: qs, l :: a => (∃ xs, A q = some (.lst xs) ∧ All2 (R.is K) xs l) ∧ Gr R K A qs a
  | _, _ => False
variable {R : Rl α} {K A : Hp}
theorem Gr.len : ∀ {qs : List Addr} {a : List (List α)}, Gr R K A qs a → qs.length = a.length
  | [], [], _ => rfl
  | _ :: _, _ :: _, ⟨_, t⟩ => by rw [List.length_cons, List.length_cons, Gr.len t]
theorem Gr.mono {K' A' : Hp} (s : Same K K') : ∀ {qs : List Addr} {a : List (List α)}, (∀ q ∈ qs, A' q = A q) → Gr R K A qs a → Gr R K' A' qs a
  | [], [], _, _ => trivial
  | q :: qs, _ :: _, h, ⟨⟨xs, e, t⟩, r⟩ => ⟨⟨xs, by rw [h q List.mem_cons_self]; exact e, t.imp fun _ _ => R.mono s⟩, Gr.mono s (fun z hz => h z (List.mem_cons_of_mem _ hz)) r⟩
theorem Gr.get : ∀ {qs : List Addr} {a : List (List α)} {n : Nat} {l : List α}, Gr R K A qs a → a[n]? = some l → ∃ q xs, qs[n]? = some q ∧ A q = some (.lst xs) ∧ All2 (R.is K) xs l
  | [], [], _, _, _, h => by simp at h
  | q :: qs, l0 :: a, 0, l, ⟨⟨xs, e, t⟩, r⟩, h => by
    have e1 : l0 = l := by simpa using h
    subst e1
    exact ⟨q, xs, rfl, e, t⟩
  | q :: qs, l0 :: a, n + 1, l, ⟨_, r⟩, h => by
    obtain ⟨q', xs, h1, h2, h3⟩ := Gr.get (n := n) (l := l) r (by simpa using h)
    exact ⟨q', xs, by simpa using h1, h2, h3⟩
theorem Gr.there : ∀ {qs : List Addr} {a : List (List α)}, Gr R K A qs a → ∀ q ∈ qs, A q ≠ none
  | [], [], _, q, hq => by cases hq
  | q0 :: qs, l0 :: a, ⟨⟨xs, e, t⟩, r⟩, q, hq => by
    rcases List.mem_cons.mp hq with z | z
    · rw [z, e]; intro z; cases z
    · exact Gr.there r q z
theorem Gr.put {xs' : List V} {l' : List α} (hx : All2 (R.is K) xs' l') : ∀ {qs : List Addr} {a : List (List α)} {n : Nat} {q : Addr}, qs.Nodup → Gr R K A qs a → qs[n]? = some q → Gr R K (upd A q (.lst xs')) qs (a.set n l')
  | [], [], _, _, _, _, h => by simp at h
  | q0 :: qs, l0 :: a, 0, q, hn, ⟨⟨xs, e, t⟩, r⟩, h => by
    have e1 : q0 = q := by simpa using h
    subst e1
    refine ⟨⟨xs', upd_same, hx⟩, r.mono (Same.refl _) fun z hz => upd_ne fun e => ?_⟩
    exact (List.nodup_cons.mp hn).1 (e ▸ hz)
  | q0 :: qs, l0 :: a, n + 1, q, hn, ⟨⟨xs, e, t⟩, r⟩, h => by
    have h' : qs[n]? = some q := by simpa using h
    have ne : q0 ≠ q := fun z => (List.nodup_cons.mp hn).1 (z ▸ List.mem_of_getElem? h')
    exact ⟨⟨xs, by rw [upd_ne ne]; exact e, t⟩, Gr.put hx (List.nodup_cons.mp hn).2 r h'⟩
theorem Gr.erase : ∀ {qs : List Addr} {a : List (List α)} (n : Nat), Gr R K A qs a → Gr R K A (qs.eraseIdx n) (a.eraseIdx n)
  | [], [], n, _ => by simp [Gr]
  | q :: qs, l :: a, 0, ⟨_, r⟩ => r
  | q :: qs, l :: a, n + 1, ⟨h, r⟩ => ⟨h, Gr.erase n r⟩
theorem Gr.app : ∀ {qs qs' : List Addr} {a a' : List (List α)}, Gr R K A qs a → Gr R K A qs' a' → Gr R K A (qs ++ qs') (a ++ a')
  | [], _, [], _, _, h => h
  | _ :: _, _, _ :: _, _, ⟨h, t⟩, r => ⟨h, Gr.app t r⟩
theorem Gr.take : ∀ {qs : List Addr} {a : List (List α)} (n : Nat), Gr R K A qs a → Gr R K A (qs.take n) (a.take n)
  | [], [], n, _ => by simp [Gr]
  | q :: qs, l :: a, 0, _ => trivial
  | q :: qs, l :: a, n + 1, ⟨h, r⟩ => ⟨h, Gr.take n r⟩
theorem Gr.drop : ∀ {qs : List Addr} {a : List (List α)} (n : Nat), Gr R K A qs a → Gr R K A (qs.drop n) (a.drop n)
  | [], [], n, _ => by simp [Gr]
  | q :: qs, l :: a, 0, h => h
  | q :: qs, l :: a, n + 1, ⟨_, r⟩ => Gr.drop n r
def obGrid (R : Rl α) : Ob (List (List α)) := ⟨fun K A v ps a => ∃ p qs, v = .ref p ∧ ps = p :: qs ∧ (p :: qs).Nodup ∧ A p = some (.lst (qs.map V.ref)) ∧ Gr R K A qs a,
  fun {K K' A A' v ps a} s h ⟨p, qs, e, e2, e3, e4, t⟩ => ⟨p, qs, e, e2, e3, by rw [h p (by rw [e2]; exact List.mem_cons_self)]; exact e4, t.mono s fun q hq => h q (by rw [e2]; exact List.mem_cons_of_mem _ hq)⟩⟩
end
section
variable {C : Cn} {Γ : List Ent} {α β γ : Type} {R : Rl α} {S : Rl β} {P : α → Prop} {te ta tb tc td ty tv tx t1 t2 : TE} {ℓ ℓ' c : Lv} {K : PySem.W.Frag} {D : Ends} {t u : TS} {p : Addr} {qs : List Addr} {a : List (List α)}
def obTop : Ob Unit := ⟨fun _ _ _ _ _ => True, fun _ _ _ => trivial⟩
end
end GL


set_option Elab.async false
set_option linter.all false
set_option maxRecDepth 100000
set_option maxHeartbeats 1000000
/-! ### objects with fields -/
namespace GL
open PySem L2
/-- the fields of an object, in their order -/
structure Shp (α : Type) where
  is : Hp → Hp → List (Str × V) → List Addr → α → Prop
  names : List Str
  mono : ∀ {K K' A A' : Hp} {fs : List (Str × V)} {ps : List Addr} {a : α}, Same K K' → (∀ p ∈ ps, A' p = A p) → is K A fs ps a → is K' A' fs ps a
  keys : ∀ {K A : Hp} {fs : List (Str × V)} {ps : List Addr} {a : α}, is K A fs ps a → fs.map (·.1) = names
def Shp.nil : Shp Unit := ⟨fun _ _ fs ps _ => fs = [] ∧ ps = [], [], fun _ _ h => h, fun h => by rw [h.1]; rfl⟩
def Shp.cons {α β : Type} (n : Str) (S : Ob α) (r : Shp β) : Shp (α × β) := ⟨fun K A fs ps a => ∃ v fs' p1 p2, fs = (n, v) :: fs' ∧ ps = p1 ++ p2 ∧ S.is K A v p1 a.1 ∧ r.is K A fs' p2 a.2, n :: r.names,
  fun {K K' A A' fs ps a} s k ⟨v, fs', p1, p2, e1, e2, h1, h2⟩ => ⟨v, fs', p1, p2, e1, e2, S.mono s (fun p hp => k p (by rw [e2]; exact List.mem_append_left _ hp)) h1, r.mono s (fun p hp => k p (by rw [e2]; exact List.mem_append_right _ hp)) h2⟩,
  fun {K A fs ps a} ⟨v, fs', p1, p2, e1, e2, h1, h2⟩ => by rw [e1]; exact congrArg (n :: ·) (r.keys h2)⟩
/-- an instance of the class at c, of ours -/
def obI (c : Addr) {α : Type} (sh : Shp α) : Ob α := ⟨fun K A v ps a => ∃ x dx fs qs, v = .ref x ∧ ps = x :: qs ∧ (x :: qs).Nodup ∧ A x = some (.ins c dx fs) ∧ sh.is K A fs qs a,
  fun {K K' A A' v ps a} s h ⟨x, dx, fs, qs, e, e2, e3, e4, t⟩ => ⟨x, dx, fs, qs, e, e2, e3, by rw [h x (by rw [e2]; exact List.mem_cons_self)]; exact e4, sh.mono s (fun q hq => h q (by rw [e2]; exact List.mem_cons_of_mem _ hq)) t⟩⟩
/-- a field with a value of what never changes | with a list of the object's own -/
def obV {α : Type} (R : Rl α) : Ob α := ⟨fun K _ v ps a => ps = [] ∧ R.is K v a, fun s _ ⟨e, h⟩ => ⟨e, R.mono s h⟩⟩
def obL {α : Type} (R : Rl α) : Ob (List α) := ⟨fun K A v ps l => ∃ q xs, v = .ref q ∧ ps = [q] ∧ A q = some (.lst xs) ∧ All2 (R.is K) xs l,
  fun s h ⟨q, xs, e1, e2, e3, t⟩ => ⟨q, xs, e1, e2, by rw [h q (by rw [e2]; exact List.mem_singleton.mpr rfl)]; exact e3, t.imp fun _ _ => R.mono s⟩⟩
/-- which field, and what a change of it does -/
structure Sel {α β : Type} (sh : Shp α) (n : Str) (S : Ob β) where
  get : α → β
  set : α → β → α
  ok : ∀ {K A : Hp} {fs : List (Str × V)} {ps : List Addr} {a : α}, sh.is K A fs ps a → ∃ v p1 p2 p3, fs.lookup n = some v ∧ ps = p1 ++ (p2 ++ p3) ∧ S.is K A v p2 (get a) ∧
    (∀ {K' A' : Hp} {v' : V} {q2 : List Addr} {b : β}, Same K K' → (∀ p, p ∈ p1 ∨ p ∈ p3 → A' p = A p) → S.is K' A' v' q2 b → sh.is K' A' (putF n v' fs) (p1 ++ (q2 ++ p3)) (set a b)) ∧
    (∀ {K' A' : Hp} {q2 : List Addr} {b : β}, Same K K' → (∀ p, p ∈ p1 ∨ p ∈ p3 → A' p = A p) → S.is K' A' v q2 b → sh.is K' A' fs (p1 ++ (q2 ++ p3)) (set a b))
def Sel.here {β γ : Type} {n : Str} {S : Ob β} {r : Shp γ} : Sel (Shp.cons n S r) n S := ⟨fun a => a.1, fun a b => (b, a.2), fun {K A fs ps a} ⟨v, fs', p1, p2, e1, e2, h1, h2⟩ => by
  subst e1 e2
  refine ⟨v, [], p1, p2, by rw [List.lookup_cons, beq_self_eq_true], rfl, h1, fun {K' A' v' q2 b} s k h => ?_, fun {K' A' q2 b} s k h => ?_⟩
  · rw [show putF n v' ((n, v) :: fs') = (n, v') :: fs' from if_pos rfl]
    exact ⟨v', fs', q2, p2, rfl, rfl, h, r.mono s (fun p hp => k p (.inr hp)) h2⟩
  · exact ⟨v, fs', q2, p2, rfl, rfl, h, r.mono s (fun p hp => k p (.inr hp)) h2⟩⟩
def Sel.next {β γ δ : Type} {n m : Str} {S : Ob β} {S' : Ob δ} {r : Shp γ} (t : Sel r n S) (ne : (n == m) = false) : Sel (Shp.cons m S' r) n S := ⟨fun a => t.get a.2, fun a b => (a.1, t.set a.2 b), fun {K A fs ps a} ⟨v, fs', p1, p2, e1, e2, h1, h2⟩ => by
  subst e1 e2
  obtain ⟨w, q1, q2, q3, g1, g2, g3, g4, g5⟩ := t.ok h2
  have ne' : m ≠ n := fun z => by rw [z, beq_self_eq_true] at ne; cases ne
  subst g2
  refine ⟨w, p1 ++ q1, q2, q3, by rw [List.lookup_cons, ne]; exact g1, by rw [List.append_assoc], g3, fun {K' A' v' z2 b} s k h => ?_, fun {K' A' z2 b} s k h => ?_⟩
  · rw [show putF n v' ((m, v) :: fs') = (m, v) :: putF n v' fs' from if_neg ne', List.append_assoc]
    exact ⟨v, _, p1, _, rfl, rfl, S'.mono s (fun p hp => k p (.inl (List.mem_append_left _ hp))) h1, g4 s (fun p hp => k p (hp.imp (List.mem_append_right _) id)) h⟩
  · rw [List.append_assoc]
    exact ⟨v, _, p1, _, rfl, rfl, S'.mono s (fun p hp => k p (.inl (List.mem_append_left _ hp))) h1, g5 s (fun p hp => k p (hp.imp (List.mem_append_right _) id)) h⟩⟩
/-- a field more -/
structure Snoc {α β γ : Type} (sh : Shp α) (n : Str) (S : Ob β) (sh' : Shp γ) where
  add : α → β → γ
  ok : ∀ {K A K' A' : Hp} {fs : List (Str × V)} {ps q2 : List Addr} {a : α} {b : β} {v' : V}, sh.is K A fs ps a → Same K K' → (∀ p ∈ ps, A' p = A p) → S.is K' A' v' q2 b → sh'.is K' A' (putF n v' fs) (ps ++ q2) (add a b)
def Snoc.end {β : Type} {n : Str} {S : Ob β} : Snoc Shp.nil n S (Shp.cons n S Shp.nil) := ⟨fun a b => (b, ()), fun {K A K' A' fs ps q2 a b v'} h s k r => by
  obtain ⟨e1, e2⟩ := h
  subst e1 e2
  exact ⟨v', [], q2, [], rfl, by rw [List.append_nil]; rfl, r, rfl, rfl⟩⟩
def Snoc.next {α β γ δ : Type} {n m : Str} {S : Ob β} {S' : Ob δ} {r : Shp α} {r' : Shp γ} (t : Snoc r n S r') (ne : (n == m) = false) : Snoc (Shp.cons m S' r) n S (Shp.cons m S' r') := ⟨fun a b => (a.1, t.add a.2 b), fun {K A K' A' fs ps q2 a b v'} h s k z => by
  obtain ⟨v, fs', p1, p2, e1, e2, h1, h2⟩ := h
  subst e1 e2
  have ne' : m ≠ n := fun z => by rw [z, beq_self_eq_true] at ne; cases ne
  rw [show putF n v' ((m, v) :: fs') = (m, v) :: putF n v' fs' from if_neg ne', List.append_assoc]
  exact ⟨v, _, p1, _, rfl, rfl, S'.mono s (fun p hp => k p (List.mem_append_left _ hp)) h1, t.ok h2 s (fun p hp => k p (List.mem_append_right _ hp)) z⟩⟩
/-- an object, read -/
def rObj {α : Type} (S : Ob α) : Rl α := ⟨fun H v a => ∃ ps, S.is H H v ps a ∧ ∀ p ∈ ps, H p ≠ none, fun {H H' v a} s ⟨ps, h, k⟩ => by
  have e : ∀ p ∈ ps, H' p = H p := fun p hp => by
    cases q : H p with
    | none => exact absurd q (k p hp)
    | some o => exact s _ _ q
  exact ⟨ps, S.mono s e h, fun p hp => by rw [e p hp]; exact k p hp⟩⟩
/-- how a field reads -/
def FldV {α β : Type} (S : Ob α) (R : Rl β) (f : α → β) : Prop := ∀ H v ps a, S.is H H v ps a → R.is H v (f a)
/-- what of the text a class with such fields must have -/
structure ClsF (K : PySem.W.Frag) (c : Addr) (ns : List Str) : Prop where
  cl : Cls K c
  na : ∀ n ∈ ns, NoAttr K c n
section
variable {C : Cn} {Γ : List Ent} {α β γ : Type} {R : Rl α} {S : Rl β} {P : α → Prop} {te ta tb tc td ty tv tx t1 t2 : TE} {ℓ ℓ' : Lv} {K : PySem.W.Frag} {D : Ends} {t u : TS} {c : Addr} {sh : Shp γ} {n : Str} {ns : List Str}
end
end GL


set_option Elab.async false
set_option linter.all false
set_option maxRecDepth 100000
set_option maxHeartbeats 1000000
/-! ### calls that change an object -/
namespace GL
open PySem L2
/-- arguments: what is handed in to be kept (it stands in B), to be read (in M), the object x, the volatile ones ks -/
abbrev AO (α : Type) := List V → Hp → Hp → List Addr → V → α → Prop
def oNil : AO Unit := fun vs _ _ ks _ _ => vs = [] ∧ ks = []
def oSelf {α : Type} (A : AO α) : AO α := fun vs B M ks x a => ∃ r, vs = x :: r ∧ A r B M ks x a
def oPool {α : Type} (A : AO α) : AO α := fun vs B M ks x a => ∃ p r ks', vs = .ref p :: r ∧ ks = p :: ks' ∧ A r B M ks' x a
def oB {α β : Type} (R : Rl α) (A : AO β) : AO (α × β) := fun vs B M ks x a => ∃ v r, vs = v :: r ∧ R.is B v a.1 ∧ A r B M ks x a.2
def oM {α β : Type} (R : Rl α) (A : AO β) : AO (α × β) := fun vs B M ks x a => ∃ v r, vs = v :: r ∧ R.is M v a.1 ∧ A r B M ks x a.2
/-- what such a call leaves -/
structure BackO (PI : HO → Prop) (H H' B G' : Hp) (ps ks ps' : List Addr) : Prop where
  keep : ∀ p o, H p = some o → p ∉ ps → p ∉ ks → H' p = some o
  pool : ∀ p ∈ ks, ∃ o, H' p = some o ∧ PI o
  known : Same B G'
  g : Same G' H'
  new : ∀ p o, G' p = some o → B p = some o ∨ H p = none ∨ p ∈ ps
  own : ∀ p ∈ ps', (H p = none ∨ p ∈ ps) ∧ G' p = none ∧ H' p ≠ none
def spO {α β σ σ' : Type} (PI : HO → Prop) (S : Ob σ) (A : AO α) (pre : σ → α → Prop) (S' : Ob σ') (R : Rl β) (post : σ → α → β → σ' → Prop) (exc : σ → α → Addr → Prop) : Sp := fun vs H Q E =>
  ∃ B M ps ks x st a, Same B H ∧ Same M H ∧ (∀ p ∈ ps, B p = none ∧ M p = none ∧ H p ≠ none ∧ p ∉ ks) ∧ (∀ p ∈ ks, B p = none ∧ M p = none ∧ ∃ o, H p = some o ∧ PI o) ∧ S.is B H x ps st ∧ A vs B M ks x a ∧ pre st a ∧
   (∀ v H' G' ps' b st', BackO PI H H' B G' ps ks ps' → S'.is G' H' x ps' st' → R.is G' v b → post st a b st' → Q v H') ∧
   (∀ c H' G' ps', BackO PI H H' B G' ps ks ps' → S.is G' H' x ps' st → exc st a c → E (.ref c) none H')
/-- the object of a def's own, as it ends -/
structure ObS {σ : Type} (C : Cn) (W : Wd) (S : Ob σ) (x : V) (ps : List Addr) (st : σ) : Prop where
  ad : ∀ p ∈ ps, p ∉ W.vs ∧ C.H0 p = none ∧ W.G p = none ∧ W.H p ≠ none
  is : S.is W.G W.H x ps st
def RetM (C : Cn) (D : Ends) {σ β : Type} (S : Ob σ) (x : V) (R : Rl β) (P : β → σ → Prop) : Prop := ∀ v W ps st b, Bok C W → ObS C W S x ps st → R.is W.G v b → P b st → D.rt v W.H
def ExcM (C : Cn) (E : XK) {σ : Type} (S : Ob σ) (x : V) (st : σ) (P : Addr → Prop) : Prop := ∀ c W ps, Bok C W → ObS C W S x ps st → P c → E (.ref c) none W.H
theorem ObS.ex {C C' : Cn} {W : Wd} {σ : Type} {S : Ob σ} {x : V} {ps : List Addr} {st : σ} (h : ObS C' W S x ps st) (e : Cex C C') : ObS C W S x ps st := ⟨fun p hp => by rw [← e.h0]; exact h.ad p hp, h.is⟩
theorem RetM.ex {C C' : Cn} {D : Ends} {σ β : Type} {S : Ob σ} {x : V} {R : Rl β} {P : β → σ → Prop} (h : RetM C D S x R P) (e : Cex C C') : RetM C' D S x R P := fun v W ps st b k o => h v W ps st b (k.down e) (o.ex e)
theorem ExcM.ex {C C' : Cn} {E : XK} {σ : Type} {S : Ob σ} {x : V} {st : σ} {P : Addr → Prop} (h : ExcM C E S x st P) (e : Cex C C') : ExcM C' E S x st P := fun c W ps k o => h c W ps (k.down e) (o.ex e)
theorem ObS.of {C : Cn} {σ : Sg} {W : Wd} {Γ : List Ent} (w : World C σ W Γ) {τ : Type} {S : Ob τ} {i : Nat} {x : V} {ps : List Addr} {st : τ} (h : Γ[i]? = some (.ob x ps .g S st)) : ObS C W S x ps st := by
  obtain ⟨_, _, hp, r⟩ := ob_lit w h
  exact ⟨hp, r⟩
/-! the callee -/
open Classical in
def floorO (H B : Hp) (ps : List Addr) : Hp := fun p => if p ∈ ps ∨ B p ≠ none then none else H p
def CnO (PI : HO → Prop) (H B : Hp) (ps ks : List Addr) : Cn := ⟨floorO H B ps, ks, PI, B, .nil, fun _ => none⟩
def WO (H B : Hp) (ks : List Addr) : Wd := ⟨H, B, ks⟩
/-- one entry with addresses alone -/
def oneAd (i : Nat) (Γ : List Ent) : Bool := noAd (Γ.set i .no)
/-! the caller -/
open Classical in
def newG (W : Wd) (G' : Hp) (ps : List Addr) : Hp := fun p => if W.H p = none ∨ p ∈ ps then G' p else none
theorem newG_some {W : Wd} {G' : Hp} {ps : List Addr} {p : Addr} {o : HO} (h : newG W G' ps p = some o) : (W.H p = none ∨ p ∈ ps) ∧ G' p = some o := by
  unfold newG at h
  by_cases z : W.H p = none ∨ p ∈ ps
  · rw [if_pos z] at h; exact ⟨z, h⟩
  · rw [if_neg z] at h; cases h
theorem newG_in {W : Wd} {G' : Hp} {ps : List Addr} {p : Addr} (h : W.H p = none ∨ p ∈ ps) : newG W G' ps p = G' p := by
  unfold newG; rw [if_pos h]
theorem newG_out {W : Wd} {G' : Hp} {ps : List Addr} {p : Addr} (h1 : W.H p ≠ none) (h2 : p ∉ ps) : newG W G' ps p = none := by
  unfold newG; rw [if_neg (by rintro (z | z); exact h1 z; exact h2 z)]
def Wd.back (W : Wd) (H' G' : Hp) (ps : List Addr) : Wd := ⟨H', jn W.G (newG W G' ps), W.vs⟩
section
variable {C : Cn} {W : Wd} {H' G' : Hp} {ps ks ps' : List Addr} {ℓ : Lv}
theorem back_ok (b : Bok C W) (hps : ∀ p ∈ ps, p ∉ W.vs ∧ C.H0 p = none ∧ W.G p = none ∧ W.H p ≠ none) (hks : ∀ k ∈ ks, k ∈ W.vs ∧ ¬ C.isT k) (k : BackO C.PI W.H H' (wl C W ℓ) G' ps ks ps') : Bok C (W.back H' G' ps) where
  base := fun p o e n => by
    refine k.keep p o (b.base p o e n) (fun z => ?_) fun z => ?_
    · rw [(hps p z).2.1] at e; cases e
    · have := b.vnew p (hks p z).1 n
      rw [e] at this; cases this
  vol := fun p hp => by
    by_cases z : p ∈ ks
    · obtain ⟨o, h1, h2⟩ := k.pool p z
      exact ⟨o, h1, fun _ => h2⟩
    · obtain ⟨o, h1, h2⟩ := b.vol p hp
      exact ⟨o, k.keep p o h1 (fun y => (hps p y).1 hp) z, h2⟩
  vsub := b.vsub
  vnew := b.vnew
  v0 := b.v0
  gv := fun p hp => by
    show jn W.G _ p = none
    rw [jn_r (b.gv p hp)]
    obtain ⟨o, h1, _⟩ := b.vol p hp
    exact newG_out (by rw [h1]; intro z; cases z) fun y => (hps p y).1 hp
  g := fun p o e => by
    rcases jn_some e with e | ⟨_, e⟩
    · refine k.keep p o (b.g p o e) (fun z => ?_) fun z => b.novs e (hks p z).1
      rw [(hps p z).2.2.1] at e; cases e
    · exact k.g p o (newG_some e).2
  gn := fun p o e => by
    rcases jn_some e with e | ⟨_, e⟩
    · exact b.gn p o e
    · rcases (newG_some e).1 with z | z
      · exact b.h0 z
      · exact (hps p z).2.1
  fl := b.fl.trans jn_l
  tab := fun P q e => by
    obtain ⟨h1, xs, h2, h3⟩ := b.tab P q e
    exact ⟨h1, xs, k.keep P _ h2 (fun z => (hps P z).1 h1) (fun z => (hks P z).2 ⟨q, e⟩), h3.mono (jn_mono jn_l)⟩
  knb := b.knb
theorem back_lv (b : Bok C W) (hks : ∀ k ∈ ks, k ∈ W.vs ∧ ¬ C.isT k) : ∀ ℓ : Lv, ℓ ≠ .h → Same (wl C W ℓ) (wl C (W.back H' G' ps) ℓ)
  | .g, _ => jn_l
  | .m, _ => fun p o h => by
    rcases jn_some h with h | ⟨n, h⟩
    · exact jn_l _ _ h
    · show jn _ _ p = some o
      rw [jn_r n]
      exact jn_l _ _ h
  | .h, n => absurd rfl n
/-- what the callee knows at its end, known here too -/
theorem back_known (b : Bok C W) (hl : ℓ ≠ .h) (hps : ∀ p ∈ ps, p ∉ W.vs ∧ C.H0 p = none ∧ W.G p = none ∧ W.H p ≠ none) (hks : ∀ k ∈ ks, k ∈ W.vs ∧ ¬ C.isT k) (k : BackO C.PI W.H H' (wl C W ℓ) G' ps ks ps') : Same G' (wl C (W.back H' G' ps) ℓ) := fun p o e => by
  rcases k.new p o e with z | z
  · exact back_lv b hks ℓ hl p o z
  · have e1 : newG W G' ps p = some o := by rw [newG_in z]; exact e
    have e0 : W.G p = none := z.elim b.g0 fun y => (hps p y).2.2.1
    have h0 : C.H0 p = none := z.elim b.h0 fun y => (hps p y).2.1
    have e2 : jn W.G (newG W G' ps) p = some o := by rw [jn_r e0]; exact e1
    cases ℓ with
    | g => exact e2
    | m =>
      show jn (hid C.H0 C.vs0) _ p = some o
      rw [jn_r]
      · exact e2
      · by_cases y : p ∈ C.vs0
        · exact hid_in y
        · rw [hid_out y]; exact h0
    | h => exact absurd rfl hl
theorem back_ent (b : Bok C W) (hps : ∀ p ∈ ps, p ∉ W.vs ∧ C.H0 p = none ∧ W.G p = none ∧ W.H p ≠ none) (hks : ∀ k ∈ ks, k ∈ W.vs ∧ ¬ C.isT k) (k : BackO C.PI W.H H' (wl C W ℓ) G' ps ks ps') {x : Option V} : ∀ {e : Ent}, (∀ p ∈ e.ads, p ∉ ps) → EntOk C W x e → EntOk C (W.back H' G' ps) x e
  | .no, _, _ => trivial
  | .val ℓ' R a, _, ⟨n, v, e, h⟩ => ⟨n, v, e, R.mono (back_lv b hks ℓ' n) h⟩
  | .own p ℓ' R l, d, ⟨n, e, hv, h0, hg, xs, hx, t⟩ => by
    have hp := d p (List.mem_singleton.mpr rfl)
    refine ⟨n, e, hv, h0, ?_, xs, k.keep p _ hx hp (fun z => hv (hks p z).1), t.imp fun _ _ => R.mono (back_lv b hks ℓ' n)⟩
    show jn W.G _ p = none
    rw [jn_r hg]
    exact newG_out (by rw [hx]; intro z; cases z) hp
  | .vol p, _, ⟨e, h, t⟩ => ⟨e, h, t⟩
  | .raw v, _, h => h
  | .ob v qs ℓ' S a, d, ⟨n, e, hq, r⟩ => by
    refine ⟨n, e, fun p m => ?_, S.mono (back_lv b hks ℓ' n) (fun p m => ?_) r⟩
    · obtain ⟨h1, h2, h3, h4⟩ := hq p m
      have hp := d p m
      refine ⟨h1, h2, ?_, ?_⟩
      · show jn W.G _ p = none
        rw [jn_r h3]
        exact newG_out h4 hp
      · show H' p ≠ none
        cases y : W.H p with
        | none => exact absurd y h4
        | some o => rw [k.keep p o y hp (fun z => h1 (hks p z).1)]; intro z; cases z
    · obtain ⟨h1, h2, h3, h4⟩ := hq p m
      show H' p = W.H p
      cases y : W.H p with
      | none => exact absurd y h4
      | some o => exact k.keep p o y (d p m) (fun z => h1 (hks p z).1)
theorem back_own (b : Bok C W) (hps : ∀ p ∈ ps, p ∉ W.vs ∧ C.H0 p = none ∧ W.G p = none ∧ W.H p ≠ none) (k : BackO C.PI W.H H' (wl C W ℓ) G' ps ks ps') : ∀ p ∈ ps', p ∉ W.vs ∧ C.H0 p = none ∧ (W.back H' G' ps).G p = none ∧ H' p ≠ none := fun p hp => by
  obtain ⟨h1, h2, h3⟩ := k.own p hp
  refine ⟨?_, ?_, ?_, h3⟩
  · exact h1.elim b.nvs fun z => (hps p z).1
  · exact h1.elim b.h0 fun z => (hps p z).2.1
  · show jn W.G _ p = none
    rw [jn_r (h1.elim b.g0 fun z => (hps p z).2.2.1), newG_in h1]
    exact h2
end
theorem World.back {C : Cn} {σ : Sg} {W : Wd} {Γ : List Ent} {τ τ' : Type} {S : Ob τ} {S' : Ob τ'} {x : V} {ps ks ps' : List Addr} {st : τ} {st' : τ'} {ℓ : Lv} {H' G' : Hp} {i : Nat} (w : World C σ W Γ) (h : Γ[i]? = some (.ob x ps ℓ S st)) (hks : ∀ k ∈ ks, k ∈ W.vs ∧ ¬ C.isT k)
    (k : BackO C.PI W.H H' (wl C W ℓ) G' ps ks ps') (r : S'.is G' H' x ps' st') : World C σ (W.back H' G' ps) (Γ.set i (.ob x ps' ℓ S' st')) := by
  obtain ⟨h1, hl, hps, _⟩ := ob_lit w h
  have hi : i < Γ.length := (List.getElem?_eq_some_iff.mp h).1
  refine ⟨back_ok w.b hps hks k, by rw [List.length_set]; exact w.len, fun j e hj => ?_, fun j j' p q hjj hp hq => ?_⟩
  · by_cases z : i = j
    · subst z
      rw [List.getElem?_set_self hi] at hj
      cases hj
      exact ⟨_, h1, hl, rfl, back_own w.b hps k, S'.mono (back_known w.b hl hps hks k) (fun _ _ => rfl) r⟩
    · rw [List.getElem?_set_ne z] at hj
      obtain ⟨y, g1, g2⟩ := w.ent j e hj
      exact ⟨y, g1, back_ent w.b hps hks k (fun p hp m => w.dis j i p p (Ne.symm z) ⟨e, hj, hp⟩ (.ob h m) rfl) g2⟩
  · have key : ∀ (j : Nat) (p : Addr), adAt (Γ.set i (.ob x ps' ℓ S' st')) j p → (j = i ∧ p ∈ ps') ∨ (j ≠ i ∧ adAt Γ j p) := fun j p ⟨u, hu, hm⟩ => by
      by_cases z : i = j
      · subst z
        rw [List.getElem?_set_self hi] at hu
        cases hu
        exact .inl ⟨rfl, hm⟩
      · rw [List.getElem?_set_ne z] at hu
        exact .inr ⟨Ne.symm z, u, hu, hm⟩
    have sep : ∀ (j : Nat) (p q : Addr), j ≠ i → p ∈ ps' → adAt Γ j q → p ≠ q := fun j p q hj hp ha e => by
      subst e
      rcases (k.own p hp).1 with z | z
      · exact (w.adH ha).1 z
      · exact w.dis j i p p hj ha (.ob h z) rfl
    rcases key j p hp with ⟨a1, a2⟩ | ⟨a1, a2⟩
    · rcases key j' q hq with ⟨b1, b2⟩ | ⟨b1, b2⟩
      · exact absurd (a1.trans b1.symm) hjj
      · exact sep j' p q b1 a2 b2
    · rcases key j' q hq with ⟨b1, b2⟩ | ⟨b1, b2⟩
      · exact fun e => sep j q p a1 b2 a2 e.symm
      · exact w.dis j j' p q hjj a2 b2
end GL


set_option Elab.async false
set_option linter.all false
set_option maxRecDepth 100000
set_option maxHeartbeats 1000000
namespace L2
open PySem PySem.Spec PyProof.Rows
section
variable {X : Cx} {CX : CXT} {k : Nat} {f C : Addr} {fd : FuncData} {ps : List Str} {sp : Sp} {E : St → XK} {E0 : XK} {x m : Str} {p pos apos : Pos} {e o : Expr} {es : List Expr} {ta : TE} {t : TA}
/-- o.m(..), what is wanted of an exception by the names -/
def tMethX (C : Addr) (m : Str) (sp : Sp) (E : St → XK) (ta : TE) (t : TA) : TE := fun σ H Q => ta σ H fun x H1 => ∃ a dx fs, x = .ref a ∧ H1 a = some (.ins C dx fs) ∧ fs.lookup m = none ∧ t σ H1 fun vs H2 => sp (x :: vs) H2 Q (E σ)
end
end L2
namespace GL
open PySem L2
section
variable {C : Cn} {Γ : List Ent} {α β γ τ τ' : Type} {R : Rl α} {S : Rl β} {P : α → Prop} {te ta tb tc td ty tv tx t1 t2 : TE} {tA : TA} {ℓ ℓ' : Lv} {K : PySem.W.Frag} {D : Ends} {t u u' : TS} {c : Addr} {sh : Shp τ} {n m : Str} {ns : List Str} {x : V} {ps : List Addr} {st : τ} {i j : Nat} {So : Ob τ} {So' : Ob τ'}
/-! arguments -/
def EvK (C : Cn) {α : Type} (te : TE) (Γ : List Ent) (ps : List Addr) (R : Rl α) (a : α) : Prop := ∀ σ W, World C σ W Γ → ∀ Q : VK, (∀ v W', Stp W W' → Bok C W' → R.is (hid W'.H (ps ++ W'.vs)) v a → Q v W'.H) → te σ W.H Q
def EvAO (C : Cn) {α : Type} (ta : TA) (Γ : List Ent) (ps : List Addr) (x : V) (ℓ : Lv) (A : AO α) (a : α) : Prop :=
  ∀ σ W, World C σ W Γ → ∀ Q : List V → Hp → Prop, (∀ vs W' ks, Stp W W' → Bok C W' → (∀ k ∈ ks, k ∈ W'.vs ∧ ¬ C.isT k) → A vs (wl C W' ℓ) (hid W'.H (ps ++ W'.vs)) ks x a → Q vs W'.H) → ta σ W.H Q
/-! an expression that changes the object at i -/
def EvT (C : Cn) {β τ : Type} (te : TE) (Γ : List Ent) (i : Nat) (x : V) (S : Ob τ) (ℓo ℓ : Lv) (R : Rl β) (P : β → τ → Prop) : Prop :=
  ∀ σ W, World C σ W Γ → ∀ Q : VK, (∀ v W' ps' st' b, World C σ W' (Γ.set i (.ob x ps' ℓo S st')) → R.is (wl C W' ℓ) v b → P b st' → Q v W'.H) → te σ W.H Q
def EvTB (C : Cn) {τ : Type} (tt : TT) (Γ : List Ent) (i : Nat) (x : V) (S : Ob τ) (ℓo : Lv) (P : Bool → τ → Prop) : Prop :=
  ∀ σ W, World C σ W Γ → ∀ Q : Bool → Hp → Prop, (∀ W' ps' st' b, World C σ W' (Γ.set i (.ob x ps' ℓo S st')) → P b st' → Q b W'.H) → tt σ W.H Q
/-! methods -/
def InsAt (C : Cn) (Γ : List Ent) (i : Nat) (c : Addr) (m : Str) : Prop := ∀ σ W, World C σ W Γ → ∃ a dx fs, σ[i]? = some (some (.ref a)) ∧ W.H a = some (.ins c dx fs) ∧ fs.lookup m = none
/-! statements -/
end
end GL


set_option Elab.async false
set_option linter.all false
set_option maxRecDepth 100000
set_option maxHeartbeats 1000000
/-! ### fields written; an object made -/
namespace GL
open PySem L2
section
variable {C : Cn} {Γ : List Ent} {α β γ τ τ' : Type} {R : Rl α} {S : Rl β} {P : α → Prop} {Pl : List α → Prop} {te ta tb t1 t2 : TE} {tA : TA} {ℓ ℓ' : Lv} {K : PySem.W.Frag} {D : Ends} {t u u' : TS} {c : Addr} {sh : Shp τ} {sh' : Shp τ'} {n m : Str} {ns : List Str} {x : V} {ps : List Addr} {st : τ} {i j : Nat}
/-! an object made -/
def AMono {α : Type} (A : AO α) : Prop := ∀ vs B M ks x a B' M' x', Same B B' → Same M M' → A vs B M ks x a → A vs B' M' ks x' a
end
end GL


set_option Elab.async false
set_option linter.all false
set_option maxRecDepth 100000
set_option maxHeartbeats 1000000
namespace GL
open PySem L2
section
variable {C : Cn} {Γ : List Ent} {α β γ τ τ' : Type} {R : Rl α} {S : Rl β} {te : TE} {ℓ ℓ' : Lv} {x : V} {i : Nat} {So : Ob τ}
end
end GL
namespace GL
open PySem L2
structure CalM (P : Program) (w : PySem.World) (K : PySem.W.Frag) (mg : Str → Option Value) (base : Heap) (CX : CXT) (k : Nat) (C : Addr) (m : Str) (ps : List Str) (sp : Sp) (f : Addr) (fd : FuncData) : Prop where
  ok : FnOk P w K mg base CX k f fd ps sp
  b : Binds K fd ps []
  mt : Meth K C m f
structure CalI (P : Program) (w : PySem.World) (K : PySem.W.Frag) (mg : Str → Option Value) (base : Heap) (CX : CXT) (k : Nat) (C : Addr) (x : Str) (ps : List Str) (sp : Sp) (f : Addr) (fd : FuncData) : Prop where
  ok : FnOk P w K mg base CX k f fd ps sp
  b : Binds K fd ps []
  mke : Mk K C f
  g : mg x = some (.ref C)
section
variable {C : Cn} {Γ : List Ent} {α β : Type} {R : Rl α} {te : TE} {ℓ : Lv} {K : PySem.W.Frag}
abbrev rSortD (xs : List V) (H : Hp) (Q : VK) : Prop := ∃ (a : Addr) (kvs : List (Key × V)) (ks : List Int), xs = [.ref a] ∧ Rd H a (.dK kvs) ∧ kvs.map (·.1) = ks.map Sum.inl ∧ ks.length < 64 ∧ ∀ (ns' : List Int) (p : Addr), ns'.Perm ks → ns'.Pairwise (· ≤ ·) → H p = none → Q (.ref p) (upd H p (.lst (ns'.map V.int)))
end
end GL
namespace GL
open PySem L2
section
variable {C : Cn} {Γ : List Ent} {τ : Type} {te : TE} {ℓ ℓ' : Lv} {x : V} {i : Nat} {So : Ob τ}
end
end GL


set_option Elab.async false
set_option linter.all false
set_option maxRecDepth 100000
set_option maxHeartbeats 1000000
/-! ### expressions that change an object, and leave what else is ours; comprehensions of such -/
namespace GL
open PySem L2
/-- what a step that may change the object (its addresses ps, then ps') leaves -/
structure Frm (W W' : Wd) (ps ps' : List Addr) : Prop where
  vs : W'.vs = W.vs
  g : Same W.G W'.G
  ours : ∀ p, p ∉ W.vs → W.G p = none → W.H p ≠ none → p ∉ ps → W'.H p = W.H p ∧ W'.G p = none ∧ p ∉ ps'
theorem Frm.refl (W : Wd) (ps : List Addr) : Frm W W ps ps := ⟨rfl, Same.refl _, fun _ _ h2 _ h4 => ⟨rfl, h2, h4⟩⟩
theorem Frm.trans {W W1 W2 : Wd} {p0 p1 p2 : List Addr} (f : Frm W W1 p0 p1) (k : Frm W1 W2 p1 p2) : Frm W W2 p0 p2 where
  vs := k.vs.trans f.vs
  g := f.g.trans k.g
  ours := fun p h1 h2 h3 h4 => by
    obtain ⟨a1, a2, a3⟩ := f.ours p h1 h2 h3 h4
    obtain ⟨b1, b2, b3⟩ := k.ours p (by rw [f.vs]; exact h1) a2 (by rw [a1]; exact h3) a3
    exact ⟨b1.trans a1, b2, b3⟩
theorem Frm.stp {W W' : Wd} (s : Stp W W') (ps : List Addr) : Frm W W' ps ps := ⟨s.vs, s.g, fun p h1 h2 h3 h4 => ⟨(s.ours h1 h2 h3).1, (s.ours h1 h2 h3).2, h4⟩⟩
theorem Frm.lv {C : Cn} {W W' : Wd} {ps ps' : List Addr} (f : Frm W W' ps ps') : ∀ ℓ : Lv, ℓ ≠ .h → Same (wl C W ℓ) (wl C W' ℓ)
  | .g, _ => f.g
  | .m, _ => mw_same f.g
  | .h, n => absurd rfl n
section
variable {C : Cn} {Γ : List Ent} {α β γ τ τ' : Type} {R : Rl α} {S : Rl β} {te ta tb : TE} {tA : TA} {ℓ ℓ' ℓo ℓ2 : Lv} {K : PySem.W.Frag} {D : Ends} {u : TS} {c : Addr} {m : Str} {x : V} {ps : List Addr} {st : τ} {i j : Nat} {So : Ob τ}
def EvU (C : Cn) {β τ : Type} (te : TE) (Γ : List Ent) (i : Nat) (x : V) (ps : List Addr) (S : Ob τ) (ℓo ℓ : Lv) (R : Rl β) (P : β → τ → Prop) : Prop :=
  ∀ σ W, World C σ W Γ → ∀ Q : VK, (∀ v W' ps' st' b, World C σ W' (Γ.set i (.ob x ps' ℓo S st')) → Frm W W' ps ps' → R.is (wl C W' ℓ) v b → P b st' → Q v W'.H) → te σ W.H Q
theorem EvU.t {P : β → τ → Prop} (h : EvU C te Γ i x ps So ℓo ℓ S P) : EvT C te Γ i x So ℓo ℓ S P := fun σ W w Q q => h σ W w Q fun v W' ps' st' b w' _ r p => q v W' ps' st' b w' r p
theorem EvU.imp {P P2 : β → τ → Prop} (h : EvU C te Γ i x ps So ℓo ℓ S P) (k : ∀ b st', P b st' → P2 b st') : EvU C te Γ i x ps So ℓo ℓ S P2 := fun σ W w Q q => h σ W w Q fun v W' ps' st' b w' f r p => q v W' ps' st' b w' f r (k b st' p)
/-! laying a new list beside the world -/
theorem lay_ent {W : Wd} {T : Addr} {o : HO} {y : Option V} : ∀ {e : Ent}, (∀ p ∈ e.ads, p ≠ T) → EntOk C W y e → EntOk C (W.lay T o) y e
  | .no, _, _ => trivial
  | .val ℓ' R a, _, ⟨n, v, e, h⟩ => ⟨n, v, e, R.mono (by cases ℓ' with | g => exact Same.refl _ | m => exact Same.refl _ | h => exact absurd rfl n) h⟩
  | .own p ℓ' R l, d, ⟨n, e, hv, h0, hg, xs, hx, t⟩ => ⟨n, e, hv, h0, hg, xs, (upd_ne (d p (List.mem_singleton.mpr rfl))).trans hx, t.imp fun _ _ => R.mono (by cases ℓ' with | g => exact Same.refl _ | m => exact Same.refl _ | h => exact absurd rfl n)⟩
  | .vol p, _, h => h
  | .raw v, _, h => h
  | .ob v qs ℓ' S a, d, ⟨n, e, hq, r⟩ => ⟨n, e, fun p m => by
      obtain ⟨h1, h2, h3, h4⟩ := hq p m
      exact ⟨h1, h2, h3, by show upd W.H T _ p ≠ none; rw [upd_ne (d p m)]; exact h4⟩, S.mono (by cases ℓ' with | g => exact Same.refl _ | m => exact Same.refl _ | h => exact absurd rfl n) (fun p m => upd_ne (d p m)) r⟩
theorem World.lay {σ : Sg} {W : Wd} {T : Addr} {o : HO} (w : World C σ W Γ) (h0 : C.H0 T = none) (hv : T ∉ W.vs) (hG : W.G T = none) (hd : ∀ j q, adAt Γ j q → q ≠ T) : World C σ (W.lay T o) Γ :=
  ⟨w.b.lay h0 hv hG, w.len, fun j e hj => by
    obtain ⟨y, h1, h2⟩ := w.ent j e hj
    exact ⟨y, h1, lay_ent (fun p hp => hd j p ⟨e, hj, hp⟩) h2⟩, w.dis⟩
/-! new lists -/
def EvUN (C : Cn) {β τ : Type} (te : TE) (Γ : List Ent) (i : Nat) (x : V) (ps : List Addr) (S : Ob τ) (ℓo ℓ : Lv) (R : Rl β) (P : List β → τ → Prop) : Prop :=
  ∀ σ W, World C σ W Γ → ∀ Q : VK, (∀ p W' xs z ps' st', World C σ W' (Γ.set i (.ob x ps' ℓo S st')) → Frm W W' ps ps' → W.H p = none → W'.H p = some (.lst xs) → W'.G p = none → p ∉ ps' → All2 (R.is (wl C W' ℓ)) xs z → P z st' → Q (.ref p) W'.H) → te σ W.H Q
end
end GL


set_option Elab.async false
set_option linter.all false
set_option maxRecDepth 100000
set_option maxHeartbeats 1000000
/-! ### a call whose last argument changes an object -/
namespace GL
open PySem L2
theorem World.snoc {C : Cn} {σ : Sg} {W : Wd} {Γ : List Ent} (w : World C σ W Γ) {y : Option V} {e : Ent} (h : EntOk C W y e) (hd : e.ads = []) : World C (σ ++ [y]) W (Γ ++ [e]) := by
  have key : ∀ (j : Nat) (p : Addr), adAt (Γ ++ [e]) j p → adAt Γ j p := fun j p ⟨u, hu, hm⟩ => by
    by_cases z : j < Γ.length
    · rw [List.getElem?_append_left z] at hu
      exact ⟨u, hu, hm⟩
    · rw [List.getElem?_append_right (by omega)] at hu
      cases q : j - Γ.length with
      | zero =>
        rw [q] at hu
        cases hu
        rw [hd] at hm; cases hm
      | succ n => rw [q] at hu; cases hu
  refine ⟨w.b, by rw [List.length_append, List.length_append, w.len]; rfl, fun j u hj => ?_, fun j k p q hjk hp hq => w.dis j k p q hjk (key j p hp) (key k q hq)⟩
  by_cases z : j < Γ.length
  · rw [List.getElem?_append_left z] at hj
    obtain ⟨y', h1, h2⟩ := w.ent j u hj
    exact ⟨y', by rw [List.getElem?_append_left (by rw [w.len]; exact z)]; exact h1, h2⟩
  · rw [List.getElem?_append_right (by omega)] at hj
    cases q : j - Γ.length with
    | zero =>
      rw [q] at hj
      cases hj
      exact ⟨y, by rw [List.getElem?_append_right (by rw [w.len]; omega), w.len, q]; rfl, h⟩
    | succ n => rw [q] at hj; cases hj
section
variable {C : Cn} {Γ : List Ent} {α β γ τ : Type} {R : Rl α} {S : Rl β} {te : TE} {ℓ ℓ' ℓo ℓ2 : Lv} {x : V} {ps : List Addr} {st : τ} {i : Nat} {So : Ob τ} {sp : Sp} {E : XK}
def HasV (C : Cn) (Γ : List Ent) (i : Nat) : Prop := ∀ σ W, World C σ W Γ → ∃ v, σ[i]? = some (some v)
end
end GL


set_option Elab.async false
set_option linter.all false
set_option maxRecDepth 100000
set_option maxHeartbeats 1000000
/-! ### an object and a list lent together -/
namespace GL
open PySem L2
def obTwo {σ α : Type} (S : Ob σ) (R : Rl α) : Ob (σ × Addr × List α) where
  is G H x ps a := ∃ qs xs, ps = a.2.1 :: qs ∧ a.2.1 ∉ qs ∧ S.is G H x qs a.1 ∧ H a.2.1 = some (.lst xs) ∧ All2 (R.is G) xs a.2.2
  mono := fun s hA ⟨qs, xs, e, n, h1, h2, h3⟩ => by
    subst e
    exact ⟨qs, xs, rfl, n, S.mono s (fun p hp => hA p (List.mem_cons_of_mem _ hp)) h1, (hA _ List.mem_cons_self).trans h2, h3.imp fun _ _ => R.mono s⟩
def oRef {α : Type} (A : AO α) : AO (Addr × α) := fun vs B M ks x a => ∃ r, vs = .ref a.1 :: r ∧ A r B M ks x a.2
section
variable {C : Cn} {Γ : List Ent} {α β γ σ τ : Type} {R : Rl α} {Rb : Rl β} {S So : Ob τ} {te ta tb : TE} {tA : TA} {ℓ ℓ' ℓo ℓ2 : Lv} {K : PySem.W.Frag} {D : Ends} {t u u' : TS} {x : V} {ps : List Addr} {st : τ} {i j : Nat} {q : Addr} {l : List α}
/-! the ends of a def that is lent both -/
theorem EvT.imp {P P2 : β → τ → Prop} (h : EvT C te Γ i x So ℓo ℓ Rb P) (k : ∀ b st', P b st' → P2 b st') : EvT C te Γ i x So ℓo ℓ Rb P2 := fun σ W w Q q => h σ W w Q fun v W' ps' st' b w' r p => q v W' ps' st' b w' r (k b st' p)
end
end GL


set_option Elab.async false
set_option linter.all false
set_option maxRecDepth 100000
set_option maxHeartbeats 1000000
/-! ### sorted(set(t)), t a tuple of ints -/
namespace L2
open PySem PySem.Spec PyProof.Rows
def tSortSet (K : PySem.W.Frag) (ta : TA) : TE := fun σ H Q => ta σ H fun vs H1 => ∃ (p : Addr) (ns : List Int), vs = [.ref p] ∧ SqT K H1 p (ns.map V.int) ∧ ns.length < 64 ∧
  ∀ (u : HO) (q r : Addr) (ms : List Int), H1 q = none → upd H1 q u r = none → ms.Pairwise (· < ·) → (∀ k, k ∈ ms ↔ k ∈ ns) → Q (.ref r) (upd (upd H1 q u) r (.lst (ms.map V.int)))
section
variable {X : Cx} {e : Expr} {ta : TA}
end
end L2
namespace GL
open PySem L2
/-- a list's members once each, in rising order -/
def dd : List Int → List Int
  | [] => []
  | x :: l => if x ∈ dd l then dd l else x :: dd l
def nset (l : List Int) : List Int := isort (dd l)
section
variable {C : Cn} {Γ : List Ent} {ta : TE} {ℓ c : Lv} {K : PySem.W.Frag}
end
end GL


set_option Elab.async false
set_option linter.all false
set_option maxRecDepth 100000
set_option maxHeartbeats 1000000
/-! ### x.index(v, a); tuples of four taken apart; a name's list at two types -/
namespace L2
open PySem PySem.Spec PyProof.Rows
def rIndexF (K : PySem.W.Frag) : V → List V → Hp → VK → Prop := fun x xs H Q => ∃ (a : Addr) (ys : List Int) (y : Int) (i j : Nat), x = V.ref a ∧ xs = [.int y, .int i] ∧ SqL K H a (ys.map V.int) ∧ i ≤ j ∧ ys[j]? = some y ∧
  (∀ m, i ≤ m → m < j → ys[m]? ≠ some y) ∧ Q (.int (j : Nat)) H
section
variable {X : Cx}
end
/-! x[::k] -/
def stepI (n : Nat) (k : Int) : List Nat := sliceRange (sliceBounds none none (some k) n).1 (sliceBounds none none (some k) n).2.1 (sliceBounds none none (some k) n).2.2
def tSlS (K : PySem.W.Frag) (te tk : TE) : TE := fun σ H Q => te σ H fun x H1 => tk σ H1 fun y H2 => ∃ a xs k, x = .ref a ∧ y = .int k ∧ k ≠ 0 ∧ SqL K H2 a xs ∧ ∀ p, H2 p = none → Q (.ref p) (upd H2 p (.lst ((stepI xs.length k).filterMap (xs[·]?))))
section
variable {X : Cx} {e ek : Expr} {te tk : TE} {pos p2 : Pos}
end
end L2
namespace GL
open PySem L2
/-- the first place from i on where v stands -/
def idxF (l : List Int) (v : Int) (i : Nat) : Nat := i + (l.drop i).idxOf v
section
variable {C : Cn} {Γ : List Ent} {α β γ τ : Type} {R : Rl α} {S : Rl β} {ta tb tc te : TE} {ℓ ℓ' c : Lv} {K : PySem.W.Frag} {u : TS} {D : Ends}
def slK (l : List α) (k : Int) : List α := (stepI l.length k).filterMap (l[·]?)
end
end GL


set_option Elab.async false
set_option linter.all false
set_option maxRecDepth 100000
set_option maxHeartbeats 1000000
/-! ### sorted(set(l)), l a list of pairs of ints -/
namespace L2
open PySem PySem.Spec PyProof.Rows
def tSortSetT (K : PySem.W.Frag) (ta : TA) : TE := fun σ H Q => ta σ H fun vs H1 => ∃ (l : Addr) (ks : List (Addr × List Int)) (d : Nat) (B : Int), vs = [.ref l] ∧ SqL K H1 l (ks.map fun p => V.ref p.1) ∧ (∀ p ∈ ks, SqT K H1 p.1 (p.2.map V.int)) ∧ ks.length < 64 ∧ 1 ≤ d ∧ (∀ p ∈ ks, p.2.length = d ∧ TS.Bd B p.2) ∧
  ∀ (u : HO) (a r : Addr) (L : List (Addr × List Int)), H1 a = none → upd H1 a u r = none → (∀ p ∈ L, p ∈ ks) → (∀ p ∈ ks, p.2 ∈ L.map (·.2)) → (L.map (·.2)).Nodup → L.Pairwise (fun q r => TS.code B q.2 ≤ TS.code B r.2) → Q (.ref r) (upd (upd H1 a u) r (.lst (L.map fun q => V.ref q.1)))
section
variable {X : Cx} {e : Expr} {ta : TA}
end
end L2
namespace GL
open PySem L2
/-- a list's members once each -/
def ddG {α : Type} [DecidableEq α] : List α → List α
  | [] => []
  | x :: l => if x ∈ ddG l then ddG l else x :: ddG l
theorem ddG_mem {α : Type} [DecidableEq α] {x : α} : ∀ {l : List α}, x ∈ ddG l ↔ x ∈ l
  | [] => Iff.rfl
  | y :: l => by
    have ih := ddG_mem (x := x) (l := l)
    unfold ddG
    by_cases h : y ∈ ddG l
    · rw [if_pos h, ih, List.mem_cons]
      exact ⟨.inr, fun z => z.elim (fun e => by rw [e]; exact ddG_mem.mp h) id⟩
    · rw [if_neg h, List.mem_cons, List.mem_cons, ih]
theorem ddG_nd {α : Type} [DecidableEq α] : ∀ l : List α, (ddG l).Nodup
  | [] => List.nodup_nil
  | y :: l => by
    unfold ddG
    by_cases h : y ∈ ddG l
    · rw [if_pos h]; exact ddG_nd l
    · rw [if_neg h]; exact List.nodup_cons.mpr ⟨h, ddG_nd l⟩
def pset (l : List (Int × Int)) : List (Int × Int) := psort (ddG l)
theorem pset_mem {x : Int × Int} {l : List (Int × Int)} : x ∈ pset l ↔ x ∈ l := ((psort_perm _).mem_iff).trans ddG_mem
theorem pset_nd (l : List (Int × Int)) : (pset l).Nodup := (psort_perm _).nodup_iff.mpr (ddG_nd l)
theorem pset_uniq {l m : List (Int × Int)} (h : ∀ x, x ∈ m ↔ x ∈ l) (nd : m.Nodup) (h1 : m.Pairwise (fun a b => ple a b = true)) : m = pset l :=
  psort_uniq ((List.perm_ext_iff_of_nodup nd (ddG_nd l)).mpr fun x => (h x).trans ddG_mem.symm) h1
def adr (d : Addr) : V → Addr
  | .ref t => t
  | _ => d
section
variable {C : Cn} {Γ : List Ent} {ta : TE} {ℓ c : Lv} {K : PySem.W.Frag}
end
end GL
namespace L2
open PySem PySem.Spec PyProof.Rows
end L2


set_option Elab.async false
set_option linter.all false
set_option maxRecDepth 100000
set_option maxHeartbeats 2000000
/-! ### defs without a pool whose answer may hold what they were handed -/
namespace GL
open PySem L2
def spFG {α β : Type} (A : Args α) (pre : α → Prop) (R : Rl β) (post : α → β → Prop) : Sp := fun vs H Q _ =>
  ∃ (a : α) (B : Hp), Same B H ∧ A vs B a ∧ pre a ∧ (∀ v H' b, Same H H' → R.is (jn B (fresh H H')) v b → post a b → Q v H')
noncomputable def CnFG (H : Hp) (PI : HO → Prop) (B : Hp) : Cn := ⟨wo H B, [], PI, B, .nil, fun _ => none⟩
section
variable {β : Type} {C : Cn} {Γ : List Ent} {R : Rl β}
end
end GL


set_option Elab.async false
set_option linter.all false
set_option maxRecDepth 100000
set_option maxHeartbeats 1000000
/-! ### a row of a grid under a name of its own -/
namespace GL
open PySem L2
section
variable {α : Type} {R : Rl α} {K A : Hp}
theorem Gr.back : ∀ {qs : List Addr} {a : List (List α)} {m : Nat} {q : Addr} {l : List α} {xs : List V}, Gr R K A (qs.eraseIdx m) (a.eraseIdx m) → qs[m]? = some q → m < a.length → A q = some (.lst xs) → All2 (R.is K) xs l → Gr R K A qs (a.set m l)
  | [], _, _, _, _, _, _, h, _, _, _ => by simp at h
  | _ :: _, [], _, _, _, _, _, _, h, _, _ => by simp at h
  | q0 :: qs, l0 :: a, 0, q, l, xs, g, h, _, e, t => by
    have e1 : q0 = q := by simpa using h
    subst e1
    exact ⟨⟨xs, e, t⟩, g⟩
  | q0 :: qs, l0 :: a, m + 1, q, l, xs, ⟨g0, g⟩, h, hm, e, t => ⟨g0, Gr.back g (by simpa using h) (by simpa using hm) e t⟩
def obHole (R : Rl α) (qs : List Addr) (q : Addr) (m : Nat) : Ob (List (List α)) := ⟨fun K A v ps a => ∃ p, v = .ref p ∧ ps = p :: qs.eraseIdx m ∧ (p :: qs).Nodup ∧ A p = some (.lst (qs.map V.ref)) ∧ qs[m]? = some q ∧ m < a.length ∧ Gr R K A (qs.eraseIdx m) (a.eraseIdx m),
  fun {K K' A A' v ps a} s h ⟨p, e, e2, e3, e4, e5, e6, t⟩ => ⟨p, e, e2, e3, by rw [h p (by rw [e2]; exact List.mem_cons_self)]; exact e4, e5, e6, t.mono s fun q hq => h q (by rw [e2]; exact List.mem_cons_of_mem _ hq)⟩⟩
end
section
variable {C : Cn} {Γ : List Ent} {α : Type} {R : Rl α} {t1 : TE} {ℓ : Lv} {K : PySem.W.Frag} {D : Ends} {t u : TS} {p : Addr} {qs : List Addr} {a : List (List α)}
end
end GL


set_option Elab.async false
set_option linter.all false
set_option maxRecDepth 100000
set_option maxHeartbeats 1000000
/-! ### an object made by a def that sorts by a lambda (tables of code objects) -/
namespace GL
open PySem L2
structure BackOT (T : Tbs) (PI : HO → Prop) (H H' B G' Kn : Hp) (ps ks ps' : List Addr) : Prop where
  keep : ∀ p o, H p = some o → p ∉ ps → p ∉ ks → p ∉ T.ads → H' p = some o
  pool : ∀ p ∈ ks, ∃ o, H' p = some o ∧ PI o
  known : Same B G'
  g : Same G' H'
  new : ∀ p o, G' p = some o → B p = some o ∨ H p = none ∨ p ∈ ps
  own : ∀ p ∈ ps', (H p = none ∨ p ∈ ps) ∧ G' p = none ∧ H' p ≠ none
  tab : TabsAt T (jn Kn G') H'
def spOT {α β σ σ' : Type} (T : Tbs) (PI : HO → Prop) (S : Ob σ) (A : AO α) (pre : σ → α → Prop) (S' : Ob σ') (R : Rl β) (post : σ → α → β → σ' → Prop) : Sp := fun vs H Q _ =>
  ∃ B M ps ks x st a Kn, Same B H ∧ Same M H ∧ (∀ p ∈ ps, B p = none ∧ M p = none ∧ H p ≠ none ∧ p ∉ ks ∧ p ∉ T.ads ∧ Kn p = none) ∧ (∀ p ∈ ks, B p = none ∧ M p = none ∧ p ∉ T.ads ∧ Kn p = none ∧ ∃ o, H p = some o ∧ PI o) ∧
   (∀ p ∈ T.ads, B p = none ∧ M p = none ∧ Kn p = none) ∧ (∀ p o, Kn p = some o → B p = none ∧ H p = some o) ∧ TabsAt T (jn Kn B) H ∧ S.is B H x ps st ∧ A vs B M ks x a ∧ pre st a ∧
   (∀ v H' G' ps' b st', BackOT T PI H H' B G' Kn ps ks ps' → S'.is G' H' x ps' st' → R.is G' v b → post st a b st' → Q v H')
def CnOT (PI : HO → Prop) (H B : Hp) (ps ks : List Addr) (T : Tbs) (Kn : Hp) : Cn := ⟨floorO H B ps, ks ++ T.ads, PI, B, T, Kn⟩
def WOT (H B : Hp) (ks : List Addr) (T : Tbs) : Wd := ⟨H, B, ks ++ T.ads⟩
section
variable {PI : HO → Prop} {H B M Kn : Hp} {ps ks : List Addr} {T : Tbs}
end
/-! the caller -/
/-- what may be kept, but for code objects that are not ours -/
noncomputable def Bm (T : Tbs) (C : Cn) (W : Wd) : Hp := jn W.G (frC T (wl C W .m))
section
variable {C : Cn} {W : Wd} {H' G' : Hp} {ps ks ps' : List Addr} {T : Tbs}
end
/-- arguments that stand without code objects -/
def ANoC {α : Type} (A : AO α) : Prop := ∀ (T : Tbs) vs B M ks x a, A vs B M ks x a → A vs (frC T B) M ks x a
section
variable {C : Cn} {Γ : List Ent} {α β τ' : Type} {D : Ends} {u : TS} {tA : TA} {j : Nat} {c : Addr} {T : Tbs}
end
end GL


set_option Elab.async false
set_option linter.all false
set_option maxRecDepth 100000
set_option maxHeartbeats 1000000
/-! ### a dict that is a field of an object of ours -/
namespace GL
open PySem L2
section
variable {C : Cn} {Γ : List Ent} {α κ τ : Type} [DecidableEq κ] {dk : DK κ} {R : Rl α} {P : α → Prop} {te ty tv : TE} {ℓ : Lv} {K : PySem.W.Frag} {D : Ends} {u : TS} {i : Nat} {x : V} {ps : List Addr} {c : Addr} {ns : List Str} {n : Str} {st : τ} {sh : Shp τ} {τ' : Type} {sh' : Shp τ'}
end
end GL


set_option Elab.async false
set_option linter.all false
set_option maxRecDepth 100000
set_option maxHeartbeats 1000000
/-! ### an answer of which no more is told than that it is a bool, an int, a list or a tuple -/
namespace GL
open PySem L2
def Thg (H : Hp) (v : V) : Prop := (∃ b, v = .bl b) ∨ (∃ i, v = .int i) ∨ (∃ p xs, v = .ref p ∧ H p = some (.lst xs)) ∨ ∃ p xs, v = .ref p ∧ Rd H p (.tup xs)
theorem Thg.mono {H H' : Hp} {v : V} (s : Same H H') : Thg H v → Thg H' v
  | .inl h => .inl h
  | .inr (.inl h) => .inr (.inl h)
  | .inr (.inr (.inl ⟨p, xs, e, h⟩)) => .inr (.inr (.inl ⟨p, xs, e, s _ _ h⟩))
  | .inr (.inr (.inr ⟨p, xs, e, h⟩)) => .inr (.inr (.inr ⟨p, xs, e, rd_mono s h⟩))
def rThings : Rl Unit := ⟨fun H v _ => Thg H v, fun s h => h.mono s⟩
def NoErr {α : Type} (R : Rl α) : Prop := ∀ H v a, R.is H v a → Thg H v
section
variable {α β γ : Type} {R : Rl α} {S : Rl β} {T : Rl γ}
end
section
variable {C : Cn} {Γ : List Ent} {α β : Type} {R : Rl α} {S : Rl β} {te : TE} {ℓ ℓ' : Lv} {K : PySem.W.Frag} {L Ls : List Addr} {d : Addr}
end
end GL


set_option Elab.async false
set_option linter.all false
set_option maxRecDepth 100000
set_option maxHeartbeats 1000000
/-! ### a * b, sum(..) and o.n[k] = e, where what is asked changes the object -/
namespace GL
open PySem L2
section
variable {C : Cn} {Γ : List Ent} {τ : Type} {ta tb te ty : TE} {ℓ ℓo : Lv} {K : PySem.W.Frag} {D : Ends} {u : TS} {i : Nat} {x : V} {ps : List Addr} {So : Ob τ}
end
section
variable {C : Cn} {Γ : List Ent} {α κ τ : Type} [DecidableEq κ] {dk : DK κ} {R : Rl α} {tv ty : TE} {ℓ : Lv} {K : PySem.W.Frag} {D : Ends} {u : TS} {i : Nat} {x : V} {ps : List Addr} {c : Addr} {ns : List Str} {n : Str} {sh : Shp τ}
end
theorem EvD.eq {C : Cn} {Γ : List Ent} {κ α : Type} [DecidableEq κ] {k : DK κ} {R : Rl α} {te : TE} {c ℓ : Lv} {l l' : List (κ × α)} (h : EvD C te Γ c ℓ k R l) (e : l = l') : EvD C te Γ c ℓ k R l' := e ▸ h
end GL


set_option Elab.async false
set_option linter.all false
set_option maxRecDepth 100000
set_option maxHeartbeats 1000000
/-! ### answers of many kinds, as data -/
namespace GL
open PySem L2
mutual
inductive Dt (H : Hp) : V → PyData → Prop
  | int (i : Int) : Dt H (.int i) (.int i)
  | bool (b : Bool) : Dt H (.bl b) (.bool b)
  | lst {p : Addr} {xs : List V} {ds : List PyData} : H p = some (.lst xs) → DtA H xs ds → Dt H (.ref p) (.list ds)
  | tup {p : Addr} {xs : List V} {ds : List PyData} : Rd H p (.tup xs) → DtA H xs ds → Dt H (.ref p) (.tuple ds)
inductive DtA (H : Hp) : List V → List PyData → Prop
  | nil : DtA H [] []
  | cons {x : V} {d : PyData} {xs : List V} {ds : List PyData} : Dt H x d → DtA H xs ds → DtA H (x :: xs) (d :: ds)
end
mutual
theorem Dt.mono {H H' : Hp} (s : Same H H') {v : V} {d : PyData} : Dt H v d → Dt H' v d
  | .int i => .int i
  | .bool b => .bool b
  | .lst h t => .lst (s _ _ h) (t.mono s)
  | .tup h t => .tup (rd_mono s h) (t.mono s)
theorem DtA.mono {H H' : Hp} (s : Same H H') {xs : List V} {ds : List PyData} : DtA H xs ds → DtA H' xs ds
  | .nil => .nil
  | .cons h t => .cons (h.mono s) (t.mono s)
end
mutual
theorem Dt.noc (T : Tbs) {H : Hp} {v : V} {d : PyData} : Dt H v d → Dt (frC T H) v d
  | .int i => .int i
  | .bool b => .bool b
  | .lst h t => .lst (frC_keep h (fun φ z => nomatch z)) (t.noc T)
  | .tup h t => .tup (frC_rd h) (t.noc T)
theorem DtA.noc (T : Tbs) {H : Hp} {xs : List V} {ds : List PyData} : DtA H xs ds → DtA (frC T H) xs ds
  | .nil => .nil
  | .cons h t => .cons (h.noc T) (t.noc T)
end
mutual
theorem Dt.dp {K : PySem.W.Frag} {H : Hp} {v : V} {d : PyData} : Dt H v d → Dp K H v d
  | .int i => .int i
  | .bool b => .bl b
  | .lst h t => .lst (.inl (.inl h)) t.dp
  | .tup h t => .tup (.inl h) t.dp
theorem DtA.dp {K : PySem.W.Frag} {H : Hp} {xs : List V} {ds : List PyData} : DtA H xs ds → DpAll K H xs ds
  | .nil => .nil
  | .cons h t => .cons h.dp t.dp
end
def GdD (d : PyData) : Prop := d.canLay0 = true ∧ d.depth ≤ 8 ∧ PyData.eqv d d = true
def rDat : Rl PyData := ⟨fun H v d => Dt H v d ∧ GdD d, fun s h => ⟨h.1.mono s, h.2⟩⟩
theorem nn_dat (H : Hp) (d : PyData) : ¬ rDat.is H .non d := fun h => nomatch h.1
def DtR {α : Type} (R : Rl α) (enc : α → PyData) : Prop := ∀ H v a, R.is H v a → Dt H v (enc a)
section
variable {α β γ : Type} {R : Rl α} {S : Rl β} {U : Rl γ} {f : α → PyData} {g : β → PyData} {k : γ → PyData}
theorem DtR.all (h : DtR R f) {H : Hp} : ∀ {xs : List V} {l : List α}, All2 (R.is H) xs l → DtA H xs (l.map f)
  | [], [], _ => .nil
  | _ :: _, _ :: _, ⟨a, t⟩ => .cons (h _ _ _ a) (DtR.all h t)
theorem dt_int : DtR rInt PyData.int := fun _ v a h => by cases (show v = .int a from h); exact .int a
theorem dt_bool : DtR rBool PyData.bool := fun _ v a h => by cases (show v = .bl a from h); exact .bool a
theorem dt_list (h : DtR R f) : DtR (rList R) (fun l => .list (l.map f)) := fun H v l ⟨p, xs, e, hp, t⟩ => by subst e; exact .lst hp (h.all t)
theorem dt_tup (h : DtR R f) : DtR (rTup R) (fun l => .tuple (l.map f)) := fun H v l ⟨p, xs, e, hp, t⟩ => by subst e; exact .tup hp (h.all t)
end
theorem GdD.of {K : PySem.W.Frag} {α : Type} {R : Rl α} (E : Eqr K R) (hn : E.n ≤ 8) (a : α) : GdD (E.enc a) := ⟨E.can a, Nat.le_trans (E.dep a) hn, (E.eqv a a).mpr rfl⟩
theorem dat_sh {d : PyData} (h : GdD d) : SeqAt.shaped d = true := by
  unfold SeqAt.shaped
  rw [h.1, Bool.true_and]
  exact decide_eq_true (by have := h.2.1; omega)
section
variable {C : Cn} {Γ : List Ent} {α : Type} {R : Rl α} {ta tb te : TE} {ℓ : Lv} {K : PySem.W.Frag}
theorem evp_dat {P : α → Prop} {f : α → PyData} (h : DtR R f) (g : ∀ a, GdD (f a)) (ha : EvP C te Γ ℓ R P) : EvP C te Γ ℓ rDat (fun z => ∃ a, P a ∧ z = f a) := fun σ W w Q q => ha σ W w Q fun v W' x s b r p => q v W' (f x) s b ⟨h _ _ _ r, g x⟩ ⟨x, p, rfl⟩
theorem ev_dat {f : α → PyData} (h : DtR R f) (g : ∀ a, GdD (f a)) {a : α} (ha : Ev C te Γ ℓ R a) : Ev C te Γ ℓ rDat (f a) := (evp_dat h g ha).imp fun z ⟨b, p, e⟩ => by rw [e, p]
theorem evp_neDt {P1 P2 : PyData → Prop} (ha : EvP C ta Γ .h rDat P1) (hb : EvP C tb Γ .h rDat P2) : EvP C (tOp (rNeD K) ta tb) Γ ℓ rBool (fun z => ∃ a b, P1 a ∧ P2 b ∧ z = !PyData.eqv a b) := evp_bin ha hb fun σ W x y a b Q w r1 r2 p1 p2 q =>
  ⟨a, b, ((rDat.mono (fun _ _ h => (hid_some h).2) r1)).1.dp, (rDat.mono (fun _ _ h => (hid_some h).2) r2).1.dp, dat_sh r1.2, dat_sh r2.2, q _ W _ (Stp.refl W) w.b rfl ⟨a, b, p1, p2, rfl⟩⟩
theorem ev_neDt {a b : PyData} (ha : Ev C ta Γ .h rDat a) (hb : Ev C tb Γ .h rDat b) : Ev C (tOp (rNeD K) ta tb) Γ ℓ rBool (!decide (PyData.eqv a b = true)) := (evp_neDt ha hb).imp fun z ⟨_, _, p, q, e⟩ => by subst p q; rw [e]; simp
end
end GL


set_option Elab.async false
set_option linter.all false
set_option maxRecDepth 100000
set_option maxHeartbeats 1000000
/-! ### the kind of data; a pair whose second is a list of ours; tuples of three in a list or tuple -/
namespace GL
open PySem L2
instance : Inhabited PyData := ⟨.none⟩
def datN : PyData → String
  | .int _ => "int"
  | .bool _ => "bool"
  | .list _ => "list"
  | .tuple _ => "tuple"
  | _ => "NoneType"
section
variable {C : Cn} {Γ : List Ent} {α β γ δ : Type} {R : Rl α} {U : Rl γ} {ta tb te : TE} {ℓ ℓ' : Lv} {K : PySem.W.Frag} {u : TS} {D : Ends}
theorem dt_ty {H : Hp} {v : V} {d : PyData} (h : Dt H v d) : TyX K H v (.type (datN d)) := by
  cases h with
  | int i => exact .base (.int i)
  | bool b => exact .base (.bl b)
  | lst h _ => exact .base (.lst h)
  | tup h _ =>
    rcases h with h | ⟨o, h⟩
    · exact .base (.tup h)
    · exact .fTuple h
theorem dt_in {H : Hp} {v : V} {d : PyData} (h : Dt H v d) : datN d ∈ ["int", "bool", "list", "tuple"] := by
  cases h <;> simp [datN]
theorem ev_isDat {m : String} {d : PyData} (ha : Ev C ta Γ .h rDat d) (hk : ∀ n ∈ ["int", "bool", "list", "tuple"], kitB n m = some (decide (n = m))) : Ev C (tCB (rIsi K) (tCons ta (tCons (tC (.ty m)) tNil))) Γ ℓ rBool (decide (datN d = m)) := fun σ W w Q q =>
  ha σ W w _ fun v W1 x s b r p => by
    subst p
    have h := (rDat.mono (fun _ _ h => (hid_some h).2) r).1
    exact ⟨v, .ty m, .type (datN x), .type m, decide (datN x = m), rfl, .ty m, dt_ty h, kit_ty (hk _ (dt_in h)), q _ W1 _ s b rfl rfl⟩
/-- a pair whose second is a list of ours -/
def obPr {α γ : Type} (R : Rl α) (U : Rl γ) : Ob (α × List γ) := ⟨fun K A v ps a => ∃ p x q xs, v = .ref p ∧ ps = [q] ∧ K p = some (.tup [x, .ref q]) ∧ R.is K x a.1 ∧ A q = some (.lst xs) ∧ All2 (U.is K) xs a.2,
  fun {K K' A A' v ps a} s h ⟨p, x, q, xs, e, e2, e3, e4, e6, e7⟩ => ⟨p, x, q, xs, e, e2, s _ _ e3, R.mono s e4, by rw [h q (by rw [e2]; exact List.mem_cons_self)]; exact e6, e7.imp fun _ _ => U.mono s⟩⟩
theorem q_asgPr {i : Nat} {P : α → Prop} {Pl : List γ → Prop} (h : EvP C ta Γ .g R P) (h2 : EvN C tb Γ .g U Pl) (kk : ∀ v q a l, P a → Pl l → Go C u D (Γ.set i (.ob v [q] .g (obPr R U) (a, l)))) :
    Go C (tSeq (tAsg (tTup (tCons ta (tCons tb tNil))) (gName i)) u) D Γ := fun σ W w =>
  h σ W w _ fun v W1 a s1 b1 r1 p1 => h2 σ W1 (w.stp b1 s1) _ fun q W2 xs l s2 b2 n hH hG r2 p2 => ⟨by show 2 ≤ sizeLine; decide, fun d n2 => by
    have bl := b2.put (o := .tup [v, .ref q]) (b2.h0 n2) (b2.nvs n2) (b2.g0 n2)
    have sl := Stp.put b2 (o := .tup [v, .ref q]) n2
    have hne : q ≠ d := fun e => by rw [e] at hH; rw [hH] at n2; cases n2
    have w3 := ((w.stp b1 s1).stp b2 s2).stp bl sl
    refine kk (.ref d) q a l p1 p2 _ (W2.put d (.tup [v, .ref q])) (w3.set i ⟨by decide, rfl, fun q' hq' => ?_, d, v, q, xs, rfl, rfl, upd_same, R.mono (sl.lv b2 .g) (R.mono (s2.lv b1 .g) r1), ?_, r2.imp fun _ _ => U.mono (sl.lv b2 .g)⟩ fun q' hq' j q'' hj e => ?_)
    · cases List.mem_singleton.mp hq'
      refine ⟨by rw [sl.vs, s2.vs]; exact b1.nvs n, b1.h0 n, ?_, ?_⟩
      · show upd W2.G d _ q = none
        rw [upd_ne hne]; exact hG
      · show upd W2.H d _ q ≠ none
        rw [upd_ne hne, hH]; intro z; cases z
    · show upd W2.H d _ q = _
      rw [upd_ne hne]; exact hH
    · cases List.mem_singleton.mp hq'
      exact (w.stp b1 s1).adne n j q'' e⟩
theorem ev_prH {i : Nat} {v : V} {ps : List Addr} {a : α × List γ} (h : Γ[i]? = some (.ob v ps ℓ (obPr R U) a)) : Ev C (tVar i) Γ .h (rPair R (rList U)) a := fun σ W w Q q => by
  obtain ⟨h1, hl, hp, p, x, q', xs, e, e2, e3, e4, e6, e7⟩ := ob_lit w h
  subst e
  have up := w.b.up ℓ
  have hq : Hm W q' = some (.lst xs) := (hid_out (hp q' (by rw [e2]; exact List.mem_cons_self)).1).trans e6
  exact ⟨_, h1, q _ W a (Stp.refl W) w.b ⟨p, x, .ref q', rfl, up _ _ e3, R.mono up e4, q', xs, rfl, hq, e7.imp fun _ _ => U.mono up⟩ rfl⟩
/-- x[1].append(e) -/
theorem q_appPr {i : Nat} {v : V} {q : Addr} {a : α × List γ} {Pb : γ → Prop} (h : Γ[i]? = some (.ob v [q] ℓ (obPr R U) a)) (hz : a.2.length < 1000000) (he : EvP C te Γ ℓ U Pb) (kk : ∀ b, Pb b → Go C u D (Γ.set i (.ob v [q] ℓ (obPr R U) (a.1, a.2 ++ [b])))) :
    Go C (tSeq (tDrop (tBM K "list" rAppend (tOp (rIxK K .t) (tVar i) (tC (.int 1))) (tCons te tNil))) u) D Γ := fun σ W w => by
  obtain ⟨h1, hl, hp, p, x, q', xs, e, e2, e3, e4, e6, e7⟩ := ob_lit w h
  subst e
  cases e2
  refine ⟨_, h1, ?_⟩
  dsimp only [tC]
  refine tix_go (i := 1) w.b (.inl e3) rfl ?_
  refine ⟨.inl ⟨rfl, _, .inl (.inl e6)⟩, he σ W w _ fun v2 W' b s bk rv pa => ?_⟩
  have w' := w.stp bk s
  obtain ⟨_, _, hp', p2, x2, q2, xs2, f, f2, f3, f4, f6, f7⟩ := ob_lit w' h
  cases f; cases f2
  have hlen : xs2.length < 1000000 := by rw [f7.len]; exact hz
  refine ⟨_, _, v2, rfl, rfl, f6, Nat.lt_of_lt_of_le hlen sizeLine_big, ?_⟩
  exact kk b pa σ _ (w'.ob_set (H' := upd W'.H q (.lst (xs2 ++ [v2]))) (a' := (a.1, a.2 ++ [b])) h (fun z hz => upd_ne fun y => hz (by rw [y]; exact List.mem_singleton.mpr rfl)) (fun z hz => by cases List.mem_singleton.mp hz; rw [upd_same]; intro y; cases y)
    ⟨p, x2, q, xs2 ++ [v2], rfl, rfl, f3, f4, upd_same, f7.app (ys := [v2]) (m := [b]) ⟨rv, trivial⟩⟩)
theorem ev_tripsE [Inhabited α] {l : List (List α)} (h : Ev C te Γ ℓ (rSeq (rTup R)) l) (h3 : ∀ x ∈ l, x.length = 3) : Ev C te Γ ℓ (rSeq (rTrip R R R)) (l.map to3) := fun σ W w Q q =>
  h σ W w Q fun v W' x s b ⟨p, xs, e, hp, t⟩ pl => q v W' _ s b ⟨p, xs, e, hp, all2_trips (by rw [pl]; exact h3) t⟩ (by rw [pl])
end
end GL


set_option linter.all false
set_option maxHeartbeats 1000000
namespace TM
open GL
/-! ### the tree of a row: plain mathematics -/
def nb (row : List Int) (q : Nat) : Int := row.getD q 0
theorem gt_nb (row : List Int) (q : Nat) : gt row (q : Int) = nb row q := by
  unfold gt nb; rw [Int.toNat_natCast]; rfl
/-- nearest earlier place whose number is not above | nearest later place below m with a lesser number -/
def pv (row : List Int) (p : Nat) : Option Nat := ((List.range p).filter fun q => decide (nb row q ≤ nb row p)).getLast?
def nxt (row : List Int) (m p : Nat) : Option Nat := ((List.range m).filter fun q => decide (p < q ∧ nb row q < nb row p)).head?
def eld (row : List Int) (m p : Nat) : Int := match pv row p, nxt row m p with
  | none, none => -1
  | some a, none => a
  | none, some b => b
  | some a, some b => if nb row a ≤ nb row b then b else a
def treeB (row : List Int) (m : Nat) : List Int := (List.range row.length).map fun p => if p < m then eld row m p else -1
def treeOf (row : List Int) : List Int := (List.range row.length).map fun p => eld row row.length p
def opens (row : List Int) (m : Nat) : List Nat := (List.range m).filter fun q => (List.range m).all fun j => decide (j ≤ q ∨ nb row q ≤ nb row j)

theorem pv_some {row : List Int} {p a : Nat} : pv row p = some a ↔ a < p ∧ nb row a ≤ nb row p ∧ ∀ b, a < b → b < p → nb row p < nb row b := by
  unfold pv
  constructor
  · intro h
    have hm := List.mem_of_getLast? h
    rw [List.mem_filter, List.mem_range, decide_eq_true_eq] at hm
    refine ⟨hm.1, hm.2, fun b h1 h2 => ?_⟩
    rcases Int.lt_or_le (nb row p) (nb row b) with h3 | h3
    · exact h3
    exfalso
    have hb : b ∈ (List.range p).filter fun q => decide (nb row q ≤ nb row p) := by
      rw [List.mem_filter, List.mem_range, decide_eq_true_eq]; exact ⟨h2, h3⟩
    have hs : ((List.range p).filter fun q => decide (nb row q ≤ nb row p)).Pairwise (· < ·) := List.Pairwise.filter _ List.pairwise_lt_range
    generalize hl : ((List.range p).filter fun q => decide (nb row q ≤ nb row p)) = l at h hb hs
    obtain ⟨l', rfl⟩ : ∃ l', l = l' ++ [a] := by
      rcases List.eq_nil_or_concat l with e | ⟨l', x, e⟩
      · rw [e] at h; cases h
      · rw [e] at h
        simp at h
        exact ⟨l', by rw [e, h]; simp⟩
    rw [List.mem_append, List.mem_singleton] at hb
    rcases hb with hb | hb
    · have := (List.pairwise_append.mp hs).2.2 b hb a (by simp)
      omega
    · omega
  · rintro ⟨h1, h2, h3⟩
    have e : List.range p = List.range (a + 1) ++ (List.range (p - (a + 1))).map (a + 1 + ·) := by
      rw [← List.range_add]; congr 1; omega
    rw [e, List.filter_append, List.range_succ, List.filter_append]
    have e2 : ((List.range (p - (a + 1))).map (a + 1 + ·)).filter (fun q => decide (nb row q ≤ nb row p)) = [] := by
      rw [List.filter_eq_nil_iff]
      intro q hq
      rw [List.mem_map] at hq
      obtain ⟨i, hi, rfl⟩ := hq
      rw [List.mem_range] at hi
      have := h3 (a + 1 + i) (by omega) (by omega)
      simp; omega
    rw [e2, List.append_nil]
    simp [h2]
theorem pv_none {row : List Int} {p : Nat} : pv row p = none ↔ ∀ b, b < p → nb row p < nb row b := by
  unfold pv
  rw [List.getLast?_eq_none_iff, List.filter_eq_nil_iff]
  constructor
  · intro h b hb
    have := h b (List.mem_range.mpr hb)
    simp at this; omega
  · intro h b hb
    have := h b (List.mem_range.mp hb)
    simp; omega
theorem nxt_some {row : List Int} {m p b : Nat} : nxt row m p = some b ↔ p < b ∧ b < m ∧ nb row b < nb row p ∧ ∀ c, p < c → c < b → nb row p ≤ nb row c := by
  unfold nxt
  constructor
  · intro h
    have hm := List.mem_of_head? h
    rw [List.mem_filter, List.mem_range, decide_eq_true_eq] at hm
    refine ⟨hm.2.1, hm.1, hm.2.2, fun c h1 h2 => ?_⟩
    rcases Int.lt_or_le (nb row c) (nb row p) with h3 | h3
    · exfalso
      have hb : c ∈ (List.range m).filter fun q => decide (p < q ∧ nb row q < nb row p) := by
        rw [List.mem_filter, List.mem_range, decide_eq_true_eq]; exact ⟨by omega, h1, h3⟩
      have hs : ((List.range m).filter fun q => decide (p < q ∧ nb row q < nb row p)).Pairwise (· < ·) := List.Pairwise.filter _ List.pairwise_lt_range
      generalize hl : ((List.range m).filter fun q => decide (p < q ∧ nb row q < nb row p)) = l at h hb hs
      cases l with
      | nil => cases h
      | cons x l =>
        have : x = b := by simpa using h
        subst this
        rcases List.mem_cons.mp hb with e | hb
        · omega
        · have := (List.pairwise_cons.mp hs).1 c hb
          omega
    · exact h3
  · rintro ⟨h1, h2, h3, h4⟩
    have e : List.range m = List.range b ++ (List.range (m - b)).map (b + ·) := by
      rw [← List.range_add]; congr 1; omega
    have e2 : (List.range b).filter (fun q => decide (p < q ∧ nb row q < nb row p)) = [] := by
      rw [List.filter_eq_nil_iff]
      intro q hq
      rw [List.mem_range] at hq
      simp only [decide_eq_true_eq, not_and]
      intro hpq
      have := h4 q hpq hq
      omega
    rw [e, List.filter_append, e2, List.nil_append]
    obtain ⟨k, hk⟩ : ∃ k, m - b = k + 1 := ⟨m - b - 1, by omega⟩
    rw [hk, List.range_succ_eq_map]
    simp [h1, h3]
theorem nxt_none {row : List Int} {m p : Nat} : nxt row m p = none ↔ ∀ c, p < c → c < m → nb row p ≤ nb row c := by
  unfold nxt
  rw [List.head?_eq_none_iff, List.filter_eq_nil_iff]
  constructor
  · intro h c h1 h2
    have := h c (List.mem_range.mpr h2)
    simp only [decide_eq_true_eq, not_and] at this
    have := this h1
    omega
  · intro h c hc
    simp only [decide_eq_true_eq, not_and]
    intro h1
    have := h c h1 (List.mem_range.mp hc)
    omega
theorem mem_opens {row : List Int} {m q : Nat} : q ∈ opens row m ↔ q < m ∧ ∀ j, q < j → j < m → nb row q ≤ nb row j := by
  unfold opens
  rw [List.mem_filter, List.mem_range, List.all_eq_true]
  constructor
  · rintro ⟨h1, h2⟩
    refine ⟨h1, fun j h3 h4 => ?_⟩
    have := h2 j (List.mem_range.mpr h4)
    simp only [decide_eq_true_eq] at this
    omega
  · rintro ⟨h1, h2⟩
    refine ⟨h1, fun j hj => ?_⟩
    simp only [decide_eq_true_eq]
    by_cases h : j ≤ q
    · exact .inl h
    · exact .inr (h2 j (by omega) (List.mem_range.mp hj))
theorem opens_sorted (row : List Int) (m : Nat) : (opens row m).Pairwise (· < ·) := List.Pairwise.filter _ List.pairwise_lt_range
theorem opens_succ (row : List Int) (m : Nat) : opens row (m + 1) = (opens row m).filter (fun q => decide (nb row q ≤ nb row m)) ++ [m] := by
  unfold opens
  rw [List.range_succ, List.filter_append, List.filter_filter]
  congr 1
  · refine List.filter_congr fun q hq => ?_
    rw [List.mem_range] at hq
    rw [List.all_append, Bool.and_comm]
    congr 1
    simp only [List.all_cons, List.all_nil, Bool.and_true]
    rw [decide_eq_decide]
    constructor
    · rintro (h | h)
      · omega
      · exact h
    · exact .inr
  · rw [List.filter_eq_self]
    intro q hq
    rw [List.mem_singleton] at hq
    subst hq
    rw [List.all_eq_true]
    intro j hj
    simp only [List.mem_append, List.mem_range, List.mem_singleton] at hj
    simp only [decide_eq_true_eq]
    omega
/-- what stands below a place among the open ones is the nearest earlier place not above -/
theorem pv_opens {row : List Int} {m j p : Nat} (h : (opens row m)[j]? = some p) : pv row p = if j = 0 then none else (opens row m)[j - 1]? := by
  have hs := opens_sorted row m
  have hj : j < (opens row m).length := (List.getElem?_eq_some_iff.mp h).1
  have hp : (opens row m)[j] = p := by rw [List.getElem?_eq_getElem hj] at h; exact Option.some.inj h
  have pm := mem_opens.mp (List.mem_of_getElem? h)
  -- the nearest earlier one, if any, is open
  have key : ∀ a, pv row p = some a → ∃ i, i < j ∧ (opens row m)[i]? = some a := fun a ha => by
    obtain ⟨h1, h2, h3⟩ := pv_some.mp ha
    have ao : a ∈ opens row m := mem_opens.mpr ⟨by omega, fun c h4 h5 => by
      rcases Nat.lt_trichotomy c p with h | h | h
      · have := h3 c h4 h; omega
      · rw [h]; exact h2
      · have := pm.2 c h h5; omega⟩
    obtain ⟨i, hi, e⟩ := List.getElem_of_mem ao
    refine ⟨i, ?_, by rw [List.getElem?_eq_getElem hi, e]⟩
    rcases Nat.lt_trichotomy i j with h | h | h
    · exact h
    · subst h; rw [hp] at e; omega
    · have := List.pairwise_iff_getElem.mp hs j i hj hi h
      rw [hp, e] at this; omega
  by_cases h0 : j = 0
  · rw [if_pos h0]
    cases e : pv row p with
    | none => rfl
    | some a =>
      obtain ⟨i, hi, _⟩ := key a e
      omega
  · rw [if_neg h0]
    have hj1 : j - 1 < (opens row m).length := by omega
    rw [List.getElem?_eq_getElem hj1]
    generalize hb : (opens row m)[j - 1] = b
    have bm := mem_opens.mp (hb ▸ List.getElem_mem hj1)
    have blt : b < p := by
      have := List.pairwise_iff_getElem.mp hs (j - 1) j hj1 hj (by omega)
      rw [hb, hp] at this; exact this
    have ble : nb row b ≤ nb row p := bm.2 p blt pm.1
    cases e : pv row p with
    | none =>
      have := pv_none.mp e b blt
      omega
    | some a =>
      obtain ⟨i, hi, ei⟩ := key a e
      have hil : i < (opens row m).length := by omega
      rw [List.getElem?_eq_getElem hil] at ei
      have ei' := Option.some.inj ei
      rcases Nat.lt_or_ge i (j - 1) with h | h
      · have hab := List.pairwise_iff_getElem.mp hs i (j - 1) hil hj1 h
        rw [ei', hb] at hab
        have := (pv_some.mp e).2.2 b hab blt
        omega
      · have : i = j - 1 := by omega
        subst this
        rw [← hb, ei']
theorem filter_take {f : Nat → Int} {x : Int} : ∀ {l : List Nat} {L : Nat}, l.Pairwise (fun a b => f a ≤ f b) → L ≤ l.length → (∀ j (h : j < l.length), L ≤ j → x < f l[j]) → (∀ (h : 0 < L) (h' : L - 1 < l.length), f l[L - 1] ≤ x) → l.filter (fun q => decide (f q ≤ x)) = l.take L := by
  intro l L hp hl h1 h2
  conv => lhs; rw [← List.take_append_drop L l]
  rw [List.filter_append]
  have e1 : (l.take L).filter (fun q => decide (f q ≤ x)) = l.take L := by
    rw [List.filter_eq_self]
    intro a ha
    obtain ⟨i, hi, e⟩ := List.getElem_of_mem ha
    rw [List.length_take] at hi
    rw [List.getElem_take] at e
    have hL : 0 < L := by omega
    have h3 := h2 hL (by omega)
    rcases Nat.lt_or_ge i (L - 1) with h | h
    · have := List.pairwise_iff_getElem.mp hp i (L - 1) (by omega) (by omega) h
      rw [e] at this
      simp; omega
    · have : i = L - 1 := by omega
      subst this
      rw [e] at h3
      simp; omega
  have e2 : (l.drop L).filter (fun q => decide (f q ≤ x)) = [] := by
    rw [List.filter_eq_nil_iff]
    intro a ha
    obtain ⟨i, hi, e⟩ := List.getElem_of_mem ha
    rw [List.length_drop] at hi
    rw [List.getElem_drop] at e
    have := h1 (L + i) (by omega) (by omega)
    rw [e] at this
    simp; omega
  rw [e1, e2, List.append_nil]
theorem opens_mono (row : List Int) (m : Nat) : (opens row m).Pairwise (fun a b => nb row a ≤ nb row b) := by
  rw [List.pairwise_iff_getElem]
  intro i j hi hj hij
  have h := List.pairwise_iff_getElem.mp (opens_sorted row m) i j hi hj hij
  exact (mem_opens.mp (List.getElem_mem hi)).2 _ h (mem_opens.mp (List.getElem_mem hj)).1
theorem treeB_get {row : List Int} {m p : Nat} (h : p < row.length) : (treeB row m)[p]? = some (if p < m then eld row m p else -1) := by
  unfold treeB
  rw [List.getElem?_map, List.getElem?_range h]; rfl
theorem treeB_len (row : List Int) (m : Nat) : (treeB row m).length = row.length := by simp [treeB]
/-- one place more -/
theorem eld_succ {row : List Int} {m p : Nat} (hp : p < m) : eld row (m + 1) p = if p ∈ opens row m ∧ nb row m < nb row p then (match pv row p with | none => (m : Int) | some a => if nb row a ≤ nb row m then m else a) else eld row m p := by
  by_cases h : p ∈ opens row m ∧ nb row m < nb row p
  · rw [if_pos h]
    have e : nxt row (m + 1) p = some m := nxt_some.mpr ⟨hp, by omega, h.2, fun c h1 h2 => (mem_opens.mp h.1).2 c h1 h2⟩
    unfold eld
    rw [e]
    cases pv row p <;> rfl
  · rw [if_neg h]
    have e : nxt row (m + 1) p = nxt row m p := by
      cases q : nxt row m p with
      | some b =>
        obtain ⟨h1, h2, h3, h4⟩ := nxt_some.mp q
        exact nxt_some.mpr ⟨h1, by omega, h3, h4⟩
      | none =>
        have q' := nxt_none.mp q
        refine nxt_none.mpr fun c h1 h2 => ?_
        rcases Nat.lt_or_ge c m with h3 | h3
        · exact q' c h1 h3
        · have : c = m := by omega
          subst this
          rcases Int.lt_or_le (nb row c) (nb row p) with h4 | h4
          · exact absurd ⟨mem_opens.mpr ⟨hp, q'⟩, h4⟩ h
          · exact h4
    unfold eld
    rw [e]
/-- one turn of the stack: the open ones cut to L, the first one that goes hangs under m, m under the last that stays -/
theorem tree_step {row : List Int} {m L : Nat} (hm : m < row.length) (hL : L ≤ (opens row m).length) (h1 : ∀ j (h : j < (opens row m).length), L ≤ j → nb row m < nb row (opens row m)[j]) (h2 : ∀ (h : 0 < L) (h' : L - 1 < (opens row m).length), nb row (opens row m)[L - 1] ≤ nb row m) :
    opens row (m + 1) = (opens row m).take L ++ [m] ∧
    treeB row (m + 1) = (match (opens row m)[L]? with | none => treeB row m | some g => (treeB row m).set g m).set m (match ((opens row m).take L).getLast? with | none => -1 | some a => (a : Int)) := by
  have ho : opens row (m + 1) = (opens row m).take L ++ [m] := by
    rw [opens_succ, filter_take (f := nb row) (opens_mono row m) hL h1 h2]
  refine ⟨ho, ?_⟩
  have lenT : ((opens row m).take L).length = L := by rw [List.length_take]; omega
  have getm : (opens row (m + 1))[L]? = some m := by
    rw [ho, List.getElem?_append_right (by omega), lenT, Nat.sub_self]; rfl
  have pvm : pv row m = ((opens row m).take L).getLast? := by
    rw [pv_opens getm, List.getLast?_eq_getElem?, lenT]
    by_cases h0 : L = 0
    · subst h0; simp
    · rw [if_neg h0, ho, List.getElem?_append_left (by omega)]
  refine List.ext_getElem? fun p => ?_
  by_cases hp : p < row.length
  · rw [treeB_get hp]
    by_cases e : m = p
    · subst e
      rw [List.getElem?_set_self (by cases (opens row m)[L]? <;> simp [treeB_len, hm]), if_pos (by omega)]
      congr 1
      have en : nxt row (m + 1) m = none := nxt_none.mpr fun c h1 h2 => by omega
      unfold eld
      rw [en, pvm]
      cases ((opens row m).take L).getLast? <;> rfl
    · rw [List.getElem?_set_ne e]
      by_cases hpm : p < m
      · rw [if_pos (by omega), eld_succ hpm]
        cases eg : (opens row m)[L]? with
        | none =>
          show _ = (treeB row m)[p]?
          rw [treeB_get hp, if_pos hpm, if_neg]
          rintro ⟨ho', hlt⟩
          obtain ⟨i, hi, ei⟩ := List.getElem_of_mem ho'
          rw [List.getElem?_eq_none_iff] at eg
          have h3 : 0 < L := by omega
          have h4 := h2 h3 (by omega)
          have h5 : nb row (opens row m)[i] ≤ nb row (opens row m)[L - 1] := by
            rcases Nat.lt_or_ge i (L - 1) with h | h
            · exact List.pairwise_iff_getElem.mp (opens_mono row m) i (L - 1) hi (by omega) h
            · have : i = L - 1 := by omega
              subst this
              exact Int.le_refl _
          rw [ei] at h5
          omega
        | some g =>
          show _ = ((treeB row m).set g m)[p]?
          have hgl : L < (opens row m).length := (List.getElem?_eq_some_iff.mp eg).1
          have hge : (opens row m)[L] = g := by rw [List.getElem?_eq_getElem hgl] at eg; exact Option.some.inj eg
          have gm := mem_opens.mp (hge ▸ List.getElem_mem hgl)
          by_cases eg2 : g = p
          · subst eg2
            rw [List.getElem?_set_self (by rw [treeB_len]; omega), if_pos ⟨mem_opens.mpr gm, by have := h1 L hgl (Nat.le_refl _); rw [hge] at this; exact this⟩]
            congr 1
            rw [pv_opens eg]
            by_cases h0 : L = 0
            · rw [if_pos h0]
            · rw [if_neg h0]
              have hl1 : L - 1 < (opens row m).length := by omega
              rw [List.getElem?_eq_getElem hl1]
              show (if nb row (opens row m)[L - 1] ≤ nb row m then _ else _) = _
              rw [if_pos (h2 (by omega) hl1)]
          · rw [List.getElem?_set_ne eg2, treeB_get hp, if_pos hpm]
            congr 1
            by_cases hc : p ∈ opens row m ∧ nb row m < nb row p
            · rw [if_pos hc]
              obtain ⟨i, hi, ei⟩ := List.getElem_of_mem hc.1
              have hiL : L < i := by
                rcases Nat.lt_trichotomy i L with h | h | h
                · exfalso
                  have h4 := h2 (by omega) (by omega)
                  have h5 : nb row (opens row m)[i] ≤ nb row (opens row m)[L - 1] := by
                    rcases Nat.lt_or_ge i (L - 1) with h | h
                    · exact List.pairwise_iff_getElem.mp (opens_mono row m) i (L - 1) hi (by omega) h
                    · have : i = L - 1 := by omega
                      subst this
                      exact Int.le_refl _
                  rw [ei] at h5
                  have := hc.2
                  omega
                · subst h; rw [hge] at ei; exact absurd ei eg2
                · exact h
              have epv : pv row p = some (opens row m)[i - 1] := by
                rw [pv_opens (m := m) (j := i) (by rw [List.getElem?_eq_getElem hi, ei]), if_neg (by omega), List.getElem?_eq_getElem (by omega)]
              rw [epv]
              have h6 := h1 (i - 1) (by omega) (by omega)
              show (if nb row (opens row m)[i - 1] ≤ nb row m then _ else _) = _
              rw [if_neg (by omega)]
              unfold eld
              rw [epv, nxt_none.mpr (mem_opens.mp hc.1).2]
            · rw [if_neg hc]
      · rw [if_neg (by omega)]
        cases eg : (opens row m)[L]? with
        | none =>
          show _ = (treeB row m)[p]?
          rw [treeB_get hp, if_neg hpm]
        | some g =>
          show _ = ((treeB row m).set g m)[p]?
          have hgl : L < (opens row m).length := (List.getElem?_eq_some_iff.mp eg).1
          have hge : (opens row m)[L] = g := by rw [List.getElem?_eq_getElem hgl] at eg; exact Option.some.inj eg
          have gm := mem_opens.mp (hge ▸ List.getElem_mem hgl)
          rw [List.getElem?_set_ne (by omega), treeB_get hp, if_neg hpm]
  · rw [List.getElem?_eq_none (by rw [treeB_len]; omega), List.getElem?_eq_none]
    rw [List.length_set]
    cases (opens row m)[L]? <;> simp [treeB_len] <;> omega
end TM


set_option linter.all false
set_option maxHeartbeats 1000000
namespace GL
open PySem L2
def veB : List Value := [.type "ValueError", .type "Exception", .type "BaseException", .type "object"]
/-- what the written part says of an own class of errors at C -/
structure ExcT (K : PySem.W.Frag) (mg : Str → Option Value) (C : Addr) (nm : Str) : Prop where
  x : PySem.W.excIn K C veB "ValueError.__new__" = true
  g : mg nm = some (.ref C)
  k : PySem.W.keepIn K (.ref C) = true
  b : PySem.W.subIn K (.ref C) (.type "BaseException") = some true
  t : PySem.W.typeIn K (.ref C) = some (.type "type")
end GL
namespace L2
open PySem PySem.Spec PyProof.Rows
section
variable {X : Cx} {a b c d : Expr} {ta tb tc td : TE} {pos : Pos}
def tChain3 (r r' r'' : R2) (ta tb tc td : TE) : TE := fun σ H Q => ta σ H fun x H1 => tb σ H1 fun y H2 => r x y H2 fun z H3 => ∃ k, z = .bl k ∧
  (if k = true then tc σ H3 fun v H4 => r' y v H4 fun z' H5 => ∃ k', z' = .bl k' ∧ (if k' = true then td σ H5 fun u H6 => r'' v u H6 Q else Q (.bl false) H5) else Q (.bl false) H3)
theorem pt_chain3 {o1 o2 o3 : CmpOp} {r r' r'' : R2} (h1 : OpR X (compareOp o1) r) (h2 : OpR X (compareOp o2) r') (h3 : OpR X (compareOp o3) r'') (ha : PE X a ta) (hb : PE X b tb) (hc : PE X c tc) (hd : PE X d td)
    (hm : lastMarks [o1, o2, o3] [b, c, d] = false := by with_unfolding_all rfl) : PT X (.Compare a [o1, o2, o3] [b, c, d] pos) (tTest (tChain3 r r' r'' ta tb tc td)) := by
  refine ⟨fun pins s σ H Q I h => ?_⟩
  refine isTrue_chain (thn (ha.run pins s σ H _ I h) fun v s1 ⟨x, H1, I1, r1, q1⟩ => test_link (thn (hb.run pins s1 σ H1 _ I1 q1) fun u s2 ⟨y, H2, I2, r2, q2⟩ =>
    thn (h1 pins s2 σ H2 x y v u _ I2 r1 r2 q2) fun f1 s3 ⟨z, H3, I3, r3, k, e, q3⟩ => ?_)) hm
  subst e
  cases r3
  refine wpAny_truthy_bool ?_
  cases k with
  | false =>
    obtain ⟨k', e', q'⟩ := q3
    cases e'
    exact ite_ff ⟨H3, I3, q'⟩
  | true =>
    refine ite_tt (test_link (thn (hc.run pins s3 σ H3 _ I3 q3) fun w' s4 ⟨z', H4, I4, r4, q4⟩ => thn (h2 pins s4 σ H4 y z' u w' _ I4 r2 r4 q4) fun f2 s5 ⟨z2, H5, I5, r5, k2, e2, q5⟩ => ?_))
    subst e2
    cases r5
    refine wpAny_truthy_bool ?_
    cases k2 with
    | false =>
      obtain ⟨k', e', q'⟩ := q5
      cases e'
      exact ite_ff ⟨H5, I5, q'⟩
    | true =>
      refine ite_tt (test_last (thn (hd.run pins s5 σ H5 _ I5 q5) fun w2 s6 ⟨z3, H6, I6, r6, q6⟩ => thn (h3 pins s6 σ H6 z' z3 w' w2 _ I6 r4 r6 q6) fun f3 s7 ⟨z4, H7, I7, r7, k3, e3, q7⟩ => ?_))
      subst e3
      cases r7
      exact wpAny_truthy_bool ⟨H7, I7, q7⟩
end
end L2
namespace GL
open PySem L2
variable {C : Cn} {Γ : List Ent} {ta tb tc td : TE}
theorem ec_chain3 {p q r : Int → Int → Prop} [∀ i j, Decidable (p i j)] [∀ i j, Decidable (q i j)] [∀ i j, Decidable (r i j)] {i j k l : Int} (ha : Ev C ta Γ .h rInt i) (hb : Ev C tb Γ .h rInt j) (hc : Ev C tc Γ .h rInt k) (hd : Ev C td Γ .h rInt l) :
    EvC C (tTest (tChain3 (rI0 fun i j => .bl (decide (p i j))) (rI0 fun i j => .bl (decide (q i j))) (rI0 fun i j => .bl (decide (r i j))) ta tb tc td)) Γ (p i j ∧ q j k ∧ r k l) := fun σ W w Q kk =>
  ha σ W w _ fun v W1 a s1 b1 r1 p1 => hb σ W1 (w.stp b1 s1) _ fun u W2 b s2 b2 r2 p2 => by
    subst p1 p2
    refine ⟨a, b, r1, r2, decide (p a b), rfl, ?_⟩
    have s12 := s1.trans w.b b1 s2
    by_cases h : p a b
    · rw [if_pos (decide_eq_true h)]
      refine hc σ W2 (w.stp b2 s12) _ fun z W3 d s3 b3 r3 p3 => ?_
      subst p3
      have s13 := s12.trans w.b b2 s3
      refine ⟨b, d, r2, r3, decide (q b d), rfl, ?_⟩
      by_cases h2 : q b d
      · rw [if_pos (decide_eq_true h2)]
        refine hd σ W3 (w.stp b3 s13) _ fun z2 W4 d2 s4 b4 r4 p4 => ?_
        subst p4
        exact ⟨d, d2, r3, r4, decide (r d d2), rfl, kk _ W4 (s13.trans w.b b3 s4) b4 (by simp [h, h2])⟩
      · rw [if_neg (by simpa using h2)]
        exact ⟨false, rfl, kk _ W3 s13 b3 (by simp [h, h2])⟩
    · rw [if_neg (by simpa using h)]
      exact ⟨false, rfl, kk _ W2 s12 b2 (by simp [h])⟩
end GL
open PySem L2 in
theorem roomUn {k : Nat} {A : Around} (h : Room k A) : A.units + 64 < cLine := by have := h.un; omega
def oget {α : Type} [Inhabited α] (o : Option α) : α := o.getD default
theorem oget_some {α : Type} [Inhabited α] {o : Option α} (h : ¬ o = none) : o = some (oget o) := by cases o with | none => exact absurd rfl h | some x => rfl
open PySem L2 GL in
theorem same_hid_upd {H : Hp} {p : Addr} {o : HO} : Same (hid H [p]) (hid (upd H p o) [p]) := fun q u h => by
  obtain ⟨h1, h2⟩ := hid_some h
  rw [hid_out h1, upd_ne (fun z => h1 (by rw [z]; exact List.mem_singleton.mpr rfl))]
  exact h2
namespace TM
open GL
theorem tree_in {row : List Int} {i : Nat} {S0 S : List Int} {n : Nat} (h0 : S0 = (TM.opens row i).map fun (q : Nat) => (q : Int)) (hi : i < row.length) (h1 : S = S0.take n) (hs : S ≠ []) : 0 ≤ gtB S 1 ∧ gtB S 1 < row.length := by
  have hm : gtB S 1 ∈ S := gtB_mem ⟨by decide, List.length_pos_iff.mpr hs⟩
  generalize gtB S 1 = z at hm
  rw [h1] at hm
  have := List.mem_of_mem_take hm
  rw [h0, List.mem_map] at this
  obtain ⟨q, hq, e⟩ := this
  have := (TM.mem_opens.mp hq).1
  omega
theorem tree_pop {row S0 S : List Int} {x g : Int} (h0 : S.length ≤ S0.length) (h1 : S = S0.take S.length) (h2 : ∀ j, S.length ≤ j → ∀ q, S0[j]? = some q → x < gt row q) (hs : ¬ S = []) (hg : x < gt row (gtB S 1)) (e : g = gtB S 1) :
    ((S.dropLast.length ≤ S0.length) ∧ (S.dropLast = S0.take S.dropLast.length) ∧ (∀ j, S.dropLast.length ≤ j → ∀ q, S0[j]? = some q → x < gt row q) ∧ (some g = S0[S.dropLast.length]?)) ∧ S.dropLast.length < S.length := by
  have hp : 0 < S.length := List.length_pos_iff.mpr hs
  have hl : S.dropLast.length = S.length - 1 := List.length_dropLast
  have hd : S[S.length - 1]? = some (gtB S 1) := gtB_get ⟨by decide, hp⟩
  have h0' : S0[S.length - 1]? = some (gtB S 1) := by
    rw [← hd]
    conv => rhs; rw [h1]
    rw [List.getElem?_take]
    rw [if_pos]
    · rw [List.length_take]; congr 1; omega
    · rw [List.length_take]; omega
  rw [hl]
  refine ⟨⟨by omega, ?_, ?_, ?_⟩, by omega⟩
  · conv => lhs; rw [h1]
    rw [List.dropLast_eq_take, List.take_take, List.length_take]
    congr 1; omega
  · intro j hj q hq
    by_cases e2 : S.length ≤ j
    · exact h2 j e2 q hq
    · have : j = S.length - 1 := by omega
      subst this
      rw [h0'] at hq
      cases hq
      exact hg
  · rw [h0', e]
theorem tree_open {row S0 S : List Int} {i : Nat} (h : S.length ≤ S0.length) (h1 : S0 = (opens row i).map fun (q : Nat) => (q : Int)) : S.length ≤ i := by
  rw [h1, List.length_map] at h
  have : (opens row i).length ≤ i := by unfold opens; exact Nat.le_trans (List.length_filter_le ..) (by simp)
  omega
def setO (E : List Int) (g : Option Int) (p : Int) : List Int := match g with | none => E | some g => E.set g.toNat p
theorem tree_fin {E1 E2 S : List Int} {i : Nat} {T : List Nat} {p : Int} (hi : E1[i]? = some (-1)) (hl : T.length = S.length) (ht : S = T.map fun (q : Nat) => (q : Int)) (b0 : S ≠ [] → E2 = E1.set p.toNat (gtB S 1)) (b1 : S = [] → E2 = E1) (e1 : p = (i : Int)) :
    E2 = E1.set i (match T.getLast? with | none => -1 | some a => (a : Int)) := by
  by_cases hs : S = []
  · rw [b1 hs]
    have : T = [] := by apply List.eq_nil_of_length_eq_zero; rw [hl, hs]; rfl
    subst this
    show E1 = E1.set i (-1)
    refine List.ext_getElem? fun q => ?_
    by_cases hp : i = q
    · subst hp
      rw [List.getElem?_set_self (List.getElem?_eq_some_iff.mp hi).1, hi]
    · rw [List.getElem?_set_ne hp]
  · rw [b0 hs, e1]
    have hp : 0 < S.length := List.length_pos_iff.mpr hs
    have hd : S[S.length - 1]? = some (gtB S 1) := gtB_get ⟨by decide, hp⟩
    have : ∃ a, T.getLast? = some a ∧ gtB S 1 = (a : Int) := by
      rw [List.getLast?_eq_getElem?, hl]
      generalize gtB S 1 = z at *
      rw [ht] at hd
      rw [List.getElem?_map] at hd
      simp only [List.length_map, hl] at hd
      cases e : T[S.length - 1]? with
      | none => rw [e] at hd; cases hd
      | some a =>
        rw [e] at hd
        exact ⟨a, rfl, (Option.some.inj hd).symm⟩
    obtain ⟨a, q1, q2⟩ := this
    rw [q1, q2, Int.toNat_natCast]
theorem tree_turn {row E S0 S E1 E2 : List Int} {i : Nat} {g : Option Int} {x : Int × Int} (h0 : E = treeB row i) (h1 : S0 = (opens row i).map fun (q : Nat) => (q : Int))
    (a0 : S.length ≤ S0.length) (a1 : S = S0.take S.length) (a2 : ∀ j, S.length ≤ j → ∀ q, S0[j]? = some q → x.2 < gt row q) (a3 : g = S0[S.length]?)
    (hw : ¬ (¬ S = [] ∧ x.2 < gt row (gtB S 1))) (j0 : E1 = setO E g x.1)
    (b0 : S ≠ [] → E2 = E1.set x.1.toNat (gtB S 1)) (b1 : S = [] → E2 = E1) (hx : (enu row)[i]? = some x) :
    (E2 = treeB row (i + 1)) ∧ (S ++ [x.1] = (opens row (i + 1)).map fun (q : Nat) => (q : Int)) := by
  obtain ⟨e1, e2⟩ := enu_at hx
  have hi := at_lt e2
  have ex : x.2 = nb row i := by
    unfold nb; rw [List.getD_eq_getElem?_getD, e2]; rfl
  have hlen : S.length ≤ (opens row i).length := by rw [h1, List.length_map] at a0; exact a0
  have key := tree_step (L := S.length) hi hlen (fun j h hj => by
      have := a2 j hj _ (by rw [h1, List.getElem?_map, List.getElem?_eq_getElem h]; rfl)
      rw [gt_nb, ex] at this; exact this) (fun h h' => by
      have hd : S[S.length - 1]? = some (gtB S 1) := gtB_get ⟨by decide, h⟩
      have hs : ¬ S = [] := List.length_pos_iff.mp h
      have hn : ¬ x.2 < gt row (gtB S 1) := fun z => hw ⟨hs, z⟩
      have : gtB S 1 = ((opens row i)[S.length - 1] : Nat) := by
        have q : S0[S.length - 1]? = some (gtB S 1) := by
          rw [← hd]
          conv => rhs; rw [a1]
          rw [List.getElem?_take]
          rw [if_pos]
          · rw [List.length_take]; congr 1; omega
          · rw [List.length_take]; omega
        rw [h1, List.getElem?_map, List.getElem?_eq_getElem h'] at q
        exact (Option.some.inj q).symm
      rw [this, gt_nb, ex] at hn
      omega)
  obtain ⟨k1, k2⟩ := key
  have ht : S = ((opens row i).take S.length).map fun (q : Nat) => (q : Int) := by
    conv => lhs; rw [a1, h1]
    rw [List.map_take]
  refine ⟨?_, ?_⟩
  · have fin : ∀ T : List Int, E1 = T → T.length = row.length → T[i]? = some (-1) → treeB row (i + 1) = T.set i (match ((opens row i).take S.length).getLast? with | none => -1 | some a => (a : Int)) → E2 = treeB row (i + 1) := by
      intro T hT hTl hTi hTe
      subst hT
      rw [hTe]
      exact tree_fin hTi (by rw [List.length_take]; omega) ht b0 b1 e1
    cases e : (opens row i)[S.length]? with
    | none =>
      rw [e] at k2
      refine fin (treeB row i) ?_ (treeB_len ..) (by rw [treeB_get hi, if_neg (by omega)]) k2
      rw [j0, a3, h1, List.getElem?_map, e, h0]; rfl
    | some g' =>
      rw [e] at k2
      have := (mem_opens.mp (List.mem_of_getElem? e)).1
      refine fin ((treeB row i).set g' i) ?_ (by rw [List.length_set, treeB_len]) (by rw [List.getElem?_set_ne (by omega), treeB_get hi, if_neg (by omega)]) k2
      rw [j0, a3, h1, List.getElem?_map, e, h0, e1]
      show (treeB row i).set (g' : Int).toNat _ = _
      rw [Int.toNat_natCast]
  · rw [k1, List.map_append, ← ht, e1]; rfl
end TM


set_option linter.all false
set_option maxHeartbeats 1000000
namespace TM
open GL
/-- first place of the least of a stretch -/
def low (row : List Int) (a b : Int) : Int := a + (((sl row (some a) (some (b + 1))).idxOf (lmin (sl row (some a) (some (b + 1)))) : Nat) : Int)
/-- what hangs over the stretch a..b -/
def tv (row : List Int) (a b : Nat) : Int :=
  if a = 0 then (if b < row.length then (b : Int) else -1)
  else if b < row.length then (if nb row (a - 1) ≤ nb row b then (b : Int) else ((a - 1 : Nat) : Int)) else ((a - 1 : Nat) : Int)
/-- a stretch a..b-1 -/
structure Good (row : List Int) (a b : Nat) (e : Int) : Prop where
  ab : a ≤ b
  bn : b ≤ row.length
  l : 0 < a → ∀ j, a ≤ j → j < b → nb row (a - 1) ≤ nb row j
  r : b < row.length → ∀ j, a ≤ j → j < b → nb row b < nb row j
  e : e = tv row a b
def GoodT (row : List Int) (s : Int × Int × Int) : Prop := 0 ≤ s.1 ∧ 0 ≤ s.2.1 + 1 ∧ Good row s.1.toNat (s.2.1 + 1).toNat s.2.2
def muT (s : Int × Int × Int) : Nat := (2 * (s.2.1 + 1 - s.1) + 1).toNat
def mu (left : List (Int × Int × Int)) : Nat := (left.map muT).sum
structure TI (row E : List Int) (left : List (Int × Int × Int)) : Prop where
  len : E.length = row.length
  good : ∀ s ∈ left, GoodT row s
  mu : mu left ≤ 2 * row.length + 1
  all : ∀ p, p < row.length → (∃ s ∈ left, s.1 ≤ (p : Int) ∧ (p : Int) ≤ s.2.1) ∨ E[p]? = some (eld row row.length p)
/-- the first least of a stretch, by what it is -/
theorem low_spec {row : List Int} {a b : Int} (h : 0 ≤ a ∧ a ≤ b ∧ b < row.length) : a ≤ low row a b ∧ low row a b ≤ b ∧ (∀ j : Nat, a ≤ j → (j : Int) < low row a b → nb row (low row a b).toNat < nb row j) ∧ (∀ j : Nat, a ≤ j → (j : Int) ≤ b → nb row (low row a b).toNat ≤ nb row j) := by
  have hS : sl row (some a) (some (b + 1)) = (row.drop a.toNat).take (b + 1 - a).toNat := by
    unfold sl
    have e1 : HT.sIx row.length 0 (some a) = a.toNat := by unfold HT.sIx; simp only; first | (rw [if_neg (by omega)]; omega) | omega
    have e2 : HT.sIx row.length row.length (some (b + 1)) = (b + 1).toNat := by unfold HT.sIx; simp only; first | (rw [if_neg (by omega)]; omega) | omega
    rw [e1, e2]
    congr 1; omega
  have hlen : (sl row (some a) (some (b + 1))).length = (b + 1 - a).toNat := by
    rw [hS, List.length_take, List.length_drop]; omega
  have hget : ∀ i, i < (b + 1 - a).toNat → (sl row (some a) (some (b + 1)))[i]? = some (nb row (a.toNat + i)) := by
    intro i hi
    rw [hS, List.getElem?_take, if_pos hi, List.getElem?_drop]
    unfold nb
    rw [List.getD_eq_getElem?_getD, List.getElem?_eq_getElem (by omega)]
    rfl
  unfold low
  generalize hT : sl row (some a) (some (b + 1)) = S at hlen hget
  have hne : S ≠ [] := by intro z; rw [z] at hlen; simp at hlen; omega
  obtain ⟨m1, m2⟩ := lmin_spec S hne
  have hi : S.idxOf (lmin S) < S.length := List.idxOf_lt_length_of_mem m1
  have hv : S[S.idxOf (lmin S)]? = some (lmin S) := by
    rw [List.getElem?_eq_getElem hi]
    congr 1
    exact List.getElem_idxOf hi
  have hv2 : lmin S = nb row (a.toNat + S.idxOf (lmin S)) := by
    have := hget (S.idxOf (lmin S)) (by omega)
    rw [hv] at this
    exact Option.some.inj this
  generalize hk : S.idxOf (lmin S) = k at *
  have ek : (a + (k : Int)).toNat = a.toNat + k := by omega
  rw [ek, ← hv2]
  refine ⟨by omega, by omega, fun j q1 q2 => ?_, fun j q1 q2 => ?_⟩
  · have hj := hget (j - a.toNat) (by omega)
    have ej : a.toNat + (j - a.toNat) = j := by omega
    rw [ej] at hj
    have h1 := m2 _ (List.mem_of_getElem? hj)
    have h2 : lmin S ≠ nb row j := by
      intro z
      have hlt : j - a.toNat < S.idxOf (lmin S) := by omega
      have := List.not_of_lt_findIdx (p := (· == lmin S)) (xs := S) (i := j - a.toNat) hlt
      have e3 : S[j - a.toNat]'(by omega) = nb row j := by
        have := hj; rw [List.getElem?_eq_getElem (by omega)] at this; exact Option.some.inj this
      rw [e3, z] at this
      simp at this
    omega
  · have hj := hget (j - a.toNat) (by omega)
    have ej : a.toNat + (j - a.toNat) = j := by omega
    rw [ej] at hj
    exact m2 _ (List.mem_of_getElem? hj)
theorem eld_tv {row : List Int} {a b p : Nat} {e : Int} (g : Good row a b e) (h1 : a ≤ p) (h2 : p < b) (h3 : ∀ j, a ≤ j → j < p → nb row p < nb row j) (h4 : ∀ j, a ≤ j → j < b → nb row p ≤ nb row j) : eld row row.length p = e := by
  have hpv : pv row p = if a = 0 then none else some (a - 1) := by
    split
    · rename_i h0
      rw [pv_none]; intro j hj; exact h3 j (by omega) hj
    · rename_i h0
      rw [pv_some]
      exact ⟨by omega, g.l (by omega) p h1 h2, fun j q1 q2 => h3 j (by omega) q2⟩
  have hnx : nxt row row.length p = if b < row.length then some b else none := by
    split
    · rename_i h0
      rw [nxt_some]
      exact ⟨h2, h0, g.r h0 p h1 h2, fun c q1 q2 => h4 c (by omega) q2⟩
    · rename_i h0
      have := g.bn
      rw [nxt_none]
      intro c q1 q2; exact h4 c (by omega) (by omega)
  rw [g.e]
  unfold eld tv
  rw [hpv, hnx]
  by_cases ha : a = 0
  · rw [if_pos ha, if_pos ha]
    by_cases hb : b < row.length
    · rw [if_pos hb, if_pos hb]
    · rw [if_neg hb, if_neg hb]
  · rw [if_neg ha, if_neg ha]
    by_cases hb : b < row.length
    · rw [if_pos hb, if_pos hb]
    · rw [if_neg hb, if_neg hb]
theorem treeOf_len (row : List Int) : (treeOf row).length = row.length := by unfold treeOf; rw [List.length_map, List.length_range]
end TM


set_option linter.all false
set_option maxHeartbeats 1000000
namespace TM
open GL
/-! ### which tuples are trees -/
/-- the stretch a..b-1 of t hangs at e as a tree -/
inductive T (t : List Int) : Nat → Nat → Int → Prop
  | nil (a : Nat) (e : Int) : T t a a e
  | node {a b h : Nat} {e : Int} : a ≤ h → h < b → nb t h = e → T t a h h → T t (h + 1) b h → T t a b e
/-- the same, the numbers of row fitting -/
inductive TR (t row : List Int) : Nat → Nat → Int → Prop
  | nil (a : Nat) (e : Int) : TR t row a a e
  | node {a b h : Nat} {e : Int} : a ≤ h → h < b → nb t h = e → (∀ j, a ≤ j → j < h → nb row h < nb row j) → (∀ j, h < j → j < b → nb row h ≤ nb row j) → TR t row a h h → TR t row (h + 1) b h → TR t row a b e
theorem TR.T {t row : List Int} {a b : Nat} {e : Int} (h : TR t row a b e) : T t a b e := by
  induction h with
  | nil a e => exact .nil a e
  | node h1 h2 h3 _ _ _ _ i1 i2 => exact .node h1 h2 h3 i1 i2
theorem T.le {t : List Int} {a b : Nat} {e : Int} (h : T t a b e) : a ≤ b := by
  induction h with
  | nil a e => exact Nat.le_refl _
  | node h1 h2 _ _ _ _ _ => omega
theorem good_l {row : List Int} {a b h : Nat} {e : Int} (g : Good row a b e) (h1 : a ≤ h) (h2 : h < b) (l3 : ∀ j, a ≤ j → j < h → nb row h < nb row j) : Good row a h h := by
  refine ⟨h1, by have := g.bn; omega, fun q0 j q1 q2 => g.l q0 j q1 (by omega), fun q0 j q1 q2 => l3 j q1 q2, ?_⟩
  have := g.bn
  unfold tv
  by_cases ha : a = 0
  · rw [if_pos ha, if_pos (by omega)]
  · rw [if_neg ha, if_pos (by omega), if_pos (g.l (by omega) h h1 h2)]
theorem good_r {row : List Int} {a b h : Nat} {e : Int} (g : Good row a b e) (h1 : a ≤ h) (h2 : h < b) (l4 : ∀ j, h < j → j < b → nb row h ≤ nb row j) : Good row (h + 1) b h := by
  refine ⟨by omega, g.bn, fun q0 j q1 q2 => ?_, fun q0 j q1 q2 => g.r q0 j (by omega) q2, ?_⟩
  · rw [Nat.add_sub_cancel]; exact l4 j (by omega) q2
  · unfold tv
    rw [if_neg (by omega), Nat.add_sub_cancel]
    by_cases hb : b < row.length
    · rw [if_pos hb, if_neg]
      have := g.r hb h h1 h2; omega
    · rw [if_neg hb]
/-- what fits is the tree of the row -/
theorem TR.eld {t row : List Int} {a b : Nat} {e : Int} (h : TR t row a b e) : Good row a b e → ∀ p, a ≤ p → p < b → nb t p = eld row row.length p := by
  induction h with
  | nil a e => intro _ p h1 h2; omega
  | @node a b h e h1 h2 h3 h4 h5 _ _ i1 i2 =>
    intro g p p1 p2
    rcases Nat.lt_trichotomy p h with z | z | z
    · exact i1 (good_l g h1 h2 h4) p p1 z
    · subst z
      rw [h3]
      refine (eld_tv g h1 h2 h4 fun j q1 q2 => ?_).symm
      rcases Nat.lt_trichotomy j p with y | y | y
      · have := h4 j q1 y; omega
      · subst y; exact Int.le_refl _
      · exact h5 j y q2
    · exact i2 (good_r g h1 h2 h5) p z p2
theorem good_all (row : List Int) : Good row 0 row.length (-1) := by
  refine ⟨Nat.zero_le _, Nat.le_refl _, fun h => absurd h (by decide), fun h => absurd h (by omega), ?_⟩
  unfold tv; rw [if_pos rfl, if_neg (Nat.lt_irrefl _)]
theorem nb_treeOf {row : List Int} {p : Nat} (h : p < row.length) : nb (treeOf row) p = eld row row.length p := by
  unfold nb treeOf
  rw [List.getD_eq_getElem?_getD, List.getElem?_map, List.getElem?_range h]; rfl
theorem tree_of_TR {t row : List Int} (hl : row.length = t.length) (h : TR t row 0 row.length (-1)) : treeOf row = t := by
  refine List.ext_getElem? fun p => ?_
  by_cases hp : p < row.length
  · have h1 := h.eld (good_all row) p (Nat.zero_le _) hp
    unfold treeOf
    rw [List.getElem?_map, List.getElem?_range hp]
    show some (TM.eld row row.length p) = _
    rw [← h1, List.getElem?_eq_getElem (by omega)]
    unfold nb
    rw [List.getD_eq_getElem?_getD, List.getElem?_eq_getElem (by omega)]; rfl
  · rw [List.getElem?_eq_none (by rw [treeOf_len]; omega), List.getElem?_eq_none (by omega)]
/-- the first least place of a stretch -/
theorem low_ex (row : List Int) {a b : Nat} (h : a < b) : ∃ p, a ≤ p ∧ p < b ∧ (∀ j, a ≤ j → j < p → nb row p < nb row j) ∧ (∀ j, p < j → j < b → nb row p ≤ nb row j) := by
  obtain ⟨n, hn⟩ : ∃ n, b = a + 1 + n := ⟨b - (a + 1), by omega⟩
  subst hn
  clear h
  induction n with
  | zero => exact ⟨a, Nat.le_refl _, by omega, fun j _ _ => by omega, fun j _ _ => by omega⟩
  | succ n ih =>
    obtain ⟨p, p1, p2, p3, p4⟩ := ih
    rcases Int.lt_or_le (nb row (a + 1 + n)) (nb row p) with z | z
    · refine ⟨a + 1 + n, by omega, by omega, fun j j1 j2 => ?_, fun j j1 j2 => by omega⟩
      rcases Nat.lt_trichotomy j p with y | y | y
      · have := p3 j j1 y; omega
      · subst y; exact z
      · have := p4 j y j2; omega
    · refine ⟨p, p1, by omega, p3, fun j j1 j2 => ?_⟩
      by_cases y : j = a + 1 + n
      · subst y; exact z
      · exact p4 j j1 (by omega)
theorem TR_of (row : List Int) : ∀ (n a b : Nat) (e : Int), b - a ≤ n → Good row a b e → TR (treeOf row) row a b e
  | 0, a, b, e, h, g => by
    have : a = b := by have := g.ab; omega
    subst this; exact .nil _ _
  | n + 1, a, b, e, h, g => by
    by_cases hab : a < b
    · obtain ⟨p, p1, p2, p3, p4⟩ := low_ex row hab
      refine .node p1 p2 ?_ p3 p4 (TR_of row n a p p (by omega) (good_l g p1 p2 p3)) (TR_of row n (p + 1) b p (by omega) (good_r g p1 p2 p4))
      rw [nb_treeOf (by have := g.bn; omega)]
      refine eld_tv g p1 p2 p3 fun j q1 q2 => ?_
      rcases Nat.lt_trichotomy j p with y | y | y
      · have := p3 j q1 y; omega
      · subst y; exact Int.le_refl _
      · exact p4 j y q2
    · have : a = b := by have := g.ab; omega
      subst this; exact .nil _ _
def IsT (t : List Int) : Prop := T t 0 t.length (-1)
theorem isT_treeOf (row : List Int) : IsT (treeOf row) := by
  unfold IsT
  rw [treeOf_len]
  exact (TR_of row row.length 0 row.length (-1) (by omega) (good_all row)).T
/-! ### the ways up -/
/-- from here to the top -/
def up (t : List Int) : Nat → Int → Option (List Int)
  | n, e => if e = -1 then some [] else if e < 0 ∨ (t.length : Int) ≤ e then none else match n with
    | 0 => none
    | n + 1 => (up t n (gt t e)).map (e :: ·)
theorem up_top (t : List Int) (n : Nat) : up t n (-1) = some [] := by unfold up; rw [if_pos rfl]
theorem up_step {t : List Int} {n : Nat} {e : Int} (h : 0 ≤ e ∧ e < t.length) : up t (n + 1) e = (up t n (gt t e)).map (e :: ·) := by
  conv => lhs; unfold up
  rw [if_neg (by omega), if_neg (by omega)]
theorem up_more (t : List Int) : ∀ (n k : Nat) (e : Int) (w : List Int), up t n e = some w → up t (n + k) e = some w
  | n, k, e, w, h => by
    unfold up at h ⊢
    by_cases e1 : e = -1
    · rw [if_pos e1] at h ⊢; exact h
    · rw [if_neg e1] at h ⊢
      by_cases e2 : e < 0 ∨ (t.length : Int) ≤ e
      · rw [if_pos e2] at h; cases h
      · rw [if_neg e2] at h ⊢
        cases n with
        | zero => cases h
        | succ n =>
          rw [Nat.add_right_comm]
          simp only at h ⊢
          cases h2 : up t n (gt t e) with
          | none => rw [h2] at h; cases h
          | some w2 =>
            rw [h2] at h
            rw [up_more t n k _ _ h2]; exact h
/-- how many of w lie behind p -/
def behind (w : List Int) (p : Int) : Int := ((w.filter fun x => decide (p < x)).length : Int)
theorem behind_cons (w : List Int) (p x : Int) : behind (x :: w) p = (if p < x then 1 else 0) + behind w p := by
  unfold behind
  rw [List.filter_cons]
  by_cases h : p < x
  · rw [if_pos (by simp [h]), if_pos h]; simp only [List.length_cons]; omega
  · rw [if_neg (by simp [h]), if_neg h]; omega
/-- the numbers by the ways -/
def flatAt (t : List Int) (p : Nat) : Option Int := (up t t.length (gt t p)).map fun w => behind w p
theorem behind_ge {w : List Int} {a b : Int} (h : a ≤ b) (hw : ∀ x ∈ w, x ≤ a ∨ b < x) : behind w a = behind w b := by
  unfold behind
  congr 2
  refine List.filter_congr fun x hx => ?_
  rcases hw x hx with z | z
  · rw [decide_eq_false (by omega), decide_eq_false (by omega)]
  · rw [decide_eq_true (by omega), decide_eq_true (by omega)]
theorem T.flat {t row : List Int} {a b : Nat} {e : Int} (h : T t a b e) : ∀ (m : Nat) (w : List Int), up t m e = some w → m + (b - a) ≤ t.length → b ≤ t.length → (∀ x ∈ w, x < a ∨ (b : Int) ≤ x) →
    (∀ p, a ≤ p → p < b → flatAt t p = some (nb row p)) ∨ True → ∀ p, a ≤ p → p < b → ∃ v, flatAt t p = some v ∧ behind w ((b : Int) - 1) ≤ v := by
  induction h with
  | nil a e => intro m w _ _ _ _ _ p h1 h2; omega
  | @node a b h e h1 h2 h3 _ _ i1 i2 =>
    intro m w hu hm hb hw _ p p1 p2
    have hh : up t (m + 1) (h : Int) = some ((h : Int) :: w) := by
      rw [up_step ⟨by omega, by omega⟩, gt_nb, h3, hu]; rfl
    rcases Nat.lt_trichotomy p h with z | z | z
    · obtain ⟨v, v1, v2⟩ := i1 (m + 1) _ hh (by omega) (by omega) (fun x hx => by
        rcases List.mem_cons.mp hx with y | y
        · right; omega
        · rcases hw x y with y | y
          · left; exact y
          · right; omega) (.inr trivial) p p1 z
      refine ⟨v, v1, ?_⟩
      rw [behind_cons] at v2
      have : behind w ((h : Int) - 1) = behind w ((b : Int) - 1) := behind_ge (by omega) fun x hx => by
        rcases hw x hx with y | y
        · left; omega
        · right; omega
      split at v2 <;> omega
    · subst z
      have hp : up t t.length (gt t p) = some w := by
        rw [gt_nb, h3]
        have := up_more t m (t.length - m) e w hu
        rw [show m + (t.length - m) = t.length by omega] at this
        exact this
      refine ⟨behind w p, by unfold flatAt; rw [hp]; rfl, ?_⟩
      have : behind w (p : Int) = behind w ((b : Int) - 1) := behind_ge (by omega) fun x hx => by
        rcases hw x hx with y | y
        · left; omega
        · right; omega
      omega
    · obtain ⟨v, v1, v2⟩ := i2 (m + 1) _ hh (by omega) hb (fun x hx => by
        rcases List.mem_cons.mp hx with y | y
        · left; omega
        · rcases hw x y with y | y
          · left; omega
          · right; omega) (.inr trivial) p z p2
      refine ⟨v, v1, ?_⟩
      rw [behind_cons] at v2
      split at v2 <;> omega
/-- and the numbers so told fit -/
theorem T.fits {t row : List Int} {a b : Nat} {e : Int} (h : T t a b e) : ∀ (m : Nat) (w : List Int), up t m e = some w → m + (b - a) ≤ t.length → b ≤ t.length → (∀ x ∈ w, x < a ∨ (b : Int) ≤ x) →
    (∀ p, a ≤ p → p < b → flatAt t p = some (nb row p)) → TR t row a b e := by
  induction h with
  | nil a e => intro m w _ _ _ _ _; exact .nil _ _
  | @node a b h e h1 h2 h3 t1 t2 i1 i2 =>
    intro m w hu hm hb hw hr
    have hh : up t (m + 1) (h : Int) = some ((h : Int) :: w) := by
      rw [up_step ⟨by omega, by omega⟩, gt_nb, h3, hu]; rfl
    have hwl : ∀ x ∈ ((h : Int) :: w), x < a ∨ (h : Int) ≤ x := fun x hx => by
        rcases List.mem_cons.mp hx with y | y
        · right; omega
        · rcases hw x y with y | y
          · left; exact y
          · right; omega
    have hwr : ∀ x ∈ ((h : Int) :: w), x < ((h + 1 : Nat) : Int) ∨ (b : Int) ≤ x := fun x hx => by
        rcases List.mem_cons.mp hx with y | y
        · left; omega
        · rcases hw x y with y | y
          · left; omega
          · right; omega
    have hp : up t t.length (gt t (h : Int)) = some w := by
      rw [gt_nb, h3]
      have := up_more t m (t.length - m) e w hu
      rw [show m + (t.length - m) = t.length by omega] at this
      exact this
    have hv : nb row h = behind w ((b : Int) - 1) := by
      have h5 := hr h h1 h2
      unfold flatAt at h5
      rw [hp] at h5
      have h6 : behind w (h : Int) = nb row h := Option.some.inj h5
      rw [← h6]
      exact behind_ge (by omega) fun x hx => by
        rcases hw x hx with y | y
        · left; omega
        · right; omega
    refine .node h1 h2 h3 (fun j j1 j2 => ?_) (fun j j1 j2 => ?_) (i1 (m + 1) _ hh (by omega) (by omega) hwl fun p p1 p2 => hr p p1 (by omega)) (i2 (m + 1) _ hh (by omega) hb hwr fun p p1 p2 => hr p (by omega) p2)
    · obtain ⟨v, v1, v2⟩ := t1.flat (row := row) (m + 1) _ hh (by omega) (by omega) hwl (.inr trivial) j j1 j2
      rw [hr j j1 (by omega)] at v1
      cases v1
      rw [behind_cons, if_pos (by omega)] at v2
      have : behind w ((h : Int) - 1) = behind w ((b : Int) - 1) := behind_ge (by omega) fun x hx => by
        rcases hw x hx with y | y
        · left; omega
        · right; omega
      omega
    · obtain ⟨v, v1, v2⟩ := t2.flat (row := row) (m + 1) _ hh (by omega) hb hwr (.inr trivial) j j1 j2
      rw [hr j (by omega) j2] at v1
      cases v1
      rw [behind_cons] at v2
      split at v2 <;> omega
/-- all the numbers -/
def flatF (t : List Int) : List Int := (List.range t.length).map fun p => (flatAt t p).getD 0
def flatN (t : List Int) : Option (List Int) := if (List.range t.length).all (fun p => (flatAt t p).isSome) then some (flatF t) else none
theorem flatF_len (t : List Int) : (flatF t).length = t.length := by simp [flatF]
theorem flatF_nb {t : List Int} {p : Nat} (h : p < t.length) : nb (flatF t) p = (flatAt t p).getD 0 := by
  unfold nb flatF
  rw [List.getD_eq_getElem?_getD, List.getElem?_map, List.getElem?_range h]; rfl
theorem isT_flat {t : List Int} (h : IsT t) : (∀ p, p < t.length → ∃ v, flatAt t p = some v) ∧ treeOf (flatF t) = t := by
  have h1 : ∀ p, p < t.length → ∃ v, flatAt t p = some v := fun p hp => by
    obtain ⟨v, v1, _⟩ := T.flat (row := []) h 0 [] (up_top _ _) (by omega) (Nat.le_refl _) (fun x hx => by cases hx) (.inr trivial) p (Nat.zero_le _) hp
    exact ⟨v, v1⟩
  refine ⟨h1, tree_of_TR (flatF_len t) ?_⟩
  rw [flatF_len]
  refine T.fits h 0 [] (up_top _ _) (by omega) (Nat.le_refl _) (fun x hx => by cases hx) fun p _ hp => ?_
  obtain ⟨v, hv⟩ := h1 p hp
  rw [flatF_nb hp, hv]; rfl
theorem up_none {t : List Int} {n : Nat} {e : Int} (h : e ≠ -1) (h2 : e < 0 ∨ (t.length : Int) ≤ e ∨ n = 0) : up t n e = none := by
  unfold up
  rw [if_neg h]
  by_cases e2 : e < 0 ∨ (t.length : Int) ≤ e
  · rw [if_pos e2]
  · rw [if_neg e2]
    have : n = 0 := by omega
    subst this; rfl
noncomputable def isTree (t : List Int) : Bool := @decide (t.length ≤ 40 ∧ IsT t) (Classical.propDecidable _)
theorem isTree_iff {t : List Int} : isTree t = true ↔ t.length ≤ 40 ∧ IsT t := by unfold isTree; exact @decide_eq_true_iff _ (Classical.propDecidable _)
/-- the way up, told of trees -/
def ups (t : List Int) (p : Int) : List Int := oget (up t t.length (gt t p))
theorem ups_some {t : List Int} {p : Int} (h : isTree t = true) (hp : 0 ≤ p ∧ p < t.length) : ¬ up t t.length (gt t p) = none := by
  intro z
  obtain ⟨h1, h2⟩ := isTree_iff.mp h
  obtain ⟨v, hv⟩ := (isT_flat h2).1 p.toNat (by omega)
  unfold flatAt at hv
  rw [Int.toNat_of_nonneg hp.1, z] at hv
  cases hv
/-! ### by heads -/
theorem T.in {t : List Int} {a b : Nat} {e : Int} (h : T t a b e) : ∀ p, a ≤ p → p < b → nb t p = e ∨ ((a : Int) ≤ nb t p ∧ nb t p < b) := by
  induction h with
  | nil a e => intro p h1 h2; omega
  | @node a b h e h1 h2 h3 _ _ i1 i2 =>
    intro p p1 p2
    rcases Nat.lt_trichotomy p h with z | z | z
    · right
      rcases i1 p p1 z with y | y <;> omega
    · subst z; exact .inl h3
    · right
      rcases i2 p z p2 with y | y <;> omega
theorem T.one {t : List Int} {a b : Nat} {e : Int} (h : T t a b e) (hab : a < b) (he : e < a ∨ (b : Int) ≤ e) : ∃ q, a ≤ q ∧ q < b ∧ nb t q = e ∧ (∀ p, a ≤ p → p < b → nb t p = e → p = q) ∧ T t a q q ∧ T t (q + 1) b q := by
  cases h with
  | nil => omega
  | @node _ _ h _ h1 h2 h3 t1 t2 =>
    refine ⟨h, h1, h2, h3, fun p p1 p2 p3 => ?_, t1, t2⟩
    rcases Nat.lt_trichotomy p h with z | z | z
    · rcases t1.in p p1 z with y | y <;> omega
    · exact z
    · rcases t2.in p z p2 with y | y <;> omega
/-- a stretch of the stack -/
structure Wf (t : List Int) (s : Int × Int × Int) : Prop where
  a0 : 0 ≤ s.1
  ab : s.1 ≤ s.2.1 + 1
  bn : s.2.1 < t.length
  e : s.2.2 < s.1 ∨ s.2.1 < s.2.2
def Ts (t : List Int) (s : Int × Int × Int) : Prop := T t s.1.toNat (s.2.1 + 1).toNat s.2.2
structure LI (t : List Int) (left : List (Int × Int × Int)) : Prop where
  wf : ∀ s ∈ left, Wf t s
  mu : mu left ≤ 2 * t.length + 1
  iff : IsT t ↔ ∀ s ∈ left, Ts t s
end TM


set_option linter.all false
set_option maxHeartbeats 1000000
namespace TM
open GL
/-! ### first least places -/
/-- h is the first least place of a..b -/
structure FL (row : List Int) (a b h : Int) : Prop where
  ah : a ≤ h
  hb : h ≤ b
  l : ∀ j : Nat, a ≤ j → (j : Int) < h → nb row h.toNat < nb row j
  r : ∀ j : Nat, a ≤ j → (j : Int) ≤ b → nb row h.toNat ≤ nb row j
theorem low_FL {row : List Int} {a b : Int} (h : 0 ≤ a ∧ a ≤ b ∧ b < row.length) : FL row a b (low row a b) := by
  obtain ⟨h1, h2, h3, h4⟩ := low_spec h
  exact ⟨h1, h2, h3, h4⟩
theorem FL.uniq {row : List Int} {a b h g : Int} (a0 : 0 ≤ a) (x : FL row a b h) (y : FL row a b g) : h = g := by
  have x1 := x.ah; have x2 := x.hb; have y1 := y.ah; have y2 := y.hb
  rcases Int.lt_trichotomy h g with z | z | z
  · have h1 := y.l h.toNat (by omega) (by omega)
    have h2 := x.r g.toNat (by omega) (by omega)
    omega
  · exact z
  · have h1 := x.l g.toNat (by omega) (by omega)
    have h2 := y.r h.toNat (by omega) (by omega)
    omega
theorem FL.low {row : List Int} {a b h : Int} (hb : 0 ≤ a ∧ a ≤ b ∧ b < row.length) (x : FL row a b h) : h = TM.low row a b := x.uniq hb.1 (low_FL hb)
theorem gt_at {row : List Int} {x : Int} (h : 0 ≤ x) : gt row x = nb row x.toNat := by
  have : x = (x.toNat : Int) := by omega
  rw [this, gt_nb]; rfl
/-! ### who stands over whom -/
def Anc (row : List Int) (p q : Nat) : Prop := (q < p ∧ ∀ j, q ≤ j → j ≤ p → nb row q ≤ nb row j) ∨ (p < q ∧ ∀ j, p ≤ j → j < q → nb row q < nb row j)
theorem Anc.ne {row : List Int} {p q : Nat} (h : Anc row p q) : p ≠ q := by rcases h with h | h <;> omega
theorem TR.anc {t row : List Int} {a b : Nat} {e : Int} (h : TR t row a b e) : ∀ (m : Nat) (w : List Int), up t m e = some w → b ≤ t.length → ∀ p, a ≤ p → p < b →
    ∃ w', up t (m + (b - a)) (nb t p) = some (w' ++ w) ∧ (∀ x ∈ w', (a : Int) ≤ x ∧ x < b) ∧ ∀ q : Nat, a ≤ q → q < b → ((q : Int) ∈ w' ↔ Anc row p q) := by
  induction h with
  | nil a e => intro m w _ _ p h1 h2; omega
  | @node a b h e h1 h2 h3 h4 h5 _ _ i1 i2 =>
    intro m w hu hb p p1 p2
    have hh : up t (m + 1) (h : Int) = some ((h : Int) :: w) := by
      rw [up_step ⟨by omega, by omega⟩, gt_nb, h3, hu]; rfl
    rcases Nat.lt_trichotomy p h with z | z | z
    · obtain ⟨w1, v1, v2, v3⟩ := i1 (m + 1) _ hh (by omega) p p1 z
      refine ⟨w1 ++ [(h : Int)], ?_, fun x hx => ?_, fun q q1 q2 => ?_⟩
      · have := up_more t _ (m + (b - a) - (m + 1 + (h - a))) _ _ v1
        rw [show m + 1 + (h - a) + (m + (b - a) - (m + 1 + (h - a))) = m + (b - a) by omega] at this
        rw [this]; simp
      · rw [List.mem_append, List.mem_singleton] at hx
        rcases hx with y | y
        · have := v2 x y; omega
        · omega
      · rw [List.mem_append, List.mem_singleton]
        rcases Nat.lt_trichotomy q h with y | y | y
        · rw [v3 q q1 y]
          constructor
          · intro x; rcases x with x | x
            · exact x
            · omega
          · intro x; exact .inl x
        · subst y
          constructor
          · intro _; right; exact ⟨z, fun j j1 j2 => h4 j (by omega) j2⟩
          · intro _; right; rfl
        · constructor
          · intro x; rcases x with x | x
            · have := v2 _ x; omega
            · omega
          · intro x
            rcases x with ⟨x1, _⟩ | ⟨_, x2⟩
            · omega
            · have h6 := x2 h (by omega) y
              have h7 := h5 q y q2
              omega
    · subst z
      refine ⟨[], ?_, fun x hx => by (cases hx), fun q q1 q2 => ?_⟩
      · rw [h3, List.nil_append]; exact up_more t _ _ _ _ hu
      · constructor
        · intro x; cases x
        · intro x
          rcases x with ⟨x1, x2⟩ | ⟨x1, x2⟩
          · have h6 := x2 p (by omega) (Nat.le_refl _)
            have h7 := h4 q q1 x1
            omega
          · have h6 := x2 p (Nat.le_refl _) x1
            have h7 := h5 q x1 q2
            omega
    · obtain ⟨w1, v1, v2, v3⟩ := i2 (m + 1) _ hh hb p z p2
      refine ⟨w1 ++ [(h : Int)], ?_, fun x hx => ?_, fun q q1 q2 => ?_⟩
      · have := up_more t _ (m + (b - a) - (m + 1 + (b - (h + 1)))) _ _ v1
        rw [show m + 1 + (b - (h + 1)) + (m + (b - a) - (m + 1 + (b - (h + 1)))) = m + (b - a) by omega] at this
        rw [this]; simp
      · rw [List.mem_append, List.mem_singleton] at hx
        rcases hx with y | y
        · have := v2 x y; omega
        · omega
      · rw [List.mem_append, List.mem_singleton]
        rcases Nat.lt_trichotomy q h with y | y | y
        · constructor
          · intro x; rcases x with x | x
            · have := v2 _ x; omega
            · omega
          · intro x
            rcases x with ⟨_, x2⟩ | ⟨x1, _⟩
            · have h6 := x2 h (by omega) (by omega)
              have h7 := h4 q q1 y
              omega
            · omega
        · subst y
          constructor
          · intro _; left; exact ⟨z, fun j j1 j2 => by
              by_cases e : j = q
              · subst e; exact Int.le_refl _
              · exact h5 j (by omega) (by omega)⟩
          · intro _; right; rfl
        · rw [v3 q (by omega) q2]
          constructor
          · intro x; rcases x with x | x
            · exact x
            · omega
          · intro x; exact .inl x
theorem ups_mem {row : List Int} {p q : Nat} (hp : p < row.length) (hq : q < row.length) : (q : Int) ∈ ups (treeOf row) p ↔ Anc row p q := by
  have hT := TR_of row row.length 0 row.length (-1) (by omega) (good_all row)
  obtain ⟨w, h1, _, h3⟩ := hT.anc 0 [] (up_top _ _) (by rw [treeOf_len]; omega) p (Nat.zero_le _) hp
  have : ups (treeOf row) p = w := by
    unfold ups
    rw [gt_nb, treeOf_len]
    rw [show 0 + (row.length - 0) = row.length by omega] at h1
    rw [h1]; simp [oget]
  rw [this]
  exact h3 q (Nat.zero_le _) hq
theorem isTree_treeOf {row : List Int} (h : row.length ≤ 40) : isTree (treeOf row) = true := isTree_iff.mpr ⟨by rw [treeOf_len]; exact h, isT_treeOf row⟩
/-- the ways of all places -/
theorem gt_map_rg {α : Type} [Inhabited α] {n : Nat} {f : Int → α} {i : Int} (h : 0 ≤ i ∧ i < n) : gt ((rg 0 n).map f) i = f i := by
  unfold gt
  rw [List.getD_eq_getElem?_getD, List.getElem?_map, rg_get 0 n i.toNat (by omega)]
  show f (0 + (i.toNat : Int)) = f i
  congr 1; omega
/-- over a stretch stands its first least place alone -/
theorem FL.anc {row : List Int} {a b h : Int} (a0 : 0 ≤ a) (x : FL row a b h) {p : Int} (hp : a ≤ p ∧ p ≤ b) : Anc row p.toNat h.toNat ↔ p ≠ h := by
  have x1 := x.ah; have x2 := x.hb
  constructor
  · intro z e; exact z.ne (by rw [e])
  · intro z
    rcases Int.lt_or_gt_of_ne z with y | y
    · right; exact ⟨by omega, fun j j1 j2 => x.l j (by omega) (by omega)⟩
    · left; exact ⟨by omega, fun j j1 j2 => x.r j (by omega) (by omega)⟩
theorem FL.top {row : List Int} {a b h : Int} (a0 : 0 ≤ a) (x : FL row a b h) {q : Int} (hq : a ≤ q ∧ q ≤ b) : ¬ Anc row h.toNat q.toNat := by
  have x1 := x.ah; have x2 := x.hb
  intro z
  rcases z with ⟨z1, z2⟩ | ⟨z1, z2⟩
  · have h1 := z2 h.toNat (by omega) (Nat.le_refl _)
    have h2 := x.l q.toNat (by omega) (by omega)
    omega
  · have h1 := z2 h.toNat (Nat.le_refl _) z1
    have h2 := x.r q.toNat (by omega) (by omega)
    omega
theorem any_map {f : Int → Bool} {l : List Int} : (l.map f).any id = true ↔ ∃ x ∈ l, f x = true := by
  rw [List.any_eq_true]
  constructor
  · intro ⟨y, hy, e⟩
    rw [List.mem_map] at hy
    obtain ⟨x, hx, rfl⟩ := hy
    exact ⟨x, hx, e⟩
  · intro ⟨x, hx, e⟩
    exact ⟨f x, List.mem_map_of_mem hx, e⟩
theorem all_map {f : Int → Bool} {l : List Int} : (l.map f).all id = true ↔ ∀ x ∈ l, f x = true := by
  rw [List.all_eq_true]
  constructor
  · intro h x hx; exact h _ (List.mem_map_of_mem hx)
  · intro h y hy
    rw [List.mem_map] at hy
    obtain ⟨x, hx, rfl⟩ := hy
    exact h x hx
end TM


set_option linter.all false
set_option maxHeartbeats 1000000
namespace TM
open GL
theorem rg_append {a b c : Int} (h1 : a ≤ b) (h2 : b ≤ c) : rg a c = rg a b ++ rg b c := by
  obtain ⟨m, hm⟩ : ∃ m : Nat, b = a + m := ⟨(b - a).toNat, by omega⟩
  obtain ⟨k, hk⟩ : ∃ k : Nat, c = b + k := ⟨(c - b).toNat, by omega⟩
  subst hm hk
  unfold rg
  rw [show (a + (m : Int) + (k : Int) - a).toNat = m + k by omega, show (a + (m : Int) - a).toNat = m by omega, show (a + (m : Int) + (k : Int) - (a + (m : Int))).toNat = k by omega]
  rw [List.range_add, List.map_append, List.map_map]
  congr 1
  refine List.map_congr_left fun q _ => ?_
  show a + ((m + q : Nat) : Int) = a + (m : Int) + (q : Int)
  omega
/-- the search of least_place -/
theorem lp_step {row : List Int} {a best p : Int} {i : Nat} (a0 : 0 ≤ a) (h : FL row a (a + i) best) (hp : p = a + 1 + i) :
    (gt row p < gt row best → FL row a (a + (i + 1 : Nat)) p) ∧ (¬ gt row p < gt row best → FL row a (a + (i + 1 : Nat)) best) := by
  have h1 := h.ah; have h2 := h.hb
  rw [gt_at (by omega), gt_at (x := best) (by omega)]
  constructor
  · intro z
    refine ⟨by omega, by omega, fun j j1 j2 => ?_, fun j j1 j2 => ?_⟩
    · have := h.r j j1 (by omega); omega
    · by_cases e : j = p.toNat
      · rw [e]; exact Int.le_refl _
      · have := h.r j j1 (by omega); omega
  · intro z
    refine ⟨h1, by omega, h.l, fun j j1 j2 => ?_⟩
    by_cases e : j = p.toNat
    · rw [e]; omega
    · exact h.r j j1 (by omega)
theorem lp_init (row : List Int) {a : Int} : FL row a (a + (0 : Nat)) a := ⟨by omega, by omega, fun j j1 j2 => by omega, fun j j1 j2 => by
  have : j = a.toNat := by omega
  rw [this]; exact Int.le_refl _⟩
end TM


set_option linter.all false
set_option maxHeartbeats 1000000
namespace TM
open GL
theorem enu_num {row : List Int} {i : Nat} {x : Int × Int} (h : (enu row)[i]? = some x) : x.1 = (i : Int) ∧ i < row.length ∧ x.2 = gt row x.1 := by
  obtain ⟨h1, h2⟩ := enu_at h
  refine ⟨h1, at_lt h2, ?_⟩
  rw [h1, gt_nb]
  unfold nb
  rw [List.getD_eq_getElem?_getD, h2]; rfl
/-- the rest of a way, as one of the laws walks it -/
structure Way (t : List Int) (p : Int) (over : List Int) (here : Int) : Prop where
  ex : ∃ v, up t (t.length - over.length) here = some v ∧ ups t p = over ++ v
  len : over.length ≤ t.length
end TM


set_option linter.all false
set_option maxHeartbeats 1000000
namespace TM
open GL
/-! ### two rows, one behind the other -/
def moved (t : List Int) (by' : Int) : List Int := t.map fun e => e + by' * (if decide (0 ≤ e) = true then 1 else 0)
def seamOf (own : List Int) (l : List (Int × Int)) : List (List Int) := (l.filter fun x => decide (¬ x.2 = gt own x.1)).map fun x => [x.1, gt own x.1, x.2]
def ownOf (one other : List Int) : List Int := treeOf one ++ moved (treeOf other) one.length
def seam (one other : List Int) : List (List Int) := seamOf (ownOf one other) (enu (treeOf (one ++ other)))
def wayz (one other : List Int) : List Int := (if one = [] then [] else (one.length - 1 : Int) :: ups (treeOf one) (one.length - 1)) ++ (if other = [] then [] else ((0 : Int) :: ups (treeOf other) 0).map fun p : Int => p + (one.length : Int))
end TM


set_option linter.all false
set_option maxHeartbeats 1000000
namespace TM
open GL
/-! ### how far back the elder stands, and borders -/
def bk (row : List Int) (p : Nat) : Int := match pv row p with
  | none => 0
  | some a => (p : Int) - a
def backs (row : List Int) : List Int := (List.range row.length).map (bk row)
theorem backs_len (row : List Int) : (backs row).length = row.length := by simp [backs]
theorem bk_in (row : List Int) (p : Nat) : 0 ≤ bk row p ∧ bk row p ≤ p := by
  unfold bk
  cases e : pv row p with
  | none => simp only; omega
  | some a => simp only; have := (pv_some.mp e).1; omega
theorem gt_backs {row : List Int} {p : Int} (h : 0 ≤ p ∧ p < row.length) : gt (backs row) p = bk row p.toNat := by
  unfold gt backs
  rw [List.getD_eq_getElem?_getD, List.getElem?_map, List.getElem?_range (by omega)]; rfl
def cutb (far many : Int) : Int := if many < far then 0 else far
theorem cutb_0 {x : Int} (h : 0 ≤ x) : cutb x 0 = 0 := by unfold cutb; split <;> omega
theorem cutb_cutb {x a b : Int} (h0 : 0 ≤ x) (ha : 0 ≤ a) (h : a ≤ b) : cutb (cutb x b) a = cutb x a := by
  unfold cutb; split <;> split <;> first | omega | (split <;> omega)
theorem stack_turn {row S0 S : List Int} {i : Nat} {x : Int × Int} (h1 : S0 = (opens row i).map fun (q : Nat) => (q : Int))
    (a0 : S.length ≤ S0.length) (a1 : S = S0.take S.length) (a2 : ∀ j, S.length ≤ j → ∀ q, S0[j]? = some q → x.2 < gt row q)
    (hw : ¬ (¬ S = [] ∧ x.2 < gt row (gtB S 1))) (hx : (enu row)[i]? = some x) :
    (S ++ [x.1] = (opens row (i + 1)).map fun (q : Nat) => (q : Int)) ∧ (S = [] → bk row i = 0) ∧ (¬ S = [] → bk row i = x.1 - gtB S 1) := by
  have key := (tree_turn (E := treeB row i) (E1 := setO (treeB row i) S0[S.length]? x.1) (E2 := if S = [] then setO (treeB row i) S0[S.length]? x.1 else (setO (treeB row i) S0[S.length]? x.1).set x.1.toNat (gtB S 1)) (g := S0[S.length]?) rfl h1 a0 a1 a2 rfl hw rfl (fun z => if_neg z) (fun z => if_pos z) hx).2
  refine ⟨key, ?_⟩
  obtain ⟨e1, e2⟩ := enu_at hx
  have hlen : ((opens row (i + 1))).length = S.length + 1 := by
    have := congrArg List.length key
    rw [List.length_append, List.length_singleton, List.length_map] at this
    omega
  have hget : ∀ j : Nat, (S ++ [x.1])[j]? = ((opens row (i + 1))[j]?).map fun (q : Nat) => (q : Int) := fun j => by rw [key, List.getElem?_map]
  have hlast : (opens row (i + 1))[S.length]? = some i := by
    have h0 : (S ++ [x.1])[S.length]? = some x.1 := by rw [List.getElem?_append_right (Nat.le_refl _), Nat.sub_self]; rfl
    rw [hget] at h0
    cases e : (opens row (i + 1))[S.length]? with
    | none => rw [e] at h0; cases h0
    | some q =>
      rw [e] at h0
      have h3 : (q : Int) = x.1 := Option.some.inj h0
      congr 1
      omega
  have hpv := pv_opens hlast
  constructor
  · intro z
    unfold bk
    rw [hpv, if_pos (by rw [z]; rfl)]
  · intro z
    have hp : 0 < S.length := List.length_pos_iff.mpr z
    rw [if_neg (by omega)] at hpv
    have h4 := hget (S.length - 1)
    rw [List.getElem?_append_left (by omega), gtB_get (l := S) (k := 1) ⟨by decide, hp⟩] at h4
    cases e : (opens row (i + 1))[S.length - 1]? with
    | none => rw [e] at h4; cases h4
    | some a =>
      rw [e] at h4 hpv
      unfold bk
      rw [hpv, e1]
      have : gtB S 1 = (a : Int) := Option.some.inj h4
      rw [this]
/-- the first s numbers are hung as the s ahead of m -/
def K (row : List Int) (s m : Nat) : Prop := ∀ p, p < s → cutb (bk row (m - s + p)) p = bk row p
theorem K_zero (row : List Int) (m : Nat) : K row 0 m := fun p h => absurd h (Nat.not_lt_zero _)
theorem K_trans {row : List Int} {t s m : Nat} (hs : s ≤ m) (ht : t ≤ s) (h1 : K row s m) (h2 : K row t s) : K row t m := fun p hp => by
  have h3 := h2 p hp
  have h4 := h1 (s - t + p) (by omega)
  rw [← h4, show m - s + (s - t + p) = m - t + p by omega, cutb_cutb (bk_in ..).1 (by omega) (by omega)] at h3
  exact h3
theorem K_down {row : List Int} {t s m : Nat} (hs : s ≤ m) (ht : t ≤ s) (h1 : K row s m) (h2 : K row t m) : K row t s := fun p hp => by
  have h3 := h2 p hp
  have h4 := h1 (s - t + p) (by omega)
  rw [show m - s + (s - t + p) = m - t + p by omega] at h4
  rw [← h4, cutb_cutb (bk_in ..).1 (by omega) (by omega)]
  exact h3
theorem K_succ {row : List Int} {s m : Nat} (hs : s ≤ m) : K row (s + 1) (m + 1) ↔ K row s m ∧ cutb (bk row m) s = bk row s := by
  constructor
  · intro h
    refine ⟨fun p hp => ?_, ?_⟩
    · have := h p (by omega); rw [show m + 1 - (s + 1) + p = m - s + p by omega] at this; exact this
    · have := h s (by omega); rw [show m + 1 - (s + 1) + s = m by omega] at this; exact this
  · intro ⟨h1, h2⟩ p hp
    rw [show m + 1 - (s + 1) + p = m - s + p by omega]
    by_cases e : p = s
    · subst e; rw [show m - p + p = m by omega]; exact h2
    · exact h1 p (by omega)
open Classical in
noncomputable def bordGo (row : List Int) (m : Nat) : Nat → Nat
  | 0 => 0
  | s + 1 => if K row (s + 1) m then s + 1 else bordGo row m s
noncomputable def bord (row : List Int) (m : Nat) : Nat := bordGo row m (m - 1)
theorem bordGo_spec (row : List Int) (m : Nat) : ∀ n, bordGo row m n ≤ n ∧ K row (bordGo row m n) m ∧ ∀ s, s ≤ n → K row s m → s ≤ bordGo row m n
  | 0 => ⟨Nat.le_refl _, K_zero _ _, fun s h _ => h⟩
  | n + 1 => by
    obtain ⟨h1, h2, h3⟩ := bordGo_spec row m n
    unfold bordGo
    split
    · rename_i h
      exact ⟨Nat.le_refl _, h, fun s hs _ => hs⟩
    · rename_i h
      refine ⟨by omega, h2, fun s hs hk => ?_⟩
      by_cases e : s = n + 1
      · subst e; exact absurd hk h
      · exact h3 s (by omega) hk
theorem bord_spec (row : List Int) (m : Nat) : bord row m ≤ m - 1 ∧ K row (bord row m) m ∧ ∀ s, s ≤ m - 1 → K row s m → s ≤ bord row m := bordGo_spec row m (m - 1)
theorem bord_uniq {row : List Int} {m s : Nat} (h1 : s ≤ m - 1) (h2 : K row s m) (h3 : ∀ t, t ≤ m - 1 → K row t m → t ≤ s) : s = bord row m := by
  obtain ⟨b1, b2, b3⟩ := bord_spec row m
  have := b3 s h1 h2
  have := h3 _ b1 b2
  omega
noncomputable def borders (row : List Int) : List Int := (List.range row.length).map fun j => (bord row (j + 1) : Int)
/-- the search for the next border, at size s -/
structure BS (row : List Int) (i : Nat) (size : Int) : Prop where
  s0 : 0 ≤ size
  si : size < i
  k : K row size.toNat i
  max : ∀ t : Nat, t < i → K row (t + 1) (i + 1) → (t : Int) ≤ size
theorem bs_init {row : List Int} {i : Nat} (h : 0 < i) : BS row i (bord row i) := by
  obtain ⟨b1, b2, b3⟩ := bord_spec row i
  refine ⟨by omega, by omega, by rw [Int.toNat_natCast]; exact b2, fun t ht hk => ?_⟩
  have := b3 t (by omega) ((K_succ (by omega)).mp hk).1
  omega
theorem bs_pos {row : List Int} {i : Nat} {size far : Int} (h : BS row i size) (hf : far = bk row i) (hn : ¬ cutb far size = bk row size.toNat) : 0 < size := by
  refine Decidable.byContradiction fun z => hn ?_
  have : size = 0 := by have := h.s0; omega
  subst this
  rw [hf, cutb_0 (bk_in ..).1]
  have := bk_in row 0
  show 0 = bk row 0
  omega
theorem bs_step {row : List Int} {i : Nat} {size far : Int} (h : BS row i size) (hf : far = bk row i) (hn : ¬ cutb far size = bk row size.toNat) : BS row i (bord row size.toNat) ∧ (bord row size.toNat : Int) < size := by
  have hp := bs_pos h hf hn
  have h0 := h.si
  obtain ⟨b1, b2, b3⟩ := bord_spec row size.toNat
  refine ⟨⟨by omega, by omega, ?_, fun t ht hk => ?_⟩, by omega⟩
  · rw [Int.toNat_natCast]; exact K_trans (by omega) (by omega) h.k b2
  · have h1 := h.max t ht hk
    obtain ⟨h2, h3⟩ := (K_succ (by omega)).mp hk
    have hne : (t : Int) ≠ size := by
      intro z
      apply hn
      rw [hf, ← z, Int.toNat_natCast]
      exact h3
    have := b3 t (by omega) (K_down (by omega) (by omega) h.k h2)
    omega
theorem bs_end {row : List Int} {i : Nat} {size far : Int} (h : BS row i size) (hf : far = bk row i) (hn : cutb far size = bk row size.toNat) : size + 1 = bord row (i + 1) := by
  have h0 := h.s0; have h1 := h.si
  have : size.toNat + 1 = bord row (i + 1) := by
    refine bord_uniq (by omega) ((K_succ (by omega)).mpr ⟨h.k, ?_⟩) fun t ht hk => ?_
    · rw [show ((size.toNat : Nat) : Int) = size by omega, ← hf]; exact hn
    · cases t with
      | zero => omega
      | succ t => have := h.max t (by omega) hk; omega
  omega
theorem gt_told {row told : List Int} {i : Nat} {s : Int} (h : told = (List.range i).map fun j => (bord row (j + 1) : Int)) (hs : 0 < s ∧ s ≤ i) : gt told (s - 1) = bord row s.toNat := by
  unfold gt
  rw [h, List.getD_eq_getElem?_getD, List.getElem?_map, List.getElem?_range (by omega)]
  show ((bord row ((s - 1).toNat + 1) : Nat) : Int) = _
  rw [show (s - 1).toNat + 1 = s.toNat by omega]
theorem bord_one (row : List Int) : bord row 1 = 0 := by have := (bord_spec row 1).1; omega
end TM


set_option linter.all false
set_option maxHeartbeats 1000000
namespace TM
open GL
/-! ### alike rows, as the laws ask it -/
theorem filter_is_take {f : Nat → Int} {x : Int} : ∀ {l : List Nat}, l.Pairwise (fun a b => f a ≤ f b) → l.filter (fun q => decide (f q ≤ x)) = l.take (l.filter (fun q => decide (f q ≤ x))).length
  | [], _ => rfl
  | a :: l, h => by
    obtain ⟨h1, h2⟩ := List.pairwise_cons.mp h
    by_cases e : f a ≤ x
    · rw [List.filter_cons_of_pos (by simpa using e), List.length_cons, List.take_succ_cons, ← filter_is_take h2]
    · have : (a :: l).filter (fun q => decide (f q ≤ x)) = [] := by
        rw [List.filter_eq_nil_iff]
        intro b hb
        rcases List.mem_cons.mp hb with z | z
        · rw [z]; simpa using e
        · have := h1 b z; simp; omega
      rw [this]; rfl
def dep (row : List Int) (i : Nat) : Nat := ((opens row i).filter fun q => decide (nb row q ≤ nb row i)).length
theorem opens_dep (row : List Int) (i : Nat) : opens row (i + 1) = (opens row i).take (dep row i) ++ [i] := by
  rw [opens_succ]; congr 1
  exact filter_is_take (opens_mono row i)
theorem dep_le (row : List Int) (i : Nat) : dep row i ≤ (opens row i).length := List.length_filter_le ..
theorem pv_dep (row : List Int) (i : Nat) : pv row i = if dep row i = 0 then none else (opens row i)[dep row i - 1]? := by
  have hl : ((opens row i).take (dep row i)).length = dep row i := by rw [List.length_take]; have := dep_le row i; omega
  have h : (opens row (i + 1))[dep row i]? = some i := by
    rw [opens_dep, List.getElem?_append_right (by omega), hl, Nat.sub_self]; rfl
  rw [pv_opens h]
  by_cases e : dep row i = 0
  · rw [if_pos e, if_pos e]
  · rw [if_neg e, if_neg e, opens_dep, List.getElem?_append_left (by omega), List.getElem?_take, if_pos (by omega)]
theorem bk_pv {r s : List Int} {p : Nat} : bk r p = bk s p ↔ pv r p = pv s p := by
  constructor
  · intro h
    unfold bk at h
    cases e1 : pv r p with
    | none =>
      cases e2 : pv s p with
      | none => rfl
      | some b => rw [e1, e2] at h; simp only at h; have := (pv_some.mp e2).1; omega
    | some a =>
      cases e2 : pv s p with
      | none => rw [e1, e2] at h; simp only at h; have := (pv_some.mp e1).1; omega
      | some b => rw [e1, e2] at h; simp only at h; congr 1; omega
  · intro h; unfold bk; rw [h]
theorem nodup_opens (row : List Int) (m : Nat) : (opens row m).Nodup := (opens_sorted row m).imp fun h => Nat.ne_of_lt h
theorem dep_opens {r s : List Int} {n : Nat} (h : ∀ p, p < n → dep r p = dep s p) : ∀ i, i ≤ n → opens r i = opens s i
  | 0, _ => rfl
  | i + 1, hi => by rw [opens_dep, opens_dep, dep_opens h i (by omega), h i (by omega)]
theorem dep_of_pv {r s : List Int} {i : Nat} (ho : opens r i = opens s i) (h : pv r i = pv s i) : dep r i = dep s i := by
  rw [pv_dep, pv_dep, ho] at h
  have h1 := dep_le r i; have h2 := dep_le s i
  rw [ho] at h1
  by_cases e1 : dep r i = 0
  · by_cases e2 : dep s i = 0
    · omega
    · rw [if_pos e1, if_neg e2, List.getElem?_eq_getElem (by omega)] at h; cases h
  · by_cases e2 : dep s i = 0
    · rw [if_neg e1, if_pos e2, List.getElem?_eq_getElem (by omega)] at h; cases h
    · rw [if_neg e1, if_neg e2] at h
      have := (List.getElem?_inj (by omega) (nodup_opens s i)).mp h
      omega
theorem dep_iff {r s : List Int} {n : Nat} : (∀ p, p < n → bk r p = bk s p) ↔ ∀ p, p < n → dep r p = dep s p := by
  constructor
  · intro h
    have ho : ∀ i, i ≤ n → opens r i = opens s i := by
      intro i
      induction i with
      | zero => intro _; rfl
      | succ i ih =>
        intro hi
        have h1 := ih (by omega)
        rw [opens_dep, opens_dep, h1, dep_of_pv h1 (bk_pv.mp (h i (by omega)))]
    intro p hp
    exact dep_of_pv (ho p (by omega)) (bk_pv.mp (h p hp))
  · intro h p hp
    rw [bk_pv, pv_dep, pv_dep, dep_opens h p (by omega), h p hp]
def kinB (one other : List Int) : Bool := decide (one.length = other.length) && (List.range one.length).all fun p => decide (bk one p = bk other p)
theorem kinB_iff {one other : List Int} : kinB one other = true ↔ one.length = other.length ∧ ∀ p, p < one.length → dep one p = dep other p := by
  unfold kinB
  rw [Bool.and_eq_true, decide_eq_true_iff, List.all_eq_true, ← dep_iff]
  constructor
  · intro ⟨h1, h2⟩; exact ⟨h1, fun p hp => of_decide_eq_true (h2 p (List.mem_range.mpr hp))⟩
  · intro ⟨h1, h2⟩; exact ⟨h1, fun p hp => decide_eq_true (h2 p (List.mem_range.mp hp))⟩
/-- the law's windows -/
theorem bk_take {row : List Int} {s p : Nat} (hp : p < s) (hs : s ≤ row.length) : bk (row.take s) p = bk row p := by
  rw [bk_pv]
  have hn : ∀ j, j < s → nb (row.take s) j = nb row j := fun j hj => by
    unfold nb; rw [List.getD_eq_getElem?_getD, List.getD_eq_getElem?_getD, List.getElem?_take, if_pos hj]
  refine Option.ext fun a => ?_
  rw [pv_some, pv_some]
  constructor
  · intro ⟨h1, h2, h3⟩
    rw [hn _ (by omega), hn _ hp] at h2
    exact ⟨h1, h2, fun b b1 b2 => by have := h3 b b1 b2; rw [hn _ hp, hn _ (by omega)] at this; exact this⟩
  · intro ⟨h1, h2, h3⟩
    refine ⟨h1, by rw [hn _ (by omega), hn _ hp]; exact h2, fun b b1 b2 => by rw [hn _ hp, hn _ (by omega)]; exact h3 b b1 b2⟩
theorem bk_drop {row : List Int} {d p : Nat} : bk (row.drop d) p = cutb (bk row (d + p)) p := by
  have hn : ∀ j, nb (row.drop d) j = nb row (d + j) := fun j => by
    unfold nb; rw [List.getD_eq_getElem?_getD, List.getD_eq_getElem?_getD, List.getElem?_drop]
  cases e : pv row (d + p) with
  | none =>
    have : pv (row.drop d) p = none := by
      rw [pv_none] at e ⊢
      intro b hb; rw [hn, hn]; exact e (d + b) (by omega)
    unfold bk cutb; rw [this, e]; simp only; split <;> omega
  | some a =>
    rw [pv_some] at e
    obtain ⟨h1, h2, h3⟩ := e
    have e' : pv row (d + p) = some a := pv_some.mpr ⟨h1, h2, h3⟩
    by_cases z : d ≤ a
    · have : pv (row.drop d) p = some (a - d) := by
        rw [pv_some]
        refine ⟨by omega, by rw [hn, hn, show d + (a - d) = a by omega]; exact h2, fun b b1 b2 => by rw [hn, hn]; exact h3 _ (by omega) (by omega)⟩
      unfold bk cutb; rw [this, e']; simp only; rw [if_neg (by omega)]; omega
    · have : pv (row.drop d) p = none := by
        rw [pv_none]; intro b hb; rw [hn, hn]; exact h3 _ (by omega) (by omega)
      unfold bk cutb; rw [this, e']; simp only; rw [if_pos (by omega)]
theorem kin_K {row : List Int} {s m : Nat} (hs : s ≤ m) (hm : m ≤ row.length) : kinB (row.take s) ((row.drop (m - s)).take s) = true ↔ K row s m := by
  have l1 : (row.take s).length = s := by rw [List.length_take]; omega
  have l2 : ((row.drop (m - s)).take s).length = s := by rw [List.length_take, List.length_drop]; omega
  rw [kinB_iff, ← dep_iff, l1, l2]
  unfold K
  constructor
  · intro ⟨_, h⟩ p hp
    have := h p hp
    rw [bk_take hp (by omega), bk_take hp (by rw [List.length_drop]; omega), bk_drop] at this
    exact this.symm
  · intro h
    refine ⟨rfl, fun p hp => ?_⟩
    rw [bk_take hp (by omega), bk_take hp (by rw [List.length_drop]; omega), bk_drop]
    exact (h p hp).symm
end TM
namespace TM
open GL
theorem sl_take {l : List Int} {s : Int} (h : 0 ≤ s ∧ s ≤ l.length) : sl l none (some s) = l.take s.toNat := by
  unfold sl
  have e2 : HT.sIx l.length l.length (some s) = s.toNat := by unfold HT.sIx; simp only; rw [if_neg (by omega)]; omega
  rw [e2]
  show List.take (s.toNat - HT.sIx l.length 0 none) (l.drop (HT.sIx l.length 0 none)) = _
  show List.take (s.toNat - 0) (l.drop 0) = _
  rw [List.drop_zero, Nat.sub_zero]
theorem sl_mid {l : List Int} {a b : Int} (h : 0 ≤ a ∧ a ≤ b ∧ b ≤ l.length) : sl l (some a) (some b) = (l.drop a.toNat).take (b - a).toNat := by
  unfold sl
  have e1 : HT.sIx l.length 0 (some a) = a.toNat := by unfold HT.sIx; simp only; rw [if_neg (by omega)]; omega
  have e2 : HT.sIx l.length l.length (some b) = b.toNat := by unfold HT.sIx; simp only; rw [if_neg (by omega)]; omega
  rw [e1, e2, show b.toNat - a.toNat = (b - a).toNat by omega]
/-- the law's search from above -/
structure LB (row : List Int) (many size : Int) : Prop where
  s0 : 0 ≤ size
  sm : size < many
  max : ∀ t : Nat, (t : Int) < many → K row t many.toNat → (t : Int) ≤ size
end TM
namespace TM
open GL
theorem borders_len (row : List Int) : (borders row).length = row.length := by unfold borders; rw [List.length_map, List.length_range]
end TM


set_option linter.all false
set_option maxHeartbeats 1000000
namespace TM
open GL
/-! ### steps of a row (k39) -/
def stepB (row : List Int) (t : Int) : Bool := kinB (sl row none (some ((row.length : Int) - t))) (sl row (some t) none)
def steps (row : List Int) : List Int := (rg 1 ((row.length : Int) + 1)).filter fun t => decide (stepB row t = true)
theorem sl_drop {l : List Int} {a : Int} (h : 0 ≤ a ∧ a ≤ l.length) : sl l (some a) none = l.drop a.toNat := by
  unfold sl
  have e1 : HT.sIx l.length 0 (some a) = a.toNat := by unfold HT.sIx; simp only; rw [if_neg (by omega)]; omega
  rw [e1]
  show List.take (l.length - a.toNat) (l.drop a.toNat) = _
  rw [List.take_of_length_le (by rw [List.length_drop]; exact Nat.le_refl _)]
theorem stepB_iff {row : List Int} {t : Int} (h : 1 ≤ t ∧ t ≤ row.length) : stepB row t = true ↔ K row (row.length - t.toNat) row.length := by
  unfold stepB
  rw [sl_take (by omega), sl_drop (by omega), show ((row.length : Int) - t).toNat = row.length - t.toNat by omega]
  have := kin_K (row := row) (s := row.length - t.toNat) (m := row.length) (by omega) (Nat.le_refl _)
  rw [show row.length - (row.length - t.toNat) = t.toNat by omega, List.take_of_length_le (l := row.drop t.toNat) (by rw [List.length_drop]; exact Nat.le_refl _)] at this
  exact this
/-- what steps_of has gathered, at size -/
structure SP (row some_ : List Int) (size : Int) : Prop where
  s0 : 0 ≤ size
  sn : size ≤ row.length
  k : K row size.toNat row.length
  eq : some_ = (rg 1 ((row.length : Int) - size + 1)).filter fun t => decide (stepB row t = true)
theorem sp_init (row : List Int) : SP row [] row.length := by
  refine ⟨by omega, by omega, ?_, ?_⟩
  · intro p hp
    rw [Int.toNat_natCast] at hp ⊢
    rw [show row.length - row.length + p = p by omega]
    have := bk_in row p
    unfold cutb; rw [if_neg (by omega)]
  · rw [show (row.length : Int) - row.length + 1 = 1 by omega]; unfold rg; simp
theorem sp_step {row some_ : List Int} {size : Int} (h : SP row some_ size) (hp : 0 < size) : SP row (some_ ++ [(row.length : Int) - (bord row size.toNat : Int)]) (bord row size.toNat) ∧ (bord row size.toNat : Int) < size := by
  have h0 := h.sn
  obtain ⟨b1, b2, b3⟩ := bord_spec row size.toNat
  have hlt : (bord row size.toNat : Int) < size := by omega
  have kb : K row (bord row size.toNat) row.length := K_trans (by omega) (by omega) h.k b2
  refine ⟨⟨by omega, by omega, by rw [Int.toNat_natCast]; exact kb, ?_⟩, hlt⟩
  generalize hb : bord row size.toNat = b at *
  rw [rg_append (a := 1) (b := (row.length : Int) - size + 1) (c := (row.length : Int) - b + 1) (by omega) (by omega), List.filter_append, ← h.eq]
  congr 1
  rw [rg_append (a := (row.length : Int) - size + 1) (b := (row.length : Int) - b) (c := (row.length : Int) - b + 1) (by omega) (by omega), List.filter_append]
  have e1 : (rg ((row.length : Int) - size + 1) ((row.length : Int) - b)).filter (fun t => decide (stepB row t = true)) = [] := by
    rw [List.filter_eq_nil_iff]
    intro t ht
    rw [rg_mem] at ht
    rw [decide_eq_true_iff, stepB_iff (by omega)]
    intro z
    have h1 : K row (row.length - t.toNat) size.toNat := K_down (by omega) (by omega) h.k z
    have := b3 (row.length - t.toNat) (by omega) h1
    omega
  have e2 : (rg ((row.length : Int) - b) ((row.length : Int) - b + 1)).filter (fun t => decide (stepB row t = true)) = [(row.length : Int) - b] := by
    have : rg ((row.length : Int) - b) ((row.length : Int) - b + 1) = [(row.length : Int) - b] := by
      unfold rg
      rw [show ((row.length : Int) - b + 1 - ((row.length : Int) - b)).toNat = 1 by omega]
      show [(row.length : Int) - b + ((0 : Nat) : Int)] = _
      simp
    rw [this, List.filter_cons_of_pos, List.filter_nil]
    rw [decide_eq_true_iff, stepB_iff (by omega), show row.length - ((row.length : Int) - b).toNat = b by omega]
    exact kb
  rw [e1, e2]; rfl
theorem sp_end {row some_ : List Int} {size : Int} (h : SP row some_ size) (hp : ¬ 0 < size) : some_ = steps row := by
  have := h.s0
  rw [h.eq, show size = 0 by omega, Int.sub_zero]; rfl
end TM
namespace TM
open GL
end TM


set_option linter.all false
set_option maxHeartbeats 1000000
namespace TM
open GL
/-! ### a row sought in a text -/
/-- the first s numbers of row are hung as the s of text ahead of i -/
def K2 (row text : List Int) (s i : Nat) : Prop := ∀ p, p < s → cutb (bk text (i - s + p)) p = bk row p
theorem K2_zero (row text : List Int) (m : Nat) : K2 row text 0 m := fun p h => absurd h (Nat.not_lt_zero _)
theorem K2_trans {row text : List Int} {t s m : Nat} (hs : s ≤ m) (ht : t ≤ s) (h1 : K2 row text s m) (h2 : K row t s) : K2 row text t m := fun p hp => by
  have h3 := h2 p hp
  have h4 := h1 (s - t + p) (by omega)
  rw [← h4, show m - s + (s - t + p) = m - t + p by omega, cutb_cutb (bk_in ..).1 (by omega) (by omega)] at h3
  exact h3
theorem K2_down {row text : List Int} {t s m : Nat} (hs : s ≤ m) (ht : t ≤ s) (h1 : K2 row text s m) (h2 : K2 row text t m) : K row t s := fun p hp => by
  have h3 := h2 p hp
  have h4 := h1 (s - t + p) (by omega)
  rw [show m - s + (s - t + p) = m - t + p by omega] at h4
  rw [← h4, cutb_cutb (bk_in ..).1 (by omega) (by omega)]
  exact h3
theorem K2_succ {row text : List Int} {s m : Nat} (hs : s ≤ m) : K2 row text (s + 1) (m + 1) ↔ K2 row text s m ∧ cutb (bk text m) s = bk row s := by
  constructor
  · intro h
    refine ⟨fun p hp => ?_, ?_⟩
    · have := h p (by omega); rw [show m + 1 - (s + 1) + p = m - s + p by omega] at this; exact this
    · have := h s (by omega); rw [show m + 1 - (s + 1) + s = m by omega] at this; exact this
  · intro ⟨h1, h2⟩ p hp
    rw [show m + 1 - (s + 1) + p = m - s + p by omega]
    by_cases e : p = s
    · subst e; rw [show m - p + p = m by omega]; exact h2
    · exact h1 p (by omega)
end TM
namespace TM
open GL
/-- the search in the text ahead of number i, at size s (below the row's length n) -/
structure TS2 (row text : List Int) (i : Nat) (size : Int) : Prop where
  s0 : 0 ≤ size
  sn : size < row.length
  si : size ≤ i
  k : K2 row text size.toNat i
  max : ∀ t : Nat, t < row.length → t ≤ i → K2 row text (t + 1) (i + 1) → (t : Int) ≤ size
theorem ts_pos {row text : List Int} {i : Nat} {size far : Int} (h : TS2 row text i size) (hf : far = bk text i) (hn : ¬ cutb far size = bk row size.toNat) : 0 < size := by
  refine Decidable.byContradiction fun z => hn ?_
  have : size = 0 := by have := h.s0; omega
  subst this
  rw [hf, cutb_0 (bk_in ..).1]
  have := bk_in row 0
  show 0 = bk row 0
  omega
theorem ts_step {row text : List Int} {i : Nat} {size far : Int} (h : TS2 row text i size) (hf : far = bk text i) (hn : ¬ cutb far size = bk row size.toNat) : TS2 row text i (bord row size.toNat) ∧ (bord row size.toNat : Int) < size := by
  have hp := ts_pos h hf hn
  have h0 := h.si; have h1 := h.sn
  obtain ⟨b1, b2, b3⟩ := bord_spec row size.toNat
  refine ⟨⟨by omega, by omega, by omega, ?_, fun t ht hti hk => ?_⟩, by omega⟩
  · rw [Int.toNat_natCast]; exact K2_trans (by omega) (by omega) h.k b2
  · have h1 := h.max t ht hti hk
    obtain ⟨h2, h3⟩ := (K2_succ (by omega)).mp hk
    have hne : (t : Int) ≠ size := by
      intro z
      apply hn
      rw [hf, ← z, Int.toNat_natCast]
      exact h3
    have := b3 t (by omega) (K2_down (by omega) (by omega) h.k h2)
    omega
end TM


set_option linter.all false
set_option maxHeartbeats 1000000
namespace TM
open GL
/-! ### ways that end at -1, trees and their flat rows -/
end TM
namespace TM
open GL
end TM
namespace TM
open GL
end TM
namespace TM
open GL
end TM


set_option linter.all false
set_option maxHeartbeats 1000000
namespace TM
open GL
/-! ### alike rows: by their trees, by what stands ahead, by who stands over whom, by their lows -/
def bel (f : Nat → Option Nat) (p q : Nat) : Bool := match f q with
  | none => true
  | some a => decide (a < p)
theorem bel_iff {row : List Int} {p q : Nat} (h : p ≤ q) : bel (pv row) p q = true ↔ ∀ j, p ≤ j → j < q → nb row q < nb row j := by
  unfold bel
  cases e : pv row q with
  | none => simp only [true_iff]; intro j _ hj; exact pv_none.mp e j hj
  | some a =>
    obtain ⟨h1, h2, h3⟩ := pv_some.mp e
    simp only [decide_eq_true_eq]
    constructor
    · intro ha j hj1 hj2; exact h3 j (by omega) hj2
    · intro hx
      refine Decidable.byContradiction fun z => ?_
      have := hx a (by omega) h1
      omega
theorem nxt_bel (row : List Int) (m p : Nat) : nxt row m p = (List.range m).find? fun q => decide (p < q) && bel (pv row) p q := by
  refine Option.ext fun b => ?_
  rw [nxt_some, List.find?_range_eq_some]
  simp only [Bool.and_eq_true, decide_eq_true_eq, List.mem_range, Bool.not_eq_true', Bool.and_eq_false_imp, decide_eq_true_eq]
  constructor
  · intro ⟨h1, h2, h3, h4⟩
    refine ⟨⟨h1, (bel_iff (by omega)).mpr fun j j1 j2 => ?_⟩, h2, fun c hc hpc => ?_⟩
    · by_cases e : j = p
      · subst e; exact h3
      · have := h4 j (by omega) j2; omega
    · refine Bool.eq_false_iff.mpr fun z => ?_
      have h5 := (bel_iff (by omega)).mp z p (Nat.le_refl _) hpc
      have h6 := h4 c hpc hc
      omega
  · intro ⟨⟨h1, h2⟩, h3, h4⟩
    have h5 := (bel_iff (by omega)).mp h2
    refine ⟨h1, h3, h5 p (Nat.le_refl _) h1, fun c c1 c2 => ?_⟩
    induction c using Nat.strongRecOn with
    | _ c ih =>
      have h6 := h4 c c2 c1
      have h7 : ¬ ∀ j, p ≤ j → j < c → nb row c < nb row j := fun z => by rw [(bel_iff (by omega)).mpr z] at h6; cases h6
      refine Decidable.byContradiction fun z => h7 fun j j1 j2 => ?_
      by_cases e : j = p
      · subst e; omega
      · have := ih j j2 (by omega) (by omega); omega
theorem find_congr {α : Type} {p q : α → Bool} : ∀ {l : List α}, (∀ x ∈ l, p x = q x) → l.find? p = l.find? q
  | [], _ => rfl
  | a :: l, h => by
    rw [List.find?_cons, List.find?_cons, h a (by simp), find_congr fun x hx => h x (List.mem_cons_of_mem _ hx)]
theorem nxt_pv {r s : List Int} {m p : Nat} (h : ∀ q, q < m → pv r q = pv s q) : nxt r m p = nxt s m p := by
  rw [nxt_bel, nxt_bel]
  refine find_congr fun q hq => ?_
  unfold bel
  rw [h q (List.mem_range.mp hq)]
theorem elder_pv {row : List Int} {m p a b : Nat} (h1 : pv row p = some a) (h2 : nxt row m p = some b) : nb row a ≤ nb row b ↔ pv row b = some a := by
  obtain ⟨a1, a2, a3⟩ := pv_some.mp h1
  obtain ⟨b1, b2, b3, b4⟩ := nxt_some.mp h2
  rw [pv_some]
  constructor
  · intro h
    refine ⟨by omega, h, fun c c1 c2 => ?_⟩
    rcases Nat.lt_trichotomy c p with z | z | z
    · have := a3 c c1 z; omega
    · subst z; exact b3
    · have := b4 c z c2; omega
  · intro ⟨_, h, _⟩; exact h
theorem eld_pv {r s : List Int} {m p : Nat} (h : ∀ q, q < m → pv r q = pv s q) (hp : p < m) : eld r m p = eld s m p := by
  have hn : nxt r m p = nxt s m p := nxt_pv h
  have hq := h p hp
  cases e1 : pv r p with
  | none =>
    rw [e1] at hq
    cases e2 : nxt r m p with
    | none => unfold eld; rw [← hn, ← hq, e1, e2]
    | some b => unfold eld; rw [← hn, ← hq, e1, e2]
  | some a =>
    rw [e1] at hq
    cases e2 : nxt r m p with
    | none => unfold eld; rw [← hn, ← hq, e1, e2]
    | some b =>
      rw [e2] at hn
      have k1 := elder_pv e1 e2
      have k2 := elder_pv hq.symm hn.symm
      have hb := (nxt_some.mp e2).2.1
      rw [h b hb] at k1
      unfold eld; rw [e1, e2, ← hq, ← hn]
      simp only
      by_cases z : pv s b = some a
      · rw [if_pos (k1.mpr z), if_pos (k2.mpr z)]
      · rw [if_neg fun y => z (k1.mp y), if_neg fun y => z (k2.mp y)]
theorem tree_of_bk {r s : List Int} (hl : r.length = s.length) (h : ∀ p, p < r.length → bk r p = bk s p) : treeOf r = treeOf s := by
  unfold treeOf
  rw [← hl]
  refine List.map_congr_left fun p hp => ?_
  exact eld_pv (fun q hq => bk_pv.mp (h q hq)) (List.mem_range.mp hp)
/-- who stands nearest ahead, by who stands over whom -/
theorem pv_anc {row : List Int} {p a : Nat} : pv row p = some a ↔ a < p ∧ Anc row p a ∧ ∀ b, a < b → b < p → ¬ Anc row p b := by
  rw [pv_some]
  constructor
  · intro ⟨h1, h2, h3⟩
    refine ⟨h1, .inl ⟨h1, fun j j1 j2 => ?_⟩, fun b b1 b2 hb => ?_⟩
    · by_cases e : j = a
      · subst e; exact Int.le_refl _
      · by_cases e2 : j = p
        · subst e2; exact h2
        · have := h3 j (by omega) (by omega); omega
    · rcases hb with ⟨_, hb⟩ | ⟨hb, _⟩
      · have := hb p (by omega) (Nat.le_refl _); have := h3 b b1 b2; omega
      · omega
  · intro ⟨h1, h2, h3⟩
    have ha : ∀ j, a ≤ j → j ≤ p → nb row a ≤ nb row j := by
      rcases h2 with ⟨_, h⟩ | ⟨h, _⟩
      · exact h
      · omega
    refine ⟨h1, ha p (by omega) (Nat.le_refl _), fun b b1 b2 => Decidable.byContradiction fun z => ?_⟩
    obtain ⟨c, c1, c2, c3, c4⟩ : ∃ c, b ≤ c ∧ c < p ∧ nb row c ≤ nb row p ∧ ∀ d, c < d → d < p → nb row p < nb row d := by
      cases e : pv row p with
      | none => have := pv_none.mp e b b2; omega
      | some c =>
        obtain ⟨e1, e2, e3⟩ := pv_some.mp e
        refine ⟨c, ?_, e1, e2, e3⟩
        refine Decidable.byContradiction fun y => ?_
        have := e3 b (by omega) b2; omega
    refine h3 c (by omega) c2 (.inl ⟨c2, fun j j1 j2 => ?_⟩)
    by_cases e : j = c
    · subst e; exact Int.le_refl _
    · by_cases e2 : j = p
      · subst e2; exact c3
      · have := c4 j (by omega) (by omega); omega
theorem anc_of_tree {r s : List Int} (hl : r.length = s.length) (h : treeOf r = treeOf s) {p q : Nat} (hp : p < r.length) (hq : q < r.length) : Anc r p q ↔ Anc s p q := by
  rw [← ups_mem hp hq, h, ups_mem (by omega) (by omega)]
theorem bk_of_tree {r s : List Int} (hl : r.length = s.length) (h : treeOf r = treeOf s) {p : Nat} (hp : p < r.length) : bk r p = bk s p := by
  rw [bk_pv]
  refine Option.ext fun a => ?_
  rw [pv_anc, pv_anc]
  constructor
  · intro ⟨h1, h2, h3⟩
    exact ⟨h1, (anc_of_tree hl h hp (by omega)).mp h2, fun b b1 b2 z => h3 b b1 b2 ((anc_of_tree hl h hp (by omega)).mpr z)⟩
  · intro ⟨h1, h2, h3⟩
    exact ⟨h1, (anc_of_tree hl h hp (by omega)).mpr h2, fun b b1 b2 z => h3 b b1 b2 ((anc_of_tree hl h hp (by omega)).mp z)⟩
theorem tree_iff_bk {r s : List Int} (hl : r.length = s.length) : treeOf r = treeOf s ↔ ∀ p, p < r.length → bk r p = bk s p :=
  ⟨fun h _ hp => bk_of_tree hl h hp, tree_of_bk hl⟩
theorem kinB_tree {r s : List Int} : kinB r s = true ↔ r.length = s.length ∧ treeOf r = treeOf s := by
  rw [kinB_iff]
  constructor
  · intro ⟨h1, h2⟩; exact ⟨h1, (tree_iff_bk h1).mpr (dep_iff.mpr h2)⟩
  · intro ⟨h1, h2⟩; exact ⟨h1, dep_iff.mp ((tree_iff_bk h1).mp h2)⟩
/-! lows -/
theorem FL.of_anc {row : List Int} {a b h : Int} (a0 : 0 ≤ a) (h1 : a ≤ h) (h2 : h ≤ b) (hx : ∀ p : Int, a ≤ p → p ≤ b → p ≠ h → Anc row p.toNat h.toNat) : FL row a b h := by
  refine ⟨h1, h2, fun j j1 j2 => ?_, fun j j1 j2 => ?_⟩
  · rcases hx j j1 (by omega) (by omega) with ⟨z, y⟩ | ⟨z, y⟩
    · omega
    · exact y j (by omega) (by omega)
  · by_cases e : (j : Int) = h
    · rw [← e]; exact Int.le_refl _
    · rcases hx j j1 j2 e with ⟨z, y⟩ | ⟨z, y⟩
      · exact y j (by omega) (by omega)
      · have := y j (by omega) (by omega); omega
theorem low_of_tree {r s : List Int} (hl : r.length = s.length) (h : treeOf r = treeOf s) {a b : Int} (hb : 0 ≤ a ∧ a ≤ b ∧ b < r.length) : low r a b = low s a b := by
  have f := low_FL hb
  have h1 := f.ah; have h2 := f.hb
  refine (FL.of_anc (row := s) hb.1 f.ah f.hb fun p p1 p2 p3 => ?_).low (by omega)
  exact (anc_of_tree hl h (by omega) (by omega)).mp ((f.anc hb.1 ⟨p1, p2⟩).mpr p3)
theorem anc_low {row : List Int} {p q : Nat} (hp : p < row.length) (hq : q < row.length) : Anc row p q ↔ p ≠ q ∧ low row (min p q : Nat) (max p q : Nat) = q := by
  have hb : (0 : Int) ≤ (min p q : Nat) ∧ ((min p q : Nat) : Int) ≤ (max p q : Nat) ∧ ((max p q : Nat) : Int) < row.length := by omega
  have f := low_FL hb
  constructor
  · intro h
    refine ⟨h.ne, ?_⟩
    refine (FL.low (h := (q : Int)) hb ⟨by omega, by omega, fun j j1 j2 => ?_, fun j j1 j2 => ?_⟩).symm
    · rcases h with ⟨z, y⟩ | ⟨z, y⟩
      · omega
      · exact y j (by omega) (by omega)
    · rcases h with ⟨z, y⟩ | ⟨z, y⟩
      · exact y j (by omega) (by omega)
      · show nb row q ≤ nb row j
        by_cases e : j = q
        · subst e; exact Int.le_refl _
        · have := y j (by omega) (by omega); omega
  · intro ⟨h1, h2⟩
    have := (f.anc hb.1 (p := (p : Int)) (by omega)).mpr (by rw [h2]; omega)
    rw [h2] at this
    exact this
theorem tree_of_lows {r s : List Int} (hl : r.length = s.length) (h : ∀ a b : Int, 0 ≤ a → a ≤ b → b < r.length → low r a b = low s a b) : treeOf r = treeOf s := by
  refine (tree_iff_bk hl).mpr fun p hp => ?_
  have key : ∀ q, q < r.length → (Anc r p q ↔ Anc s p q) := fun q hq => by
    rw [anc_low hp hq, anc_low (by omega) (by omega), h _ _ (by omega) (by omega) (by omega)]
  rw [bk_pv]
  refine Option.ext fun a => ?_
  rw [pv_anc, pv_anc]
  constructor
  · intro ⟨h1, h2, h3⟩
    exact ⟨h1, (key a (by omega)).mp h2, fun b b1 b2 z => h3 b b1 b2 ((key b (by omega)).mpr z)⟩
  · intro ⟨h1, h2, h3⟩
    exact ⟨h1, (key a (by omega)).mpr h2, fun b b1 b2 z => h3 b b1 b2 ((key b (by omega)).mp z)⟩
theorem tree_iff_lows {r s : List Int} (hl : r.length = s.length) : treeOf r = treeOf s ↔ ∀ a b : Int, 0 ≤ a → a ≤ b → b < r.length → low r a b = low s a b :=
  ⟨fun h a b h1 h2 h3 => low_of_tree hl h ⟨h1, h2, h3⟩, tree_of_lows hl⟩
end TM


set_option linter.all false
set_option maxHeartbeats 1000000
namespace TM
open GL
/-! ### starts -/
theorem kin_K2 {row text : List Int} {d : Nat} (h : d + row.length ≤ text.length) : kinB row ((text.drop d).take row.length) = true ↔ K2 row text row.length (d + row.length) := by
  have l2 : ((text.drop d).take row.length).length = row.length := by rw [List.length_take, List.length_drop]; omega
  rw [kinB_iff, ← dep_iff, l2]
  unfold K2
  constructor
  · intro ⟨_, h⟩ p hp
    have := h p hp
    rw [bk_take hp (by rw [List.length_drop]; omega), bk_drop] at this
    rw [show d + row.length - row.length + p = d + p by omega]
    exact this.symm
  · intro h
    refine ⟨rfl, fun p hp => ?_⟩
    rw [bk_take hp (by rw [List.length_drop]; omega), bk_drop]
    have := h p hp
    rw [show d + row.length - row.length + p = d + p by omega] at this
    exact this.symm
structure SI (row text : List Int) (i : Nat) (size : Int) : Prop where
  s0 : 0 ≤ size
  sn : size ≤ row.length
  si : size ≤ i
  k : K2 row text size.toNat i
  max : ∀ t : Nat, t ≤ row.length → t ≤ i → K2 row text t i → (t : Int) ≤ size
theorem si_init (row text : List Int) : SI row text 0 0 := ⟨Int.le_refl _, by omega, Int.le_refl _, K2_zero _ _ _, fun t _ ht _ => by omega⟩
theorem si_same {row text : List Int} {i : Nat} {size : Int} (h : SI row text i size) (hn : ¬ size = row.length) : TS2 row text i size := by
  have := h.sn
  exact ⟨h.s0, by omega, h.si, h.k, fun t t1 t2 hk => h.max t (by omega) t2 ((K2_succ t2).mp hk).1⟩
theorem si_full {row text : List Int} {i : Nat} {size : Int} (h : SI row text i size) (hp : 0 < row.length) (hn : size = row.length) : TS2 row text i (bord row size.toNat) := by
  obtain ⟨b1, b2, b3⟩ := bord_spec row size.toNat
  have h1 := h.si
  refine ⟨by omega, by omega, by omega, ?_, fun t t1 t2 hk => ?_⟩
  · rw [Int.toNat_natCast]; exact K2_trans (by omega) (by omega) h.k b2
  · have := b3 t (by omega) (K2_down (by omega) (by omega) h.k ((K2_succ t2).mp hk).1)
    omega
theorem ts_end {row text : List Int} {i : Nat} {size far : Int} (h : TS2 row text i size) (hf : far = bk text i) (hn : cutb far size = bk row size.toNat) : SI row text (i + 1) (size + 1) := by
  have h0 := h.s0; have h1 := h.sn; have h2 := h.si
  refine ⟨by omega, by omega, by omega, ?_, fun t t1 t2 hk => ?_⟩
  · rw [show (size + 1).toNat = size.toNat + 1 by omega, K2_succ (by omega)]
    refine ⟨h.k, ?_⟩
    rw [show ((size.toNat : Nat) : Int) = size by omega, ← hf]; exact hn
  · cases t with
    | zero => omega
    | succ t => have := h.max t (by omega) (by omega) hk; omega
def stB (row text : List Int) (i : Nat) : List Int := (rg 0 ((i : Int) - row.length + 1)).filter fun s => decide (kinB row (sl text (some s) (some (s + row.length))) = true)
def starts (row text : List Int) : List Int := stB row text text.length
theorem rg_nil {a b : Int} (h : b ≤ a) : rg a b = [] := by unfold rg; rw [show (b - a).toNat = 0 by omega]; rfl
theorem rg_one (a : Int) : rg a (a + 1) = [a] := by unfold rg; rw [show (a + 1 - a).toNat = 1 by omega]; simp
theorem rg_snoc {a b : Int} (h : a ≤ b) : rg a (b + 1) = rg a b ++ [b] := by rw [rg_append h (by omega : b ≤ b + 1), rg_one]
theorem st_init {row : List Int} (text : List Int) (h : 0 < row.length) : stB row text 0 = [] := by unfold stB; rw [rg_nil (by omega)]; rfl
theorem st_step {row text : List Int} {i : Nat} {size : Int} (hi : i < text.length) (hp : 0 < row.length) (h : SI row text (i + 1) size) :
    (size = row.length → stB row text (i + 1) = stB row text i ++ [(i : Int) + 1 - size]) ∧ (¬ size = row.length → stB row text (i + 1) = stB row text i) := by
  unfold stB
  by_cases hb : row.length ≤ i + 1
  · have e : rg 0 (((i + 1 : Nat) : Int) - row.length + 1) = rg 0 ((i : Int) - row.length + 1) ++ [(i : Int) - row.length + 1] := by
      rw [← rg_snoc (by omega)]; congr 1; omega
    have key : kinB row (sl text (some ((i : Int) - row.length + 1)) (some ((i : Int) - row.length + 1 + row.length))) = true ↔ K2 row text row.length (i + 1) := by
      rw [sl_mid (by omega), show ((i : Int) - row.length + 1 + row.length - ((i : Int) - row.length + 1)).toNat = row.length by omega]
      have := kin_K2 (row := row) (text := text) (d := i + 1 - row.length) (by omega)
      rw [show i + 1 - row.length + row.length = i + 1 by omega] at this
      rw [show ((i : Int) - row.length + 1).toNat = i + 1 - row.length by omega]; exact this
    rw [e, List.filter_append]
    constructor
    · intro hs
      have hk := h.k
      rw [hs, Int.toNat_natCast] at hk
      rw [List.filter_cons_of_pos (by rw [decide_eq_true_iff]; exact key.mpr hk), List.filter_nil, hs]
      congr 2; omega
    · intro hs
      rw [List.filter_cons_of_neg, List.filter_nil, List.append_nil]
      rw [decide_eq_true_iff]
      intro z
      have := h.max _ (Nat.le_refl _) hb (key.mp z)
      have := h.sn
      omega
  · have h1 := h.si
    refine ⟨fun z => by omega, fun _ => ?_⟩
    rw [rg_nil (by omega), rg_nil (by omega)]
end TM


set_option linter.all false
set_option maxHeartbeats 1000000
namespace TM
open GL
/-! ### what parts two rows -/
def NP (one other : List Int) (size a : Int) : Prop := ∀ s b : Int, 1 ≤ s → 0 ≤ b → b + s ≤ one.length → (s < size ∨ (s = size ∧ b < a)) → low one b (b + s - 1) = low other b (b + s - 1)
structure PtAt (one other : List Int) (size a : Int) : Prop where
  s1 : 1 ≤ size
  a0 : 0 ≤ a
  an : a + size ≤ one.length
  ne : ¬ low one a (a + size - 1) = low other a (a + size - 1)
  np : NP one other size a
theorem PtAt.uniq {one other : List Int} {s a t b : Int} (x : PtAt one other s a) (y : PtAt one other t b) : s = t ∧ a = b := by
  have h1 := x.s1; have h2 := y.s1
  rcases Int.lt_trichotomy s t with z | z | z
  · exact absurd (y.np s a x.s1 x.a0 x.an (.inl z)) x.ne
  · rcases Int.lt_trichotomy a b with w | w | w
    · exact absurd (y.np s a x.s1 x.a0 x.an (.inr ⟨z, w⟩)) x.ne
    · exact ⟨z, w⟩
    · exact absurd (x.np t b y.s1 y.a0 y.an (.inr ⟨z.symm, w⟩)) y.ne
  · exact absurd (x.np t b y.s1 y.a0 y.an (.inl z)) y.ne
open Classical in
noncomputable def parted (one other : List Int) : Option (Int × Int) := if h : ∃ p : Int × Int, PtAt one other p.1 p.2 then some (h.choose.2, h.choose.2 + h.choose.1 - 1) else none
theorem parted_at {one other : List Int} {s a : Int} (h : PtAt one other s a) : parted one other = some (a, a + s - 1) := by
  unfold parted
  have e : ∃ p : Int × Int, PtAt one other p.1 p.2 := ⟨(s, a), h⟩
  rw [dif_pos e]
  obtain ⟨h1, h2⟩ := e.choose_spec.uniq h
  rw [h1, h2]
theorem parted_no {one other : List Int} (h : NP one other (one.length + 1) 0) : parted one other = none := by
  unfold parted
  rw [dif_neg]
  intro ⟨p, x⟩
  have := x.s1; have := x.a0; have := x.an
  exact x.ne (h p.1 p.2 x.s1 x.a0 x.an (.inl (by omega)))
theorem pt_ex {one other : List Int} : ∀ (n : Nat) (size a : Int), 1 ≤ size → 0 ≤ a → a + size ≤ one.length → ¬ low one a (a + size - 1) = low other a (a + size - 1) → size.toNat ≤ n → ∃ s b, PtAt one other s b
  | 0, size, a, h1, _, _, _, hn => by omega
  | n + 1, size, a, h1, h2, h3, h4, hn => by
    have inner : ∀ (m : Nat) (a : Int), 0 ≤ a → a + size ≤ one.length → ¬ low one a (a + size - 1) = low other a (a + size - 1) → a.toNat ≤ m → ∃ s b, PtAt one other s b := by
      intro m
      induction m with
      | zero =>
        intro a a0 an ne hm
        by_cases e : ∃ s b : Int, 1 ≤ s ∧ 0 ≤ b ∧ b + s ≤ one.length ∧ s < size ∧ ¬ low one b (b + s - 1) = low other b (b + s - 1)
        · obtain ⟨s, b, e1, e2, e3, e4, e5⟩ := e
          exact pt_ex n s b e1 e2 e3 e5 (by omega)
        · refine ⟨size, a, h1, a0, an, ne, fun s b s1 b0 bn hx => Decidable.byContradiction fun z => ?_⟩
          rcases hx with hx | ⟨_, hx⟩
          · exact e ⟨s, b, s1, b0, bn, hx, z⟩
          · omega
      | succ m ih =>
        intro a a0 an ne hm
        by_cases e : ∃ s b : Int, 1 ≤ s ∧ 0 ≤ b ∧ b + s ≤ one.length ∧ s < size ∧ ¬ low one b (b + s - 1) = low other b (b + s - 1)
        · obtain ⟨s, b, e1, e2, e3, e4, e5⟩ := e
          exact pt_ex n s b e1 e2 e3 e5 (by omega)
        · by_cases e' : ∃ b : Int, 0 ≤ b ∧ b < a ∧ ¬ low one b (b + size - 1) = low other b (b + size - 1)
          · obtain ⟨b, e1, e2, e3⟩ := e'
            exact ih b e1 (by omega) e3 (by omega)
          · refine ⟨size, a, h1, a0, an, ne, fun s b s1 b0 bn hx => Decidable.byContradiction fun z => ?_⟩
            rcases hx with hx | ⟨hs, hx⟩
            · exact e ⟨s, b, s1, b0, bn, hx, z⟩
            · subst hs; exact e' ⟨b, b0, hx, z⟩
    exact inner a.toNat a h2 h3 h4 (Nat.le_refl _)
theorem parted_none_iff {one other : List Int} (hl : one.length = other.length) : parted one other = none ↔ treeOf one = treeOf other := by
  rw [tree_iff_lows hl]
  constructor
  · intro h a b h1 h2 h3
    refine Decidable.byContradiction fun z => ?_
    obtain ⟨s, c, x⟩ := pt_ex (one := one) (other := other) (b - a + 1).toNat (b - a + 1) a (by omega) h1 (by omega) (by rw [show a + (b - a + 1) - 1 = b by omega]; exact z) (Nat.le_refl _)
    rw [parted_at x] at h; cases h
  · intro h
    refine parted_no fun s b s1 b0 bn hx => h b (b + s - 1) b0 (by omega) (by omega)
theorem kin_parted {one other : List Int} : (decide ((one.length : Int) = other.length) && (parted one other).isNone) = kinB one other := by
  rw [Bool.eq_iff_iff, Bool.and_eq_true, decide_eq_true_iff, kinB_tree]
  constructor
  · intro ⟨h1, h2⟩
    have hl : one.length = other.length := by omega
    exact ⟨hl, (parted_none_iff hl).mp (Option.isNone_iff_eq_none.mp h2)⟩
  · intro ⟨h1, h2⟩
    exact ⟨by omega, Option.isNone_iff_eq_none.mpr ((parted_none_iff h1).mpr h2)⟩
/-- the lows of a stretch one longer -/
theorem low_longer {row : List Int} {a b : Int} (h : 0 ≤ a ∧ a ≤ b ∧ b + 1 < row.length) : low row a (b + 1) = if gt row (b + 1) < gt row (low row a b) then b + 1 else low row a b := by
  have f := low_FL (row := row) (a := a) (b := b) (by omega)
  have h1 := f.ah; have h2 := f.hb
  rw [gt_at (by omega), gt_at (by omega)]
  split
  · rename_i z
    refine (FL.low (by omega) ⟨by omega, by omega, fun j j1 j2 => ?_, fun j j1 j2 => ?_⟩).symm
    · have := f.r j j1 (by omega); omega
    · by_cases e : (j : Int) = b + 1
      · rw [← e]; exact Int.le_refl _
      · have := f.r j j1 (by omega); omega
  · rename_i z
    refine (FL.low (by omega) ⟨by omega, by omega, f.l, fun j j1 j2 => ?_⟩).symm
    by_cases e : (j : Int) = b + 1
    · have : j = (b + 1).toNat := by omega
      subst this; omega
    · exact f.r j j1 (by omega)
theorem low_one {row : List Int} {a : Int} (h : 0 ≤ a ∧ a < row.length) : low row a a = a := by
  have f := low_FL (row := row) (a := a) (b := a) (by omega)
  have := f.ah; have := f.hb; omega
/-! the lists of lows by size -/
def lowsOf (row : List Int) (size : Int) : List Int := (rg 0 ((row.length : Int) - size + 1)).map fun a => low row a (a + size - 1)
theorem lowsOf_len (row : List Int) (size : Int) : (lowsOf row size).length = ((row.length : Int) - size + 1).toNat := by unfold lowsOf; rw [List.length_map, rg_len]; congr 1; omega
theorem gt_lowsOf {row : List Int} {size a : Int} (h : 0 ≤ a ∧ a + size ≤ row.length) : gt (lowsOf row size) a = low row a (a + size - 1) := by
  unfold lowsOf gt
  rw [List.getD_eq_getElem?_getD, List.getElem?_map, rg_get 0 _ _ (by omega)]
  show low row (0 + (a.toNat : Int)) (0 + (a.toNat : Int) + size - 1) = _
  rw [show (0 : Int) + (a.toNat : Int) = a by omega]
theorem lowsOf_one (row : List Int) : rg 0 row.length = lowsOf row 1 := by
  unfold lowsOf
  refine List.ext_getElem? fun i => ?_
  by_cases h : i < row.length
  · rw [List.getElem?_map, rg_get 0 _ i (by omega), rg_get 0 _ i (by omega)]
    simp only [Option.map_some]
    rw [show (0 : Int) + (i : Int) + 1 - 1 = 0 + (i : Int) by omega, low_one (by omega)]
  · rw [List.getElem?_eq_none (by rw [rg_len]; omega), List.getElem?_eq_none (by rw [List.length_map, rg_len]; omega)]
/-! lists that a loop builds -/
theorem fm_step {α β : Type} {l : List α} {i : Nat} {x : α} (h : l[i]? = some x) (p : α → Bool) (f : α → β) : ((l.take (i + 1)).filter p).map f = ((l.take i).filter p).map f ++ (if p x = true then [f x] else []) := by
  have e : l.take (i + 1) = l.take i ++ [x] := by rw [List.take_add_one, h]; rfl
  rw [e, List.filter_append, List.map_append]
  congr 1
  by_cases z : p x = true
  · rw [if_pos z, List.filter_cons_of_pos z]; rfl
  · rw [if_neg z, List.filter_cons_of_neg z]; rfl
theorem mp_step {α β : Type} {l : List α} {i : Nat} {x : α} (h : l[i]? = some x) (f : α → β) : (l.take (i + 1)).map f = (l.take i).map f ++ [f x] := by
  have e : l.take (i + 1) = l.take i ++ [x] := by rw [List.take_add_one, h]; rfl
  rw [e, List.map_append]; rfl
end TM
namespace TM
open GL
theorem np_init {one other : List Int} (hl : one.length = other.length) : NP one other (2 + ((0 : Nat) : Int)) 0 := fun s b s1 b0 bn hx => by
  have : s = 1 := by omega
  subst this
  rw [show b + 1 - 1 = b by omega, low_one (by omega), low_one (by omega)]
theorem np_step {one other : List Int} {size : Int} {i : Nat} (h : NP one other size (i : Int)) (e : low one (i : Int) ((i : Int) + size - 1) = low other (i : Int) ((i : Int) + size - 1)) : NP one other size ((i + 1 : Nat) : Int) := fun s b s1 b0 bn hx => by
  by_cases z : s = size ∧ b = (i : Int)
  · obtain ⟨z1, z2⟩ := z; subst z1; subst z2; exact e
  · refine h s b s1 b0 bn ?_
    rcases hx with hx | ⟨h1, h2⟩
    · exact .inl hx
    · exact .inr ⟨h1, by omega⟩
theorem np_next {one other : List Int} {size : Int} {i : Nat} (h : NP one other size (i : Int)) (hi : (one.length : Int) - size + 1 ≤ i) : NP one other (size + 1) 0 := fun s b s1 b0 bn hx => by
  refine h s b s1 b0 bn ?_
  by_cases z : s = size
  · exact .inr ⟨z, by omega⟩
  · exact .inl (by omega)
theorem np_all {one other : List Int} {size : Int} (h : NP one other size 0) (hs : (one.length : Int) < size) : NP one other (one.length + 1) 0 := fun s b s1 b0 bn hx => h s b s1 b0 bn (.inl (by omega))
end TM
namespace TM
open GL
theorem sl_win {text : List Int} {start n : Int} (h : 0 ≤ start ∧ 0 ≤ n ∧ start + n ≤ text.length) : ((sl text (some start) (some (start + n))).length : Int) = n := by
  rw [sl_mid (by omega), List.length_take, List.length_drop]; omega
noncomputable def pst (row text : List Int) (start : Int) : List Int := [start, (oget (parted row (sl text (some start) (some (start + row.length))))).1, (oget (parted row (sl text (some start) (some (start + row.length))))).2]
noncomputable def pstarts (row text : List Int) : List (List Int) := ((rg 0 ((text.length : Int) - row.length + 1)).filter fun z => decide (z ∉ starts row text)).map (pst row text)
theorem mem_starts {row text : List Int} {start : Int} (h : 0 ≤ start ∧ start + row.length ≤ text.length) : start ∈ starts row text ↔ kinB row (sl text (some start) (some (start + row.length))) = true := by
  unfold starts stB
  rw [List.mem_filter, rg_mem, decide_eq_true_iff]
  exact ⟨fun z => z.2, fun z => ⟨by omega, z⟩⟩
theorem kin_win {row text : List Int} {start : Int} (h : 0 ≤ start ∧ start + row.length ≤ text.length) : parted row (sl text (some start) (some (start + row.length))) = none ↔ kinB row (sl text (some start) (some (start + row.length))) = true := by
  have hl := sl_win (text := text) (start := start) (n := row.length) (by omega)
  rw [parted_none_iff (by omega), kinB_tree]
  exact ⟨fun z => ⟨by omega, z⟩, fun z => z.2⟩
theorem pst_start {row text : List Int} {start : Int} (h : 0 ≤ start ∧ start + row.length ≤ text.length) : parted row (sl text (some start) (some (start + row.length))) = none ↔ start ∈ starts row text := by
  rw [kin_win h, mem_starts h]
end TM


set_option linter.all false
set_option maxHeartbeats 1000000
namespace TM
open GL
end TM
namespace TM
open GL
theorem PtAt.symm {one other : List Int} {s a : Int} (hl : one.length = other.length) (x : PtAt one other s a) : PtAt other one s a :=
  ⟨x.s1, x.a0, by have := x.an; omega, fun z => x.ne z.symm, fun t b t1 b0 bn hx => (x.np t b t1 b0 (by omega) hx).symm⟩
end TM


set_option Elab.async false
set_option linter.all false
/-! ### rows moved, and windows of alike rows -/
namespace TM
open GL
theorem nb_map {row : List Int} {f : Int → Int} {i : Nat} (h : i < row.length) : nb (row.map f) i = f (nb row i) := by
  unfold nb
  rw [List.getD_eq_getElem?_getD, List.getElem?_map, List.getD_eq_getElem?_getD, List.getElem?_eq_getElem h]; rfl
theorem sl_win2_len {row : List Int} {a b : Int} (h : 0 ≤ a ∧ a ≤ b ∧ b < row.length) : ((sl row (some a) (some (b + 1))).length : Int) = b + 1 - a := by
  rw [sl_mid (by omega), List.length_take, List.length_drop]; omega
end TM


set_option Elab.async false
set_option linter.all false
/-! ### choices -/
namespace TM
open GL
def bi : Nat → Nat → Nat
  | _, 0 => 1
  | 0, _ + 1 => 0
  | n + 1, k + 1 => bi n k + bi n (k + 1)
def choice (n k : Int) : Int := (bi n.toNat k.toNat : Int)
/-- a row of choices, as sums of the row before -/
def brow (n : Nat) : List Int := (List.range (n + 1)).map fun k => (bi n k : Int)
/-- how many trees have so many falls -/
def falls (n k : Int) : Int := if n = 0 ∨ k < 0 ∨ k ≥ n then (if n = 0 ∧ k = 0 then 1 else 0) else choice n k * choice n (k + 1) / n
end TM


set_option Elab.async false
set_option linter.all false
/-! ### trees counted, and open places -/
namespace TM
open GL
/-- the sums of all that stands at a place or behind -/
def sufs : List Int → List Int
  | [] => []
  | x :: l => (x :: l).sum :: sufs l
def opn (row : List Int) : List Int := 0 :: sufs row
def opnRow : Nat → List Int
  | 0 => [1]
  | n + 1 => opn (opnRow n)
def openAt (n k : Int) : Int := if k < 0 ∨ k > n then 0 else gt (opnRow n.toNat) k
def catal (n : Int) : Int := choice (2 * n) n / (n + 1)
/-! evaluated by force -/
def forceN {α : Type} (n : Nat) (f : Nat → α) : α := Nat.rec (f 0) (fun k _ => f (k + 1)) n
def forceL {α : Type} : List Nat → (List Nat → α) → α
  | [], f => f []
  | x :: l, f => forceN x fun y => forceL l fun r => f (y :: r)
def sufN : List Nat → List Nat
  | [] => []
  | x :: l => (match sufN l with | [] => x | y :: _ => x + y) :: sufN l
def sufF : List Nat → Nat → List Nat → List Nat
  | [], _, acc => acc
  | x :: l, t, acc => forceN (t + x) fun u => sufF l u (u :: acc)
def sufM : List Nat → List Nat
  | [] => []
  | x :: l => (x :: l).sum :: sufM l
def chN : Nat → Nat → Nat
  | _, 0 => 1
  | n, k + 1 => chN n k * (n - k) / (k + 1)
/-- all the sums, row by row -/
def chk22 : Nat → Nat → List Nat → Bool
  | 0, _, _ => true
  | r + 1, n, row => decide (chN (2 * n) n / (n + 1) = row.sum) && forceL (0 :: sufF row.reverse 0 []) fun row' => chk22 r (n + 1) row'
end TM


set_option Elab.async false
set_option linter.all false
/-! ### rows no higher than a bound, counted in two ways -/
namespace TM
open GL L2
/-- the sum that stands at the end of the next place -/
def fstep (lower f : List Int) : Int := ((rg 0 f.length).map fun top => gt lower top * gt f ((f.length : Int) - 1 - top)).sum
def flatO (lower : List Int) : Nat → List Int
  | 0 => [1]
  | n + 1 => flatO lower n ++ [fstep lower (flatO lower n)]
theorem flatO_len (lower : List Int) : ∀ n, (flatO lower n).length = n + 1
  | 0 => rfl
  | n + 1 => by rw [flatO, List.length_append, flatO_len lower n]; rfl
def flIt (n : Nat) : Nat → List Int
  | 0 => [1] ++ List.replicate n 0
  | k + 1 => flatO (flIt n k) n
theorem flIt_len (n : Nat) : ∀ k, (flIt n k).length = n + 1
  | 0 => by rw [flIt, List.length_append, List.length_replicate]; simp; omega
  | k + 1 => by rw [flIt, flatO_len]
/-- the law's ways -/
def wayS (most : Int) (ways : List Int) : List Int := (rg 0 (min most ways.length + 1)).map fun k => gt ((sufs ways) ++ [0]) (max 0 (k - 1))
def wayIt (most : Int) : Nat → List Int
  | 0 => [1]
  | k + 1 => wayS most (wayIt most k)
def dueF (n most : Int) : Int := if n = 0 ∨ most < 0 then (if n = 0 then 1 else 0) else (wayIt most (n - 1).toNat).sum
def manyF (n most : Int) : Int := gt (flIt n.toNat (min most n + 1).toNat) n
/-! by force -/
def stepN (lower f : List Nat) : Nat := (List.zipWith (· * ·) lower f).sum
/-- f from behind -/
def flF : List Nat → Nat → List Nat → (List Nat → Bool) → Bool
  | _, 0, acc, k => forceL acc.reverse k
  | lower, n + 1, acc, k => forceN (stepN lower acc) fun x => flF lower n (x :: acc) k
def castL (l : List Nat) : List Int := l.map fun x : Nat => (x : Int)
def nextF (m : Nat) (ways : List Nat) : List Nat := match sufF ways.reverse 0 [] with
  | [] => [0]
  | x :: l => x :: (x :: l).take m
def chkD (m : Nat) : List Nat → List Nat → Bool
  | [], _ => true
  | x :: f, ways => decide (x = ways.sum) && forceL (nextF m ways) fun w => chkD m f w
def chk24 : Nat → Nat → List Nat → Bool
  | 0, _, _ => true
  | r + 1, m, f => flF f 40 [1] fun f' => chkD m f'.tail [1] && chk24 r (m + 1) f'
/-! bounds -/
def fct : Nat → Nat
  | 0 => 1
  | n + 1 => (n + 1) * fct n
theorem fct_mul (t : Nat) : ∀ u, fct t * fct u ≤ fct (t + u)
  | 0 => by simp [fct]
  | u + 1 => by
    have ih := fct_mul t u
    show fct t * ((u + 1) * fct u) ≤ (t + u + 1) * fct (t + u)
    calc fct t * ((u + 1) * fct u) = (u + 1) * (fct t * fct u) := by rw [Nat.mul_left_comm]
      _ ≤ (u + 1) * fct (t + u) := Nat.mul_le_mul_left _ ih
      _ ≤ (t + u + 1) * fct (t + u) := Nat.mul_le_mul_right _ (by omega)
theorem fct_mono {a b : Nat} (h : a ≤ b) : fct a ≤ fct b := by
  induction b with
  | zero => obtain rfl : a = 0 := by omega
            exact Nat.le_refl _
  | succ b ih =>
    by_cases e : a = b + 1
    · subst e; exact Nat.le_refl _
    · refine Nat.le_trans (ih (by omega)) ?_
      show fct b ≤ (b + 1) * fct b
      exact Nat.le_mul_of_pos_left _ (by omega)
def FB (l : List Int) : Prop := ∀ i : Int, 0 ≤ i → i < l.length → 0 ≤ gt l i ∧ gt l i ≤ (fct i.toNat : Int)
theorem sum_le {α : Type} (c : Int) : ∀ (l : List α) (f : α → Int), (∀ x ∈ l, 0 ≤ f x ∧ f x ≤ c) → 0 ≤ (l.map f).sum ∧ (l.map f).sum ≤ l.length * c
  | [], _, _ => by simp
  | x :: l, f, h => by
    have ih := sum_le c l f fun y hy => h y (by simp [hy])
    have hx := h x (by simp)
    rw [List.map_cons, List.sum_cons, List.length_cons, Int.natCast_add, Int.add_mul]
    simp only [Int.natCast_one, Int.one_mul]
    omega
theorem FB.step {lower f : List Int} (h1 : FB lower) (h2 : FB f) (h : f.length ≤ lower.length) (h0 : 0 < f.length) : 0 ≤ fstep lower f ∧ fstep lower f ≤ (fct f.length : Int) := by
  have := sum_le (fct (f.length - 1) : Int) (rg 0 f.length) (fun top => gt lower top * gt f ((f.length : Int) - 1 - top)) fun t ht => by
    have ht2 := rg_mem.mp ht
    obtain ⟨a1, a2⟩ := h1 t (by omega) (by omega)
    obtain ⟨b1, b2⟩ := h2 ((f.length : Int) - 1 - t) (by omega) (by omega)
    refine ⟨Int.mul_nonneg a1 b1, ?_⟩
    refine Int.le_trans (Int.mul_le_mul a2 b2 b1 (by omega)) ?_
    rw [← Int.natCast_mul]
    have := fct_mul t.toNat ((f.length : Int) - 1 - t).toNat
    rw [show t.toNat + ((f.length : Int) - 1 - t).toNat = f.length - 1 by omega] at this
    omega
  refine ⟨this.1, Int.le_trans this.2 ?_⟩
  rw [rg_len, show ((f.length : Int) - 0).toNat = f.length by omega, ← Int.natCast_mul]
  obtain ⟨j, hj⟩ : ∃ j, f.length = j + 1 := ⟨f.length - 1, by omega⟩
  rw [hj]; exact Int.le_refl _
theorem FB.snoc {f : List Int} {x : Int} (h : FB f) (hx : 0 ≤ x ∧ x ≤ (fct f.length : Int)) : FB (f ++ [x]) := fun i h0 h1 => by
  rw [List.length_append, List.length_singleton] at h1
  unfold gt
  by_cases e : i < f.length
  · have := h i h0 e
    unfold gt at this
    rw [List.getD_eq_getElem?_getD] at this ⊢
    rw [List.getElem?_append_left (by omega)]; exact this
  · have : i.toNat = f.length := by omega
    rw [List.getD_eq_getElem?_getD, this, List.getElem?_append_right (Nat.le_refl _), Nat.sub_self]; exact hx
theorem FB.one : FB [1] := fun i h0 h1 => by
  obtain rfl : i = 0 := by simp at h1; omega
  decide
theorem FB.flatO {lower : List Int} (h : FB lower) : ∀ {n : Nat}, n + 1 ≤ lower.length → FB (flatO lower n)
  | 0, _ => FB.one
  | n + 1, hn => by
    rw [TM.flatO]
    have := FB.flatO h (n := n) (by omega)
    exact this.snoc (h.step this (by rw [flatO_len]; omega) (by rw [flatO_len]; omega))
theorem FB.flIt (n : Nat) : ∀ k, FB (flIt n k)
  | 0 => fun i h0 h1 => by
    rw [TM.flIt] at h1 ⊢
    unfold gt
    rw [List.getD_eq_getElem?_getD]
    cases e : i.toNat with
    | zero => exact ⟨show (0 : Int) ≤ 1 by decide, show (1 : Int) ≤ 1 by decide⟩
    | succ j =>
      show 0 ≤ ((List.replicate n (0 : Int))[j]?).getD default ∧ ((List.replicate n (0 : Int))[j]?).getD default ≤ _
      rw [List.getElem?_replicate]
      split <;> exact ⟨by decide, by show (0 : Int) ≤ _; omega⟩
  | k + 1 => (FB.flIt n k).flatO (by rw [flIt_len]; exact Nat.le_refl _)
/-- one of two factors is small -/
theorem FB.mul {l m : List Int} (h1 : FB l) (h2 : FB m) {i j : Int} (hi : 0 ≤ i ∧ i < l.length) (hj : 0 ≤ j ∧ j < m.length) (hs : i + j ≤ 39) : CMul (gt l i) (gt m j) := by
  have big : (fct 19 : Int) < 2 ^ 64 := by decide
  by_cases e : i ≤ 19
  · obtain ⟨a, b⟩ := h1 i hi.1 hi.2
    have := fct_mono (show i.toNat ≤ 19 by omega)
    exact .inl ⟨by omega, by omega⟩
  · obtain ⟨a, b⟩ := h2 j hj.1 hj.2
    have := fct_mono (show j.toNat ≤ 19 by omega)
    exact .inr ⟨by omega, by omega⟩
end TM


set_option Elab.async false
set_option linter.all false
/-! ### trees hung by drops -/
namespace TM
open GL
theorem T.same {t t' : List Int} {a b : Nat} {e : Int} (h : T t a b e) : (∀ p, a ≤ p → p < b → nb t p = nb t' p) → T t' a b e := by
  induction h with
  | nil a e => intro _; exact .nil a e
  | node h1 h2 h3 h4 h5 i1 i2 =>
    intro g
    exact .node h1 h2 (by rw [← g _ h1 h2]; exact h3) (i1 fun p p1 p2 => g p p1 (by omega)) (i2 fun p p1 p2 => g p (by omega) p2)
/-- what stands open, from the bottom: each with what hangs at it on its left -/
inductive Ch (t : List Int) : Nat → Int → List Nat → Nat → Prop
  | nil (a : Nat) (e : Int) : Ch t a e [] a
  | cons {a h i : Nat} {e : Int} {s : List Nat} : a ≤ h → nb t h = e → T t a h h → Ch t (h + 1) h s i → Ch t a e (h :: s) i
theorem Ch.le {t : List Int} {a i : Nat} {e : Int} {s : List Nat} (h : Ch t a e s i) : a ≤ i := by
  induction h with
  | nil => exact Nat.le_refl _
  | cons h1 _ _ _ ih => omega
theorem Ch.same {t t' : List Int} {a i : Nat} {e : Int} {s : List Nat} (h : Ch t a e s i) : (∀ p, a ≤ p → p < i → nb t p = nb t' p) → Ch t' a e s i := by
  induction h with
  | nil a e => intro _; exact .nil a e
  | cons h1 h2 h3 h4 ih =>
    intro g
    have := h4.le
    exact .cons h1 (by rw [← g _ h1 (by omega)]; exact h2) (h3.same fun p p1 p2 => g p p1 (by omega)) (ih fun p p1 p2 => g p (by omega) p2)
theorem Ch.split {t : List Int} : ∀ {s1 : List Nat} {a i : Nat} {e : Int} {s2 : List Nat}, Ch t a e (s1 ++ s2) i →
    ∃ m e', Ch t a e s1 m ∧ Ch t m e' s2 i ∧ (s1 = [] → e' = e) ∧ (∀ h : s1 ≠ [], e' = (s1.getLast h : Int))
  | [], a, i, e, s2, h => ⟨a, e, .nil a e, h, fun _ => rfl, fun z => absurd rfl z⟩
  | x :: s1, a, i, e, s2, h => by
    cases h with
    | cons h1 h2 h3 h4 =>
      obtain ⟨m, e', c1, c2, c3, c4⟩ := Ch.split h4
      refine ⟨m, e', .cons h1 h2 h3 c1, c2, fun z => by simp at z, fun _ => ?_⟩
      cases s1 with
      | nil => rw [c3 rfl]; rfl
      | cons y l => rw [c4 (by simp)]; simp
theorem Ch.app {t : List Int} : ∀ {s1 : List Nat} {a m i : Nat} {e : Int} {s2 : List Nat}, Ch t a e s1 m → Ch t m (match s1.getLast? with | none => e | some x => (x : Int)) s2 i → Ch t a e (s1 ++ s2) i
  | [], a, m, i, e, s2, h1, h2 => by cases h1; exact h2
  | x :: s1, a, m, i, e, s2, h1, h2 => by
    cases h1 with
    | cons g1 g2 g3 g4 =>
      refine .cons g1 g2 g3 (Ch.app g4 ?_)
      cases s1 with
      | nil => exact h2
      | cons y l => rw [List.getLast?_cons_cons] at h2; exact h2
theorem Ch.in {t : List Int} {a i : Nat} {e : Int} {s : List Nat} (h : Ch t a e s i) : ∀ x ∈ s, a ≤ x ∧ x < i := by
  induction h with
  | nil => intro x hx; cases hx
  | cons h1 _ _ h4 ih =>
    intro x hx
    have := h4.le
    rcases List.mem_cons.mp hx with rfl | hx
    · omega
    · have := ih x hx; omega
/-- one place, after so many drops -/
def hone (p : List Int × List Int) (i : Nat) (d : Int) : List Int × List Int :=
  let left : Int := (p.2.length : Int) - d
  let E1 := if 0 < d then p.1.set (gt p.2 left).toNat i else p.1
  let S1 := p.2.take left.toNat
  (if 0 < left then E1.set i (gtB S1 1) else E1, S1 ++ [(i : Int)])
def hst (drops : List Int) : Nat → List Int × List Int
  | 0 => (List.replicate drops.length (-1), [])
  | i + 1 => hone (hst drops i) i (nb drops i)
def okD (drops : List Int) (i : Nat) : Prop := ∀ j, j < i → 0 ≤ nb drops j ∧ nb drops j ≤ ((hst drops j).2.length : Int)
structure HI (E : List Int) (S : List Int) (n i : Nat) : Prop where
  len : E.length = n
  rest : ∀ p, i ≤ p → p < n → nb E p = -1
  ch : ∃ s : List Nat, S = s.map (fun x : Nat => (x : Int)) ∧ Ch E 0 (-1) s i
def hungF (drops : List Int) : List Int := (hst drops drops.length).1
end TM


set_option Elab.async false
set_option linter.all false
/-! ### rows that a tree fits -/
namespace TM
open GL
/-- each number is no less than its elder's, and greater where the elder stands behind -/
def Fits (t row : List Int) : Prop := ∀ p : Nat, p < t.length → 0 ≤ nb t p → nb row (nb t p).toNat + (if (p : Int) < nb t p then 1 else 0) ≤ nb row p
theorem T.above {t row : List Int} (hf : Fits t row) {a b : Nat} {e : Int} (h : T t a b e) : b ≤ t.length → 0 ≤ e → (e < a ∨ (b : Int) ≤ e) → ∀ j, a ≤ j → j < b → nb row e.toNat + (if (j : Int) < e then 1 else 0) ≤ nb row j := by
  induction h with
  | nil a e => intro _ _ _ j h1 h2; omega
  | @node a b h e h1 h2 h3 h4 h5 i1 i2 =>
    intro hb he ho j j1 j2
    have hh := hf h (by omega) (by rw [h3]; exact he)
    rw [h3] at hh
    rcases Nat.lt_trichotomy j h with z | z | z
    · have := i1 (by omega) (by omega) (.inr (Int.le_refl _)) j j1 z
      rw [if_pos (by omega), Int.toNat_natCast] at this
      split at hh <;> split <;> omega
    · subst z; exact hh
    · have := i2 hb (by omega) (.inl (by omega)) j z j2
      rw [if_neg (by omega), Int.toNat_natCast] at this
      split at hh <;> split <;> omega
theorem T.fitR {t row : List Int} (hf : Fits t row) {a b : Nat} {e : Int} (h : T t a b e) : b ≤ t.length → TR t row a b e := by
  induction h with
  | nil a e => intro _; exact .nil a e
  | @node a b h e h1 h2 h3 h4 h5 i1 i2 =>
    intro hb
    refine .node h1 h2 h3 (fun j j1 j2 => ?_) (fun j j1 j2 => ?_) (i1 (by omega)) (i2 hb)
    · have := h4.above hf (by omega) (by omega) (.inr (Int.le_refl _)) j j1 j2
      rw [if_pos (by omega), Int.toNat_natCast] at this; omega
    · have := h5.above hf hb (by omega) (.inl (by omega)) j j1 j2
      rw [if_neg (by omega), Int.toNat_natCast] at this; omega
theorem fits_tree {t row : List Int} (ht : isTree t = true) (hl : row.length = t.length) (hf : Fits t row) : treeOf row = t := by
  refine tree_of_TR hl ?_
  rw [hl]
  exact T.fitR hf (isTree_iff.mp ht).2 (Nat.le_refl _)
end TM


set_option Elab.async false
set_option linter.all false
/-! ### the laws' own hanging, ways and trees (the laws with pools) -/
namespace TM
open GL
/-! drops that can be hung -/
def dok (l : List Int) : Prop := ∀ j, j < l.length → 0 ≤ nb l j ∧ nb l j ≤ (j : Int) - (l.take j).sum
/-- amid the popping -/
def hmid (E S : List Int) (d : Int) (place : Int) (t : Nat) : List Int := if 0 < d ∧ (t : Int) = d then E.set (gt S ((S.length : Int) - d)).toNat place else E
/-! ways, with so much breath -/
def upM (t : List Int) (p : Int) : Option (List Int) := up t (t.length + 1) (gt t p)
def flatAtM (t : List Int) (p : Nat) : Option Int := (upM t p).map fun w => behind w p
def flatM (t : List Int) : Option (List Int) := if (List.range t.length).all (fun p => (flatAtM t p).isSome) then some ((List.range t.length).map fun p => (flatAtM t p).getD 0) else none
/-! the law's elders -/
end TM


set_option Elab.async false
set_option linter.all false
/-! ### a row of a tree, drawn place by place in the order of the ranks -/
namespace TM
open GL
theorem ups_cons {t : List Int} (h : isTree t = true) {p : Int} (hp : 0 ≤ p ∧ p < t.length) (he : ¬ gt t p = -1) : (0 ≤ gt t p ∧ gt t p < t.length) ∧ ups t p = gt t p :: ups t (gt t p) := by
  have h1 := oget_some (ups_some h hp)
  change up t t.length (gt t p) = some (ups t p) at h1
  obtain ⟨n, hn⟩ : ∃ n, t.length = n + 1 := ⟨t.length - 1, by omega⟩
  have hin : 0 ≤ gt t p ∧ gt t p < t.length := by
    refine Decidable.byContradiction fun z => ?_
    rw [up_none he (by omega)] at h1; cases h1
  refine ⟨hin, ?_⟩
  rw [hn, up_step hin] at h1
  cases e : up t n (gt t (gt t p)) with
  | none => rw [e] at h1; cases h1
  | some w =>
    rw [e] at h1
    have h2 := up_more t n 1 _ _ e
    rw [← hn] at h2
    have h3 : ups t (gt t p) = w := by unfold ups; rw [h2]; rfl
    rw [h3]
    exact (Option.some.inj h1).symm
def rk (t : List Int) (p : Int) : Int := ((ups t p).length : Int)
def ranksB (t : List Int) (i : Nat) : List (Int × Int) := (List.range i).map fun p : Nat => (rk t (p : Int), (p : Int))
/-- the ranks, in order -/
structure RL (t : List Int) (L : List (Int × Int)) : Prop where
  it : ∀ q ∈ L, q.1 = rk t q.2 ∧ 0 ≤ q.2 ∧ q.2 < t.length
  all : ∀ p : Nat, p < t.length → (rk t p, (p : Int)) ∈ L
  up : L.Pairwise fun a b => a.1 ≤ b.1 ∧ a.2 ≠ b.2
theorem RL.lt {t : List Int} {L : List (Int × Int)} (h : RL t L) {k i : Nat} {a b : Int × Int} (hk : k < i) (ha : L[k]? = some a) (hb : L[i]? = some b) : a.1 ≤ b.1 ∧ a.2 ≠ b.2 := by
  obtain ⟨k1, e1⟩ := List.getElem?_eq_some_iff.mp ha
  obtain ⟨i1, e2⟩ := List.getElem?_eq_some_iff.mp hb
  have := List.pairwise_iff_getElem.mp h.up k i k1 i1 hk
  rw [e1, e2] at this; exact this
def KR (t : List Int) (L : List (Int × Int)) (found : List Int) (i : Nat) : Prop := found.length = t.length ∧ ∀ k, k < i → ∀ q, L[k]? = some q → 0 ≤ gt t q.2 → gt found (gt t q.2) + (if q.2 < gt t q.2 then 1 else 0) ≤ gt found q.2
/-! the law's hanging, step by step -/
end TM


set_option Elab.async false
set_option linter.all false
/-! ### lows by a tree alone -/
namespace TM
open GL
def lowBy (t : List Int) (a b : Int) : Int := gtB (([a] ++ ups t a).filter fun p => decide (a ≤ p ∧ p ≤ b)) 1
end TM


set_option Elab.async false
set_option linter.all false
/-! ### spans by a tree -/
namespace TM
open GL
/-- p hangs under o, or is it -/
def Dsc (t : List Int) (o p : Int) : Prop := o ∈ [p] ++ ups t p
instance (t : List Int) (o p : Int) : Decidable (Dsc t o p) := inferInstanceAs (Decidable (o ∈ [p] ++ ups t p))
def spF (t : List Int) (o : Int) : Nat → Int
  | 0 => o
  | i + 1 => if Dsc t o i then min (spF t o i) i else spF t o i
def spG (t : List Int) (o : Int) : Nat → Int
  | 0 => o
  | i + 1 => if Dsc t o i then max (spG t o i) i else spG t o i
def spanT (t : List Int) (o : Int) : Int × Int := (spF t o t.length, spG t o t.length)
theorem spFG {t : List Int} {o a b : Int} {n : Nat} (ha : 0 ≤ a ∧ a ≤ o ∧ o ≤ b) (h : ∀ p : Nat, p < n → (Dsc t o p ↔ a ≤ p ∧ (p : Int) ≤ b)) : ∀ i, i ≤ n → spF t o i = (if a < i then a else o) ∧ spG t o i = max o (min ((i : Int) - 1) b)
  | 0, _ => ⟨by rw [if_neg (by omega)]; rfl, by show o = _; omega⟩
  | i + 1, hi => by
    obtain ⟨h1, h2⟩ := spFG ha h i (by omega)
    have hd := h i (by omega)
    rw [spF, spG, h1, h2]
    by_cases d : Dsc t o i
    · rw [if_pos d, if_pos d]
      have := hd.mp d
      constructor
      · split <;> split <;> omega
      · omega
    · rw [if_neg d, if_neg d]
      have : ¬ (a ≤ i ∧ (i : Int) ≤ b) := fun z => d (hd.mpr z)
      constructor
      · split <;> split <;> omega
      · omega
theorem dsc_anc {row : List Int} {o p : Nat} (ho : o < row.length) (hp : p < row.length) : Dsc (treeOf row) o p ↔ o = p ∨ Anc row p o := by
  unfold Dsc
  rw [List.mem_append, List.mem_singleton, ups_mem hp ho]
  constructor
  · rintro (z | z)
    · exact .inl (by omega)
    · exact .inr z
  · rintro (z | z)
    · exact .inl (by omega)
    · exact .inr z
/-- how far a place reaches -/
structure Sn (row : List Int) (p a b : Int) : Prop where
  a0 : 0 ≤ a
  ap : a ≤ p
  pb : p ≤ b
  bn : b < row.length
  l : ∀ j : Nat, a ≤ j → (j : Int) < p → nb row p.toNat < nb row j
  r : ∀ j : Nat, p < j → (j : Int) ≤ b → nb row p.toNat ≤ nb row j
  la : 0 < a → nb row (a - 1).toNat ≤ nb row p.toNat
  rb : b + 1 < row.length → nb row (b + 1).toNat < nb row p.toNat
theorem Sn.dsc {row : List Int} {p a b : Int} (h : Sn row p a b) {q : Nat} (hq : q < row.length) : Dsc (treeOf row) p q ↔ a ≤ q ∧ (q : Int) ≤ b := by
  have h1 := h.a0; have h2 := h.ap; have h3 := h.pb; have h4 := h.bn
  have e : p = (p.toNat : Int) := by omega
  rw [e, dsc_anc (by omega) hq]
  constructor
  · rintro (z | z | z)
    · omega
    · refine ⟨by omega, ?_⟩
      refine Decidable.byContradiction fun y => ?_
      have k := h.rb (by omega)
      have := z.2 (b + 1).toNat (by omega) (by omega)
      omega
    · refine ⟨?_, by omega⟩
      refine Decidable.byContradiction fun y => ?_
      have k := h.la (by omega)
      have := z.2 (a - 1).toNat (by omega) (by omega)
      omega
  · rintro ⟨y1, y2⟩
    rcases Nat.lt_trichotomy q p.toNat with z | z | z
    · exact .inr (.inr ⟨z, fun j j1 j2 => h.l j (by omega) (by omega)⟩)
    · exact .inl z.symm
    · refine .inr (.inl ⟨z, fun j j1 j2 => ?_⟩)
      by_cases e2 : j = p.toNat
      · rw [e2]; exact Int.le_refl _
      · exact h.r j (by omega) (by omega)
theorem Sn.span {row : List Int} {p a b : Int} (h : Sn row p a b) : spanT (treeOf row) p = (a, b) := by
  have h1 := h.a0; have h2 := h.ap; have h3 := h.pb; have h4 := h.bn
  have := spFG (t := treeOf row) (o := p) (a := a) (b := b) (n := row.length) ⟨h1, h2, h3⟩ (fun q hq => h.dsc hq) row.length (Nat.le_refl _)
  unfold spanT
  rw [treeOf_len, this.1, this.2, if_pos (by omega)]
  congr 1
  omega
/-! the walk of the chains -/
/-- the lists, amid a chain -/
def spL (f : Int → Int → Int) (t L : List Int) (g : Int → Nat → Int) (i j : Nat) (o : Int) : Int := if o ∈ L.take j then f (g o i) i else g o i
def spRow (n : Nat) (v : Int → Int) : List Int := (rg 0 n).map v
end TM


set_option Elab.async false
set_option linter.all false
/-! ### starts and partings judged -/
namespace TM
open GL
def rises (l : List Int) : Bool := ((rg 0 ((l.length : Int) - 1)).map fun p => decide (gt l p < gt l (p + 1))).all id
theorem rg_sorted (a b : Int) : (rg a b).Pairwise (· < ·) := by
  unfold rg
  refine List.pairwise_map.mpr (List.pairwise_lt_range.imp fun {x y} h => ?_)
  omega
/-- where no start stands -/
def begs (row text : List Int) : List Int := (rg 0 ((text.length : Int) - row.length + 1)).filter fun z => decide (z ∉ starts row text)
def partsB (row other : List Int) (a b : Int) : Bool := decide (0 ≤ a ∧ a ≤ b ∧ b < row.length) && !decide (low row a b = low other a b)
theorem starts_in {row text : List Int} {s : Int} (h : s ∈ starts row text) : 0 ≤ s ∧ s + row.length ≤ text.length ∧ kinB row (sl text (some s) (some (s + row.length))) = true := by
  unfold starts stB at h
  obtain ⟨h1, h2⟩ := List.mem_filter.mp h
  have := rg_mem.mp h1
  exact ⟨by omega, by omega, of_decide_eq_true h2⟩
/-- the sizes found so far -/
structure SB (row : List Int) (many : Nat) (sizes : List Int) (i : Nat) : Prop where
  ne : sizes ≠ []
  lo : 0 ≤ gtB sizes 1 ∧ gtB sizes 1 < i + 1
  k : K row (gtB sizes 1).toNat many
  mx : ∀ t : Nat, t < i + 1 → K row t many → (t : Int) ≤ gtB sizes 1
end TM


set_option Elab.async false
set_option linter.all false
/-! ### rows alike by moving, by flat numbers -/
namespace TM
open GL
theorem fits_self {row : List Int} (hl : row.length ≤ 40) : Fits (treeOf row) row := fun p hp he => by
  rw [treeOf_len] at hp
  have ht := isTree_treeOf hl
  have hin := (ups_cons ht (p := (p : Int)) (by rw [treeOf_len]; omega) (by rw [gt_nb]; omega))
  rw [gt_nb] at hin
  obtain ⟨h1, h2⟩ := hin
  rw [treeOf_len] at h1
  have hm : ((nb (treeOf row) p).toNat : Int) ∈ ups (treeOf row) p := by
    rw [h2, Int.toNat_of_nonneg he]; simp
  have ha := (ups_mem (row := row) (p := p) (q := (nb (treeOf row) p).toNat) hp (by omega)).mp hm
  rcases ha with ⟨y, z⟩ | ⟨y, z⟩
  · rw [if_neg (by omega)]
    have := z p (by omega) (Nat.le_refl _); omega
  · rw [if_pos (by omega)]
    have := z p (Nat.le_refl _) y; omega
end TM


set_option Elab.async false
set_option linter.all false
/-! ### the drops of a row hang its tree -/
namespace TM
open GL
def dropsOf (row : List Int) : List Int := (List.range row.length).map fun k => ((opens row k).length : Int) - dep row k
end TM


set_option Elab.async false
set_option linter.all false
/-! ### hung, told with its failure; rows behind their distances -/
namespace TM
open GL
def hungO (drops : List Int) : Option (List Int) := if (List.range drops.length).all (fun j => decide (0 ≤ nb drops j ∧ nb drops j ≤ ((hst drops j).2.length : Int))) then some (hungF drops) else none
noncomputable def rowOf (told : List Int) : List Int := open Classical in if h : ∃ row, told = backs row then h.choose else []
end TM


set_option Elab.async false
set_option linter.all false
/-! ### distances, as a law tells them -/
namespace TM
open GL
end TM


set_option Elab.async false
set_option linter.all false
/-! ### drops as laws tell them; brackets -/
namespace TM
open GL
open PySem (Str)
/-! brackets -/
def brS (st : Option (List Int × Int)) (c : Nat) : Option (List Int × Int) := match st with
  | none => none
  | some (d, m) => if c = 40 then some (d ++ [m], 0) else if c = 41 then some (d, m + 1) else none
def brk (l : List Nat) : Option (List Int × Int) := l.foldl brS (some ([], 0))
def brT (l : List Nat) : Option (List Int) := match brk l with
  | none => none
  | some (d, m) => if 40 < (d.length : Int) ∨ d.sum + m ≠ d.length then none else hungO d
def brOf (d : List Int) : List Nat := (d.map fun x => List.replicate x.toNat 41 ++ [40]).flatten ++ List.replicate ((d.length : Int) - d.sum).toNat 41
def dropT (told : List Int) : Option (List Int) := if told.length ≤ 40 then hungO told else none
end TM
namespace TM
open GL
open PySem (Str)
end TM
namespace TM
open GL
open PySem (Str)
end TM
namespace TM
open GL
open PySem (Str)
end TM
namespace TM
open GL
end TM


set_option Elab.async false
set_option linter.all false
/-! ### texts of trees, written and read -/
namespace TM
open GL
open PySem (Str)
def trText (d : List Int) : Str := orS (TS_ (brOf d)) ("-" : Str)
def readT (text : Str) : Option (List Int) := if text = ("-" : Str) then some [] else match brT (tl text) with
  | none => none
  | some t => if t = [] then none else some t
end TM
namespace TM
open GL
open PySem (Str)
end TM


set_option Elab.async false
set_option linter.all false
/-! ### which places clash -/
namespace TM
open GL
def clP (t row : List Int) (b a : Int) : Bool := decide (gt row b < gt row a + gt (flatF t) b - gt (flatF t) a)
def clAt (t row : List Int) (b : Int) : List (Int × Int) := ((ups t b).filter (clP t row b)).map fun a => (a, b)
def clB (t row : List Int) (n : Nat) : List (Int × Int) := (List.range n).flatMap fun (b : Nat) => clAt t row (b : Int)
def clash (t row : List Int) : List (Int × Int) := psort (clB t row t.length)
end TM
namespace TM
open GL
end TM


set_option Elab.async false
set_option linter.all false
/-! ### a row for any drops; ranks -/
namespace TM
open GL
/-- the numbers that are open stand at least g apart -/
def Gap (row : List Int) (g : Int) : Prop := (opens row row.length).Pairwise fun p q => nb row p + g ≤ nb row q
/-! how many drops go on -/
def psum (l : List Int) : List Int := (List.range l.length).map fun k => (l.take (k + 1)).sum
def waysR (n : Nat) : Nat → List Int
  | 0 => List.replicate (n + 2) 1
  | r + 1 => psum ((waysR n r).drop 1)
def waysL (n : Int) : List (List Int) := (List.range (n.toNat + 1)).map (waysR n.toNat)
def stillAt (d : List Int) (i : Nat) : Int := i - (d.take i).sum
/-- how many drops are lesser: those that drop less at place j -/
def rkAt (d : List Int) (j : Nat) (k : Nat) : Int := ((List.range k).map fun (f : Nat) => gt (waysR d.length (d.length - 1 - j)) (stillAt d j - f + 1)).sum
def rkB (d : List Int) : Nat → Int
  | 0 => 0
  | j + 1 => rkB d j + rkAt d j (nb d j).toNat
def rank (d : List Int) : Int := rkB d d.length
end TM


set_option Elab.async false
set_option linter.all false
/-! ### drops at a rank -/
namespace TM
open GL
def rs (W : List Int) (s : Int) (k : Nat) : Int := ((List.range k).map fun (f : Nat) => gt W (s - f + 1)).sum
theorem nb_take {d : List Int} {j k : Nat} (h : j < k) : nb (d.take k) j = nb d j := by
  unfold nb
  rw [List.getD_eq_getElem?_getD, List.getD_eq_getElem?_getD, List.getElem?_take, if_pos h]
noncomputable def unrank (n number : Int) : List Int := open Classical in if h : ∃ d : List Int, (d.length : Int) = n ∧ dok d ∧ rank d = number then h.choose else []
/-! how it is reckoned -/
def rkN (n : Nat) (d : List Int) : Nat → Int
  | 0 => 0
  | j + 1 => rkN n d j + rs (waysR n (n - 1 - j)) (stillAt d j) (nb d j).toNat
structure UR (n number0 : Int) (d : List Int) (i : Nat) (number still : Int) : Prop where
  len : d.length = i
  dk : dok d
  st : still = i - d.sum
  num : number0 = rkN n.toNat d i + number
  lo : 0 ≤ number
  hi : number < gt (waysR n.toNat (n.toNat - i)) still
/-- within a turn -/
structure UI (n : Int) (i : Nat) (number1 still : Int) (number drop : Int) : Prop where
  num : number1 = rs (waysR n.toNat (n.toNat - 1 - i)) still drop.toNat + number
  lo : 0 ≤ number
  hi : number < gt (waysR n.toNat (n.toNat - i)) (still - drop)
  d0 : 0 ≤ drop
  d1 : drop ≤ still
end TM


set_option Elab.async false
set_option linter.all false
/-! ### as many drops as trees -/
namespace TM
open GL
def psF : List Nat → Nat → List Nat
  | [], _ => []
  | x :: l, t => (t + x) :: psF l (t + x)
def chk25 : Nat → Nat → List Nat → Bool
  | 0, _, _ => true
  | r + 1, n, row => decide (chN (2 * n) n / (n + 1) = row.headD 0) && forceL (psF (row.drop 1) 0) fun row' => chk25 r (n + 1) row'
end TM
namespace TM
open GL
end TM
namespace TM
open GL
end TM


set_option Elab.async false
set_option linter.all false
/-! ### no row is flatter than the flattest -/
namespace TM
open GL
/-! all rows of numbers from 0 to 3 -/
def rows4 (n : Int) : List (List Int) := (rg 0 (2 ^ (2 * n).toNat)).map fun code => (rg 0 n).map fun place => code / 2 ^ (2 * place).toNat % 2 ^ 2
def enc4 : List Int → Int
  | [] => 0
  | x :: l => x + 4 * enc4 l
end TM
namespace TM
open GL
end TM


set_option Elab.async false
set_option linter.all false
/-! ### ladders of lows -/
namespace TM
open GL
def rungs (n : Nat) : Nat := if n = 0 then 0 else n.log2 + 1
def ladder (row : List Int) : List (List Int) := (List.range (rungs row.length)).map fun k => lowsOf row (2 ^ k)
end TM


set_option Elab.async false
set_option linter.all false
/-! ### rows written and read -/
namespace TM
open GL
open PySem (Str)
open PySem.NumText (AllDigits digitsVal)
def isD (c : Nat) : Bool := decide (48 ≤ c ∧ c ≤ 57)
/-- the figures of a word -/
def figs (l : List Nat) : List Nat := if l.head? = some 45 then l.drop 1 else l
def readN (l : List Nat) : Option Int :=
  if figs l = [] ∨ 60 < (figs l).length ∨ (figs l).all isD = false then none
  else if (figs l).head? = some 48 ∧ l ≠ [48] then none
  else some (if l.head? = some 45 then -((digitsVal (figs l) : Nat) : Int) else ((digitsVal (figs l) : Nat) : Int))
def numT (i : Int) : List Nat := if i < 0 then 45 :: TL.numL i.natAbs else TL.numL i.natAbs
def numS (i : Int) : Str := Str.ofString (toString i)
def rowText (row : List Int) : Str := if row = [] then ("-" : Str) else Str.join (" " : Str) (row.map numS)
def readRow (text : Str) : Option (List Int) := if text = ("-" : Str) then some [] else
  if none ∈ ((PySem.Txt.split text (" " : Str)).map fun w => readN (tl w)) ∨ 40 < (PySem.Txt.split text (" " : Str)).length then none else some (((PySem.Txt.split text (" " : Str)).map fun w => readN (tl w)).map oget)
/-! as the program looks -/
/-! texts cut at blanks -/
end TM


set_option Elab.async false
set_option linter.all false
/-! ### texts of no row, no tree -/
namespace TM
open GL
open PySem (Str)
open PySem.NumText (AllDigits digitsVal)
/-! brackets, looked at -/
def balS (o : Option Int) (c : Nat) : Option Int := match o with
  | none => none
  | some m => if c = 40 then some (m + 1) else if c = 41 then (if m = 0 then none else some (m - 1)) else none
def bal (l : List Nat) : Option Int := l.foldl balS (some 0)
def okS (d : List Int) : Prop := ∀ j, j < d.length → 0 ≤ nb d j ∧ nb d j ≤ (j : Int) - (d.take j).sum
theorem nb_sn0 {d : List Int} {m : Int} {j : Nat} (h : j < d.length) : nb (d ++ [m]) j = nb d j := by
  unfold nb; rw [List.getD_eq_getElem?_getD, List.getD_eq_getElem?_getD, List.getElem?_append_left h]
theorem nb_snL {d : List Int} {m : Int} : nb (d ++ [m]) d.length = m := by
  unfold nb; rw [List.getD_eq_getElem?_getD, List.getElem?_append_right (Nat.le_refl _)]; simp
def badB (s : Option (List Int × Int)) : Prop := s = none ∨ ∃ d m, s = some (d, m) ∧ (¬ okS d ∨ (d.length : Int) - d.sum < m)
def goodB (s : Option (List Int × Int)) (o : Int) : Prop := ∃ d m, s = some (d, m) ∧ okS d ∧ 0 ≤ m ∧ 0 ≤ o ∧ o = (d.length : Int) - d.sum - m
def areBr (l : List Nat) : Bool := decide (bal l = some 0 ∧ l.length ≤ 80)
/-! rows, read sign by sign -/
/-- whether a text writes a row (0), a tree (1) -/
def wrt (way : Int) (text : Str) : Bool := if way = 0 then (readRow text).isSome else (readT text).isSome
def askd (x : Addr) (way : Int) (text : Str) : Option (Sum Addr Str) := some (if wrt way text = true then Sum.inr text else Sum.inl x)
end TM


set_option Elab.async false
set_option linter.all false
/-! ### ways up that end; trees as the deal laws look at them -/
namespace TM
open GL
def rooted (t : List Int) : Prop := ∀ p : Int, 0 ≤ p ∧ p < t.length → up t t.length (gt t p) ≠ none
/-! the climb of a place, turn by turn -/
structure CL (t : List Int) (p here : Int) (j : Nat) : Prop where
  inn : -1 ≤ here ∧ here < t.length
  same : up t (t.length - j) here = none ↔ up t t.length p = none
/-- the tree within a stretch, or what refuses it -/
noncomputable def withinR (xT xP : Addr) (t : List Int) (a b : Int) : Option (Sum Addr (List Int)) :=
  some (if isTree t = false then Sum.inl xT else if 0 ≤ a ∧ a ≤ b ∧ b < t.length then Sum.inr (treeOf (sl (flatF t) (some a) (some (b + 1)))) else Sum.inl xP)
end TM


set_option Elab.async false
set_option linter.all false
/-! ### of how many stretches a place is the low; the sum of all least numbers -/
namespace TM
open GL
def sharesT (t : List Int) : List Int := (enu ((rg 0 t.length).map (spanT t))).map fun c => (c.1 - c.2.1 + 1) * (c.2.2 - c.1 + 1)
def leastsSum (row : List Int) : Int := ((row.zip (sharesT (treeOf row))).map fun c => c.1 * c.2).sum
/-- how many of the stretches that begin below i have the low p -/
def cA (t : List Int) (i : Nat) (p : Int) : Int := max 0 (min (i : Int) (p + 1) - (spanT t p).1) * ((spanT t p).2 - p + 1)
/-- and of those that begin at a and end below b -/
def cB (t : List Int) (a b : Int) (p : Int) : Int := if (spanT t p).1 ≤ a ∧ a ≤ p then max 0 (min (b - 1) (spanT t p).2 - p + 1) else 0
/-- row times counts -/
def zsum (row many : List Int) : Int := ((row.zip many).map fun c => c.1 * c.2).sum
end TM


set_option Elab.async false
set_option linter.all false
/-! ### stretches of trees: lows, spans, starts -/
namespace TM
open GL
end TM


set_option Elab.async false
set_option linter.all false
/-! ### ladders built rung by rung; all stretches gone through -/
namespace TM
open GL
def lwr (row : List Int) (one other : Int) : Int := if gt row other < gt row one then other else one
/-- all stretches, one by one, k of n * n -/
def cK (t : List Int) (n : Nat) (k : Int) (p : Int) : Int := cA t (k / n).toNat p + cB t (k / n) (k % n) p
end TM


set_option linter.all false
set_option maxHeartbeats 1000000
namespace TM
open GL
/-! ### trees of places, and how they are filled -/
inductive BT where
  | nil : BT
  | node (l : BT) (p : Nat) (r : BT) : BT
def BT.root : BT → Option Int
  | .nil => none
  | .node _ p _ => some (p : Int)
def BT.height : BT → Nat
  | .nil => 0
  | .node l _ r => max l.height r.height + 1
def BT.size : BT → Nat
  | .nil => 0
  | .node l _ r => l.size + r.size + 1
theorem BT.hs : ∀ b : BT, b.height ≤ b.size
  | .nil => Nat.le_refl _
  | .node l _ r => by
    have h1 := l.hs
    have h2 := r.hs
    show max l.height r.height + 1 ≤ l.size + r.size + 1
    omega
/-- the tree that hands tell -/
inductive HB (n : Nat) (f : Int → Option Int × Option Int) : Option Int → BT → Prop
  | nil : HB n f none .nil
  | node {l r : BT} {p : Nat} : p < n → HB n f (f p).1 l → HB n f (f p).2 r → HB n f (some (p : Int)) (.node l p r)
def btF (f : Int → Option Int × Option Int) : Nat → Option Int → BT
  | 0, _ => .nil
  | _ + 1, none => .nil
  | n + 1, some h => .node (btF f n (f h).1) h.toNat (btF f n (f h).2)
theorem HB.bt {n : Nat} {f : Int → Option Int × Option Int} {o : Option Int} {b : BT} (h : HB n f o b) : ∀ k, b.height ≤ k → btF f k o = b := by
  induction h with
  | nil => intro k _; cases k <;> rfl
  | @node l r p hp _ _ i1 i2 =>
    intro k hk
    have hk' : max l.height r.height + 1 ≤ k := hk
    cases k with
    | zero => omega
    | succ k =>
      show BT.node (btF f k (f (p : Int)).1) ((p : Int).toNat) (btF f k (f (p : Int)).2) = _
      rw [i1 k (by omega), i2 k (by omega), Int.toNat_natCast]
theorem HB.congr {n : Nat} {f g : Int → Option Int × Option Int} {o : Option Int} {b : BT} (h : HB n f o b) (e : ∀ p : Nat, p < n → f p = g p) : HB n g o b := by
  induction h with
  | nil => exact .nil
  | node hp _ _ i1 i2 => exact .node hp (by rw [← e _ hp]; exact i1) (by rw [← e _ hp]; exact i2)
def bth (hands : List (Option Int × Option Int)) (o : Option Int) : BT := btF (gt hands) 60 o
def HOk (hands : List (Option Int × Option Int)) (o : Option Int) : Prop := HB hands.length (gt hands) o (bth hands o) ∧ (bth hands o).size ≤ 12
theorem HOk.of {hands : List (Option Int × Option Int)} {o : Option Int} {b : BT} (h : HB hands.length (gt hands) o b) (hz : b.size ≤ 12) : HOk hands o ∧ bth hands o = b := by
  have e := h.bt 60 (by have := b.hs; omega)
  unfold HOk bth
  rw [e]
  exact ⟨⟨h, hz⟩, rfl⟩
theorem HOk.node {hands : List (Option Int × Option Int)} {o : Option Int} {g : Int} (h : HOk hands o) (e : o = some g) :
    (0 ≤ g ∧ g < hands.length) ∧ HOk hands (gt hands g).1 ∧ HOk hands (gt hands g).2 ∧ bth hands o = .node (bth hands (gt hands g).1) g.toNat (bth hands (gt hands g).2) := by
  obtain ⟨hb, hz⟩ := h
  generalize hB : bth hands o = B at hb hz ⊢
  cases hb with
  | nil => cases e
  | @node l r p hp h1 h2 =>
    cases e
    have z : l.size + r.size + 1 ≤ 12 := hz
    obtain ⟨k1, e1⟩ := HOk.of h1 (by omega)
    obtain ⟨k2, e2⟩ := HOk.of h2 (by omega)
    exact ⟨⟨by omega, by omega⟩, k1, k2, by rw [e1, e2, Int.toNat_natCast]⟩
theorem HOk.nil {hands : List (Option Int × Option Int)} : bth hands none = .nil := rfl
/-- a number may stand at a place -/
def okf (fx : List (Int × Int)) (p j : Int) : Bool := match dget fx p with
  | none => true
  | some x => decide (x = j)
theorem okf_iff {fx : List (Int × Int)} {p j : Int} : okf fx p j = true ↔ (dget fx p = none ∨ dgetV fx p = j) := by
  unfold okf dgetV
  cases dget fx p with
  | none => simp
  | some x => simp
/-- in how many ways a place and those under it are filled, its number k at least -/
def fF (m : Int) (fx : List (Int × Int)) : BT → Int → Int
  | .nil, _ => 1
  | .node l p r, k => ((rg k m).map fun j => if okf fx p j = true then fF m fx l (j + 1) * fF m fx r j else 0).sum
def fG (m : Int) (fx : List (Int × Int)) (l : BT) (p : Nat) (r : BT) (j : Int) : Int := if okf fx p j = true then fF m fx l (j + 1) * fF m fx r j else 0
def fillL (m : Int) (fx : List (Int × Int)) (b : BT) : List Int := (rg 0 (m + 2)).map (fF m fx b)
/-- .. as far as it is told, from behind -/
def parL (g : Int → Int) (m : Int) (i : Nat) : List Int := (rg 0 (m + 2)).map fun k => if m - i ≤ k then g k else 0
/-! ### a tree's hands -/
def hA (t : List Int) : Nat → Int → Option Int
  | 0, _ => none
  | i + 1, h => if nb t i = h ∧ (i : Int) < nb t i then some (i : Int) else hA t i h
def hBb (t : List Int) : Nat → Int → Option Int
  | 0, _ => none
  | i + 1, h => if nb t i = h ∧ ¬ (i : Int) < nb t i then some (i : Int) else hBb t i h
def hT (t : List Int) (h : Int) : Option Int × Option Int := (hA t t.length h, hBb t t.length h)
theorem hA_some {t : List Int} {h : Int} : ∀ {i q : Nat}, q < i → nb t q = h → (q : Int) < h → (∀ j, j < i → nb t j = h → (j : Int) < h → j = q) → hA t i h = some (q : Int)
  | i + 1, q, hq, h1, h2, hu => by
    unfold hA
    by_cases z : nb t i = h ∧ (i : Int) < nb t i
    · rw [if_pos z, hu i (Nat.lt_succ_self _) z.1 (by rw [← z.1]; exact z.2)]
    · rw [if_neg z]
      have hne : q ≠ i := fun e => by
        subst e
        exact z ⟨h1, by rw [h1]; exact h2⟩
      exact hA_some (by omega) h1 h2 fun j hj => hu j (by omega)
theorem hA_none {t : List Int} {h : Int} : ∀ {i : Nat}, (∀ j, j < i → nb t j = h → ¬ (j : Int) < h) → hA t i h = none
  | 0, _ => rfl
  | i + 1, hu => by
    unfold hA
    rw [if_neg fun z => hu i (Nat.lt_succ_self _) z.1 (by rw [← z.1]; exact z.2)]
    exact hA_none fun j hj => hu j (by omega)
theorem hB_some {t : List Int} {h : Int} : ∀ {i q : Nat}, q < i → nb t q = h → ¬ (q : Int) < h → (∀ j, j < i → nb t j = h → ¬ (j : Int) < h → j = q) → hBb t i h = some (q : Int)
  | i + 1, q, hq, h1, h2, hu => by
    unfold hBb
    by_cases z : nb t i = h ∧ ¬ (i : Int) < nb t i
    · rw [if_pos z, hu i (Nat.lt_succ_self _) z.1 (by rw [← z.1]; exact z.2)]
    · rw [if_neg z]
      have hne : q ≠ i := fun e => by
        subst e
        exact z ⟨h1, by rw [h1]; exact h2⟩
      exact hB_some (by omega) h1 h2 fun j hj => hu j (by omega)
theorem hB_none {t : List Int} {h : Int} : ∀ {i : Nat}, (∀ j, j < i → nb t j = h → (j : Int) < h) → hBb t i h = none
  | 0, _ => rfl
  | i + 1, hu => by
    unfold hBb
    rw [if_neg fun z => z.2 (by rw [z.1]; exact hu i (Nat.lt_succ_self _) z.1)]
    exact hB_none fun j hj => hu j (by omega)
theorem T.inn {t : List Int} {a b : Nat} {e : Int} (h : T t a b e) : ∀ q : Nat, a ≤ q → q < b → nb t q = e ∨ ((a : Int) ≤ nb t q ∧ nb t q < b) := by
  induction h with
  | nil a e => intro q h1 h2; omega
  | @node a b h e h1 h2 h3 _ _ i1 i2 =>
    intro q q1 q2
    rcases Nat.lt_trichotomy q h with z | z | z
    · rcases i1 q q1 z with y | y
      · right; rw [y]; omega
      · right; omega
    · subst z; exact .inl h3
    · rcases i2 q z q2 with y | y
      · right; rw [y]; omega
      · right; omega
/-- places one behind the other -/
def PL : Nat → BT → Prop
  | _, .nil => True
  | a, .node l p r => PL a l ∧ p = a + l.size ∧ PL (p + 1) r
/-- the shape of a stretch -/
inductive BTr (t : List Int) : Nat → Nat → Int → BT → Prop
  | nil (a : Nat) (e : Int) : BTr t a a e .nil
  | node {a b h : Nat} {e : Int} {l r : BT} : a ≤ h → h < b → nb t h = e → BTr t a h h l → BTr t (h + 1) b h r → BTr t a b e (.node l h r)
theorem T.bt {t : List Int} {a b : Nat} {e : Int} (h : T t a b e) : b ≤ t.length → (e < a ∨ (b : Int) ≤ e) → (∀ q, q < t.length → (q < a ∨ b ≤ q) → ¬ ((a : Int) ≤ nb t q ∧ nb t q < b)) →
    ∃ B : BT, HB t.length (hT t) B.root B ∧ B.size = b - a ∧ PL a B ∧ (∀ q, a ≤ q → q < b → nb t q = e → B.root = some (q : Int)) ∧ (∀ x, B.root = some x → (a : Int) ≤ x ∧ x < b ∧ nb t x.toNat = e) ∧ (B.root = none → a = b) ∧ BTr t a b e B := by
  induction h with
  | nil a e => intro _ _ _; exact ⟨.nil, .nil, by simp [BT.size], trivial, fun q h1 h2 => by omega, fun x h => (by cases h), fun _ => rfl, .nil a e⟩
  | @node a b h e h1 h2 h3 t1 t2 i1 i2 =>
    intro hb he ho
    obtain ⟨L, l1, l2, l3, l4, l5, l6, l7⟩ := i1 (by omega) (.inr (by omega)) fun q hq hz hn => by
      rcases hz with z | z
      · exact ho q hq (.inl z) (by omega)
      · by_cases y : q < b
        · by_cases x : q = h
          · subst x; rw [h3] at hn; omega
          · rcases t2.inn q (by omega) y with w | w <;> omega
        · exact ho q hq (.inr (by omega)) (by omega)
    obtain ⟨R, r1, r2, r3, r4, r5, r6, r7⟩ := i2 hb (.inl (by omega)) fun q hq hz hn => by
      rcases hz with z | z
      · by_cases y : a ≤ q
        · by_cases x : q = h
          · subst x; rw [h3] at hn; omega
          · rcases t1.inn q y (by omega) with w | w <;> omega
        · exact ho q hq (.inl (by omega)) (by omega)
      · exact ho q hq (.inr z) (by omega)
    have inside : ∀ q, q < t.length → nb t q = h → (a ≤ q ∧ q < b) ∧ q ≠ h := fun q hq hn => by
      refine ⟨Classical.byContradiction fun z => ho q hq (by omega) (by rw [hn]; omega), fun z => ?_⟩
      subst z; rw [h3] at hn; omega
    have eA : (hT t h).1 = L.root := by
      cases hL : L.root with
      | none =>
        refine hA_none fun j hj hn hlt => ?_
        have := l6 hL
        have := inside j hj hn
        omega
      | some x =>
        obtain ⟨x1, x2, x3⟩ := l5 x hL
        have ex : x = ((x.toNat : Nat) : Int) := by omega
        rw [ex]
        refine hA_some (by omega) x3 (by omega) fun j hj hn hlt => ?_
        have hi := inside j hj hn
        have := l4 j hi.1.1 (by omega) hn
        rw [hL] at this
        have := Option.some.inj this
        omega
    have eB : (hT t h).2 = R.root := by
      cases hR : R.root with
      | none =>
        refine hB_none fun j hj hn => ?_
        have := r6 hR
        have := inside j hj hn
        omega
      | some x =>
        obtain ⟨x1, x2, x3⟩ := r5 x hR
        have ex : x = ((x.toNat : Nat) : Int) := by omega
        rw [ex]
        refine hB_some (by omega) x3 (by omega) fun j hj hn hlt => ?_
        have hi := inside j hj hn
        have := r4 j (by omega) hi.1.2 hn
        rw [hR] at this
        have := Option.some.inj this
        omega
    refine ⟨.node L h R, .node (by omega) (by rw [eA]; exact l1) (by rw [eB]; exact r1), ?_, ⟨l3, by rw [l2]; omega, r3⟩, fun q q1 q2 hn => ?_, fun x hx => ?_, (fun hx => by cases hx), .node h1 h2 h3 l7 r7⟩
    · show L.size + R.size + 1 = _
      omega
    · rcases Nat.lt_trichotomy q h with z | z | z
      · rcases t1.inn q q1 z with w | w <;> omega
      · subst z; rfl
      · rcases t2.inn q z q2 with w | w <;> omega
    · cases hx
      rw [Int.toNat_natCast]
      exact ⟨by omega, by omega, h3⟩
def topO (t : List Int) : Option Int := if t.length = 0 then none else some ((t.idxOf (-1) : Nat) : Int)
def btT (t : List Int) : BT := btF (hT t) 60 (topO t)
theorem nb_idx {t : List Int} {q : Nat} (hq : q < t.length) {x : Int} (h : nb t q = x) : x ∈ t := by
  subst h
  unfold nb
  rw [List.getD_eq_getElem?_getD, List.getElem?_eq_getElem hq]
  exact List.getElem_mem hq
theorem nb_idxOf {t : List Int} {x : Int} (h : x ∈ t) : nb t (t.idxOf x) = x ∧ t.idxOf x < t.length := by
  have hl := List.idxOf_lt_length_of_mem h
  refine ⟨?_, hl⟩
  unfold nb
  rw [List.getD_eq_getElem?_getD, List.getElem?_eq_getElem hl]
  exact List.getElem_idxOf hl
theorem tree_bt {t : List Int} (h : isTree t = true) : HB t.length (hT t) (topO t) (btT t) ∧ (btT t).size = t.length ∧ PL 0 (btT t) ∧ BTr t 0 t.length (-1) (btT t) := by
  obtain ⟨h40, hT'⟩ := isTree_iff.mp h
  obtain ⟨B, b1, b2, b3, b4, b5, b6, b7⟩ := T.bt hT' (Nat.le_refl _) (.inl (by decide)) fun q hq hz _ => by omega
  have er : B.root = topO t := by
    unfold topO
    by_cases z : t.length = 0
    · rw [if_pos z]
      cases hB : B.root with
      | none => rfl
      | some x => have := b5 x hB; omega
    · rw [if_neg z]
      cases hB : B.root with
      | none => exact absurd (b6 hB).symm z
      | some x =>
        obtain ⟨x1, x2, x3⟩ := b5 x hB
        have hm := nb_idx (t := t) (q := x.toNat) (by omega) x3
        obtain ⟨k1, k2⟩ := nb_idxOf hm
        rw [← hB, b4 _ (Nat.zero_le _) k2 k1]
  rw [er] at b1
  have eb : btT t = B := b1.bt 60 (by have := B.hs; omega)
  rw [eb]
  exact ⟨b1, by omega, b3, b7⟩
/-- the count of the rows of a tree, some numbers fixed -/
def fC (t : List Int) (m : Int) (fx : List (Int × Int)) : Int := fF m fx (btT t) 0
def handsL (t : List Int) : List (Option Int × Option Int) := (rg 0 t.length).map (hT t)
theorem handsL_len (t : List Int) : (handsL t).length = t.length := by
  unfold handsL
  rw [List.length_map, rg_len]; omega
theorem gt_handsL {t : List Int} {p : Nat} (h : p < t.length) : gt (handsL t) p = hT t p := gt_map_rg (by omega)
end TM


set_option linter.all false
set_option maxHeartbeats 1000000
namespace TM
open GL
/-! ### the walk of filled -/
/-! ### .. of hands_of -/
end TM


set_option linter.all false
set_option maxHeartbeats 1000000
namespace TM
open GL
/-! ### rows of a tree, counted -/
def rowsB (m : Int) : BT → Int → List (List Int)
  | .nil, _ => [[]]
  | .node l _ r, k => (rg k m).flatMap fun j => (rowsB m l (j + 1)).flatMap fun x => (rowsB m r j).map fun y => x ++ j :: y
/-- the numbers that are fixed are so -/
def agr (fx : List (Int × Int)) : Nat → List Int → Bool
  | _, [] => true
  | a, x :: xs => okf fx a x && agr fx (a + 1) xs
theorem agr_app {fx : List (Int × Int)} : ∀ {a : Nat} {x y : List Int}, agr fx a (x ++ y) = (agr fx a x && agr fx (a + x.length) y)
  | a, [], y => by simp [agr]
  | a, z :: x, y => by
    rw [List.cons_append, agr, agr, agr_app, List.length_cons, Bool.and_assoc, Nat.add_assoc, Nat.add_comm 1]
theorem rowsB_len {m : Int} : ∀ {b : BT} {k : Int} {r : List Int}, r ∈ rowsB m b k → r.length = b.size
  | .nil, k, r, h => by
    cases List.mem_singleton.mp h; rfl
  | .node l p r', k, r, h => by
    obtain ⟨j, _, h⟩ := List.mem_flatMap.mp h
    obtain ⟨x, hx, h⟩ := List.mem_flatMap.mp h
    obtain ⟨y, hy, rfl⟩ := List.mem_map.mp h
    rw [List.length_append, List.length_cons, rowsB_len hx, rowsB_len hy]
    show _ = l.size + r'.size + 1
    omega
theorem prod_count {f : List Int → List Int → List Int} {px py : List Int → Bool} {c : Bool} {p : List Int → Bool} {ys : List (List Int)} : ∀ {xs : List (List Int)}, (∀ x ∈ xs, ∀ y ∈ ys, p (f x y) = (px x && (c && py y))) →
    ((xs.flatMap fun x => ys.map (f x)).filter p).length = if c = true then (xs.filter px).length * (ys.filter py).length else 0
  | [], _ => by simp
  | x :: xs, h => by
    rw [List.flatMap_cons, List.filter_append, List.length_append, prod_count fun x' hx => h x' (List.mem_cons_of_mem _ hx)]
    have e : ((ys.map (f x)).filter p).length = if px x = true ∧ c = true then (ys.filter py).length else 0 := by
      rw [List.filter_map, List.length_map]
      by_cases z : px x = true ∧ c = true
      · rw [if_pos z]
        congr 1
        refine List.filter_congr fun y hy => ?_
        rw [Function.comp_apply, h x List.mem_cons_self y hy, z.1, z.2, Bool.true_and, Bool.true_and]
      · rw [if_neg z]
        rw [List.length_eq_zero_iff, List.filter_eq_nil_iff]
        intro y hy
        rw [Function.comp_apply, h x List.mem_cons_self y hy]
        intro q
        simp only [Bool.and_eq_true] at q
        exact z ⟨q.1, q.2.1⟩
    rw [e, List.filter_cons]
    by_cases hc : c = true
    · by_cases hx : px x = true
      · rw [if_pos ⟨hx, hc⟩, if_pos hc, if_pos hc, if_pos hx, List.length_cons, Nat.succ_mul, Nat.add_comm]
      · rw [if_neg (fun z => hx z.1), if_pos hc, if_pos hc, if_neg hx, Nat.zero_add]
    · rw [if_neg (fun z => hc z.2), if_neg hc, if_neg hc]
theorem fF_count {m : Int} {fx : List (Int × Int)} : ∀ {b : BT} {a : Nat} {k : Int}, PL a b → fF m fx b k = (((rowsB m b k).filter (agr fx a)).length : Int)
  | .nil, a, k, _ => by
    show (1 : Int) = ((List.filter (agr fx a) [[]]).length : Int)
    rw [List.filter_cons_of_pos rfl]; rfl
  | .node l p r, a, k, ⟨h1, h2, h3⟩ => by
    have e : fF m fx (.node l p r) k = ((rg k m).map (fG m fx l p r)).sum := rfl
    rw [e]
    show _ = ((((rg k m).flatMap fun j => (rowsB m l (j + 1)).flatMap fun x => (rowsB m r j).map fun y => x ++ j :: y).filter (agr fx a)).length : Int)
    generalize rg k m = L
    induction L with
    | nil => rfl
    | cons j L ih =>
      rw [List.map_cons, List.sum_cons, List.flatMap_cons, List.filter_append, List.length_append, ih, Int.natCast_add]
      congr 1
      rw [prod_count (px := agr fx a) (py := agr fx (p + 1)) (c := okf fx p j) fun x hx y hy => by
        rw [agr_app, agr, rowsB_len hx, h2]]
      unfold fG
      rw [fF_count h1, fF_count h3]
      split <;> simp
/-- a row fits, numbers k at least at the top -/
def FBt (m : Int) (row : List Int) : BT → Int → Prop
  | .nil, _ => True
  | .node l p r, k => k ≤ nb row p ∧ nb row p < m ∧ FBt m row l (nb row p + 1) ∧ FBt m row r (nb row p)
theorem take_split {row : List Int} {a n p : Nat} (hp : p = a + n) {q : Nat} (hl : p + 1 + q ≤ row.length) : (row.drop a).take (n + q + 1) = (row.drop a).take n ++ nb row p :: (row.drop (p + 1)).take q := by
  refine List.ext_getElem? fun i => ?_
  rw [List.getElem?_take, List.getElem?_drop]
  by_cases h1 : i < n
  · rw [if_pos (by omega), List.getElem?_append_left (by rw [List.length_take, List.length_drop]; omega), List.getElem?_take, if_pos h1, List.getElem?_drop]
  · rw [List.getElem?_append_right (by rw [List.length_take, List.length_drop]; omega), List.length_take, List.length_drop, Nat.min_eq_left (by omega)]
    by_cases h2 : i = n
    · subst h2
      rw [if_pos (by omega), Nat.sub_self, ← hp, List.getElem?_eq_getElem (by omega)]
      show some _ = some _
      unfold nb
      rw [List.getD_eq_getElem?_getD, List.getElem?_eq_getElem (by omega)]; rfl
    · obtain ⟨d, hd⟩ : ∃ d, i - n = d + 1 := ⟨i - n - 1, by omega⟩
      rw [hd, List.getElem?_cons_succ, List.getElem?_take, List.getElem?_drop]
      by_cases h3 : d < q
      · rw [if_pos h3, if_pos (by omega)]; congr 1; omega
      · rw [if_neg h3, if_neg (by omega)]
theorem mem_rowsB {m : Int} {row : List Int} : ∀ {b : BT} {a : Nat} {k : Int}, PL a b → a + b.size ≤ row.length → ((row.drop a).take b.size ∈ rowsB m b k ↔ FBt m row b k)
  | .nil, a, k, _, _ => by
    show (row.drop a).take 0 ∈ [[]] ↔ True
    simp
  | .node l p r, a, k, ⟨h1, h2, h3⟩, hl => by
    have hz : (BT.node l p r).size = l.size + r.size + 1 := rfl
    rw [hz] at hl ⊢
    rw [take_split h2 (by omega)]
    have i1 := fun k => mem_rowsB (m := m) (row := row) (k := k) h1 (by omega)
    have i2 := fun k => mem_rowsB (m := m) (row := row) (k := k) h3 (by omega)
    have el : ((row.drop a).take l.size).length = l.size := by rw [List.length_take, List.length_drop]; omega
    constructor
    · intro h
      obtain ⟨j, hj, h⟩ := List.mem_flatMap.mp h
      obtain ⟨x, hx, h⟩ := List.mem_flatMap.mp h
      obtain ⟨y, hy, h⟩ := List.mem_map.mp h
      obtain ⟨e1, e2⟩ := List.append_inj h (by rw [el, rowsB_len hx])
      obtain ⟨e3, e4⟩ := List.cons.inj e2
      have hj' := rg_mem.mp hj
      subst e1 e3 e4
      exact ⟨hj'.1, hj'.2, (i1 _).mp hx, (i2 _).mp hy⟩
    · rintro ⟨g1, g2, g3, g4⟩
      exact List.mem_flatMap.mpr ⟨nb row p, rg_mem.mpr ⟨g1, g2⟩, List.mem_flatMap.mpr ⟨_, (i1 _).mpr g3, List.mem_map.mpr ⟨_, (i2 _).mpr g4, rfl⟩⟩⟩
theorem FBt.tr {m : Int} {t row : List Int} {a b : Nat} {e : Int} {B : BT} (h : BTr t a b e B) : ∀ {k : Int}, FBt m row B k → TR t row a b e ∧ ∀ j, a ≤ j → j < b → k ≤ nb row j ∧ nb row j < m := by
  induction h with
  | nil a e => intro k _; exact ⟨.nil a e, fun j h1 h2 => by omega⟩
  | @node a b h e l r h1 h2 h3 _ _ i1 i2 =>
    intro k ⟨g1, g2, g3, g4⟩
    obtain ⟨t1, b1⟩ := i1 g3
    obtain ⟨t2, b2⟩ := i2 g4
    refine ⟨.node h1 h2 h3 (fun j q1 q2 => by have := b1 j q1 q2; omega) (fun j q1 q2 => by have := b2 j q1 q2; omega) t1 t2, fun j q1 q2 => ?_⟩
    rcases Nat.lt_trichotomy j h with z | z | z
    · have := b1 j q1 z; omega
    · subst z; exact ⟨g1, g2⟩
    · have := b2 j z q2; omega
theorem BTr.t {t : List Int} {a b : Nat} {e : Int} {B : BT} (h : BTr t a b e B) : T t a b e := by
  induction h with
  | nil a e => exact .nil a e
  | node h1 h2 h3 _ _ i1 i2 => exact .node h1 h2 h3 i1 i2
theorem TR.fb {m : Int} {t row : List Int} {a b : Nat} {e : Int} {B : BT} (h : BTr t a b e B) : (e < a ∨ (b : Int) ≤ e) → TR t row a b e → ∀ {k : Int}, (∀ j, a ≤ j → j < b → k ≤ nb row j ∧ nb row j < m) → FBt m row B k := by
  induction h with
  | nil a e => intro _ _ k _; trivial
  | @node a b h e l r h1 h2 h3 t1 t2 i1 i2 =>
    intro he hT k hk
    cases hT with
    | nil => omega
    | @node _ _ h' _ g1 g2 g3 g4 g5 g6 g7 =>
      have eh : h' = h := by
        rcases Nat.lt_trichotomy h' h with z | z | z
        · rcases t1.t.inn h' g1 z with y | y <;> omega
        · exact z
        · rcases t2.t.inn h' z g2 with y | y <;> omega
      subst eh
      refine ⟨(hk h' h1 h2).1, (hk h' h1 h2).2, i1 (.inr (by omega)) g6 fun j q1 q2 => ?_, i2 (.inl (by omega)) g7 fun j q1 q2 => ?_⟩
      · have := g4 j q1 q2
        have := hk j q1 (by omega)
        omega
      · have := g5 j (by omega) q2
        have := hk j (by omega) q2
        omega
theorem all_nb {row : List Int} {P : Int → Prop} : (∀ x ∈ row, P x) ↔ ∀ j, j < row.length → P (nb row j) := by
  constructor
  · intro h j hj
    exact h _ (nb_idx hj rfl)
  · intro h x hx
    obtain ⟨j, hj, e⟩ := List.getElem_of_mem hx
    have := h j hj
    unfold nb at this
    rw [List.getD_eq_getElem?_getD, List.getElem?_eq_getElem hj] at this
    rw [← e]; exact this
/-- the rows that the filling goes through are the rows of the tree -/
theorem mem_rowsT {t : List Int} (h : isTree t = true) {m : Int} {row : List Int} : row ∈ rowsB m (btT t) 0 ↔ row.length = t.length ∧ (∀ x ∈ row, 0 ≤ x ∧ x < m) ∧ treeOf row = t := by
  obtain ⟨h1, h2, h3, h4⟩ := tree_bt h
  have hT := isTree_iff.mp h
  have key : row.length = t.length → (row ∈ rowsB m (btT t) 0 ↔ FBt m row (btT t) 0) := fun hl => by
    have := mem_rowsB (m := m) (row := row) (k := 0) h3 (by omega)
    rwa [List.drop_zero, List.take_of_length_le (by omega)] at this
  constructor
  · intro hr
    have hl : row.length = t.length := by rw [rowsB_len hr, h2]
    obtain ⟨k1, k2⟩ := FBt.tr h4 ((key hl).mp hr)
    refine ⟨hl, all_nb.mpr fun j hj => k2 j (Nat.zero_le _) (by omega), tree_of_TR hl (by rw [hl]; exact k1)⟩
  · rintro ⟨hl, hb, he⟩
    refine (key hl).mpr (TR.fb h4 (.inl (by decide)) ?_ fun j _ hj => all_nb.mp hb j (by omega))
    have := TR_of row row.length 0 row.length (-1) (by omega) (good_all row)
    rw [he, hl] at this
    exact this
theorem rowsB_nodup {m : Int} : ∀ {b : BT} {k : Int}, (rowsB m b k).Nodup
  | .nil, k => by simp [rowsB]
  | .node l p r, k => by
    show ((rg k m).flatMap _).Nodup
    have hrg : (rg k m).Nodup := by
      unfold rg
      exact (List.nodup_range).map _ (fun a b hab h => hab (by omega))
    refine List.pairwise_flatMap.mpr ⟨?_, ?_⟩
    · intro j _
      refine List.pairwise_flatMap.mpr ⟨?_, ?_⟩
      · intro x _
        refine List.pairwise_map.mpr ((rowsB_nodup (m := m) (b := r) (k := j)).imp fun {y y'} hy e => hy ?_)
        exact (List.cons.inj (List.append_cancel_left e)).2
      · refine (rowsB_nodup (m := m) (b := l) (k := j + 1)).imp_of_mem fun {x x'} hx hx' hne => ?_
        intro z hz z' hz' hzz
        subst hzz
        obtain ⟨y, hy, rfl⟩ := List.mem_map.mp hz
        obtain ⟨y', hy', e⟩ := List.mem_map.mp hz'
        exact hne (List.append_inj e (by rw [rowsB_len hx, rowsB_len hx'])).1.symm
    · refine hrg.imp_of_mem fun {j j'} hj hj' hne => ?_
      intro z hz z' hz' hzz
      subst hzz
      obtain ⟨x, hx, hz⟩ := List.mem_flatMap.mp hz
      obtain ⟨y, hy, rfl⟩ := List.mem_map.mp hz
      obtain ⟨x', hx', hz'⟩ := List.mem_flatMap.mp hz'
      obtain ⟨y', hy', e⟩ := List.mem_map.mp hz'
      exact hne (List.cons.inj (List.append_inj e (by rw [rowsB_len hx, rowsB_len hx'])).2).1.symm
/-- how many rows of a list without any twice have the tree -/
theorem fC_any {t : List Int} (h : isTree t = true) {m : Int} {fx : List (Int × Int)} {L : List (List Int)} (hn : L.Nodup) (hL : ∀ row, row ∈ L ↔ row.length = t.length ∧ (∀ x ∈ row, 0 ≤ x ∧ x < m) ∧ treeOf row = t ∧ agr fx 0 row = true) : fC t m fx = (L.length : Int) := by
  obtain ⟨h1, h2, h3, h4⟩ := tree_bt h
  unfold fC
  rw [fF_count h3]
  congr 1
  refine List.Perm.length_eq ?_
  refine (List.perm_ext_iff_of_nodup (rowsB_nodup.filter _) hn).mpr fun row => ?_
  rw [List.mem_filter, mem_rowsT h, hL]
  constructor
  · rintro ⟨⟨a, b, c⟩, d⟩; exact ⟨a, b, c, d⟩
  · rintro ⟨a, b, c, d⟩; exact ⟨⟨a, b, c⟩, d⟩
/-- all rows of so many numbers from 0 to m - 1, in order -/
def ar (m : Int) : Nat → List (List Int)
  | 0 => [[]]
  | n + 1 => (ar m n).flatMap fun r => (rg 0 m).map fun x => r ++ [x]
theorem mem_ar {m : Int} : ∀ {n : Nat} {row : List Int}, row ∈ ar m n ↔ row.length = n ∧ ∀ x ∈ row, 0 ≤ x ∧ x < m
  | 0, row => by
    show row ∈ [[]] ↔ _
    rw [List.mem_singleton]
    constructor
    · rintro rfl; exact ⟨rfl, fun x hx => by cases hx⟩
    · rintro ⟨h, _⟩; exact List.eq_nil_of_length_eq_zero h
  | n + 1, row => by
    show row ∈ (ar m n).flatMap _ ↔ _
    rw [List.mem_flatMap]
    constructor
    · rintro ⟨r, hr, h⟩
      obtain ⟨x, hx, rfl⟩ := List.mem_map.mp h
      obtain ⟨h1, h2⟩ := mem_ar.mp hr
      refine ⟨by rw [List.length_append, h1]; rfl, fun y hy => ?_⟩
      rcases List.mem_append.mp hy with z | z
      · exact h2 y z
      · cases List.mem_singleton.mp z; exact rg_mem.mp hx
    · rintro ⟨h1, h2⟩
      have hne : row ≠ [] := fun z => by rw [z] at h1; cases h1
      have e := List.dropLast_concat_getLast hne
      refine ⟨row.dropLast, mem_ar.mpr ⟨by rw [List.length_dropLast, h1]; rfl, fun x hx => h2 x (List.dropLast_subset _ hx)⟩, List.mem_map.mpr ⟨row.getLast hne, rg_mem.mpr (h2 _ (List.getLast_mem hne)), e⟩⟩
theorem ar_nodup {m : Int} : ∀ {n : Nat}, (ar m n).Nodup
  | 0 => by simp [ar]
  | n + 1 => by
    show ((ar m n).flatMap _).Nodup
    have rgN : (rg 0 m).Nodup := by
      unfold rg
      exact (List.nodup_range).map _ (fun a b hab h => hab (by omega))
    refine List.pairwise_flatMap.mpr ⟨fun r _ => rgN.map _ fun x y hxy e => hxy (List.singleton_inj.mp (List.append_cancel_left e)), ?_⟩
    refine (ar_nodup (m := m) (n := n)).imp_of_mem fun {x x'} hx hx' hne => ?_
    intro z hz z' hz' hzz
    subst hzz
    obtain ⟨y, hy, rfl⟩ := List.mem_map.mp hz
    obtain ⟨y', hy', e⟩ := List.mem_map.mp hz'
    exact hne (List.append_inj e (by rw [(mem_ar.mp hx).1, (mem_ar.mp hx').1])).1.symm
end TM


set_option linter.all false
set_option maxHeartbeats 1000000
namespace TM
open GL
/-! ### the law's own filling -/
def btL (t : List Int) (o : Option Int) : BT := btF (hT t) 60 o
def HOt (t : List Int) (o : Option Int) : Prop := HB t.length (hT t) o (btL t o) ∧ (btL t o).size ≤ 12
theorem HOt.node {t : List Int} {o : Option Int} {g : Int} (h : HOt t o) (e : o = some g) :
    (0 ≤ g ∧ g < t.length) ∧ HOt t (hT t g).1 ∧ HOt t (hT t g).2 ∧ btL t o = .node (btL t (hT t g).1) g.toNat (btL t (hT t g).2) := by
  obtain ⟨hb, hz⟩ := h
  generalize hB : btL t o = B at hb hz ⊢
  cases hb with
  | nil => cases e
  | @node l r p hp h1 h2 =>
    cases e
    have z : l.size + r.size + 1 ≤ 12 := hz
    have e1 : btL t (hT t p).1 = l := h1.bt 60 (by have := l.hs; omega)
    have e2 : btL t (hT t p).2 = r := h2.bt 60 (by have := r.hs; omega)
    refine ⟨⟨by omega, by omega⟩, ⟨by rw [e1]; exact h1, by rw [e1]; omega⟩, ⟨by rw [e2]; exact h2, by rw [e2]; omega⟩, by rw [e1, e2, Int.toNat_natCast]⟩
theorem HOt.top {t : List Int} (h : isTree t = true) (hl : t.length ≤ 12) (h0 : t.length ≠ 0) : HOt t (some ((t.idxOf (-1) : Nat) : Int)) ∧ btL t (some ((t.idxOf (-1) : Nat) : Int)) = btT t := by
  have e : topO t = some ((t.idxOf (-1) : Nat) : Int) := by unfold topO; rw [if_neg h0]
  obtain ⟨h1, h2, h3, h4⟩ := tree_bt h
  have e2 : btL t (some ((t.idxOf (-1) : Nat) : Int)) = btT t := by unfold btL btT; rw [e]
  refine ⟨⟨?_, ?_⟩, e2⟩
  · rw [e2, ← e]; exact h1
  · rw [e2, h2]; exact hl
end TM


set_option linter.all false
set_option maxHeartbeats 1000000
namespace TM
open GL
/-! ### rows of a tree by their numbers -/
/-- the rows of a tree over m, in order -/
def rT (t : List Int) (m : Int) : List (List Int) := (ar m t.length).filter fun r => decide (treeOf r = t)
theorem mem_rT {t row : List Int} {m : Int} : row ∈ rT t m ↔ row.length = t.length ∧ (∀ x ∈ row, 0 ≤ x ∧ x < m) ∧ treeOf row = t := by
  unfold rT
  rw [List.mem_filter, mem_ar, decide_eq_true_iff]
  exact ⟨fun ⟨⟨a, b⟩, c⟩ => ⟨a, b, c⟩, fun ⟨a, b, c⟩ => ⟨⟨a, b⟩, c⟩⟩
theorem lexB_irr : ∀ l : List Int, lexB l l = false
  | [] => rfl
  | a :: l => by simp [lexB, lexB_irr l]
theorem lexB_trans : ∀ {a b c : List Int}, lexB a b = true → lexB b c = true → lexB a c = true
  | [], [], _, h, _ => by simp [lexB] at h
  | [], _ :: _, [], _, h => by simp [lexB] at h
  | [], _ :: _, _ :: _, _, _ => rfl
  | _ :: _, [], _, h, _ => by simp [lexB] at h
  | _ :: _, _ :: _, [], _, h => by simp [lexB] at h
  | x :: a, y :: b, z :: c, h1, h2 => by
    simp only [lexB, Bool.or_eq_true, Bool.and_eq_true, decide_eq_true_eq] at h1 h2 ⊢
    rcases h1 with h1 | ⟨h1, k1⟩ <;> rcases h2 with h2 | ⟨h2, k2⟩
    · left; omega
    · left; omega
    · left; omega
    · right; exact ⟨by omega, lexB_trans k1 k2⟩
theorem lexB_snoc : ∀ {a b : List Int} {x y : Int}, a.length = b.length → (lexB (a ++ [x]) (b ++ [y]) = true ↔ lexB a b = true ∨ (a = b ∧ x < y))
  | [], [], x, y, _ => by simp [lexB]
  | z :: a, w :: b, x, y, h => by
    simp only [List.cons_append, lexB, Bool.or_eq_true, Bool.and_eq_true, decide_eq_true_eq, lexB_snoc (a := a) (b := b) (x := x) (y := y) (by simpa using h), List.cons.injEq]
    constructor
    · rintro (k | ⟨k, k2 | k2⟩)
      · exact .inl (.inl k)
      · exact .inl (.inr ⟨k, k2⟩)
      · exact .inr ⟨⟨k, k2.1⟩, k2.2⟩
    · rintro ((k | ⟨k, k2⟩) | ⟨⟨k, k2⟩, k3⟩)
      · exact .inl k
      · exact .inr ⟨k, .inl k2⟩
      · exact .inr ⟨k, .inr ⟨k2, k3⟩⟩
theorem ar_sorted {m : Int} : ∀ {n : Nat}, (ar m n).Pairwise fun a b => lexB a b = true
  | 0 => by simp [ar]
  | n + 1 => by
    show ((ar m n).flatMap _).Pairwise _
    refine List.pairwise_flatMap.mpr ⟨?_, ?_⟩
    · intro r _
      exact List.pairwise_map.mpr ((rg_sorted 0 m).imp fun {x y} hxy => (lexB_snoc rfl).mpr (.inr ⟨rfl, hxy⟩))
    · refine (ar_sorted (m := m) (n := n)).imp_of_mem fun {x x'} hx hx' hlt => ?_
      intro z hz z' hz'
      obtain ⟨y, hy, rfl⟩ := List.mem_map.mp hz
      obtain ⟨y', hy', rfl⟩ := List.mem_map.mp hz'
      exact (lexB_snoc (by rw [(mem_ar.mp hx).1, (mem_ar.mp hx').1])).mpr (.inl hlt)
theorem rT_sorted {t : List Int} {m : Int} : (rT t m).Pairwise fun a b => lexB a b = true := ar_sorted.filter _
theorem rT_nodup {t : List Int} {m : Int} : (rT t m).Nodup := ar_nodup.filter _
/-- rows ahead of those that begin with p | with p -/
def cBf (S : List (List Int)) (p : List Int) : Nat := S.countP fun r => lexB (r.take p.length) p
def cCe (S : List (List Int)) (p : List Int) : Nat := S.countP fun r => decide (r.take p.length = p)
theorem take_snoc {r : List Int} {k : Nat} (h : k < r.length) : r.take (k + 1) = r.take k ++ [nb r k] := by
  rw [List.take_succ_eq_append_getElem h]
  congr 2
  unfold nb
  rw [List.getD_eq_getElem?_getD, List.getElem?_eq_getElem h]; rfl
theorem countP_or {α : Type} {p q r : α → Bool} : ∀ {l : List α}, (∀ x ∈ l, (r x = true ↔ p x = true ∨ q x = true) ∧ ¬ (p x = true ∧ q x = true)) → l.countP r = l.countP p + l.countP q
  | [], _ => rfl
  | x :: l, h => by
    obtain ⟨h1, h2⟩ := h x List.mem_cons_self
    have ih := countP_or fun y hy => h y (List.mem_cons_of_mem _ hy)
    rw [List.countP_cons, List.countP_cons, List.countP_cons, ih]
    by_cases hp : p x = true
    · have hq : ¬ q x = true := fun z => h2 ⟨hp, z⟩
      rw [if_pos (h1.mpr (.inl hp)), if_pos hp, if_neg hq]; omega
    · by_cases hq : q x = true
      · rw [if_pos (h1.mpr (.inr hq)), if_neg hp, if_pos hq]; omega
      · rw [if_neg (fun z => by rcases h1.mp z with y | y; exact hp y; exact hq y), if_neg hp, if_neg hq]; omega
theorem snoc_inj {a b : List Int} {x y : Int} : a ++ [x] = b ++ [y] ↔ a = b ∧ x = y := by
  constructor
  · intro h
    obtain ⟨h1, h2⟩ := List.append_inj' h rfl
    exact ⟨h1, List.singleton_inj.mp h2⟩
  · rintro ⟨rfl, rfl⟩; rfl
theorem cBf_next {S : List (List Int)} {p : List Int} {d : Int} (h : ∀ r ∈ S, p.length < r.length) : cBf S (p ++ [d + 1]) = cBf S (p ++ [d]) + cCe S (p ++ [d]) := by
  unfold cBf cCe
  refine countP_or fun r hr => ?_
  have hl := h r hr
  have hlen : (r.take p.length).length = p.length := by rw [List.length_take]; omega
  rw [List.length_append, List.length_append]
  show (lexB (r.take (p.length + 1)) _ = true ↔ lexB (r.take (p.length + 1)) _ = true ∨ decide (r.take (p.length + 1) = _) = true) ∧ ¬ (lexB (r.take (p.length + 1)) _ = true ∧ decide (r.take (p.length + 1) = _) = true)
  rw [decide_eq_true_iff, take_snoc hl, lexB_snoc hlen, lexB_snoc hlen, snoc_inj]
  constructor
  · constructor
    · rintro (k | ⟨k, k2⟩)
      · exact .inl (.inl k)
      · by_cases z : nb r p.length = d
        · exact .inr ⟨k, z⟩
        · exact .inl (.inr ⟨k, by omega⟩)
    · rintro ((k | ⟨k, k2⟩) | ⟨k, k2⟩)
      · exact .inl k
      · exact .inr ⟨k, by omega⟩
      · exact .inr ⟨k, by omega⟩
  · rintro ⟨k | ⟨k, k2⟩, k3, k4⟩
    · rw [k3, lexB_irr] at k; cases k
    · omega
theorem cBf_end {S : List (List Int)} {p : List Int} {m : Int} (h : ∀ r ∈ S, p.length < r.length ∧ ∀ x ∈ r, x < m) : cBf S (p ++ [m]) = cBf S p + cCe S p := by
  unfold cBf cCe
  refine countP_or fun r hr => ?_
  obtain ⟨hl, hx⟩ := h r hr
  have hlen : (r.take p.length).length = p.length := by rw [List.length_take]; omega
  rw [List.length_append]
  show (lexB (r.take (p.length + 1)) _ = true ↔ _) ∧ _
  rw [take_snoc hl, lexB_snoc hlen, decide_eq_true_iff]
  constructor
  · constructor
    · rintro (k | ⟨k, _⟩)
      · exact .inl k
      · exact .inr k
    · rintro (k | k)
      · exact .inl k
      · exact .inr ⟨k, hx _ (nb_idx hl rfl)⟩
  · rintro ⟨k, k2⟩
    rw [k2, lexB_irr] at k; cases k
/-- where a row stands in its sorted list -/
theorem cBf_idx : ∀ {S : List (List Int)} {p : List Int}, S.Pairwise (fun a b => lexB a b = true) → (∀ r ∈ S, r.length = p.length) → p ∈ S → S[cBf S p]? = some p ∧ S.idxOf p = cBf S p
  | [], p, _, _, h => by cases h
  | r :: S, p, hs, hl, h => by
    obtain ⟨h1, h2⟩ := List.pairwise_cons.mp hs
    have hr := hl r List.mem_cons_self
    have er : ∀ s : List Int, s.length = p.length → s.take p.length = s := fun s e => List.take_of_length_le (by omega)
    by_cases z : r = p
    · subst z
      have e0 : cBf (r :: S) r = 0 := by
        unfold cBf
        rw [List.countP_eq_zero]
        intro s hs'
        rcases List.mem_cons.mp hs' with y | y
        · rw [y, List.take_length, lexB_irr]; decide
        · rw [er s (hl s (List.mem_cons_of_mem _ y))]
          intro k
          have := lexB_trans (h1 s y) k
          rw [lexB_irr] at this; cases this
      rw [e0]
      exact ⟨rfl, by simp⟩
    · have hp : p ∈ S := by
        rcases List.mem_cons.mp h with y | y
        · exact absurd y.symm z
        · exact y
      obtain ⟨i1, i2⟩ := cBf_idx h2 (fun s hs' => hl s (List.mem_cons_of_mem _ hs')) hp
      have e1 : cBf (r :: S) p = cBf S p + 1 := by
        unfold cBf
        rw [List.countP_cons, er r hr, if_pos (h1 p hp)]
      rw [e1]
      refine ⟨by rw [List.getElem?_cons_succ]; exact i1, ?_⟩
      rw [List.idxOf_cons, i2, beq_false_of_ne z]; rfl
theorem cCe_all {S : List (List Int)} {p : List Int} (hl : ∀ r ∈ S, r.length = p.length) (h : 0 < cCe S p) : p ∈ S := by
  unfold cCe at h
  obtain ⟨r, hr, e⟩ := List.countP_pos_iff.mp h
  have e' := of_decide_eq_true e
  rw [List.take_of_length_le (Nat.le_of_eq (hl r hr))] at e'
  exact e' ▸ hr
/-! ### the dict of fixed numbers -/
/-- the first numbers are fixed, and no others -/
def Fx (fx : List (Int × Int)) (p : List Int) : Prop := ∀ i : Int, dget fx i = if 0 ≤ i ∧ i < p.length then some (nb p i.toNat) else none
theorem Fx.nil : Fx [] [] := fun i => by rw [if_neg (by simp)]; rfl
theorem Fx.put {fx : List (Int × Int)} {p : List Int} {d : Int} (h : Fx fx p) : Fx (dput fx p.length d) (p ++ [d]) := fun i => by
  rw [dget_dput, h i, List.length_append]
  by_cases z : (p.length : Int) = i
  · rw [if_pos z, if_pos (by simp; omega), show i.toNat = p.length by omega, nb_snL]
  · rw [if_neg z]
    by_cases y : 0 ≤ i ∧ i < p.length
    · rw [if_pos y, if_pos (by simp; omega), nb_sn0 (by omega)]
    · rw [if_neg y, if_neg (by simp; omega)]
theorem Fx.put2 {fx : List (Int × Int)} {p : List Int} {d e : Int} (h : Fx fx (p ++ [d])) : Fx (dput fx p.length e) (p ++ [e]) := fun i => by
  rw [dget_dput, h i, List.length_append, List.length_append]
  by_cases z : (p.length : Int) = i
  · rw [if_pos z, if_pos (by simp; omega), show i.toNat = p.length by omega, nb_snL]
  · rw [if_neg z]
    by_cases y : 0 ≤ i ∧ i < p.length
    · rw [if_pos (by simp; omega), if_pos (by simp; omega), nb_sn0 (by omega), nb_sn0 (by omega)]
    · rw [if_neg (by simp; omega), if_neg (by simp; omega)]
theorem Fx.okf {fx : List (Int × Int)} {p : List Int} (h : Fx fx p) {i : Nat} {j : Int} : okf fx i j = true ↔ (i < p.length → nb p i = j) := by
  rw [okf_iff, h i]
  unfold dgetV
  rw [h i]
  by_cases z : i < p.length
  · rw [if_pos (by omega)]
    simp [z]
  · rw [if_neg (by omega)]
    simp [z]
theorem Fx.agr {fx : List (Int × Int)} {p : List Int} (h : Fx fx p) : ∀ {a : Nat} {row : List Int}, agr fx a row = true ↔ ∀ i, i < row.length → a + i < p.length → nb p (a + i) = nb row i
  | a, [] => by
    constructor
    · intro _ i hi; cases hi
    · intro _; rfl
  | a, x :: row => by
    rw [TM.agr, Bool.and_eq_true, h.okf, Fx.agr h]
    constructor
    · rintro ⟨h1, h2⟩ i hi hp
      cases i with
      | zero => exact h1 hp
      | succ i =>
        have := h2 i (by simpa using hi) (by omega)
        rw [show a + 1 + i = a + (i + 1) by omega] at this
        exact this
    · intro k
      refine ⟨fun hp => k 0 (Nat.succ_pos _) hp, fun i hi hp => ?_⟩
      have := k (i + 1) (by simpa using hi) (by omega)
      rw [show a + (i + 1) = a + 1 + i by omega] at this
      exact this
theorem nb_ext {a b : List Int} (hl : a.length = b.length) (h : ∀ i, i < a.length → nb a i = nb b i) : a = b := by
  refine List.ext_getElem hl fun i h1 h2 => ?_
  have := h i h1
  unfold nb at this
  rw [List.getD_eq_getElem?_getD, List.getD_eq_getElem?_getD, List.getElem?_eq_getElem h1, List.getElem?_eq_getElem h2] at this
  exact this
theorem Fx.take {fx : List (Int × Int)} {p row : List Int} (h : Fx fx p) (hl : p.length ≤ row.length) : TM.agr fx 0 row = true ↔ row.take p.length = p := by
  rw [h.agr]
  constructor
  · intro k
    refine nb_ext (by rw [List.length_take]; omega) fun i hi => ?_
    rw [List.length_take] at hi
    have := k i (by omega) (by omega)
    rw [Nat.zero_add] at this
    rw [this, nb_take (by omega)]
  · intro k i hi hp
    rw [Nat.zero_add] at hp ⊢
    rw [← k, nb_take hp]
/-- the count with the first numbers fixed -/
theorem fC_pre {t : List Int} (h : isTree t = true) {m : Int} {fx : List (Int × Int)} {p : List Int} (hf : Fx fx p) (hl : p.length ≤ t.length) : fC t m fx = (cCe (rT t m) p : Int) := by
  unfold cCe
  rw [List.countP_eq_length_filter]
  refine fC_any h (rT_nodup.filter _) fun row => ?_
  rw [List.mem_filter, mem_rT, decide_eq_true_iff]
  constructor
  · rintro ⟨⟨a, b, c⟩, d⟩; exact ⟨a, b, c, (hf.take (by omega)).mpr d⟩
  · rintro ⟨a, b, c, d⟩; exact ⟨⟨a, b, c⟩, (hf.take (by omega)).mp d⟩
end TM


set_option linter.all false
set_option maxHeartbeats 1000000
namespace TM
open GL
/-! ### the walks of row_at and number_of_row -/
theorem rT_in {t : List Int} {m : Int} : ∀ r ∈ rT t m, r.length = t.length ∧ ∀ x ∈ r, 0 ≤ x ∧ x < m := fun r hr => ⟨(mem_rT.mp hr).1, (mem_rT.mp hr).2.1⟩
/-- what holds at a place of row_at, d being tried -/
structure RA (t : List Int) (m n0 : Int) (fx : List (Int × Int)) (p : List Int) (d number many : Int) : Prop where
  hfx : Fx fx (p ++ [d])
  pl : p.length < t.length
  d0 : 0 ≤ d
  dm : d ≤ m
  hn : 0 ≤ number
  num : n0 = (cBf (rT t m) (p ++ [d]) : Int) + number
  hmany : many = fC t m fx
  lt : n0 < (cBf (rT t m) p : Int) + cCe (rT t m) p
/-- what holds between the places -/
structure RB (t : List Int) (m n0 : Int) (fx : List (Int × Int)) (p : List Int) (number : Int) : Prop where
  hfx : Fx fx p
  pl : p.length ≤ t.length
  hn : 0 ≤ number
  num : n0 = (cBf (rT t m) p : Int) + number
  lt : number < (cCe (rT t m) p : Int)
theorem RA.cnt {t : List Int} (h : isTree t = true) {m n0 : Int} {fx : List (Int × Int)} {p : List Int} {d number many : Int} (r : RA t m n0 fx p d number many) : many = (cCe (rT t m) (p ++ [d]) : Int) := by
  rw [r.hmany, fC_pre h r.hfx (by rw [List.length_append]; exact r.pl)]
theorem RA.next {t : List Int} (h : isTree t = true) {m n0 : Int} {fx fx2 : List (Int × Int)} {p : List Int} {d number many : Int} (r : RA t m n0 fx p d number many) (hw : many ≤ number) (hf : fx2 = dput fx p.length (d + 1)) : RA t m n0 fx2 p (d + 1) (number - many) (fC t m fx2) ∧ d < m := by
  have ec := r.cnt h
  have e1 : cBf (rT t m) (p ++ [d + 1]) = cBf (rT t m) (p ++ [d]) + cCe (rT t m) (p ++ [d]) := cBf_next fun q hq => by rw [(rT_in q hq).1]; exact r.pl
  have hd : d < m := by
    have e2 : cBf (rT t m) (p ++ [m]) = cBf (rT t m) p + cCe (rT t m) p := cBf_end fun q hq => ⟨by rw [(rT_in q hq).1]; exact r.pl, fun x hx => ((rT_in q hq).2 x hx).2⟩
    refine Classical.byContradiction fun z => ?_
    have := r.dm
    have ed : d = m := by omega
    have h1 := r.num
    have h2 := r.lt
    have h3 := r.hn
    rw [ed, e2] at h1
    omega
  refine ⟨⟨by rw [hf]; exact r.hfx.put2, r.pl, by have := r.d0; omega, by omega, by omega, ?_, rfl, r.lt⟩, hd⟩
  rw [e1, r.num]
  omega
theorem RA.leave {t : List Int} (h : isTree t = true) {m n0 : Int} {fx : List (Int × Int)} {p : List Int} {d number many : Int} (r : RA t m n0 fx p d number many) (hw : number < many) : RB t m n0 fx (p ++ [d]) number :=
  ⟨r.hfx, by rw [List.length_append]; exact r.pl, r.hn, r.num, by rw [← r.cnt h]; exact hw⟩
theorem RB.done {t : List Int} {m n0 : Int} {fx : List (Int × Int)} {p : List Int} {number : Int} (r : RB t m n0 fx p number) (hp : p.length = t.length) : (rT t m)[n0.toNat]? = some p := by
  have hl : ∀ q ∈ rT t m, q.length = p.length := fun q hq => by rw [(rT_in q hq).1, hp]
  have h0 := r.hn
  have h1 := r.lt
  have hin : p ∈ rT t m := cCe_all hl (by omega)
  have hc : cCe (rT t m) p ≤ 1 := by
    unfold cCe
    have e : (rT t m).countP (fun q => decide (q.take p.length = p)) = (rT t m).count p := by
      unfold List.count
      refine List.countP_congr fun q hq => ?_
      rw [decide_eq_true_iff, List.take_of_length_le (Nat.le_of_eq (hl q hq))]
      exact beq_iff_eq.symm
    rw [e]
    exact List.nodup_iff_count.mp rT_nodup p
  have h2 := r.num
  rw [show n0.toNat = cBf (rT t m) p by omega]
  exact (cBf_idx rT_sorted hl hin).1
theorem Fx.get {fx : List (Int × Int)} {p : List Int} (h : Fx fx p) {i : Int} (hi : 0 ≤ i ∧ i < p.length) : (dget fx i).isSome = true ∧ dgetV fx i = nb p i.toNat := by
  unfold dgetV
  rw [h i, if_pos hi]
  exact ⟨rfl, rfl⟩
theorem Fx.out {fx : List (Int × Int)} {p : List Int} (h : Fx fx p) : (rg 0 p.length).map (fun c => dgetV fx c) = p := by
  refine List.ext_getElem? fun j => ?_
  rw [List.getElem?_map]
  by_cases hj : j < p.length
  · rw [rg_get 0 _ j (by omega)]
    show some (dgetV fx (0 + (j : Int))) = _
    rw [Int.zero_add, (h.get (i := (j : Int)) (by omega)).2, Int.toNat_natCast, List.getElem?_eq_getElem hj]
    unfold nb
    rw [List.getD_eq_getElem?_getD, List.getElem?_eq_getElem hj]; rfl
  · rw [List.getElem?_eq_none (by rw [rg_len]; omega), List.getElem?_eq_none (by omega)]; rfl
/-- number_of_row: the rows ahead -/
structure NR (t row : List Int) (m : Int) (fx : List (Int × Int)) (i : Nat) (number : Int) : Prop where
  hfx : Fx fx (row.take i)
  num : number = (cBf (rT t m) (row.take i) : Int)
/-- .. with a lesser number at the place -/
structure NS (t row : List Int) (m : Int) (fx0 fx : List (Int × Int)) (i j : Nat) (number : Int) : Prop where
  hfx : (j = 0 → fx = fx0) ∧ (0 < j → Fx fx (row.take i ++ [(j : Int) - 1]))
  f0 : Fx fx0 (row.take i)
  num : number = (cBf (rT t m) (row.take i ++ [(j : Int)]) : Int)
theorem NS.step {t row : List Int} (h : isTree t = true) {m : Int} {fx0 fx fx2 : List (Int × Int)} {i j : Nat} {number : Int} (r : NS t row m fx0 fx i j number) (hi : i < row.length) (hl : row.length = t.length) {pl le : Int} (hp : pl = i) (hle : le = j) (hf : fx2 = dput fx pl le) :
    NS t row m fx0 fx2 i (j + 1) (number + fC t m fx2) := by
  have hlen : (row.take i).length = i := by rw [List.length_take]; omega
  subst hp hle
  have f2 : Fx fx2 (row.take i ++ [(j : Int)]) := by
    rw [hf]
    by_cases z : j = 0
    · rw [r.hfx.1 z]
      have := r.f0.put (d := (j : Int))
      rwa [hlen] at this
    · have := (r.hfx.2 (by omega)).put2 (e := (j : Int))
      rwa [hlen] at this
  refine ⟨⟨fun z => by omega, fun _ => ?_⟩, r.f0, ?_⟩
  · rw [show ((j + 1 : Nat) : Int) - 1 = j by omega]; exact f2
  · have e1 : cBf (rT t m) (row.take i ++ [(j : Int) + 1]) = cBf (rT t m) (row.take i ++ [(j : Int)]) + cCe (rT t m) (row.take i ++ [(j : Int)]) := cBf_next fun q hq => by rw [(rT_in q hq).1, hlen]; omega
    rw [show ((j + 1 : Nat) : Int) = (j : Int) + 1 by omega, e1, r.num, fC_pre h f2 (by rw [List.length_append, hlen]; show i + 1 ≤ _; omega)]
    omega
theorem NS.leave {t row : List Int} {m : Int} {fx0 fx fx2 : List (Int × Int)} {i j : Nat} {number : Int} (r : NS t row m fx0 fx i j number) (hi : i < row.length) (hj : (j : Int) = nb row i) {pl du : Int} (hp : pl = i) (hd : du = nb row i) (hf : fx2 = dput fx pl du) : NR t row m fx2 (i + 1) number := by
  have hlen : (row.take i).length = i := by rw [List.length_take]; omega
  subst hp hd
  refine ⟨?_, by rw [r.num, hj, take_snoc hi]⟩
  rw [take_snoc hi, hf]
  by_cases z : j = 0
  · rw [r.hfx.1 z]
    have := r.f0.put (d := nb row i)
    rwa [hlen] at this
  · have := (r.hfx.2 (by omega)).put2 (e := nb row i)
    rwa [hlen] at this
theorem NR.done {t row : List Int} {m : Int} {fx : List (Int × Int)} {number : Int} {i : Nat} (r : NR t row m fx i number) (hi : i = row.length) (hin : row ∈ rT t m) : number = (((rT t m).idxOf row : Nat) : Int) := by
  rw [r.num, hi, List.take_length]
  congr 1
  exact (cBf_idx rT_sorted (fun q hq => by rw [(rT_in q hq).1, (rT_in row hin).1]) hin).2.symm
end TM
namespace TM
open GL
theorem dput_same {l : List (Int × Int)} {k a : Int} (h : (dget l k).isSome = true) : (dput l k a).length = l.length := by rw [dput_len, if_pos h]
theorem RB.out {t : List Int} {m n0 : Int} {fx : List (Int × Int)} {p : List Int} {number : Int} (r : RB t m n0 fx p number) (hp : p.length = t.length) : (rg 0 t.length).map (fun c => dgetV fx c) = gt (rT t m) n0 := by
  rw [← hp, r.hfx.out]
  have := r.done hp
  have h0 := r.hn
  have h1 := r.num
  unfold gt
  rw [List.getD_eq_getElem?_getD, this]; rfl
end TM
namespace TM
open GL
theorem NS.len {t row : List Int} {m : Int} {fx0 fx : List (Int × Int)} {i j : Nat} {number : Int} (r : NS t row m fx0 fx i j number) (hi : i < row.length) (h0 : fx0.length ≤ i) (h1 : fx.length ≤ i + 1) {pl le : Int} (hp : pl = i) : (dput fx pl le).length ≤ i + 1 := by
  by_cases z : j = 0
  · rw [r.hfx.1 z]
    exact Nat.le_trans dput_le (by omega)
  · have hlen : (row.take i).length = i := by rw [List.length_take]; omega
    rw [dput_same ((r.hfx.2 (by omega)).get (i := pl) (by rw [List.length_append, hlen]; simp; omega)).1]
    exact h1
end TM
namespace TM
open GL
end TM


set_option linter.all false
set_option maxHeartbeats 1000000
namespace TM
open GL
/-! ### few rows of a tree -/
end TM
namespace TM
open GL
end TM


set_option linter.all false
set_option maxHeartbeats 1000000
namespace TM
open GL
/-! ### all trees of so many places; orders -/
def nodeT (top : Nat) (ah be : List Int) : List Int := ah.map (fun e => if 0 ≤ e then e else (top : Int)) ++ [-1] ++ be.map (fun e => if 0 ≤ e then e + (top : Int) + 1 else (top : Int))
def allF : Nat → Nat → List (List Int)
  | 0, _ => [[]]
  | f + 1, n => if n = 0 then [[]] else (List.range n).flatMap fun top => (allF f top).flatMap fun ah => (allF f (n - 1 - top)).map fun be => nodeT top ah be
def allT (n : Nat) : List (List Int) := allF n n
theorem fmap_congr {α β : Type} {f g : α → List β} : ∀ {l : List α}, (∀ x ∈ l, f x = g x) → l.flatMap f = l.flatMap g
  | [], _ => rfl
  | x :: l, h => by rw [List.flatMap_cons, List.flatMap_cons, h x List.mem_cons_self, fmap_congr fun y hy => h y (List.mem_cons_of_mem _ hy)]
theorem allF_eq : ∀ {f g n : Nat}, n ≤ f → n ≤ g → allF f n = allF g n
  | 0, 0, n, _, _ => rfl
  | 0, g + 1, n, h, _ => by
    have : n = 0 := by omega
    subst this; rfl
  | f + 1, 0, n, _, h => by
    have : n = 0 := by omega
    subst this; rfl
  | f + 1, g + 1, n, h1, h2 => by
    unfold allF
    by_cases z : n = 0
    · rw [if_pos z, if_pos z]
    · rw [if_neg z, if_neg z]
      refine fmap_congr fun top ht => ?_
      have ht' := List.mem_range.mp ht
      rw [allF_eq (f := f) (g := g) (n := top) (by omega) (by omega), allF_eq (f := f) (g := g) (n := n - 1 - top) (by omega) (by omega)]
theorem allT_node {n : Nat} (h : n ≠ 0) : allT n = (List.range n).flatMap fun top => (allT top).flatMap fun ah => (allT (n - 1 - top)).map fun be => nodeT top ah be := by
  cases n with
  | zero => exact absurd rfl h
  | succ n =>
    show allF (n + 1) (n + 1) = _
    rw [allF, if_neg h]
    refine fmap_congr fun top ht => ?_
    have ht' := List.mem_range.mp ht
    rw [show allF n top = allT top from allF_eq (by omega) (Nat.le_refl _), show allF n (n + 1 - 1 - top) = allT (n + 1 - 1 - top) from allF_eq (by omega) (Nat.le_refl _)]
/-- every tree is among them -/
def nrm (a : Nat) (e x : Int) : Int := if x = e then -1 else x - a
theorem seg_split {t : List Int} {a b h : Nat} (h1 : a ≤ h) (h2 : h < b) (hb : b ≤ t.length) : (t.drop a).take (b - a) = (t.drop a).take (h - a) ++ [nb t h] ++ (t.drop (h + 1)).take (b - (h + 1)) := by
  have := take_split (row := t) (a := a) (n := h - a) (p := h) (by omega) (q := b - (h + 1)) (by omega)
  rw [show h - a + (b - (h + 1)) + 1 = b - a by omega] at this
  rw [this, List.append_assoc]; rfl
theorem mem_seg {t : List Int} {a n : Nat} {x : Int} (h : x ∈ (t.drop a).take n) (hl : a + n ≤ t.length) : ∃ q, a ≤ q ∧ q < a + n ∧ nb t q = x := by
  obtain ⟨i, hi, e⟩ := List.getElem_of_mem h
  rw [List.length_take, List.length_drop] at hi
  refine ⟨a + i, by omega, by omega, ?_⟩
  rw [List.getElem_take, List.getElem_drop] at e
  unfold nb
  rw [List.getD_eq_getElem?_getD, List.getElem?_eq_getElem (by omega)]
  exact e
theorem T.all {t : List Int} {a b : Nat} {e : Int} (h : T t a b e) : b ≤ t.length → (e < a ∨ (b : Int) ≤ e) → ((t.drop a).take (b - a)).map (nrm a e) ∈ allT (b - a) := by
  induction h with
  | nil a e => intro _ _; rw [Nat.sub_self, List.take_zero]; exact List.mem_singleton.mpr rfl
  | @node a b h e h1 h2 h3 t1 t2 i1 i2 =>
    intro hb he
    rw [allT_node (by omega)]
    have k2 : ((t.drop (h + 1)).take (b - (h + 1))).map (nrm (h + 1) h) ∈ allT (b - a - 1 - (h - a)) := by
      have := i2 hb (.inl (by omega))
      rwa [show b - (h + 1) = b - a - 1 - (h - a) by omega] at this ⊢
    refine List.mem_flatMap.mpr ⟨h - a, List.mem_range.mpr (by omega), List.mem_flatMap.mpr ⟨_, i1 (by omega) (.inr (by omega)), List.mem_map.mpr ⟨_, k2, ?_⟩⟩⟩
    · rw [seg_split h1 h2 hb]
      unfold nodeT
      rw [List.map_append, List.map_append, List.map_map, List.map_map]
      congr 1
      · congr 1
        · refine List.map_congr_left fun x hx => ?_
          obtain ⟨q, q1, q2, q3⟩ := mem_seg hx (by omega)
          have hi := t1.inn q q1 (by omega)
          rw [q3] at hi
          simp only [Function.comp_apply]
          have hne : x ≠ e := by rcases hi with z | z <;> omega
          have e2 : nrm a e x = x - a := if_neg hne
          by_cases z : x = h
          · have e1 : nrm a h x = -1 := if_pos z
            rw [e1, e2, if_neg (by decide)]; omega
          · have e1 : nrm a h x = x - a := if_neg z
            rw [e1, e2, if_pos (by rcases hi with y | y; exact absurd y z; omega)]
        · show [(-1 : Int)] = [nrm a e (nb t h)]
          rw [h3]; simp [nrm]
      · refine List.map_congr_left fun x hx => ?_
        obtain ⟨q, q1, q2, q3⟩ := mem_seg hx (by omega)
        have hi := t2.inn q q1 (by omega)
        rw [q3] at hi
        simp only [Function.comp_apply]
        have hne : x ≠ e := by rcases hi with z | z <;> omega
        have e2 : nrm a e x = x - a := if_neg hne
        by_cases z : x = h
        · have e1 : nrm (h + 1) h x = -1 := if_pos z
          rw [e1, e2, if_neg (by decide)]; omega
        · have e1 : nrm (h + 1) h x = x - (h + 1 : Nat) := if_neg z
          rw [e1, e2, if_pos (by rcases hi with y | y; exact absurd y z; omega)]; omega
def okT (n : Nat) : Bool := decide (allT n).Nodup && (allT n).all fun t => decide (t.length = n) && decide (treeOf (flatF t) = t)
end TM


set_option linter.all false
set_option maxHeartbeats 1000000
namespace TM
open GL
/-! ### orders -/
/-- how many places are under a place, with it, as far as the first i places and j on the way of the next are told -/
def szN (t : List Int) (i : Nat) (o : Int) : Int := 1 + (((List.range i).countP fun p : Nat => decide (o ∈ ups t (p : Int)) : Nat) : Int)
def szs (t : List Int) : List Int := (rg 0 t.length).map (szN t t.length)
def mo (t : List Int) : Int := (szs t).foldl (· / ·) ((((List.range t.length).map fun k : Nat => ((k : Int) + 1)).foldl (· * ·) 1))
def fac (n : Nat) : Int := ((List.range n).map fun k : Nat => ((k : Int) + 1)).foldl (· * ·) 1
/-- along a way -/
def szP (t L : List Int) (i j : Nat) : List Int := (rg 0 t.length).map fun o => szN t i o + if o ∈ L.take j then 1 else 0
/-- the orders of all trees of up to five places -/
def ordT (n : Nat) : Bool := decide (((allT n).map mo).sum = fac n)
end TM
namespace TM
open GL
def lenT : Bool := (List.range 6).all fun n => decide ((allT n).length ≤ 42)
end TM
namespace TM
open GL
end TM
namespace TM
open GL
theorem map_take {α β : Type} {l : List α} {i : Nat} {x : α} {f : α → β} (h : l[i]? = some x) : (l.take (i + 1)).map f = (l.take i).map f ++ [f x] := by
  rw [List.take_succ, List.map_append, h]; rfl
end TM


set_option Elab.async false
set_option linter.all false
set_option maxRecDepth 100000
set_option maxHeartbeats 1000000
namespace TM
open GL
section
variable {t : List Int} {m at_ many : Int} {numbers : List Int} {told : List (List Int)}
end
end TM


set_option Elab.async false
set_option linter.all false
set_option maxRecDepth 100000
set_option maxHeartbeats 1000000
namespace TM
open GL PySem L2
def okB (t : List Int) (m : Int) : Prop := t.length ≤ 12 ∧ 0 ≤ m ∧ m ≤ 12
instance {t : List Int} {m : Int} : Decidable (okB t m) := by unfold okB; infer_instance
noncomputable def duF (way : Int) (t : List Int) (m number : Int) : Option Int :=
  if way ≠ 2 ∧ isTree t = false then some 3
  else if way < 3 ∧ ¬ okB t m then some 2
  else if way = 1 ∧ ¬ (0 ≤ number ∧ number < fC t m []) then some 6
  else if way = 2 ∧ ¬ (∀ x ∈ t, 0 ≤ x ∧ x < m) then some 6 else none
noncomputable def okF (way : Int) (t : List Int) (m number : Int) : Sum Int (List Int) :=
  if way = 0 then .inl (fC t m []) else if way = 1 then .inr (gt (rT t m) number) else if way = 2 then .inl (((rT (treeOf t) m).idxOf t : Nat) : Int) else .inl (mo t)
noncomputable def heF {α : Type} (xs : Int → α) (way : Int) (t : List Int) (m number : Int) : Option (Sum α (Sum Int (List Int))) :=
  match duF way t m number with
  | some d => some (.inl (xs d))
  | none => some (.inr (okF way t m number))
section
variable {way : Int} {t : List Int} {m number d : Int} {α : Type} {xs : Int → α}
noncomputable def okI (way : Int) (t : List Int) (m number : Int) : Int := match okF way t m number with | .inl k => k | .inr _ => 0
end
end TM
namespace TM
open GL PySem L2
section
variable {way : Int} {t : List Int} {m number : Int} {α : Type} {xs : Int → α} {y : Int} {r : List Int}
end
end TM
namespace TM
open GL PySem L2
end TM


set_option Elab.async false
set_option linter.all false
set_option maxRecDepth 100000
set_option maxHeartbeats 1000000
namespace TM
open GL
def pr (l : List Int) : Int := l.foldr (· * ·) 1
structure Seg (t : List Int) (a b : Nat) (e : Int) : Prop where
  T : T t a b e
  out : e < a ∨ (b : Int) ≤ e
  bn : b ≤ t.length
  sep : ∀ q : Nat, q < t.length → (q < a ∨ b ≤ q) → (nb t q < a ∨ (b : Int) ≤ nb t q)
theorem Seg.all {t : List Int} (ht : isTree t = true) : Seg t 0 t.length (-1) :=
  ⟨(isTree_iff.mp ht).2, .inl (by omega), Nat.le_refl _, fun q h1 h2 => by omega⟩
theorem Seg.head {t : List Int} {a b : Nat} {e : Int} (s : Seg t a b e) (hab : a < b) : ∃ h : Nat, a ≤ h ∧ h < b ∧ nb t h = e ∧ (∀ q : Nat, a ≤ q → q < b → q ≠ h → (a : Int) ≤ nb t q ∧ nb t q < b) ∧ Seg t a h h ∧ Seg t (h + 1) b h := by
  obtain ⟨h, h1, h2, h3, h4, t1, t2⟩ := s.T.one hab s.out
  have ho := s.out
  have hb := s.bn
  refine ⟨h, h1, h2, h3, fun q q1 q2 q3 => ?_, ⟨t1, .inr (Int.le_refl _), by omega, fun q q1 q2 => ?_⟩, ⟨t2, .inl (by omega), s.bn, fun q q1 q2 => ?_⟩⟩
  · rcases s.T.in q q1 q2 with z | z
    · exact absurd (h4 q q1 q2 z) q3
    · exact z
  · by_cases y : q < a ∨ b ≤ q
    · rcases s.sep q q1 y with z | z <;> omega
    · by_cases y2 : q = h
      · subst y2; omega
      · rcases t2.in q (by omega) (by omega) with z | z <;> omega
  · by_cases y : q < a ∨ b ≤ q
    · rcases s.sep q q1 y with z | z <;> omega
    · by_cases y2 : q = h
      · subst y2; omega
      · rcases t1.in q (by omega) (by omega) with z | z <;> omega
def tms (t : List Int) : Int := pr (((rg 0 t.length).map (spanT t)).map fun c => c.2 - c.1 + 1)
end TM
namespace TM
open GL
theorem perm_sub {α : Type} [DecidableEq α] : ∀ {L T : List α}, L.Nodup → (∀ x ∈ L, x ∈ T) → ∃ T', T.Perm (L ++ T')
  | [], T, _, _ => ⟨T, List.Perm.refl _⟩
  | x :: L, T, hn, hs => by
    obtain ⟨n1, n2⟩ := List.nodup_cons.mp hn
    obtain ⟨T', h⟩ := perm_sub (T := T.erase x) n2 fun y hy => (List.mem_erase_of_ne (fun (e : y = x) => n1 (by rw [← e]; exact hy))).mpr (hs y (List.mem_cons_of_mem _ hy))
    exact ⟨T', (List.perm_cons_erase (hs x List.mem_cons_self)).trans (h.cons x)⟩
def catT : Bool := (List.range 6).all fun n => decide (catal (n : Int) = ((allT n).length : Int))
noncomputable def atL (n : Int) : List (List Int) := (rg 0 (catal n)).map fun i => hungF (unrank n i)
end TM
namespace TM
open GL
def facT : Bool := (List.range 41).all fun n => decide (fac n ≤ 10 ^ 50)
end TM
namespace TM
open GL
end TM


set_option Elab.async false
set_option linter.all false
set_option maxRecDepth 100000
set_option maxHeartbeats 1000000
namespace L2
open PySem PySem.Spec PyProof.Rows
section
variable {X : Cx} {a b c d : Expr} {ta tb tc td : TE} {pos : Pos}
end
end L2
namespace GL
open PySem L2
variable {C : Cn} {Γ : List Ent} {ta tb tc td : TE} {ℓ : Lv}
end GL

namespace TM
open GL
/-! ### the order of drops is the order of their numbers -/
end TM
namespace TM
open GL
end TM

namespace TM
open GL
def cntT (n : Int) : Bool :=
  decide (((rg 0 (n + 1)).map (openAt n)).sum = catal n) && decide (manyF n n = catal n) && decide (((rg 0 n).map (falls n)).sum = catal n) && decide ((rg 0 n).map (falls n) = ((rg 0 n).map (falls n)).reverse) &&
  decide (manyF n 0 = 1) && (rg 0 n).all (fun k => decide (manyF n k ≤ manyF n (k + 1)) && decide (manyF n (k + 1) ≤ manyF n (n - 1))) && decide (manyF n (n - 1) = catal n)
theorem cntT_ok : ((rg 1 13).all cntT) = true := by decide +kernel
theorem cnt {n : Int} (hn : 1 ≤ n ∧ n ≤ 12) : ((rg 0 (n + 1)).map (openAt n)).sum = catal n ∧ manyF n n = catal n ∧ ((rg 0 n).map (falls n)).sum = catal n ∧ (rg 0 n).map (falls n) = ((rg 0 n).map (falls n)).reverse ∧ manyF n 0 = 1 ∧
    (∀ k, 0 ≤ k → k < n → manyF n k ≤ manyF n (k + 1) ∧ manyF n (k + 1) ≤ manyF n (n - 1)) ∧ manyF n (n - 1) = catal n := by
  have h := List.all_eq_true.mp cntT_ok n (rg_mem.mpr (by omega))
  unfold cntT at h
  simp only [Bool.and_eq_true, decide_eq_true_iff] at h
  obtain ⟨⟨⟨⟨⟨⟨h1, h2⟩, h3⟩, h4⟩, h5⟩, h6⟩, h7⟩ := h
  refine ⟨h1, h2, h3, h4, h5, fun k k0 k1 => ?_, h7⟩
  have := List.all_eq_true.mp h6 k (rg_mem.mpr (by omega))
  simpa only [Bool.and_eq_true, decide_eq_true_iff] using this
end TM


set_option Elab.async false
set_option linter.all false
set_option maxRecDepth 100000
set_option maxHeartbeats 1000000
namespace TM
open GL
def fallsF (row : List Int) : Int := (((rg 1 row.length).filter fun k => decide (gt row k < gt row (k - 1))).length : Int)
def shp (n : Int) (t : List Int) : Int × Int × Int := (n - (dropsOf (flatF t)).sum, fallsF (flatF t), dmax (flatF t) (-1))
def shK (n : Nat) (k : Int) : Bool :=
  decide (openAt n k = ((((allT n).map (shp n)).filter fun s => decide (s.1 = k)).length : Int)) && decide (falls n k = ((((allT n).map (shp n)).filter fun s => decide (s.2.1 = k)).length : Int)) &&
  decide (manyF n k = ((((allT n).map (shp n)).filter fun s => decide (s.2.2 ≤ k)).length : Int))
def shT : Bool := (List.range 7).all fun n => decide (catal (n : Int) = ((allT n).length : Int)) && (rg (-1) ((n : Int) + 2)).all (shK n)
end TM
namespace TM
open GL
end TM
namespace TM
open GL
def c6T : Bool := (List.range 7).all fun n => decide (catal (n : Int) ≤ 132)
end TM


set_option Elab.async false
set_option linter.all false
set_option maxRecDepth 100000
set_option maxHeartbeats 1000000
namespace TM
open GL
/-! ### fitted: the least row of a tree above given bounds -/
def demP (t ls : List Int) (p o : Int) : Int × Int := (gt ls o + gt (flatF t) p - gt (flatF t) o, o)
def dmL (t ls : List Int) (p : Int) : List (Int × Int) := ([p] ++ ups t p).map (demP t ls p)
def dm (t ls : List Int) (p : Int) : Int × Int := bestL (dmL t ls p)
def rst (t ls : List Int) : List Int := (rg 0 t.length).map fun p => (dm t ls p).1
end TM
namespace TM
open GL PySem
/-- what fitted answers -/
def fitOk (t ls gs : List Int) (x : Sum (Str × Int × Int) (Str × List Int)) : Prop :=
  match x with
  | .inl a => a.1 = Str.ofString "clash" ∧ (0 ≤ a.2.2 ∧ a.2.2 < t.length) ∧ a.2.1 = (dm t ls a.2.2).2 ∧ gt gs a.2.2 < (dm t ls a.2.2).1
  | .inr a => a.1 = Str.ofString "row" ∧ a.2 = rst t ls ∧ ∀ p : Int, 0 ≤ p → p < t.length → (dm t ls p).1 ≤ gt gs p
instance : Inhabited Str := ⟨Str.ofString ""⟩
end TM
namespace TM
open GL PySem
end TM


set_option Elab.async false
set_option linter.all false
set_option maxRecDepth 100000
set_option maxHeartbeats 1000000
namespace TM
open GL PySem
def within (ls r ms : List Int) : Bool := ((ls.zip (r.zip ms)).map fun c => decide (c.1 ≤ c.2.1 ∧ c.2.1 ≤ c.2.2)).all id
section
variable {t rows ls ms : List Int} {R some_ : List (List Int)} {m : Int} {x : Sum (Str × Int × Int) (Str × List Int)}
end
end TM


set_option Elab.async false
set_option linter.all false
namespace TM
open GL L2 PySem
/-! ### the laws that draw rows of a tree -/
end TM
namespace TM
open GL L2 PySem
end TM
namespace TM
end TM
namespace TM
open GL L2 PySem
variable {t ls gs : List Int}
/-- what fitted tells -/
def fitF (t ls gs : List Int) : Sum (Str × Int × Int) (Str × List Int) := match (rg 0 t.length).find? fun p => decide (gt gs p < (dm t ls p).1) with
  | some p => .inl (Str.ofString "clash", (dm t ls p).2, p)
  | none => .inr (Str.ofString "row", rst t ls)
end TM


set_option Elab.async false
set_option linter.all false
namespace TM
open GL L2 PySem
variable {t ls gs r row least greatest : List Int}
/-! ### places by their depth -/
def lamL (t : List Int) : List Int := (rg 0 t.length).mergeSort fun x y => decide (((ups t x).length : Int) ≤ ((ups t y).length : Int))
def lamP (t : List Int) : List (Int × Int) := (lamL t).map fun p => (rk t p, p)
/-- how great the numbers are -/
def KM (t : List Int) (L : List (Int × Int)) (row : List Int) (i : Nat) : Prop := ∀ k q, L[k]? = some q →
  (k < i → -(3000000000000000000000000000000000000000000000000000000000 + q.1 * 6000000000000000000000000000000000000000000000000000000001) ≤ gt row q.2 ∧ gt row q.2 ≤ 3000000000000000000000000000000000000000000000000000000000 + q.1 * 6000000000000000000000000000000000000000000000000000000001) ∧
  (i ≤ k → -3000000000000000000000000000000000000000000000000000000000 ≤ gt row q.2 ∧ gt row q.2 ≤ 3000000000000000000000000000000000000000000000000000000000)
/-! ### what fitted tells, of changed bounds -/
def liesB (row least greatest : List Int) : Bool := ((rg 0 row.length).map fun k => decide (gt least k ≤ gt row k ∧ gt row k ≤ gt greatest k)).all id
end TM
namespace TM
open GL L2 PySem
end TM
namespace TM
open GL L2 PySem
variable {t ls gs : List Int}
/-- what fitted tells, with the words out of the way -/
def isRow (t ls gs row : List Int) : Prop := fitF t ls gs = .inr (Str.ofString "row", row)
def isClash (t ls gs : List Int) (a b : Int) : Prop := fitF t ls gs = .inl (Str.ofString "clash", a, b)
end TM


set_option Elab.async false
set_option linter.all false
namespace TM
open GL L2 PySem
variable {t ls gs row : List Int}
end TM


set_option Elab.async false
set_option linter.all false
namespace TM
open GL L2 PySem
variable {t way : List Int} {p here : Int}
/-! ### which tuples are trees, by chains that stop at an elder met before -/
structure WT (t : List Int) (p : Int) (way : List Int) (here : Int) : Prop where
  run : ∀ k, up t (way.length + k) (gt t p) = (up t k here).map (way ++ ·)
  nd : way.Nodup
  ins : ∀ o ∈ way, 0 ≤ o ∧ o < (t.length : Int)
end TM


set_option Elab.async false
set_option linter.all false
namespace TM
open GL L2 PySem
variable {t row other : List Int} {w : Int} {nt un c : Addr}
/-! ### what is refused (k59) -/
noncomputable def asked59 (nt un : Addr) (w : Int) (t row other : List Int) : Option (Sum Addr Unit) :=
  if isTree t = true then (if row.length = t.length ∧ (w < 2 → other.length = t.length) then some (.inr ()) else some (.inl un)) else some (.inl nt)
noncomputable def due59 (w : Int) (t row other : List Int) : Int :=
  if isTree t = true then (if row.length = t.length ∧ (w < 2 → other.length = t.length) then -1 else 0) else 3
end TM


set_option Elab.async false
set_option linter.all false
/-! ### stretches that come twice: trees by start, groups, the first two -/
namespace TM
open GL
/-- the trees of all stretches of so many places -/
def trs (row : List Int) (size : Int) : List (List Int) := (rg 0 ((row.length : Int) - size + 1)).map fun s => treeOf (sl row (some s) (some (s + size)))
theorem trs_len (row : List Int) (size : Int) : (trs row size).length = ((row.length : Int) - size + 1).toNat := by
  unfold trs; rw [List.length_map, rg_len]; congr 1; omega
section
variable {ts us : List (List Int)} {i : Nat} {t : List Int}
/-- where a tree stands among the first so many -/
def posF (ts : List (List Int)) (n : Int) (t : List Int) : List Int := (rg 0 n).filter fun i => decide (gt ts i = t)
/-- the places that have a tree not there before -/
def fstF (ts : List (List Int)) (n : Int) : List Int := (rg 0 n).filter fun i => decide (gt ts i ∉ sl ts none (some i))
def grp (ts : List (List Int)) (n : Int) : List (List Int × List Int) := (fstF ts n).map fun one => (gt ts one, posF ts n (gt ts one))
/-- the groups -/
def gps (ts : List (List Int)) : List (List Int) := (fstF ts ts.length).map fun one => posF ts ts.length (gt ts one)
/-! the first two -/
def later (ts : List (List Int)) (one : Int) : List Int := (rg (one + 1) ts.length).filter fun o => decide (gt ts o = gt ts one)
def ftF (ts : List (List Int)) : Option (List Int) := ((rg 0 ts.length).find? fun one => decide (later ts one ≠ [])).map fun one => [one, gt (later ts one) 0]
theorem ft_len {r : List Int} (h : ftF ts = some r) : r.length = 2 ∧ 2 ≤ ts.length := by
  unfold ftF at h
  cases hf : (rg 0 ts.length).find? fun one => decide (later ts one ≠ []) with
  | none => rw [hf] at h; cases h
  | some o =>
    rw [hf] at h
    have hr : [o, gt (later ts o) 0] = r := by simpa using h
    have hp := List.find?_some hf
    have hm := rg_mem.mp (List.mem_of_find?_eq_some hf)
    have hl := of_decide_eq_true hp
    obtain ⟨x, hx⟩ := List.exists_mem_of_ne_nil _ hl
    unfold later at hx
    rw [List.mem_filter, rg_mem] at hx
    subst hr
    exact ⟨rfl, by omega⟩
/-- what the longest is -/
def LT (row res : List Int) : Prop := ∃ size a b : Int, res = [size, a, b] ∧ 1 ≤ size ∧ ftF (trs row size) = some [a, b] ∧ ftF (trs row (size + 1)) = none ∧ ∀ s, 1 ≤ s → s < size → ftF (trs row (s + 1)) ≠ none
theorem LT.uniq {row r r' : List Int} (h : LT row r) (h' : LT row r') : r = r' := by
  obtain ⟨s, a, b, e, h1, h2, h3, h4⟩ := h
  obtain ⟨s', a', b', e', h1', h2', h3', h4'⟩ := h'
  have : s = s' := by
    rcases Int.lt_trichotomy s s' with z | z | z
    · exact absurd h3 (h4' s h1 z)
    · exact z
    · exact absurd h3' (h4 s' h1' z)
  subst this
  rw [h2] at h2'
  have e2 : [a, b] = [a', b'] := by simpa using h2'
  cases e2
  rw [e, e']
theorem LT.mk {row : List Int} {size : Int} {r : List Int} (h1 : 1 ≤ size) (h2 : ftF (trs row size) = some r) (h3 : ftF (trs row (size + 1)) = none) (h4 : ∀ s, 1 ≤ s → s < size → ftF (trs row (s + 1)) ≠ none) : LT row (size :: r) := by
  have hl := (ft_len h2).1
  match r, hl with
  | [a, b], _ => exact ⟨size, a, b, rfl, h1, h2, h3, h4⟩
theorem LT.out {row r : List Int} (h : LT row r) : (r.length = 3 ∧ 0 < gt r 0) ∧ ftF (trs row (gt r 0)) = some (sl r (some 1) none) ∧ ftF (trs row (gt r 0 + 1)) = none := by
  obtain ⟨s, a, b, e, h1, h2, h3, h4⟩ := h
  subst e
  have e0 : gt [s, a, b] 0 = s := rfl
  rw [e0]
  exact ⟨⟨rfl, by omega⟩, h2, h3⟩
/-! in two rows -/
def fbF (ts us : List (List Int)) : Option (List Int) := ((rg 0 ts.length).find? fun one => decide (gt ts one ∈ us)).map fun one => [one, ((us.idxOf (gt ts one) : Nat) : Int)]
theorem fb_len {r : List Int} (h : fbF ts us = some r) : r.length = 2 ∧ 1 ≤ ts.length := by
  unfold fbF at h
  cases hf : (rg 0 ts.length).find? fun one => decide (gt ts one ∈ us) with
  | none => rw [hf] at h; cases h
  | some o =>
    rw [hf] at h
    have hr : [o, ((us.idxOf (gt ts o) : Nat) : Int)] = r := by simpa using h
    have hm := rg_mem.mp (List.mem_of_find?_eq_some hf)
    subst hr
    exact ⟨rfl, by omega⟩
def LB2 (one other res : List Int) : Prop := ∃ size a b : Int, res = [size, a, b] ∧ 1 ≤ size ∧ fbF (trs one size) (trs other size) = some [a, b] ∧ fbF (trs one (size + 1)) (trs other (size + 1)) = none ∧ ∀ s, 1 ≤ s → s < size → fbF (trs one (s + 1)) (trs other (s + 1)) ≠ none
theorem LB2.uniq {one other r r' : List Int} (h : TM.LB2 one other r) (h' : TM.LB2 one other r') : r = r' := by
  obtain ⟨s, a, b, e, h1, h2, h3, h4⟩ := h
  obtain ⟨s', a', b', e', h1', h2', h3', h4'⟩ := h'
  have : s = s' := by
    rcases Int.lt_trichotomy s s' with z | z | z
    · exact absurd h3 (h4' s h1 z)
    · exact z
    · exact absurd h3' (h4 s' h1' z)
  subst this
  rw [h2] at h2'
  have e2 : [a, b] = [a', b'] := by simpa using h2'
  cases e2
  rw [e, e']
open Classical in
noncomputable def ltF (row : List Int) : List Int := if h : ∃ r, LT row r then Classical.choose h else []
open Classical in
noncomputable def lbF (one other : List Int) : List Int := if h : ∃ r, LB2 one other r then Classical.choose h else []
theorem LB2.mk {one other : List Int} {size : Int} {r : List Int} (h1 : 1 ≤ size) (h2 : fbF (trs one size) (trs other size) = some r) (h3 : fbF (trs one (size + 1)) (trs other (size + 1)) = none) (h4 : ∀ s, 1 ≤ s → s < size → fbF (trs one (s + 1)) (trs other (s + 1)) ≠ none) : LB2 one other (size :: r) := by
  have hl := (fb_len h2).1
  match r, hl with
  | [a, b], _ => exact ⟨size, a, b, rfl, h1, h2, h3, h4⟩
theorem LB2.out {one other r : List Int} (h : LB2 one other r) : (r.length = 3 ∧ 0 < gt r 0) ∧ fbF (trs one (gt r 0)) (trs other (gt r 0)) = some (sl r (some 1) none) ∧ fbF (trs one (gt r 0 + 1)) (trs other (gt r 0 + 1)) = none := by
  obtain ⟨s, a, b, e, h1, h2, h3, h4⟩ := h
  subst e
  have e0 : gt [s, a, b] 0 = s := rfl
  rw [e0]
  exact ⟨⟨rfl, by omega⟩, h2, h3⟩
theorem LT.big {row r : List Int} (h : LT row r) : gt r 0 ≤ row.length := by
  obtain ⟨s, a, b, e, h1, h2, h3, h4⟩ := h
  subst e
  have h5 := (ft_len h2).2
  rw [trs_len] at h5
  show s ≤ _
  omega
theorem LB2.big {one other r : List Int} (h : LB2 one other r) : gt r 0 ≤ one.length := by
  obtain ⟨s, a, b, e, h1, h2, h3, h4⟩ := h
  subst e
  have h5 := (fb_len h2).2
  rw [trs_len] at h5
  show s ≤ _
  omega
/-! where each tree came first -/
section
variable {d : List (List Int × Int)}
end
open Classical in
open Classical in
end
end TM


set_option Elab.async false
set_option linter.all false
set_option maxRecDepth 100000
set_option maxHeartbeats 1000000
/-! ### orders of a tree, reckoned span by span from the deepest places on -/
namespace TM
open GL
/-- the ways that p things and q things pass one another -/
def wy (p : Nat) : Nat → Int
  | 0 => 1
  | i + 1 => wy p i * ((p : Int) + i + 1) / ((i : Int) + 1)
def wyT : Bool := (List.range 41).all fun p => (List.range 41).all fun q => decide (40 < p + q) || (decide (1 ≤ wy p q) && decide (wy p q ≤ 2 ^ 62))
def wyF (p q : Int) : Int := wy p.toNat q.toNat
/-! places and their stretches -/
structure Pl (t : List Int) (p a b : Nat) : Prop where
  s : Seg t a b (nb t p)
  h1 : a ≤ p
  h2 : p < b
  hi : ∀ q : Nat, a ≤ q → q < b → q ≠ p → (a : Int) ≤ nb t q ∧ nb t q < b
  l : Seg t a p p
  r : Seg t (p + 1) b p
theorem place {t : List Int} : ∀ (n a b : Nat) (e : Int), b - a ≤ n → Seg t a b e → ∀ p, a ≤ p → p < b → ∃ a' b', Pl t p a' b'
  | 0, a, b, e, hn, s, p, h1, h2 => by omega
  | n + 1, a, b, e, hn, s, p, h1, h2 => by
    obtain ⟨h, k1, k2, k3, k4, k5, k6⟩ := s.head (by omega)
    rcases Nat.lt_trichotomy p h with z | z | z
    · exact place n a h h (by omega) k5 p h1 z
    · subst z
      exact ⟨a, b, by rw [k3]; exact s, k1, k2, k4, k5, k6⟩
    · exact place n (h + 1) b h (by omega) k6 p z h2
def lo (t : List Int) (p : Nat) : Nat := (spanT t (p : Int)).1.toNat
def hiP (t : List Int) (p : Nat) : Nat := ((spanT t (p : Int)).2 + 1).toNat
theorem Pl.left {t : List Int} {e A B c : Nat} (P : Pl t e A B) (hc : c < t.length) (h : nb t c = e) (hlt : c < e) : Pl t c A e := by
  have hAc : A ≤ c := by
    rcases Nat.lt_or_ge c A with z | z
    · have h1 := P.h1
      have h2 := P.h2
      rcases P.s.sep c hc (.inl z) with y | y <;> omega
    · exact z
  obtain ⟨h', k1, k2, k3, k4, k5, k6⟩ := P.l.head (by omega)
  have : c = h' := by
    apply Classical.byContradiction
    intro z
    have := k4 c hAc hlt z
    omega
  subst this
  exact ⟨by rw [h]; exact P.l, k1, k2, k4, k5, k6⟩
theorem Pl.right {t : List Int} {e A B c : Nat} (P : Pl t e A B) (hc : c < t.length) (h : nb t c = e) (hlt : e < c) : Pl t c (e + 1) B := by
  have hcB : c < B := by
    rcases Nat.lt_or_ge c B with z | z
    · exact z
    · have h1 := P.h1
      have h2 := P.h2
      rcases P.s.sep c hc (.inr z) with y | y <;> omega
  obtain ⟨h', k1, k2, k3, k4, k5, k6⟩ := P.r.head (by omega)
  have : c = h' := by
    apply Classical.byContradiction
    intro z
    have := k4 c hlt hcB z
    omega
  subst this
  exact ⟨by rw [h]; exact P.r, k1, k2, k4, k5, k6⟩
/-- how many orders a stretch has -/
def prs (t : List Int) (a b : Nat) : Int := pr ((List.range' a (b - a)).map fun p : Nat => szN t t.length (p : Int))
def Fs (t : List Int) (a b : Nat) : Int := ((fct (b - a) : Nat) : Int) / prs t a b
end TM


set_option Elab.async false
set_option linter.all false
set_option maxRecDepth 100000
set_option maxHeartbeats 1000000
/-! ### .. the state of that reckoning -/
namespace TM
open GL
def rkU (t : List Int) (q : Nat) : Nat := (ups t (q : Int)).length
/-- those that are done -/
def pc (t : List Int) (deep : Int) (i q : Nat) : Bool := decide (deep < (rkU t q : Int) ∨ ((rkU t q : Int) = deep ∧ q < i))
def lf (t : List Int) (D : Nat → Bool) (p : Nat) : Bool := (List.range t.length).any fun c => D c && decide (nb t c = (p : Int) ∧ c < p)
def rt (t : List Int) (D : Nat → Bool) (p : Nat) : Bool := (List.range t.length).any fun c => D c && decide (nb t c = (p : Int) ∧ p < c)
def sdP (t : List Int) (D : Nat → Bool) (p : Nat) : List Int := [if lf t D p = true then (p : Int) - lo t p else 0, if rt t D p = true then (hiP t p : Int) - p - 1 else 0]
def mnP (t : List Int) (D : Nat → Bool) (p : Nat) : Int := (if D p = true then wy (p - lo t p) (hiP t p - (p + 1)) else 1) * (if lf t D p = true then Fs t (lo t p) p else 1) * (if rt t D p = true then Fs t (p + 1) (hiP t p) else 1)
def sdF (t : List Int) (D : Nat → Bool) : List (List Int) := (List.range t.length).map (sdP t D)
def mnF (t : List Int) (D : Nat → Bool) : List Int := (List.range t.length).map (mnP t D)
def FsP (t : List Int) (p : Nat) : Int := Fs t (lo t p) (hiP t p)
def szQ (t : List Int) (p : Nat) : Int := (hiP t p : Int) - lo t p
section
variable {t : List Int} (ht : isTree t = true) {D D' : Nat → Bool} {p : Nat} (hp : p < t.length)
include ht hp
end
end TM


set_option Elab.async false
set_option linter.all false
set_option maxRecDepth 100000
set_option maxHeartbeats 1000000
/-! ### .. its loops -/
namespace TM
open GL
section
variable {t : List Int} {D D' : Nat → Bool}
end
/-! all orders of few places -/
def ordN : Nat → List (List Int)
  | 0 => [[]]
  | n + 1 => (ordN n).flatMap fun row => (rg 0 ((n : Int) + 1)).map fun a => sl row none (some a) ++ [(n : Int)] ++ sl row (some a) none
def ordC (n : Nat) : Bool := (allT n).all fun t => decide (mo t = (((ordN n).filter fun row => decide (treeOf row = t)).length : Int))
end TM
namespace TM
open GL
def ordL (n : Nat) : Bool := decide ((ordN n).length ≤ 120) && (ordN n).all fun r => decide (r.length ≤ 5)
def ordX (number : Int) (row : List Int) : List (List Int) := (rg 0 (number + 1)).map fun a => sl row none (some a) ++ [number] ++ sl row (some a) none
end TM
namespace TM
open GL
end TM


set_option linter.all false
set_option maxHeartbeats 1000000
namespace TM
open GL
/-! ### rows grown and shrunk -/
def mel (begin e : Int) : Option Int := if e < 0 then none else some (begin + e)
def marked (numbers : List Int) (begin : Int) : List (Int × Option Int) := (enu (treeOf numbers)).map fun z => (begin + z.1, mel begin z.2)
def markedT (numbers : List Int) (begin : Int) (i : Nat) : List (Int × Option Int) := ((enu (treeOf numbers)).take i).map fun z => (begin + z.1, mel begin z.2)
def chgP (ahead behind : List (Int × Option Int)) (m : Int) : Bool := decide ((dget behind m).isSome = true ∧ ¬ dgetV ahead m = dgetV behind m)
def chgL (ahead behind : List (Int × Option Int)) (ms : List Int) : List (Int × Option Int × Option Int) := (ms.filter (chgP ahead behind)).map fun m => (m, dgetV ahead m, dgetV behind m)
def chg (ahead behind : List (Int × Option Int)) : List (Int × Option Int × Option Int) := chgL ahead behind (isort (ahead.map Prod.fst))
def fm (n : List Int) (m : Int) : Int := if n.length = 0 then 0 else m
abbrev GS := List Int × Int × List (List Int × Int) × Unit
def led (n : List Int) (b way x : Int) : List Int × Int :=
  if way = 0 then ([x] ++ n, b - (if decide (0 < (n.length : Int)) = true then 1 else 0)) else if way = 1 then (n ++ [x], b) else if way = 2 then (sl n (some 1) none, (b + 1) * (if decide (1 < (n.length : Int)) = true then 1 else 0)) else (sl n none (some (-1)), b * (if decide (1 < (n.length : Int)) = true then 1 else 0))
def done (g : GS) (way x : Int) : GS :=
  if way = 0 then ([x] ++ g.1, fm g.1 g.2.1 - (if decide ((0 : Int) < (g.1.length : Int)) = true then 1 else 0), g.2.2.1 ++ [(g.1, g.2.1)], ()) else if way = 1 then (g.1 ++ [x], fm g.1 g.2.1, g.2.2.1 ++ [(g.1, g.2.1)], ()) else if way = 2 then (sl g.1 (some 1) none, g.2.1 + 1, g.2.2.1 ++ [(g.1, g.2.1)], ()) else (sl g.1 none (some (-1)), g.2.1, g.2.2.1 ++ [(g.1, g.2.1)], ())
def backed (g : GS) : GS := if g.2.2.1 = [] then g else ((gtB g.2.2.1 1).1, (gtB g.2.2.1 1).2, g.2.2.1.dropLast, ())
def Gone (g p : List (List Int × Int)) : Prop := p = g.map fun z => (z.1, fm z.1 z.2)
/-- from b to a at most one mark has another elder -/
def Nb (a b : List Int × Int) : Prop := (chg (marked b.1 b.2) (marked a.1 a.2)).length ≤ 1 ∧ a.1.length ≤ 40
def Near (p : List (List Int × Int)) (c : List Int × Int) : Prop := p ≠ [] → Nb (gtB p 1) c
def Lin (p : List (List Int × Int)) (c : List Int × Int) : Prop := ∀ (i : Nat) (a b : List Int × Int), p[i]? = some a → (p ++ [c])[i + 1]? = some b → Nb a b
def J (g : GS) (p : List (List Int × Int)) (n : List Int) (b : Int) : Prop := g.1 = n ∧ fm g.1 g.2.1 = b ∧ Gone g.2.2.1 p ∧ Lin p (n, b) ∧ n.length ≤ 40
/-- a mark in both, with another elder -/
def Dif (n' : List Int) (b' : Int) (n : List Int) (b m : Int) : Prop := (b' ≤ m ∧ m < b' + n'.length) ∧ (b ≤ m ∧ m < b + n.length) ∧ mel b' (eld n' n'.length (m - b').toNat) ≠ mel b (eld n n.length (m - b).toNat)
theorem Dif.symm {n' n : List Int} {b' b m : Int} (h : Dif n' b' n b m) : Dif n b n' b' m := ⟨h.2.1, h.1, fun z => h.2.2 z.symm⟩
/-! a number behind -/
/-! a number ahead -/
end TM


set_option linter.all false
set_option maxHeartbeats 1000000
namespace TM
open GL
end TM
namespace TM
open GL
end TM


set_option linter.all false
set_option maxHeartbeats 1000000
namespace TM
open GL
/-! ### deeds that may be refused (k74) -/
abbrev CHL := List (Int × Option Int × Option Int)
inductive Heard (xT xE xP xN : Addr) (g : GS) (way x : Int) : Option (Sum Addr (Sum CHL (List (Option Int)))) → GS → Prop where
  | big : way < 2 → 40 ≤ g.1.length → Heard xT xE xP xN g way x (some (Sum.inl xT)) g
  | small : 2 ≤ way → way < 4 → g.1 = [] → Heard xT xE xP xN g way x (some (Sum.inl xE)) g
  | past : way = 4 → g.2.2.1 = [] → Heard xT xE xP xN g way x (some (Sum.inl xP)) g
  | place : 4 < way → dget (marked g.1 g.2.1) x = none → Heard xT xE xP xN g way x (some (Sum.inl xN)) g
  | elder : 4 < way → dget (marked g.1 g.2.1) x ≠ none → Heard xT xE xP xN g way x (some (Sum.inr (Sum.inr [dgetV (marked g.1 g.2.1) x]))) g
  | deed (l : CHL) : way < 4 → ¬ (way < 2 ∧ 40 ≤ g.1.length) → ¬ (2 ≤ way ∧ g.1 = []) → Heard xT xE xP xN g way x (some (Sum.inr (Sum.inl l))) (done g way x)
  | back (l : CHL) : way = 4 → g.2.2.1 ≠ [] → Heard xT xE xP xN g way x (some (Sum.inr (Sum.inl l))) (backed g)
def dueN (way many : Int) (past : List (List Int × Int)) : Option Int :=
  if way < 2 ∧ many = 40 then some 2 else if (way = 2 ∨ way = 3) ∧ many = 0 then some 1 else if way = 4 ∧ past = [] then some 7 else none
end TM


set_option linter.all false
set_option maxHeartbeats 1000000
namespace TM
open GL
/-! ### the watch -/
def dbk (given : List Int) (x : Int) : Int := bk (given ++ [x]) given.length
def rcGo (b bd : List Int) (far : Int) : Nat → Int → Int
  | 0, m => m
  | f + 1, m => if gt b m = cutb far m then m else rcGo b bd far f (gt bd (m - 1))
def rc0 (b bd : List Int) (m : Int) : Int := if m = b.length then gt bd (m - 1) else m
def rc (b bd : List Int) (far m : Int) : Int := rcGo b bd far (b.length + 1) (rc0 b bd m) + 1
abbrev Wst := List (List Int) × List (List Int) × List Int × List (List Int) × Unit
def lens (s : Wst) (x : Int) : List Int := (rg 0 s.1.length).map fun at_ => rc (gt s.1 at_) (gt s.2.1 at_) (dbk s.2.2.1 x) (gt (gtB s.2.2.2.1 1) at_)
def tells (s : Wst) (x : Int) : List Int := (rg 0 (lens s x).length).filter fun at_ => decide (gt (lens s x) at_ = ((gt s.1 at_).length : Int))
def given1 (s : Wst) (x : Int) : Wst := (s.1, s.2.1, s.2.2.1 ++ [x], s.2.2.2.1 ++ [lens s x], ())
def back1 (s : Wst) : Wst := (s.1, s.2.1, s.2.2.1.dropLast, s.2.2.2.1.dropLast, ())
structure RowOk (b bd : List Int) (m : Int) : Prop where
  b0 : 0 < b.length
  bl : b.length ≤ 12
  dl : bd.length = b.length
  g0 : gt b 0 = 0
  m0 : 0 ≤ m
  ml : m ≤ b.length
  go : ∀ t : Int, 1 ≤ t → t ≤ b.length → 0 ≤ gt bd (t - 1) ∧ gt bd (t - 1) < t
structure WOk (s : Wst) : Prop where
  l2 : s.2.1.length = s.1.length
  ne : s.2.2.2.1 ≠ []
  l3 : (gtB s.2.2.2.1 1).length = s.1.length
  few : s.1.length ≤ 12
  big : s.2.2.1.length ≤ 1000
  lb : s.2.2.2.1.length ≤ 2000
  row : ∀ i : Int, 0 ≤ i → i < s.1.length → RowOk (gt s.1 i) (gt s.2.1 i) (gt (gtB s.2.2.2.1 1) i)
/-- the loop's word -/
def RcI (b bd : List Int) (far m0 m : Int) : Prop := (0 ≤ m ∧ m < b.length) ∧ ∃ f : Nat, m < f ∧ rcGo b bd far (b.length + 1) m0 = rcGo b bd far f m
/-! ### what the watch knows, by rows and numbers -/
def rchGo (row text : List Int) : Nat → Nat
  | 0 => 0
  | n + 1 => if n + 1 ≤ text.length ∧ kinB (row.take (n + 1)) (text.drop (text.length - (n + 1))) = true then n + 1 else rchGo row text n
/-- the most numbers of the row's beginning that the text's end is kin to -/
def rch (row text : List Int) : Int := rchGo row text row.length
/-- the watch of these rows with these numbers given -/
noncomputable def wS (rows : List (List Int)) (given : List Int) : Wst := (rows.map backs, rows.map borders, given, (List.range (given.length + 1)).map fun i => rows.map fun r => rch r (given.take i), ())
def RowsOk (rows : List (List Int)) : Prop := (0 < rows.length ∧ rows.length ≤ 12) ∧ ∀ r ∈ rows, 1 ≤ r.length ∧ r.length ≤ 12
/-- the rows that end here -/
def ended (rows : List (List Int)) (text : List Int) : List Int := (rg 0 rows.length).filter fun at_ => decide (rch (gt rows at_) text = ((gt rows at_).length : Int))
def reachNow (s : Wst) : Int := lmax (gtB s.2.2.2.1 1)
end TM
namespace TM
open GL
end TM


set_option linter.all false
set_option maxHeartbeats 1000000
namespace TM
open GL
/-! ### k49: watched, sought and grouped -/
/-- where a row ends in a text's first numbers -/
def endsB (row text : List Int) (i : Nat) : List Int := ((List.range i).filter fun j => decide (rch row (text.take (j + 1)) = (row.length : Int))).map fun (j : Nat) => (j : Int) + 1
def mostB (row text : List Int) : Nat → Int
  | 0 => 0
  | i + 1 => max (mostB row text i) (rch row (text.take (i + 1)))
/-! the row itself -/
/-! windows -/
end TM
namespace TM
open GL
structure Own (row : List Int) (w : Wst) (x : Int) : Prop where
  g : given1 w x = wS [row] (row ++ [x])
  b : back1 (wS [row] (row ++ [x])) = wS [row] row
  b2 : back1 (wS [row] row) = wS [row] row.dropLast
  k0 : WOk w
  k1 : WOk (wS [row] row)
  k2 : WOk (wS [row] (row ++ [x]))
  k3 : WOk (wS [row] row.dropLast)
  r1 : reachNow (wS [row] row) = row.length
  r2 : reachNow (wS [row] (row ++ [x])) ≤ gtB (borders row) 1 + 1
  r3 : reachNow (wS [row] row.dropLast) = (row.length : Int) - 1
end TM
namespace TM
open GL
end TM
namespace TM
open GL
end TM


set_option linter.all false
set_option maxHeartbeats 1000000
namespace TM
open GL
/-! ### k92: starts by a watch -/
/-- what a watch of the rows tells, number by number -/
def toldW (rows : List (List Int)) (text : List Int) (n : Nat) : List (List Int) := (List.range n).map fun i => ended rows (text.take (i + 1))
/-! reached -/
/-- the sizes that are found, of the first rows -/
structure Szs (rows : List (List Int)) (text : List Int) (n : Nat) (sizes : List Int) : Prop where
  z : 0 ∈ sizes
  nn : ∀ s ∈ sizes, 0 ≤ s
  lt : ∀ s ∈ sizes, s = 0 ∨ ∃ r ∈ rows.take n, s ≤ rch r text
  has : ∀ r ∈ rows.take n, rch r text ∈ sizes
  len : sizes.length ≤ 1 + 12 * n
structure Sz1 (rows : List (List Int)) (text row : List Int) (n : Nat) (k : Nat) (sizes : List Int) : Prop where
  z : 0 ∈ sizes
  nn : ∀ s ∈ sizes, 0 ≤ s
  lt : ∀ s ∈ sizes, s = 0 ∨ (∃ r ∈ rows.take n, s ≤ rch r text) ∨ s ≤ rch row text
  has : ∀ r ∈ rows.take n, rch r text ∈ sizes
  own : rch row text ≤ k → rch row text ∈ sizes
  len : sizes.length ≤ 1 + 12 * n + k
/-! the row itself, from its second number on -/
end TM
namespace TM
open GL
end TM


set_option linter.all false
set_option maxHeartbeats 1000000
namespace TM
open GL
/-! ### k95: a grown row and a watch -/
/-- the trees of the last numbers -/
def lastsT (numbers : List Int) : List (List Int) := (rg 1 (min 12 (numbers.length : Int) + 1)).map fun size => treeOf (sl (flatF (treeOf numbers)) (some ((numbers.length : Int) - size)) (some ((numbers.length : Int) - 1 + 1)))
/-- the most that is reached, of the first rows -/
structure MR (rows : List (List Int)) (numbers : List Int) (n : Nat) (m : Int) : Prop where
  nn : 0 ≤ m
  at_ : m = 0 ∨ ∃ r ∈ rows.take n, m ≤ rch r numbers
  all : ∀ r ∈ rows.take n, rch r numbers ≤ m
structure MR1 (rows : List (List Int)) (numbers row : List Int) (n k : Nat) (m : Int) : Prop where
  nn : 0 ≤ m
  at_ : m = 0 ∨ (∃ r ∈ rows.take n, m ≤ rch r numbers) ∨ m ≤ rch row numbers
  all : ∀ r ∈ rows.take n, rch r numbers ≤ m
  own : rch row numbers ≤ k → rch row numbers ≤ m
/-! both -/
structure WG (rows : List (List Int)) (w : Wst) (g : GS) (n : Nat) : Prop where
  w : w = wS rows g.1
  len : g.1.length ≤ n
  past : g.2.2.1.length ≤ 2 * n
end TM
namespace TM
open GL
structure WG2 (rows : List (List Int)) (w : Wst) (g : GS) (n : Nat) : Prop where
  w : w = wS rows g.1
  len : g.1.length ≤ n
  past : g.2.2.1.length ≤ 2 * n + 1
end TM


set_option linter.all false
set_option maxHeartbeats 1000000
namespace TM
open GL
/-! ### k44: numbers taken back -/
def begT (row : List Int) : List (List Int) := (rg 1 ((row.length : Int) + 1)).map fun k => treeOf (sl row none (some k))
def begsT (rows : List (List Int)) : List (List (List Int)) := rows.map begT
/-- how many of a row's beginnings' trees the given numbers' end reaches -/
def rcTGo (begun : List (List Int)) (given : List Int) : Nat → Nat
  | 0 => 0
  | n + 1 => if n + 1 ≤ given.length ∧ gt begun (n : Int) = treeOf (given.drop (given.length - (n + 1))) then n + 1 else rcTGo begun given n
def rcT (begun : List (List Int)) (given : List Int) : Int := rcTGo begun given begun.length
def endT (trees : List (List (List Int))) (given : List Int) (n : Nat) : List Int := (rg 0 (n : Int)).filter fun at_ => decide (rcT (gt trees at_) given = ((gt trees at_).length : Int))
def mostT (trees : List (List (List Int))) (given : List Int) : Int := lmax (trees.map fun b => rcT b given)
/-! the loops -/
def lastT (given : List Int) : List (List Int) := (rg 1 (min 12 (given.length : Int) + 1)).map fun k => treeOf (sl given (some (-k)) none)
structure ET (trees : List (List (List Int))) (given : List Int) (n : Nat) (ended_ : List Int) (m : Int) : Prop where
  e : ended_ = endT trees given n
  nn : 0 ≤ m
  at_ : m = 0 ∨ ∃ b ∈ trees.take n, m ≤ rcT b given
  all : ∀ b ∈ trees.take n, rcT b given ≤ m
structure ET1 (trees : List (List (List Int))) (given : List Int) (begun : List (List Int)) (n k : Nat) (ended_ : List Int) (m : Int) : Prop where
  e : ended_ = endT trees given n ++ (if begun.length ≤ k ∧ rcT begun given = (begun.length : Int) then [(n : Int)] else [])
  nn : 0 ≤ m
  at_ : m = 0 ∨ (∃ b ∈ trees.take n, m ≤ rcT b given) ∨ m ≤ rcT begun given
  all : ∀ b ∈ trees.take n, rcT b given ≤ m
  own : rcT begun given ≤ k → rcT begun given ≤ m
/-! numbers taken back -/
def backW (w : Wst) : Wst := if w.2.2.1 = [] then w else back1 w
structure WV (rows : List (List Int)) (w : Wst) (given : List Int) (n : Nat) : Prop where
  w : w = wS rows given
  len : given.length ≤ n
end TM
namespace TM
open GL
end TM


set_option linter.all false
set_option maxHeartbeats 1000000
namespace TM
open GL
/-! ### places paired anew -/
variable {B : List (List Int)} {u u' : List (Option Int)} {a b x : Int} {seen seen' : List Int}
def BOk (B : List (List Int)) : Prop := B.length ≤ 40 ∧ ∀ a : Int, ∀ b ∈ gt B a, 0 ≤ b ∧ b < B.length
def UOk (B : List (List Int)) (u : List (Option Int)) : Prop := u.length = B.length ∧ ∀ b : Int, 0 ≤ b → b < B.length → ∀ a, gt u b = some a → (0 ≤ a ∧ a < B.length) ∧ b ∈ gt B a
def InR (B : List (List Int)) (seen : List Int) : Prop := seen.Nodup ∧ ∀ x ∈ seen, 0 ≤ x ∧ x < B.length
structure PIn (B : List (List Int)) (u : List (Option Int)) (a : Int) (seen : List Int) : Prop where
  bo : BOk B
  uo : UOk B u
  ar : 0 ≤ a ∧ a < B.length
  sr : InR B seen
def Cl (B : List (List Int)) (u : List (Option Int)) (U S : Int → Prop) : Prop := (∀ a, U a → ∀ b ∈ gt B a, S b) ∧ ∀ b, S b → (0 ≤ b ∧ b < B.length) ∧ ∃ v, gt u b = some v ∧ U v
structure POut (B : List (List Int)) (u : List (Option Int)) (a : Int) (seen : List Int) (res : Bool) (u' : List (Option Int)) (seen' : List Int) : Prop where
  uo : UOk B u'
  sr : InR B seen'
  sub : (∀ x ∈ seen, x ∈ seen') ∧ seen.length ≤ seen'.length
  keep : ∀ x ∈ seen, gt u' x = gt u x
  yes : res = true → ∀ v, u'.count (some v) = u.count (some v) + if v = a then 1 else 0
  no : res = false → u' = u ∧ (∀ b ∈ gt B a, b ∈ seen') ∧ ∀ b ∈ seen', b ∉ seen → ∃ v, gt u b = some v ∧ ∀ c ∈ gt B v, c ∈ seen'
  cl : ∀ U S, Cl B u U S → (U a → res = false) ∧ ∀ b, S b → gt u' b = gt u b
structure PLoop (B : List (List Int)) (u : List (Option Int)) (a : Int) (seen0 : List Int) (i : Nat) (seen : List Int) : Prop where
  sr : InR B seen
  sub : (∀ x ∈ seen0, x ∈ seen) ∧ seen0.length ≤ seen.length
  done : ∀ b ∈ (gt B a).take i, b ∈ seen
  mate : ∀ b ∈ seen, b ∉ seen0 → ∃ v, gt u b = some v ∧ ∀ c ∈ gt B v, c ∈ seen
/-! ### each place paired -/
structure UpI (B : List (List Int)) (u : List (Option Int)) (i : Nat) : Prop where
  bo : BOk B
  uo : UOk B u
  one : ∀ v, u.count (some v) ≤ 1
  late : ∀ v : Int, (i : Int) ≤ v → u.count (some v) = 0
  cl : ∀ v : Int, 0 ≤ v → v < i → u.count (some v) = 0 → ∃ U S, Cl B u U S ∧ U v
structure UpOk (B : List (List Int)) (u : List (Option Int)) : Prop where
  bo : BOk B
  uo : UOk B u
  one : ∀ v, u.count (some v) ≤ 1
  cl : ∀ v : Int, 0 ≤ v → v < B.length → u.count (some v) = 0 → ∃ U S, Cl B u U S ∧ U v
end TM


set_option linter.all false
set_option maxHeartbeats 1000000
namespace TM
open GL
variable {B : List (List Int)} {u : List (Option Int)} {a b x at_ : Int} {above met : List Int}
/-! ### unpaired -/
def UU (B : List (List Int)) (u : List (Option Int)) (v : Int) : Prop := ∃ U S, Cl B u U S ∧ U v
def SS (B : List (List Int)) (u : List (Option Int)) (b : Int) : Prop := ∃ U S, Cl B u U S ∧ S b
def ab0 (u : List (Option Int)) : List Int := (rg 0 (u.length : Int)).filter fun c => decide (¬ some c ∈ u)
structure AbI (B : List (List Int)) (u : List (Option Int)) (above met : List Int) (at_ : Int) : Prop where
  h0 : 0 ≤ at_
  e : above = ab0 u ++ met.map fun b => oget (gt u b)
  m : InR B met
  ss : ∀ b ∈ met, SS B u b
  fr : ∀ b ∈ met, ∃ a ∈ above, b ∈ gt B a
  done : ∀ (k : Nat) v, (k : Int) < at_ → above[k]? = some v → ∀ c ∈ gt B v, c ∈ met
structure AbL (B : List (List Int)) (u : List (Option Int)) (a : Int) (i : Nat) (above met : List Int) (at_ : Int) : Prop where
  ai : AbI B u above met at_
  at_ : above[at_.toNat]? = some a
  r : ∀ c ∈ (gt B a).take i, c ∈ met
def Trn (B : List (List Int)) : Prop := ∀ a b c : Int, (0 ≤ a ∧ a < B.length) → b ∈ gt B a → c ∈ gt B b → c ∈ gt B a
structure UnOk (B : List (List Int)) (u : List (Option Int)) (kept : List Int) : Prop where
  rise : kept.Pairwise (· < ·)
  r : ∀ p ∈ kept, 0 ≤ p ∧ p < B.length
  no : ∀ a ∈ kept, ∀ b ∈ gt B a, b ∉ kept
  many : Trn B → kept.length = (ab0 u).length
/-! ### chains -/
structure UOne (u : List (Option Int)) : Prop where
  len : u.length ≤ 40
  r : ∀ b : Int, 0 ≤ b → b < u.length → ∀ a, gt u b = some a → 0 ≤ a ∧ a < u.length
  one : ∀ v, u.count (some v) ≤ 1
def LwI (u lw : List (Option Int)) (i : Nat) : Prop := lw.length = u.length ∧ ∀ a : Int, 0 ≤ a → a < u.length → ∀ b, gt lw a = some b ↔ (0 ≤ b ∧ b < (i : Int) ∧ gt u b = some a)
structure ChW (u : List (Option Int)) (h : Int) (chain : List Int) : Prop where
  hd : chain[0]? = some h
  nn : gt u h = none
  nd : chain.Nodup
  r : ∀ x ∈ chain, 0 ≤ x ∧ x < u.length
  ln : ∀ (k : Nat) x y, chain[k]? = some x → chain[k + 1]? = some y → gt u y = some x
def GoodC (u : List (Option Int)) (c : List Int) : Prop := ∃ h, ChW u h c ∧ ∀ b : Int, 0 ≤ b → b < u.length → ¬ gt u b = some (gtB c 1)
structure ChI (u : List (Option Int)) (cs : List (List Int)) (i : Nat) : Prop where
  hd : cs.map (fun c => gt c 0) = (rg 0 (i : Int)).filter fun b => decide (gt u b = none)
  good : ∀ c ∈ cs, GoodC u c
def ChOk (u : List (Option Int)) (cs : List (List Int)) : Prop := ChI u cs u.length
/-! ### the row made -/
def leastK (row kept : List Int) : List Int := (rg 0 (row.length : Int)).map fun c => gt [dmin row 0 - (row.length : Int), gt row c] (if decide (c ∈ kept) = true then (1 : Int) else 0)
end TM


set_option linter.all false
set_option maxHeartbeats 1000000
namespace TM
open GL
variable {t row kept made : List Int} {a b c : Int} {chains : List (List Int)} {u : List (Option Int)}
/-! ### what clashes beneath each place -/
def benF (t row : List Int) : List (List Int) := (rg 0 (t.length : Int)).map fun c => ((clash t row).filter fun p => decide (p.1 = c)).map fun p => p.2
def MostR (t row : List Int) (r : List Int × List Int × List (List Int)) : Prop := isTree t = true ∧ row.length = t.length ∧ ∃ u, UpOk (benF t row) u ∧ UnOk (benF t row) u r.1 ∧ r.2.1 = rst t (leastK row r.1) ∧ ChOk u r.2.2
end TM
namespace TM
open GL
end TM


set_option linter.all false
set_option maxHeartbeats 1000000
namespace TM
open GL
variable {t row kept made : List Int} {a b c x : Int} {cs chains : List (List Int)} {u : List (Option Int)} {B : List (List Int)}
/-! ### chains part the places -/
/-! ### the row made keeps the kept numbers -/
end TM


set_option linter.all false
set_option maxHeartbeats 1000000
namespace TM
open GL PySem
variable {t row kept made S ls gs : List Int} {a b c x : Int} {cs chains : List (List Int)} {u : List (Option Int)} {B : List (List Int)} {r : List Int × List Int × List (List Int)}
/-! ### no more places without a clash than chains -/
def Ind (t row S : List Int) : Prop := ∀ a b : Int, (a, b) ∈ clash t row → a ∈ S → b ∈ S → False
structure Most (t row kept : List Int) (chains : List (List Int)) : Prop where
  rise : kept.Pairwise (· < ·)
  r : ∀ p ∈ kept, 0 ≤ p ∧ p < t.length
  ind : Ind t row kept
  all : ∀ S : List Int, S.Nodup → (∀ p ∈ S, 0 ≤ p ∧ p < t.length) → Ind t row S → S.length ≤ kept.length
  ch : ∀ c ∈ chains, c ≠ [] ∧ c.Nodup ∧ (∀ p ∈ c, 0 ≤ p ∧ p < t.length) ∧ ∀ (k : Nat) x y, c[k]? = some x → c[k + 1]? = some y → (x, y) ∈ clash t row
  places : chains.flatten.Perm (rg 0 (t.length : Int))
  many : chains.length = kept.length
/-! ### with bounds at some places -/
def lsK (row kept : List Int) (f : Int) : List Int := (rg 0 (row.length : Int)).map fun p => if p ∈ kept then gt row p else 0 - f
def gsK (row kept : List Int) (f : Int) : List Int := (rg 0 (row.length : Int)).map fun p => if p ∈ kept then gt row p else f
end TM
namespace TM
open GL PySem
variable {t row kept made S ls gs : List Int} {a b c x : Int} {cs chains : List (List Int)}
def indB (t row S : List Int) : Bool := !((clash t row).map fun c => decide (c.1 ∈ S) && decide (c.2 ∈ S)).any id
def PairsOf (t row kept : List Int) (pairs : List (Int × Int)) : Prop := ∀ a b : Int, (a, b) ∈ clash t row → a ∈ kept → b ∈ kept → (a, b) ∈ pairs
def farK (row : List Int) : Int := lmax (row.map fun x => ((x.natAbs : Nat) : Int)) + 100
end TM
namespace TM
open GL PySem
variable {t row kept made S ls gs c : List Int} {a b x y : Int}
end TM


set_option linter.all false
set_option maxHeartbeats 1000000
namespace TM
open GL PySem
variable {t row kept made S m2 : List Int} {a b c x most : Int} {chains : List (List Int)}
/-! ### all sets of places -/
def someF (n : Nat) (x : Int) : List Int := (rg 0 (n : Int)).filter fun c => decide ((x / 2 ^ c.toNat) % 2 ^ 1 = (1 : Int))
structure MostI (t kept : List Int) (i : Nat) (most : Int) : Prop where
  r : 0 ≤ most ∧ most ≤ kept.length
  done : ∀ j : Nat, j < i → someF t.length (j : Int) = kept → (kept.length : Int) ≤ most
/-! ### a row with some numbers -/
def mdB (t row kept : List Int) (b : Int) (L : List Int) (i : Nat) : List Int := (lmin row - 50 + gt (flatF t) b) :: (((L.take i).filter fun a => decide (a ∈ kept)).map fun a => gt row a + gt (flatF t) b - gt (flatF t) a)
def mdF (t row kept : List Int) : List Int := (rg 0 (t.length : Int)).map fun b => lmax (mdB t row kept b ([b] ++ ups t b) ([b] ++ ups t b).length)
end TM
namespace TM
open GL PySem
end TM


set_option linter.all false
set_option maxHeartbeats 1000000
namespace TM
open GL
/-! ### k48: that no longer stretch comes twice, shown -/
def pr2 (p : Int × Int) : List Int := [p.1, p.2]
def twosT (many : Int) (n : Nat) : List (List Int) := ((rg 0 many).take n).flatMap fun a => (rg (a + 1) many).map fun b => [a, b]
def twosB (many : Int) : List (List Int) := (rg 0 many).flatMap fun a => (rg (a + 1) many).map fun b => [a, b]
def win (row : List Int) (x size : Int) : List Int := sl row (some x) (some (x + size))
noncomputable def nlE (row : List Int) (size : Int) (t : List Int) : List Int := t ++ pr2 (oget (parted (win row (gt t 0) size) (win row (gt t 1) size)))
noncomputable def nlF (row : List Int) (size : Int) : List (List Int) := (twosB ((row.length : Int) - size + 1)).map (nlE row size)
def shB (row : List Int) (size : Int) (e : List Int) : Bool := decide (0 ≤ gt e 2 ∧ gt e 2 ≤ gt e 3 ∧ gt e 3 < size) && decide (low row (gt e 0 + gt e 2) (gt e 0 + gt e 3) - gt e 0 ≠ low row (gt e 1 + gt e 2) (gt e 1 + gt e 3) - gt e 1)
def nrB (row : List Int) (size : Int) (shown : List (List Int)) : Bool := decide ((shown.map fun e => sl e none (some 2)) = twosB ((row.length : Int) - size + 1)) && shown.all (shB row size)
end TM
namespace TM
open GL
end TM


set_option linter.all false
set_option maxHeartbeats 1000000
namespace TM
open GL
end TM
namespace TM
open GL
end TM
namespace TM
open GL
theorem sl_memB {α : Type} {l : List α} {o1 o2 : Option Int} {x : α} (h : x ∈ sl l o1 o2) : x ∈ l := by
  unfold sl at h
  exact List.mem_of_mem_drop (List.mem_of_mem_take h)
theorem sl1 {b : List (List Int)} {e : List Int} {o1 o2 : Option Int} (h : b.length ≤ 900000) : b.length + (sl [e] o1 o2).length ≤ 1000000 := by
  have := sl_len_le (l := [e]) o1 o2
  rw [List.length_singleton] at this
  omega
end TM


set_option linter.all false
set_option maxHeartbeats 1000000
namespace TM
open GL
/-! ### k65: the matching told as a relation, and told one alone -/
inductive Run (B : List (List Int)) : Int → List Int → List (Option Int) → List Int → Bool × List (Option Int) × List Int → Prop
  | nil {a u s} : Run B a [] u s (false, u, s)
  | skip {a b l u s o} : b ∈ s → Run B a l u s o → Run B a (b :: l) u s o
  | free {a b l u s} : b ∉ s → gt u b = none → Run B a (b :: l) u s (true, u.set b.toNat (some a), s ++ [b])
  | yes {a b l u s v u' s'} : b ∉ s → gt u b = some v → Run B v (gt B v) u (s ++ [b]) (true, u', s') → Run B a (b :: l) u s (true, u'.set b.toNat (some a), s')
  | no {a b l u s v u' s' o} : b ∉ s → gt u b = some v → Run B v (gt B v) u (s ++ [b]) (false, u', s') → Run B a l u' s' o → Run B a (b :: l) u s o
inductive UpR (B : List (List Int)) : Nat → List (Option Int) → Prop
  | zero : UpR B 0 (B.map fun _ => none)
  | step {i u r u' s'} : UpR B i u → Run B (i : Int) (gt B (i : Int)) u [] (r, u', s') → UpR B (i + 1) u'
/-! what the rest of the loop answers -/
def Lft (B : List (List Int)) (a : Int) (i : Nat) (u0 : List (Option Int)) (s0 : List Int) (u : List (Option Int)) (s : List Int) : Prop := ∀ o, Run B a ((gt B a).drop i) u s o → Run B a (gt B a) u0 s0 o
section
variable {B : List (List Int)} {a b v : Int} {i : Nat} {u0 u u' : List (Option Int)} {s0 s s' : List Int}
end
/-! which stay, told alone -/
def ClM (B : List (List Int)) (u : List (Option Int)) (M : Int → Prop) : Prop := ∀ a, (a ∈ ab0 u ∨ ∃ c, M c ∧ oget (gt u c) = a) → ∀ b ∈ gt B a, M b
def AbM (B : List (List Int)) (u : List (Option Int)) (met : List Int) : Prop := ∀ M : Int → Prop, ClM B u M → ∀ b ∈ met, M b
section
variable {B : List (List Int)} {u : List (Option Int)} {above met : List Int} {at_ a x : Int} {i : Nat}
/-- the stayers of a matching -/
def KeptR (B : List (List Int)) (u : List (Option Int)) (kept : List Int) : Prop := ∃ above met, above = ab0 u ++ (met.map fun b => oget (gt u b)) ∧ met.Nodup ∧ ClM B u (· ∈ met) ∧ AbM B u met ∧ kept = (isort above).filter fun c => decide (¬ c ∈ met)
end
end TM


set_option linter.all false
set_option maxHeartbeats 1000000
namespace TM
open GL
structure PO2 (B : List (List Int)) (u : List (Option Int)) (a : Int) (seen : List Int) (res : Bool) (u' : List (Option Int)) (seen' : List Int) : Prop where
  po : POut B u a seen res u' seen'
  run : Run B a (gt B a) u seen (res, u', seen')
section
variable {B : List (List Int)} {a x : Int} {i : Nat} {u u' : List (Option Int)} {s0 s s' : List Int} {r : Bool}
end
end TM


set_option linter.all false
set_option maxHeartbeats 1000000
namespace TM
open GL
/-- the rows of what is beneath, after some of the pairs -/
structure BnI (t row : List Int) (i : Nat) (b : List (List Int)) : Prop where
  len : b.length = t.length
  eq : ∀ a : Int, 0 ≤ a → a < t.length → gt b a = (((clash t row).take i).filter fun p => decide (p.1 = a)).map fun p => p.2
end TM
namespace TM
open GL
end TM
namespace TM
open GL
end TM
namespace TM
open GL
end TM
namespace TM
open GL
end TM
namespace TM
open GL
end TM
namespace TM
open GL
end TM


set_option linter.all false
set_option maxHeartbeats 1000000
namespace TM
namespace Lo
open GL
/-! ### where a tree's numbers can stand in a text with gaps -/
def _root_.TM.BT.isN : BT → Bool
  | .nil => true
  | _ => false
def okA (tx : List Int) (at_ j : Int) (o : Option (Int × Int)) : Bool := match o with
  | none => false
  | some q => decide (gt tx at_ < gt tx j) && decide (q.2 < at_)
def okB (tx : List Int) (at_ j : Int) (o : Option (Int × Int)) : Bool := match o with
  | none => false
  | some q => decide (gt tx at_ ≤ gt tx j) && decide (at_ < q.1)
def fsT (tx : List Int) (g : Int → Option (Int × Int)) (at_ : Int) : List Int := ((rg 0 at_).filter fun j => okA tx at_ j (g j)).map fun j => (oget (g j)).1
def lsT (tx : List Int) (g : Int → Option (Int × Int)) (at_ : Int) : List Int := ((rg (at_ + 1) tx.length).filter fun j => okB tx at_ j (g j)).map fun j => (oget (g j)).2
def comb (F L : List Int) : Option (Int × Int) := if F = [] ∨ L = [] then none else some (lmax F, lmin L)
def pr (tx : List Int) : BT → Int → Option (Int × Int)
  | .nil, _ => none
  | .node l _ r, at_ => comb (if l.isN then [at_] else fsT tx (pr tx l) at_) (if r.isN then [at_] else lsT tx (pr tx r) at_)
theorem okA_iff {tx : List Int} {a j : Int} {o : Option (Int × Int)} : okA tx a j o = true ↔ ∃ F E, o = some (F, E) ∧ gt tx a < gt tx j ∧ E < a := by
  unfold okA
  cases o with
  | none => simp
  | some q =>
    rw [Bool.and_eq_true, decide_eq_true_iff, decide_eq_true_iff]
    exact ⟨fun h => ⟨q.1, q.2, rfl, h⟩, fun ⟨F, E, e, h⟩ => by cases e; exact h⟩
theorem okB_iff {tx : List Int} {a j : Int} {o : Option (Int × Int)} : okB tx a j o = true ↔ ∃ F E, o = some (F, E) ∧ gt tx a ≤ gt tx j ∧ a < F := by
  unfold okB
  cases o with
  | none => simp
  | some q =>
    rw [Bool.and_eq_true, decide_eq_true_iff, decide_eq_true_iff]
    exact ⟨fun h => ⟨q.1, q.2, rfl, h⟩, fun ⟨F, E, e, h⟩ => by cases e; exact h⟩
theorem mem_fsT {tx : List Int} {g : Int → Option (Int × Int)} {a x : Int} : x ∈ fsT tx g a ↔ ∃ j E, 0 ≤ j ∧ j < a ∧ g j = some (x, E) ∧ gt tx a < gt tx j ∧ E < a := by
  unfold fsT
  rw [List.mem_map]
  constructor
  · rintro ⟨j, hj, e⟩
    obtain ⟨h1, h2⟩ := List.mem_filter.mp hj
    obtain ⟨F, E, e1, e2, e3⟩ := okA_iff.mp h2
    rw [e1] at e
    have h3 := rg_mem.mp h1
    exact ⟨j, E, h3.1, h3.2, by rw [e1, ← e]; rfl, e2, e3⟩
  · rintro ⟨j, E, h0, h1, e, h2, h3⟩
    exact ⟨j, List.mem_filter.mpr ⟨rg_mem.mpr ⟨h0, h1⟩, okA_iff.mpr ⟨x, E, e, h2, h3⟩⟩, by rw [e]; rfl⟩
theorem mem_lsT {tx : List Int} {g : Int → Option (Int × Int)} {a x : Int} : x ∈ lsT tx g a ↔ ∃ j F, a < j ∧ j < tx.length ∧ g j = some (F, x) ∧ gt tx a ≤ gt tx j ∧ a < F := by
  unfold lsT
  rw [List.mem_map]
  constructor
  · rintro ⟨j, hj, e⟩
    obtain ⟨h1, h2⟩ := List.mem_filter.mp hj
    obtain ⟨F, E, e1, e2, e3⟩ := okB_iff.mp h2
    rw [e1] at e
    have h3 := rg_mem.mp h1
    exact ⟨j, F, by omega, h3.2, by rw [e1, ← e]; rfl, e2, e3⟩
  · rintro ⟨j, F, h0, h1, e, h2, h3⟩
    exact ⟨j, List.mem_filter.mpr ⟨rg_mem.mpr ⟨by omega, h1⟩, okB_iff.mpr ⟨F, x, e, h2, h3⟩⟩, by rw [e]; rfl⟩
theorem comb_some {F L : List Int} {q : Int × Int} : comb F L = some q ↔ F ≠ [] ∧ L ≠ [] ∧ q = (lmax F, lmin L) := by
  unfold comb
  by_cases h : F = [] ∨ L = []
  · rw [if_pos h]
    exact ⟨fun z => (by cases z), fun z => h.elim (fun y => absurd y z.1) fun y => absurd y z.2.1⟩
  · rw [if_neg h]
    exact ⟨fun z => ⟨fun y => h (.inl y), fun y => h (.inr y), (Option.some.inj z).symm⟩, fun z => by rw [z.2.2]⟩
/-- the numbers at a tree's places, each against its elder -/
def FB (g : Nat → Int) : BT → Prop
  | .nil => True
  | .node l p r => (∀ x, l.root = some x → g p < g x.toNat) ∧ (∀ x, r.root = some x → g p ≤ g x.toNat) ∧ FB g l ∧ FB g r
theorem FB.congr {g g' : Nat → Int} : ∀ {s : BT} {c : Nat}, PL c s → (∀ q, c ≤ q → q < c + s.size → g q = g' q) → FB g s → FB g' s
  | .nil, _, _, _, _ => trivial
  | .node l p r, c, ⟨hl, hp, hr⟩, he, ⟨h1, h2, h3, h4⟩ => by
    have hz : (BT.node l p r).size = l.size + r.size + 1 := rfl
    rw [hz] at he
    have ep : g p = g' p := he p (by omega) (by omega)
    have rin : ∀ {s : BT} {c : Nat} {x : Int}, PL c s → s.root = some x → c ≤ x.toNat ∧ x.toNat < c + s.size := fun {s c x} hp hx => by
      cases s with
      | nil => cases hx
      | node a b d =>
        obtain ⟨_, e, _⟩ := hp
        cases hx
        have : (BT.node a b d).size = a.size + d.size + 1 := rfl
        rw [Int.toNat_natCast]; omega
    refine ⟨fun x hx => ?_, fun x hx => ?_, h3.congr hl fun q q1 q2 => he q q1 (by omega), h4.congr hr fun q q1 q2 => he q (by omega) (by omega)⟩
    · have := rin hl hx
      rw [← ep, ← he _ (by omega) (by omega)]; exact h1 x hx
    · have := rin hr hx
      rw [← ep, ← he _ (by omega) (by omega)]; exact h2 x hx
theorem root_in {s : BT} {c : Nat} {x : Int} (hp : PL c s) (hx : s.root = some x) : c ≤ x.toNat ∧ x.toNat < c + s.size ∧ x = (x.toNat : Int) := by
  cases s with
  | nil => cases hx
  | node a b d =>
    obtain ⟨_, e, _⟩ := hp
    cases hx
    have : (BT.node a b d).size = a.size + d.size + 1 := rfl
    rw [Int.toNat_natCast]; omega
/-- the places of a tree put at places of a text, rising, so that the numbers there have the tree -/
structure Emb (tx : List Int) (s : BT) (c : Nat) (f : Nat → Int) : Prop where
  r : ∀ q, c ≤ q → q < c + s.size → 0 ≤ f q ∧ f q < tx.length
  up : ∀ q q', c ≤ q → q < q' → q' < c + s.size → f q < f q'
  ok : FB (fun q => gt tx (f q)) s
theorem Emb.left {tx : List Int} {l r : BT} {p c : Nat} {f : Nat → Int} (h : Emb tx (.node l p r) c f) : Emb tx l c f := ⟨fun q a b => h.r q a (by show q < c + (l.size + r.size + 1); omega), fun q q' a b d => h.up q q' a b (by show q' < c + (l.size + r.size + 1); omega), h.ok.2.2.1⟩
theorem Emb.right {tx : List Int} {l r : BT} {p c : Nat} {f : Nat → Int} (hp : PL c (.node l p r)) (h : Emb tx (.node l p r) c f) : Emb tx r (p + 1) f := by
  obtain ⟨_, e, _⟩ := hp
  exact ⟨fun q a b => h.r q (by omega) (by show q < c + (l.size + r.size + 1); omega), fun q q' a b d => h.up q q' (by omega) b (by show q' < c + (l.size + r.size + 1); omega), h.ok.2.2.2⟩
/-- no tuple begins later or ends sooner than the pair tells -/
theorem pr_ge {tx : List Int} : ∀ (s : BT) {c : Nat} {f : Nat → Int}, PL c s → Emb tx s c f → ∀ {x : Int}, s.root = some x → ∃ F E, pr tx s (f x.toNat) = some (F, E) ∧ f c ≤ F ∧ E ≤ f (c + s.size - 1)
  | .nil, _, _, _, _, _, hx => by cases hx
  | .node l p r, c, f, hp, he, x, hx => by
    have hp' := hp
    obtain ⟨hl, e, hr⟩ := hp'
    have ex : x.toNat = p := by cases hx; exact Int.toNat_natCast _
    have hz : (BT.node l p r).size = l.size + r.size + 1 := rfl
    rw [ex]
    have hpin := he.r p (by omega) (by omega)
    have hL : ∃ F, F ∈ (if l.isN then [f p] else fsT tx (pr tx l) (f p)) ∧ f c ≤ F := by
      cases l with
      | nil => exact ⟨f p, List.mem_singleton.mpr rfl, by rw [show p = c by rw [e]; rfl]; exact Int.le_refl _⟩
      | node a b d =>
        obtain ⟨F, E, h1, h2, h3⟩ := pr_ge (.node a b d) hl he.left (x := (b : Int)) rfl
        obtain ⟨b1, b2, _⟩ := root_in (x := (b : Int)) hl rfl
        rw [Int.toNat_natCast] at h1 b1 b2
        have hs : 0 < (BT.node a b d).size := Nat.succ_pos _
        have k1 := he.up b p b1 (by omega) (by omega)
        have k2 := he.up (c + (BT.node a b d).size - 1) p (by omega) (by omega) (by omega)
        have k3 := he.ok.1 (b : Int) rfl
        rw [Int.toNat_natCast] at k3
        exact ⟨F, mem_fsT.mpr ⟨f b, E, (he.r b b1 (by omega)).1, k1, h1, k3, by omega⟩, h2⟩
    have hR : ∃ E, E ∈ (if r.isN then [f p] else lsT tx (pr tx r) (f p)) ∧ E ≤ f (c + (BT.node l p r).size - 1) := by
      cases r with
      | nil => exact ⟨f p, List.mem_singleton.mpr rfl, by rw [show c + (BT.node l p .nil).size - 1 = p by rw [hz, e]; show c + (l.size + 0 + 1) - 1 = c + l.size; omega]; exact Int.le_refl _⟩
      | node a b d =>
        obtain ⟨F, E, h1, h2, h3⟩ := pr_ge (.node a b d) hr (he.right hp) (x := (b : Int)) rfl
        obtain ⟨b1, b2, _⟩ := root_in (x := (b : Int)) hr rfl
        rw [Int.toNat_natCast] at h1 b1 b2
        have hs : 0 < (BT.node a b d).size := Nat.succ_pos _
        have k1 := he.up p b (by omega) (by omega) (by omega)
        have k2 := he.up p (p + 1) (by omega) (by omega) (by omega)
        have k3 := he.ok.2.1 (b : Int) rfl
        rw [Int.toNat_natCast] at k3
        refine ⟨E, mem_lsT.mpr ⟨f b, F, k1, (he.r b (by omega) (by omega)).2, h1, k3, by omega⟩, ?_⟩
        rw [show c + (BT.node l p (.node a b d)).size - 1 = p + 1 + (BT.node a b d).size - 1 by rw [hz, e]; omega]
        exact h3
    obtain ⟨F, f1, f2⟩ := hL
    obtain ⟨E, e1, e2⟩ := hR
    have nF : (if l.isN then [f p] else fsT tx (pr tx l) (f p)) ≠ [] := List.ne_nil_of_mem f1
    have nE : (if r.isN then [f p] else lsT tx (pr tx r) (f p)) ≠ [] := List.ne_nil_of_mem e1
    refine ⟨_, _, comb_some.mpr ⟨nF, nE, rfl⟩, ?_, ?_⟩
    · have := (lmax_spec _ nF).2 F f1; omega
    · have := (lmin_spec _ nE).2 E e1; omega
/-- and one does as it tells -/
theorem pr_le {tx : List Int} : ∀ (s : BT) {c : Nat} {a F E : Int}, PL c s → 0 ≤ a → a < tx.length → pr tx s a = some (F, E) →
    ∃ f, Emb tx s c f ∧ (∀ x, s.root = some x → f x.toNat = a) ∧ f c = F ∧ f (c + s.size - 1) = E ∧ 0 ≤ F ∧ F ≤ a ∧ a ≤ E ∧ E < tx.length
  | .nil, _, _, _, _, _, _, _, h => by cases h
  | .node l p r, c, a, F, E, hp, a0, an, h => by
    have hp' := hp
    obtain ⟨hl, e, hr⟩ := hp'
    have hz : (BT.node l p r).size = l.size + r.size + 1 := rfl
    obtain ⟨nF, nE, hq⟩ := comb_some.mp h
    have eF : F = lmax (if l.isN then [a] else fsT tx (pr tx l) a) := congrArg Prod.fst hq
    have eE : E = lmin (if r.isN then [a] else lsT tx (pr tx r) a) := congrArg Prod.snd hq
    have mF := (lmax_spec _ nF).1
    have mE := (lmin_spec _ nE).1
    rw [← eF] at mF
    rw [← eE] at mE
    have hL : ∃ fl, Emb tx l c fl ∧ (∀ x, l.root = some x → gt tx a < gt tx (fl x.toNat)) ∧ (∀ q, c ≤ q → q < p → fl q < a) ∧ (if c < p then fl c else a) = F ∧ 0 ≤ F ∧ F ≤ a := by
      cases l with
      | nil =>
        have : F = a := List.mem_singleton.mp mF
        have ep : p = c := by rw [e]; rfl
        exact ⟨fun _ => 0, ⟨fun q q1 q2 => absurd q2 (by show ¬ q < c + 0; omega), fun q q' q1 q2 q3 => absurd q3 (by show ¬ q' < c + 0; omega), trivial⟩, fun x hx => (by cases hx), fun q q1 q2 => by omega, by rw [if_neg (by omega)]; exact this.symm, by omega, by omega⟩
      | node b d g =>
        obtain ⟨j, E1, j0, j1, h1, h2, h3⟩ := mem_fsT.mp mF
        obtain ⟨fl, k1, k2, k3, k4, k5, k6, k7, k8⟩ := pr_le (.node b d g) hl j0 (by omega) h1
        have hs : 0 < (BT.node b d g).size := Nat.succ_pos _
        refine ⟨fl, k1, fun x hx => by rw [k2 x hx]; exact h2, fun q q1 q2 => ?_, by rw [if_pos (by omega)]; exact k3, k5, by omega⟩
        by_cases z : q = c + (BT.node b d g).size - 1
        · rw [z, k4]; exact h3
        · have := k1.up q (c + (BT.node b d g).size - 1) q1 (by omega) (by omega)
          omega
    have hR : ∃ fr, Emb tx r (p + 1) fr ∧ (∀ x, r.root = some x → gt tx a ≤ gt tx (fr x.toNat)) ∧ (∀ q, p < q → q < p + 1 + r.size → a < fr q) ∧ (if 0 < r.size then fr (p + r.size) else a) = E ∧ a ≤ E ∧ E < tx.length := by
      cases r with
      | nil =>
        have : E = a := List.mem_singleton.mp mE
        exact ⟨fun _ => 0, ⟨fun q q1 q2 => absurd q2 (by show ¬ q < p + 1 + 0; omega), fun q q' q1 q2 q3 => absurd q3 (by show ¬ q' < p + 1 + 0; omega), trivial⟩, fun x hx => (by cases hx), fun q q1 q2 => absurd q2 (by show ¬ q < p + 1 + 0; omega), by rw [if_neg (by show ¬ 0 < 0; omega)]; exact this.symm, by omega, by omega⟩
      | node b d g =>
        obtain ⟨j, F1, j0, j1, h1, h2, h3⟩ := mem_lsT.mp mE
        obtain ⟨fr, k1, k2, k3, k4, k5, k6, k7, k8⟩ := pr_le (.node b d g) hr (by omega) j1 h1
        have hs : 0 < (BT.node b d g).size := Nat.succ_pos _
        refine ⟨fr, k1, fun x hx => by rw [k2 x hx]; exact h2, fun q q1 q2 => ?_, by rw [if_pos hs, ← k4]; congr 1; omega, by omega, k8⟩
        by_cases z : q = p + 1
        · rw [z, k3]; exact h3
        · have := k1.up (p + 1) q (Nat.le_refl _) (by omega) q2
          omega
    obtain ⟨fl, l1, l2, l3, l4, l5, l6⟩ := hL
    obtain ⟨fr, r1, r2, r3, r4, r5, r6⟩ := hR
    let f : Nat → Int := fun q => if q < p then fl q else if q = p then a else fr q
    have fL : ∀ q, q < p → f q = fl q := fun q h => if_pos h
    have fP : f p = a := (if_neg (Nat.lt_irrefl _)).trans (if_pos rfl)
    have fR : ∀ q, p < q → f q = fr q := fun q h => (if_neg (by omega)).trans (if_neg (by omega))
    refine ⟨f, ⟨fun q q1 q2 => ?_, fun q q' q1 q2 q3 => ?_, ?_⟩, fun x hx => ?_, ?_, ?_, l5, l6, r5, r6⟩
    · rcases Nat.lt_trichotomy q p with z | z | z
      · rw [fL q z]; exact l1.r q q1 (by omega)
      · rw [z, fP]; exact ⟨a0, an⟩
      · rw [fR q z]; exact r1.r q (by omega) (by omega)
    · rcases Nat.lt_trichotomy q p with z | z | z
      · rw [fL q z]
        rcases Nat.lt_trichotomy q' p with y | y | y
        · rw [fL q' y]; exact l1.up q q' q1 q2 (by omega)
        · rw [y, fP]; exact l3 q q1 z
        · rw [fR q' y]
          have := l3 q q1 z
          have := r3 q' y (by omega)
          omega
      · rw [z, fP, fR q' (by omega)]; exact r3 q' (by omega) (by omega)
      · rw [fR q z, fR q' (by omega)]; exact r1.up q q' (by omega) q2 (by omega)
    · refine ⟨fun x hx => ?_, fun x hx => ?_, l1.ok.congr hl fun q q1 q2 => ?_, r1.ok.congr hr fun q q1 q2 => ?_⟩
      · obtain ⟨x1, x2, _⟩ := root_in hl hx
        show gt tx (f p) < gt tx (f x.toNat)
        rw [fP, fL _ (by omega)]; exact l2 x hx
      · obtain ⟨x1, x2, _⟩ := root_in hr hx
        show gt tx (f p) ≤ gt tx (f x.toNat)
        rw [fP, fR _ (by omega)]; exact r2 x hx
      · show gt tx (fl q) = gt tx (f q)
        rw [fL q (by omega)]
      · show gt tx (fr q) = gt tx (f q)
        rw [fR q (by omega)]
    · cases hx
      rw [Int.toNat_natCast]; exact fP
    · rw [← l4]
      by_cases z : c < p
      · rw [if_pos z, fL c z]
      · rw [if_neg z, show c = p by omega, fP]
    · rw [← r4]
      by_cases z : 0 < r.size
      · rw [if_pos z, show c + (BT.node l p r).size - 1 = p + r.size by rw [hz, e]; omega, fR _ (by omega)]
      · rw [if_neg z, show c + (BT.node l p r).size - 1 = p by rw [hz, e]; omega, fP]
end Lo
end TM


set_option linter.all false
set_option maxHeartbeats 1000000
namespace TM
namespace Lo
open GL
/-! ### the stretch under a place, its tree -/
def Out (t : List Int) (a b : Nat) : Prop := ∀ q, q < t.length → (q < a ∨ b ≤ q) → ¬ ((a : Int) ≤ nb t q ∧ nb t q < b)
structure SubG (row : List Int) (q a b : Nat) (e : Int) : Prop where
  good : Good row a b e
  aq : a ≤ q
  qb : q < b
  out : Out (treeOf row) a b
  l : ∀ j, a ≤ j → j < q → nb row q < nb row j
  r : ∀ j, q < j → j < b → nb row q ≤ nb row j
  e1 : e < a ∨ (b : Int) ≤ e
  nb : nb (treeOf row) q = e
theorem good_sub (row : List Int) : ∀ (n a b : Nat) (e : Int), b - a ≤ n → Good row a b e → Out (treeOf row) a b → (e < a ∨ (b : Int) ≤ e) → ∀ q, a ≤ q → q < b → ∃ a' b' e', a ≤ a' ∧ b' ≤ b ∧ SubG row q a' b' e'
  | 0, a, b, e, h, g, _, _, q, q1, q2 => by omega
  | n + 1, a, b, e, h, g, ho, he, q, q1, q2 => by
    obtain ⟨p, p1, p2, p3, p4⟩ := low_ex row (show a < b by omega)
    have hbn := g.bn
    have gl := good_l g p1 p2 p3
    have gr := good_r g p1 p2 p4
    have tl := (TR_of row n a p p (by omega) gl).T
    have tr := (TR_of row n (p + 1) b p (by omega) gr).T
    have ep : nb (treeOf row) p = e := by
      rw [nb_treeOf (by omega)]
      exact eld_tv g p1 p2 p3 fun j j1 j2 => by
        rcases Nat.lt_trichotomy j p with z | z | z
        · exact Int.le_of_lt (p3 j j1 z)
        · rw [z]; exact Int.le_refl _
        · exact p4 j z j2
    rcases Nat.lt_trichotomy q p with z | z | z
    · obtain ⟨a', b', e', h1, h2, h3⟩ := good_sub row n a p p (by omega) gl (fun j hj hz hn => by
        by_cases y : j = p
        · subst y; rw [ep] at hn; omega
        · by_cases w : p < j ∧ j < b
          · rcases tr.inn j (by omega) w.2 with x | x <;> omega
          · exact ho j hj (by omega) (by omega)) (.inr (Int.le_refl _)) q q1 z
      exact ⟨a', b', e', h1, by omega, h3⟩
    · subst z
      exact ⟨a, b, e, Nat.le_refl _, Nat.le_refl _, ⟨g, p1, p2, ho, p3, p4, he, ep⟩⟩
    · obtain ⟨a', b', e', h1, h2, h3⟩ := good_sub row n (p + 1) b p (by omega) gr (fun j hj hz hn => by
        by_cases y : j = p
        · subst y; rw [ep] at hn; omega
        · by_cases w : a ≤ j ∧ j < p
          · rcases tl.inn j w.1 w.2 with x | x <;> omega
          · exact ho j hj (by omega) (by omega)) (.inl (by omega)) q (by omega) q2
      exact ⟨a', b', e', by omega, h2, h3⟩
def sub (t : List Int) (p : Int) : BT := btF (hT t) 60 (some p)
theorem HB.root {n : Nat} {f : Int → Option Int × Option Int} {o : Option Int} {b : BT} (h : HB n f o b) : b.root = o := by
  cases h with
  | nil => rfl
  | node _ _ _ => rfl
structure SubT (row : List Int) (q a b : Nat) (s : BT) : Prop where
  aq : a ≤ q
  qb : q < b
  bn : b ≤ row.length
  root : s.root = some (q : Int)
  pl : PL a s
  size : s.size = b - a
  hb : HB row.length (hT (treeOf row)) (some (q : Int)) s
  eq : sub (treeOf row) q = s
  bt : BTr (treeOf row) a b (nb (treeOf row) q) s
  t : T (treeOf row) a b (nb (treeOf row) q)
  e1 : nb (treeOf row) q < a ∨ (b : Int) ≤ nb (treeOf row) q
  under : ∀ j, j < row.length → (Dsc (treeOf row) q j ↔ a ≤ j ∧ j < b)
theorem sub_at {row : List Int} (hl : row.length ≤ 40) {q : Nat} (hq : q < row.length) : ∃ a b s, SubT row q a b s := by
  obtain ⟨a, b, e, h1, h2, h⟩ := good_sub row row.length 0 row.length (-1) (by omega) (good_all row) (fun j hj hz => by rw [treeOf_len] at hj; omega) (.inl (by decide)) q (Nat.zero_le _) hq
  have hT := (TR_of row (b - a) a b e (Nat.le_refl _) h.good).T
  have tl := treeOf_len row
  obtain ⟨B, b1, b2, b3, b4, b5, b6, b7⟩ := T.bt hT (by rw [tl]; exact h2) h.e1 h.out
  have hr := b4 q h.aq h.qb h.nb
  have aq := h.aq
  have qb := h.qb
  rw [hr, tl] at b1
  have hsn : Sn row q a ((b : Int) - 1) := ⟨by omega, by omega, by omega, by omega, fun j j1 j2 => by rw [Int.toNat_natCast]; exact h.l j (by omega) (by omega), fun j j1 j2 => by rw [Int.toNat_natCast]; exact h.r j (by omega) (by omega), fun z => by
    rw [Int.toNat_natCast, show ((a : Int) - 1).toNat = a - 1 by omega]; exact h.good.l (by omega) q aq qb, fun z => by
    rw [Int.toNat_natCast, show ((b : Int) - 1 + 1).toNat = b by omega]; exact h.good.r (by omega) q aq qb⟩
  refine ⟨a, b, B, aq, qb, h2, hr, b3, b2, b1, b1.bt 60 (by have := B.hs; omega), by rw [h.nb]; exact b7, by rw [h.nb]; exact hT, by rw [h.nb]; exact h.e1, fun j hj => ?_⟩
  rw [hsn.dsc hj]
  omega
/-! what tells the tree of the stretch -/
def cutT (t : List Int) (a b : Nat) : List Int := (List.range (b - a)).map fun i => if (a : Int) ≤ nb t (a + i) ∧ nb t (a + i) < b then nb t (a + i) - a else -1
theorem cutT_len (t : List Int) (a b : Nat) : (cutT t a b).length = b - a := by unfold cutT; rw [List.length_map, List.length_range]
theorem nb_cutT {t : List Int} {a b q : Nat} (h1 : a ≤ q) (h2 : q < b) : nb (cutT t a b) (q - a) = if (a : Int) ≤ nb t q ∧ nb t q < b then nb t q - a else -1 := by
  unfold nb cutT
  rw [List.getD_eq_getElem?_getD, List.getElem?_map, List.getElem?_range (by omega)]
  show (if (a : Int) ≤ t.getD (a + (q - a)) 0 ∧ t.getD (a + (q - a)) 0 < b then t.getD (a + (q - a)) 0 - a else -1) = _
  rw [show a + (q - a) = q by omega]
theorem T.cut {t : List Int} {a b : Nat} {x y : Nat} {e : Int} (h : T t x y e) : a ≤ x → y ≤ b → T (cutT t a b) (x - a) (y - a) (if (a : Int) ≤ e ∧ e < b then e - a else -1) := by
  induction h with
  | nil x e => intro _ _; exact .nil _ _
  | @node x y h e h1 h2 h3 _ _ i1 i2 =>
    intro hx hy
    have j1 := i1 hx (by omega)
    have j2 := i2 (by omega) hy
    rw [if_pos (by omega)] at j1 j2
    have eh : (h : Int) - a = ((h - a : Nat) : Int) := by omega
    rw [eh] at j1 j2
    rw [show h + 1 - a = h - a + 1 by omega] at j2
    refine .node (by omega) (by omega) ?_ j1 j2
    rw [nb_cutT (by omega) (by omega), h3]
/-- each place against its elder, of a stretch -/
def Cq (t : List Int) (a b : Nat) (g : Nat → Int) (q : Nat) : Prop := (a : Int) ≤ nb t q ∧ nb t q < b → g (nb t q).toNat + (if (q : Int) < nb t q then 1 else 0) ≤ g q
theorem cq_FB {t : List Int} {a b : Nat} {g : Nat → Int} {x y : Nat} {e : Int} {s : BT} (h : BTr t x y e s) : a ≤ x → y ≤ b → PL x s → s.size = y - x →
    ((∀ q, x ≤ q → q < y → Cq t a b g q) ↔ FB g s ∧ ∀ z, s.root = some z → ((a : Int) ≤ e ∧ e < b) → g e.toNat + (if z < e then 1 else 0) ≤ g z.toNat) := by
  induction h with
  | nil x e => exact fun _ _ _ _ => ⟨fun _ => ⟨trivial, fun z hz => (by cases hz)⟩, fun _ q h1 h2 => by omega⟩
  | @node x y h e l r h1 h2 h3 _ _ i1 i2 =>
    rintro hx hy ⟨p1, p2, p3⟩ hs
    have hs' : l.size + r.size + 1 = y - x := hs
    have k1 := i1 hx (by omega) p1 (by omega)
    have k2 := i2 (by omega) hy p3 (by omega)
    have hh : (a : Int) ≤ (h : Int) ∧ (h : Int) < b := by omega
    constructor
    · intro hc
      obtain ⟨c1, c2⟩ := k1.mp fun q q1 q2 => hc q q1 (by omega)
      obtain ⟨c3, c4⟩ := k2.mp fun q q1 q2 => hc q (by omega) q2
      refine ⟨⟨fun z hz => ?_, fun z hz => ?_, c1, c3⟩, fun z hz he => ?_⟩
      · have := c2 z hz hh
        obtain ⟨z1, z2, z3⟩ := root_in p1 hz
        rw [if_pos (by omega), Int.toNat_natCast] at this
        omega
      · have := c4 z hz hh
        obtain ⟨z1, z2, z3⟩ := root_in p3 hz
        rw [if_neg (by omega), Int.toNat_natCast] at this
        omega
      · cases hz
        have := hc h h1 h2
        unfold Cq at this
        rw [h3] at this
        rw [Int.toNat_natCast]; exact this he
    · rintro ⟨⟨d1, d2, d3, d4⟩, d5⟩ q q1 q2
      rcases Nat.lt_trichotomy q h with z | z | z
      · refine k1.mpr ⟨d3, fun z hz _ => ?_⟩ q q1 z
        obtain ⟨z1, z2, z3⟩ := root_in p1 hz
        have := d1 z hz
        rw [if_pos (by omega), Int.toNat_natCast]
        omega
      · subst z
        intro he
        have := d5 (q : Int) rfl
        rw [Int.toNat_natCast] at this
        rw [h3] at he ⊢
        exact this he
      · refine k2.mpr ⟨d4, fun z hz _ => ?_⟩ q (by omega) q2
        obtain ⟨z1, z2, z3⟩ := root_in p3 hz
        have := d2 z hz
        rw [if_neg (by omega), Int.toNat_natCast]
        omega
theorem fits_cut {t v : List Int} {a b : Nat} (hab : a ≤ b) : Fits (cutT t a b) v ↔ ∀ q, a ≤ q → q < b → Cq t a b (fun q => nb v (q - a)) q := by
  unfold Fits
  rw [cutT_len]
  constructor
  · intro h q q1 q2 he
    have := h (q - a) (by omega)
    rw [nb_cutT q1 q2, if_pos he] at this
    have := this (by omega)
    show nb v ((nb t q).toNat - a) + _ ≤ nb v (q - a)
    rw [show (nb t q - (a : Int)).toNat = (nb t q).toNat - a by omega] at this
    by_cases z : (q : Int) < nb t q
    · rw [if_pos z]; rw [if_pos (by omega)] at this; exact this
    · rw [if_neg z]; rw [if_neg (by omega)] at this; exact this
  · intro h i hi he
    have e1 : i = (a + i) - a := by omega
    rw [e1, nb_cutT (by omega) (by omega)] at he ⊢
    by_cases z : (a : Int) ≤ nb t (a + i) ∧ nb t (a + i) < b
    · rw [if_pos z]
      have := h (a + i) (by omega) (by omega) z
      have this : nb v ((nb t (a + i)).toNat - a) + _ ≤ nb v (a + i - a) := this
      rw [show (nb t (a + i) - (a : Int)).toNat = (nb t (a + i)).toNat - a by omega]
      by_cases y : ((a + i : Nat) : Int) < nb t (a + i)
      · rw [if_pos y] at this; rw [if_pos (by omega)]; exact this
      · rw [if_neg y] at this; rw [if_neg (by omega)]; exact this
    · rw [if_neg z] at he; omega
theorem SubT.tree {row v : List Int} (hl : row.length ≤ 40) {q a b : Nat} {s : BT} (h : SubT row q a b s) (hv : v.length = b - a) : treeOf v = cutT (treeOf row) a b ↔ FB (fun q => nb v (q - a)) s := by
  have hb := h.bn
  have haq := h.aq
  have hqb := h.qb
  have ht : isTree (cutT (treeOf row) a b) = true := by
    refine isTree_iff.mpr ⟨by rw [cutT_len]; omega, ?_⟩
    unfold IsT
    have := T.cut (a := a) (b := b) h.t (Nat.le_refl _) (Nat.le_refl _)
    rw [if_neg (by have := h.e1; omega), Nat.sub_self] at this
    rw [cutT_len]; exact this
  have e1 : treeOf v = cutT (treeOf row) a b ↔ Fits (cutT (treeOf row) a b) v := ⟨fun z => by rw [← z]; exact fits_self (by omega), fun z => fits_tree ht (by rw [cutT_len]; exact hv) z⟩
  rw [e1, fits_cut (by omega), cq_FB h.bt (Nat.le_refl _) (Nat.le_refl _) h.pl h.size]
  exact ⟨fun z => z.1, fun z => ⟨z, fun _ _ y => absurd y (by have := h.e1; omega)⟩⟩
/-- the numbers of the stretch have it -/
theorem SubT.own {row : List Int} (hl : row.length ≤ 40) {q a b : Nat} {s : BT} (h : SubT row q a b s) : treeOf (sl row (some (a : Int)) (some (b : Int))) = cutT (treeOf row) a b := by
  have hb := h.bn
  have haq := h.aq
  have hqb := h.qb
  have es : sl row (some (a : Int)) (some (b : Int)) = (row.drop a).take (b - a) := by
    unfold sl
    have e1 : HT.sIx row.length 0 (some (a : Int)) = a := by unfold HT.sIx; simp only; rw [if_neg (by omega)]; omega
    have e2 : HT.sIx row.length row.length (some (b : Int)) = b := by unfold HT.sIx; simp only; rw [if_neg (by omega)]; omega
    rw [e1, e2]
  have hlen : (sl row (some (a : Int)) (some (b : Int))).length = b - a := by rw [es, List.length_take, List.length_drop]; omega
  refine (h.tree hl hlen).mpr ?_
  have hf := fits_self hl
  refine ((cq_FB (g := nb row) h.bt (Nat.le_refl _) (Nat.le_refl _) h.pl h.size).mp fun q q1 q2 he => hf q (by rw [treeOf_len]; omega) (by omega)).1.congr h.pl fun j j1 j2 => ?_
  rw [h.size] at j2
  rw [es]
  unfold nb
  rw [List.getD_eq_getElem?_getD, List.getD_eq_getElem?_getD, List.getElem?_take, if_pos (by omega), List.getElem?_drop, show a + (j - a) = j by omega]
end Lo
end TM


set_option linter.all false
set_option maxHeartbeats 1000000
namespace TM
namespace Lo
open GL
/-! ### all tuples of places -/
def tups (n : Int) : Nat → List (List Int)
  | 0 => [[]]
  | m + 1 => (tups n m).flatMap fun one => (rg (gtB (if one = [] then [-1] else one) 1 + 1) n).map fun p => one ++ [p]
theorem pw_snoc {l : List Int} {x : Int} : (l ++ [x]).Pairwise (· < ·) ↔ l.Pairwise (· < ·) ∧ (l = [] ∨ gtB l 1 < x) := by
  rw [List.pairwise_append]
  constructor
  · rintro ⟨h1, _, h2⟩
    refine ⟨h1, ?_⟩
    by_cases z : l = []
    · exact .inl z
    · exact .inr (h2 _ (gtB_mem ⟨by decide, List.length_pos_iff.mpr z⟩) x (List.mem_singleton.mpr rfl))
  · rintro ⟨h1, h2⟩
    refine ⟨h1, List.pairwise_singleton _ _, fun y hy z hz => ?_⟩
    rw [List.mem_singleton.mp hz]
    rcases h2 with h2 | h2
    · rw [h2] at hy; cases hy
    · obtain ⟨i, hi⟩ := List.getElem?_of_mem hy
      have hlt := (List.getElem?_eq_some_iff.mp hi).1
      have e := gtB_get (l := l) (k := 1) ⟨by decide, by omega⟩
      by_cases w : i = l.length - 1
      · rw [w, e] at hi
        rw [← Option.some.inj hi]; exact h2
      · have := (List.pairwise_iff_getElem.mp h1) i (l.length - 1) hlt (by omega) (by omega)
        have e1 := (List.getElem?_eq_some_iff.mp hi).2
        have e2 := (List.getElem?_eq_some_iff.mp e).2
        omega
theorem mem_tups {n : Int} : ∀ {m : Nat} {one : List Int}, one ∈ tups n m ↔ one.length = m ∧ one.Pairwise (· < ·) ∧ ∀ x ∈ one, 0 ≤ x ∧ x < n
  | 0, one => by
    show one ∈ [[]] ↔ _
    rw [List.mem_singleton]
    constructor
    · intro e; subst e; exact ⟨rfl, List.Pairwise.nil, fun x hx => by cases hx⟩
    · intro ⟨h, _⟩; exact List.eq_nil_of_length_eq_zero h
  | m + 1, one => by
    show one ∈ (tups n m).flatMap _ ↔ _
    rw [List.mem_flatMap]
    constructor
    · rintro ⟨o, ho, hm⟩
      obtain ⟨p, hp, e⟩ := List.mem_map.mp hm
      obtain ⟨h1, h2, h3⟩ := mem_tups.mp ho
      have hp' := rg_mem.mp hp
      subst e
      have key : (o = [] ∨ gtB o 1 < p) ∧ 0 ≤ p := by
        by_cases z : o = []
        · rw [if_pos z] at hp'
          have : gtB [(-1 : Int)] 1 = -1 := rfl
          exact ⟨.inl z, by omega⟩
        · rw [if_neg z] at hp'
          have := (h3 _ (gtB_mem (l := o) (n := 1) ⟨by decide, List.length_pos_iff.mpr z⟩)).1
          exact ⟨.inr (by omega), by omega⟩
      refine ⟨by rw [List.length_append, h1]; rfl, pw_snoc.mpr ⟨h2, key.1⟩, fun x hx => ?_⟩
      rcases List.mem_append.mp hx with y | y
      · exact h3 x y
      · rw [List.mem_singleton.mp y]; exact ⟨key.2, hp'.2⟩
    · rintro ⟨h1, h2, h3⟩
      have hne : one ≠ [] := fun z => by rw [z] at h1; cases h1
      have e := List.dropLast_concat_getLast hne
      have hd : one.dropLast.length = m := by rw [List.length_dropLast, h1]; rfl
      rw [← e] at h2
      obtain ⟨k1, k2⟩ := pw_snoc.mp h2
      have hl := h3 _ (List.getLast_mem hne)
      refine ⟨one.dropLast, mem_tups.mpr ⟨hd, k1, fun x hx => h3 x ((List.dropLast_sublist _).mem hx)⟩, List.mem_map.mpr ⟨one.getLast hne, rg_mem.mpr ⟨?_, hl.2⟩, e⟩⟩
      by_cases z : one.dropLast = []
      · rw [if_pos z]
        have : gtB [(-1 : Int)] 1 = -1 := rfl
        omega
      · rw [if_neg z]
        rcases k2 with k2 | k2
        · exact absurd k2 z
        · omega
theorem nb_map' {v : List Int} {f : Int → Int} {i : Nat} (h : i < v.length) : nb (v.map f) i = f (nb v i) := nb_map h
theorem pw_nb {l : List Int} (h : l.Pairwise (· < ·)) {i j : Nat} (hij : i < j) (hj : j < l.length) : nb l i < nb l j := by
  have := (List.pairwise_iff_getElem.mp h) i j (by omega) hj hij
  unfold nb
  rw [List.getD_eq_getElem?_getD, List.getD_eq_getElem?_getD, List.getElem?_eq_getElem (by omega), List.getElem?_eq_getElem hj]
  exact this
theorem nb_mem {l : List Int} {i : Nat} (h : i < l.length) : nb l i ∈ l := by
  unfold nb
  rw [List.getD_eq_getElem?_getD, List.getElem?_eq_getElem h]
  exact List.getElem_mem h
/-- a tuple that has the numbers' tree is one that the tree is put at -/
theorem emb_of {row tx one : List Int} (hl : row.length ≤ 40) {q a b : Nat} {s : BT} (h : SubT row q a b s) (h1 : one.length = b - a) (h2 : one.Pairwise (· < ·)) (h3 : ∀ x ∈ one, 0 ≤ x ∧ x < tx.length)
    (ht : treeOf (one.map fun p => gt tx p) = treeOf (sl row (some (a : Int)) (some (b : Int)))) : Emb tx s a (fun j => nb one (j - a)) := by
  have hs := h.size
  refine ⟨fun j j1 j2 => h3 _ (nb_mem (by omega)), fun j j' j1 j2 j3 => pw_nb h2 (by omega) (by omega), ?_⟩
  rw [h.own hl] at ht
  refine ((h.tree hl (by rw [List.length_map]; exact h1)).mp ht).congr h.pl fun j j1 j2 => ?_
  exact nb_map' (by omega)
theorem of_emb {row tx : List Int} (hl : row.length ≤ 40) {q a b : Nat} {s : BT} (h : SubT row q a b s) {f : Nat → Int} (he : Emb tx s a f) :
    let one := (List.range (b - a)).map fun i => f (a + i)
    one ∈ tups tx.length (b - a) ∧ treeOf (one.map fun p => gt tx p) = treeOf (sl row (some (a : Int)) (some (b : Int))) ∧ ∀ j, a ≤ j → j < b → nb one (j - a) = f j := by
  intro one
  have hs := h.size
  have hn : ∀ j, a ≤ j → j < b → nb one (j - a) = f j := fun j j1 j2 => by
    show List.getD ((List.range (b - a)).map fun i => f (a + i)) (j - a) 0 = _
    rw [List.getD_eq_getElem?_getD, List.getElem?_map, List.getElem?_range (by omega)]
    show f (a + (j - a)) = f j
    congr 1; omega
  have hlen : one.length = b - a := by rw [List.length_map, List.length_range]
  refine ⟨mem_tups.mpr ⟨hlen, ?_, fun x hx => ?_⟩, ?_, hn⟩
  · refine List.pairwise_map.mpr ?_
    refine List.pairwise_lt_range.imp_of_mem ?_
    intro i j hi hj hij
    have := List.mem_range.mp hi
    have := List.mem_range.mp hj
    exact he.up _ _ (by omega) (by omega) (by omega)
  · obtain ⟨i, hi, e⟩ := List.mem_map.mp hx
    have := List.mem_range.mp hi
    rw [← e]; exact he.r _ (by omega) (by omega)
  · rw [h.own hl]
    refine (h.tree hl (by rw [List.length_map]; exact hlen)).mpr ?_
    refine he.ok.congr h.pl fun j j1 j2 => ?_
    rw [nb_map' (by omega), hn j j1 (by omega)]
theorem stood {row tx : List Int} (hl : row.length ≤ 40) {q a b : Nat} {s : BT} (h : SubT row q a b s) {at_ : Int} (h0 : 0 ≤ at_) (h1 : at_ < tx.length) {some_ : List (List Int)}
    (hs : ∀ one, one ∈ some_ ↔ (one ∈ tups tx.length (b - a) ∧ treeOf (one.map fun p => gt tx p) = treeOf (sl row (some (a : Int)) (some (b : Int)))) ∧ gt one ((q : Int) - a) = at_) :
    (if some_ = [] then none else some (lmax (some_.map fun one => gt one 0), lmin (some_.map fun one => gtB one 1))) = pr tx s at_ := by
  have aq := h.aq
  have qb := h.qb
  have hsz := h.size
  have hgt : ∀ {one : List Int}, one.length = b - a → gt one ((q : Int) - a) = nb one (q - a) ∧ gt one 0 = nb one (a - a) ∧ gtB one 1 = nb one (a + s.size - 1 - a) := fun {one} e => by
    refine ⟨?_, ?_, ?_⟩
    · rw [show (q : Int) - a = ((q - a : Nat) : Int) by omega]; exact gt_nb _ _
    · rw [Nat.sub_self]; exact gt_nb one 0
    · have := gtB_get (l := one) (k := 1) ⟨by decide, by omega⟩
      unfold nb
      rw [List.getD_eq_getElem?_getD, show a + s.size - 1 - a = one.length - 1 by omega, this]; rfl
  have fwd : ∀ one ∈ some_, ∃ F E, pr tx s at_ = some (F, E) ∧ gt one 0 ≤ F ∧ E ≤ gtB one 1 := fun one ho => by
    obtain ⟨⟨k1, k2⟩, k3⟩ := (hs one).mp ho
    obtain ⟨m1, m2, m3⟩ := mem_tups.mp k1
    have he := emb_of hl h m1 m2 m3 k2
    obtain ⟨F, E, e1, e2, e3⟩ := pr_ge s h.pl he h.root
    obtain ⟨g1, g2, g3⟩ := hgt m1
    rw [Int.toNat_natCast] at e1
    have e1 : pr tx s (nb one (q - a)) = some (F, E) := e1
    rw [← g1, k3] at e1
    exact ⟨F, E, e1, by rw [g2]; exact e2, by rw [g3]; exact e3⟩
  cases hp : pr tx s at_ with
  | none =>
    rw [if_pos ?_]
    cases hsm : some_ with
    | nil => rfl
    | cons x l =>
      obtain ⟨F, E, e, _⟩ := fwd x (by rw [hsm]; exact List.mem_cons_self)
      rw [hp] at e; cases e
  | some FE =>
    obtain ⟨F, E⟩ := FE
    obtain ⟨f, he, hr, hF, hE, _, _, _, _⟩ := pr_le s h.pl h0 h1 hp
    obtain ⟨o1, o2, o3⟩ := of_emb hl h he
    have hlen := (mem_tups.mp o1).1
    obtain ⟨g1, g2, g3⟩ := hgt hlen
    have hq := hr _ h.root
    rw [Int.toNat_natCast] at hq
    have hin : (List.range (b - a)).map (fun i => f (a + i)) ∈ some_ := (hs _).mpr ⟨⟨o1, o2⟩, by rw [g1, o3 q aq qb, hq]⟩
    rw [if_neg (List.ne_nil_of_mem hin)]
    have eF : F = lmax (some_.map fun one => gt one 0) := lmax_uniq (List.mem_map.mpr ⟨_, hin, by rw [g2, o3 a (Nat.le_refl _) (by omega), hF]⟩) fun y hy => by
      obtain ⟨one, ho, e⟩ := List.mem_map.mp hy
      obtain ⟨F', E', e1, e2, _⟩ := fwd one ho
      rw [hp] at e1; cases e1
      rw [← e]; exact e2
    have eE : E = lmin (some_.map fun one => gtB one 1) := lmin_uniq (List.mem_map.mpr ⟨_, hin, by rw [g3, o3 _ (by omega) (by omega), hE]⟩) fun y hy => by
      obtain ⟨one, ho, e⟩ := List.mem_map.mp hy
      obtain ⟨F', E', e1, _, e3⟩ := fwd one ho
      rw [hp] at e1; cases e1
      rw [← e]; exact e3
    rw [← eF, ← eE]
end Lo
end TM


set_option linter.all false
set_option maxHeartbeats 1000000
namespace TM
namespace Lo
open GL
/-! ### the table -/
def line (tx : List Int) (s : BT) : List (Option (Int × Int)) := (rg 0 tx.length).map (pr tx s)
theorem line_len (tx : List Int) (s : BT) : (line tx s).length = tx.length := by unfold line; rw [List.length_map, rg_len]; omega
theorem gt_line {tx : List Int} {s : BT} {j : Int} (h : 0 ≤ j ∧ j < tx.length) : gt (line tx s) j = pr tx s j := gt_map_rg h
def tabL (tx row : List Int) : List (List (Option (Int × Int))) := (rg 0 row.length).map fun p => line tx (sub (treeOf row) p)
theorem tabL_len (tx row : List Int) : (tabL tx row).length = row.length := by unfold tabL; rw [List.length_map, rg_len]; omega
theorem gt_tabL {tx row : List Int} {p : Int} (h : 0 ≤ p ∧ p < row.length) : gt (tabL tx row) p = line tx (sub (treeOf row) p) := gt_map_rg h
/-- as the program reckons it -/
def firstOf (tx : List Int) (ro : List (Option (Int × Int))) (at_ : Int) : Int := lmax ([-1] ++ fsT tx (gt ro) at_)
def lastOf (tx : List Int) (ro : List (Option (Int × Int))) (at_ : Int) : Int := lmin ([(tx.length : Int)] ++ lsT tx (gt ro) at_)
def bOf (tx : List Int) (tb : List (List (Option (Int × Int)))) (o : Option Int) (at_ : Int) : Int := match o with
  | none => at_
  | some x => firstOf tx (gt tb x) at_
def eOf (tx : List Int) (tb : List (List (Option (Int × Int)))) (o : Option Int) (at_ : Int) : Int := match o with
  | none => at_
  | some x => lastOf tx (gt tb x) at_
def pairAt (tx : List Int) (tb : List (List (Option (Int × Int)))) (h : Option Int × Option Int) (at_ : Int) : Option (Int × Int) :=
  if bOf tx tb h.1 at_ < 0 ∨ eOf tx tb h.2 at_ = tx.length then none else some (bOf tx tb h.1 at_, eOf tx tb h.2 at_)
/-- what hangs under a place stands in the table -/
def HL (tx : List Int) (tb : List (List (Option (Int × Int)))) (o : Option Int) (s : BT) : Prop := match o with
  | none => s = .nil
  | some x => s.isN = false ∧ gt tb x = line tx s ∧ ∃ c, PL c s
/-- as the law does -/
def fOf (tx : List Int) (tb : List (List (Option (Int × Int)))) (o : Option Int) (at_ : Int) : List Int := match o with
  | none => [at_]
  | some x => fsT tx (gt (gt tb x)) at_
def lOf (tx : List Int) (tb : List (List (Option (Int × Int)))) (o : Option Int) (at_ : Int) : List Int := match o with
  | none => [at_]
  | some x => lsT tx (gt (gt tb x)) at_
def ruledAt (tx : List Int) (tb : List (List (Option (Int × Int)))) (h : Option Int × Option Int) (at_ : Int) : Option (Int × Int) := comb (fOf tx tb h.1 at_) (lOf tx tb h.2 at_)
/-! in which order -/
def tabB (tx row ord : List Int) (i : Nat) : List (List (Option (Int × Int))) := (rg 0 row.length).map fun p => if p ∈ ord.take i then line tx (sub (treeOf row) p) else []
/-- an order in which what hangs under a place comes ahead of it -/
def Ord (row ord : List Int) : Prop := (∀ p : Int, p ∈ ord ↔ 0 ≤ p ∧ p < row.length) ∧ ∀ (i : Nat) (p c : Int), ord[i]? = some p → 0 ≤ c → c < row.length → gt (treeOf row) c = p → c ∈ ord.take i
/-- a place's own tree by its hands -/
theorem sub_node {row : List Int} (hl : row.length ≤ 40) {q : Nat} (hq : q < row.length) : ∃ l r, sub (treeOf row) q = .node l q r ∧ (∃ c, PL c (sub (treeOf row) q)) ∧
    (∀ x, (hT (treeOf row) q).1 = some x → 0 ≤ x ∧ x < row.length ∧ gt (treeOf row) x = q ∧ l = sub (treeOf row) x) ∧ ((hT (treeOf row) q).1 = none → l = .nil) ∧
    (∀ x, (hT (treeOf row) q).2 = some x → 0 ≤ x ∧ x < row.length ∧ gt (treeOf row) x = q ∧ r = sub (treeOf row) x) ∧ ((hT (treeOf row) q).2 = none → r = .nil) := by
  obtain ⟨a, b, s, h⟩ := sub_at hl hq
  have hh := h.hb
  have hbt := h.bt
  have hr := h.root
  have he := h.eq
  have hpl := h.pl
  have hsz := h.size
  have hbn := h.bn
  rw [he]
  cases s with
  | nil => cases hr
  | node l p r =>
    have ep : p = q := by have := Option.some.inj hr; omega
    subst ep
    cases hh with
    | node hp1 hL hR =>
      cases hbt with
      | node b1 b2 b3 bl br =>
        have key : ∀ {x y : Nat} {s : BT}, BTr (treeOf row) x y p s → PL x s → y ≤ row.length → s.size = y - x → ∀ z, s.root = some z → 0 ≤ z ∧ z < row.length ∧ gt (treeOf row) z = p := fun {x y s} hb hpl hy hs z hz => by
          cases hb with
          | nil => cases hz
          | node c1 c2 c3 _ _ =>
            cases hz
            exact ⟨by omega, by omega, by rw [gt_nb]; exact c3⟩
        have hsz' : l.size + r.size + 1 = b - a := hsz
        obtain ⟨pl1, pl2, pl3⟩ := hpl
        refine ⟨l, r, rfl, ⟨a, h.pl⟩, fun x hx => ?_, fun hx => ?_, fun x hx => ?_, fun hx => ?_⟩
        · rw [hx] at hL
          obtain ⟨k1, k2, k3⟩ := key bl pl1 (by omega) (by omega) x (HB.root hL)
          exact ⟨k1, k2, k3, (hL.bt 60 (by have := l.hs; omega)).symm⟩
        · rw [hx] at hL; cases hL; rfl
        · rw [hx] at hR
          obtain ⟨k1, k2, k3⟩ := key br pl3 (by omega) (by omega) x (HB.root hR)
          exact ⟨k1, k2, k3, (hR.bt 60 (by have := r.hs; omega)).symm⟩
        · rw [hx] at hR; cases hR; rfl
end Lo
end TM


set_option linter.all false
set_option maxHeartbeats 1000000
namespace TM
namespace Lo
open GL
/-! ### for the walks of the table -/
/-! the places under a place -/
def und (t : List Int) (p : Int) : List Int := (rg 0 t.length).filter fun o => decide (o = p ∨ p ∈ ups t o)
/-! the law's hands -/
end Lo
end TM


set_option linter.all false
set_option maxHeartbeats 1000000
namespace TM
namespace Lo
open GL
/-! ### the law's tuples, and all of them that stand -/
theorem tabL_mem {tx row : List Int} {l : List (Option (Int × Int))} (h : l ∈ tabL tx row) : l.length = tx.length := by
  unfold tabL at h
  obtain ⟨p, _, rfl⟩ := List.mem_map.mp h
  exact line_len _ _
/-- the stretch under a place, and the tuples that hold it -/
def stR (row : List Int) (q : Int) : List Int := sl row (some (gt (und (treeOf row) q) 0)) (some (gtB (und (treeOf row) q) 1 + 1))
def holdT (tx sr : List Int) : List (List Int) := (tups tx.length sr.length).filter fun one => decide (treeOf (one.map fun p => gt tx p) = treeOf sr)
end Lo
end TM


set_option linter.all false
set_option maxHeartbeats 1000000
namespace TM
namespace Lo
open GL
def topL (tx row : List Int) : List (Option (Int × Int)) := gt (tabL tx row) (((treeOf row).idxOf (-1) : Nat) : Int)
def somes (l : List (Option (Int × Int))) : List (Int × Int) := (l.filter fun o => decide (¬ o = none)).map fun o => oget o
def minB (ps : List (Int × Int)) (p : Int × Int) : Bool := !(ps.any fun one => decide (p.1 ≤ one.1) && (decide (one.2 ≤ p.2) && !decide (one = p)))
def leastL (ps : List (Int × Int)) : List (Int × Int) := pset (ps.filter fun p => decide (minB ps p = true))
theorem minB_iff {ps : List (Int × Int)} {p : Int × Int} : minB ps p = true ↔ ∀ one ∈ ps, p.1 ≤ one.1 → one.2 ≤ p.2 → one = p := by
  unfold minB
  rw [Bool.not_eq_true', List.any_eq_false]
  constructor
  · intro h one h1 h2 h3
    have z := h one h1
    by_cases e : one = p
    · exact e
    · exfalso; apply z
      rw [decide_eq_true h2, decide_eq_true h3, decide_eq_false e]; rfl
  · intro h one h1 z
    rw [Bool.and_eq_true, Bool.and_eq_true, decide_eq_true_iff, decide_eq_true_iff, Bool.not_eq_true', decide_eq_false_iff_not] at z
    exact z.2.2 (h one h1 z.1 z.2.1)
theorem mem_leastL {ps : List (Int × Int)} {x : Int × Int} : x ∈ leastL ps ↔ x ∈ ps ∧ ∀ one ∈ ps, x.1 ≤ one.1 → one.2 ≤ x.2 → one = x := by
  unfold leastL
  rw [pset_mem, List.mem_filter, decide_eq_true_iff, minB_iff]
theorem leastL_uniq {ps m : List (Int × Int)} (h : ∀ x, x ∈ m ↔ x ∈ ps ∧ minB ps x = true) (nd : m.Nodup) (so : m.Pairwise (fun a b => ple a b = true)) : m = leastL ps :=
  pset_uniq (fun x => by rw [h, List.mem_filter, decide_eq_true_iff]) nd so
structure Lw (ps : List (Int × Int)) (i : Nat) (told : List (Int × Int)) : Prop where
  nd : told.Nodup
  so : told.Pairwise (fun a b => ple a b = true)
  m : ∀ x, x ∈ told ↔ x ∈ (psort ps).take i ∧ minB ps x = true
  len : told.length ≤ i
theorem Lw.zero (ps : List (Int × Int)) : Lw ps 0 [] := ⟨List.nodup_nil, .nil, fun x => by simp, Nat.le_refl _⟩
theorem Lw.done {ps told : List (Int × Int)} (h : Lw ps (psort ps).length told) : told = leastL ps :=
  leastL_uniq (fun x => by rw [h.m, List.take_length, (psort_perm ps).mem_iff]) h.nd h.so
theorem Lw.step {ps told : List (Int × Int)} {i : Nat} {p : Int × Int} (h : Lw ps i told) (hp : (psort ps)[i]? = some p) :
    (¬ p ∈ told ∧ minB ps p = true → Lw ps (i + 1) (told ++ [p])) ∧ (¬ (¬ p ∈ told ∧ minB ps p = true) → Lw ps (i + 1) told) := by
  have ht : (psort ps).take (i + 1) = (psort ps).take i ++ [p] := by rw [List.take_succ, hp]; rfl
  refine ⟨fun hc => ⟨?_, ?_, fun x => ?_, by rw [List.length_append, List.length_singleton]; have := h.len; omega⟩, fun hc => ⟨h.nd, h.so, fun x => ?_, Nat.le_succ_of_le h.len⟩⟩
  · rw [List.nodup_append]
    exact ⟨h.nd, List.nodup_cons.mpr ⟨by simp, List.nodup_nil⟩, fun a ha b hb e => by rw [List.mem_singleton] at hb; subst hb; subst e; exact hc.1 ha⟩
  · rw [List.pairwise_append]
    refine ⟨h.so, List.pairwise_singleton _ _, fun a ha b hb => ?_⟩
    rw [List.mem_singleton] at hb
    subst hb
    have ha' := ((h.m a).mp ha).1
    have hs := psort_sorted ps
    have hs2 : ((psort ps).take (i + 1)).Pairwise (fun a b => ple a b = true) := hs.sublist (List.take_sublist _ _)
    rw [ht, List.pairwise_append] at hs2
    exact hs2.2.2 a ha' b (by simp)
  · rw [ht, List.mem_append, List.mem_append, h.m, List.mem_singleton]
    constructor
    · rintro (z | z)
      · exact ⟨.inl z.1, z.2⟩
      · exact ⟨.inr z, z ▸ hc.2⟩
    · rintro ⟨z | z, y⟩
      · exact .inl ⟨z, y⟩
      · exact .inr z
  · rw [ht, List.mem_append, h.m, List.mem_singleton]
    constructor
    · rintro ⟨z, y⟩; exact ⟨.inl z, y⟩
    · rintro ⟨z | z, y⟩
      · exact ⟨z, y⟩
      · subst z
        by_cases w : x ∈ told
        · exact (h.m x).mp w
        · exact absurd ⟨w, y⟩ hc
/-- two rows of pairs with the same least ones -/
theorem leastL_same {p1 p2 : List (Int × Int)} (h1 : ∀ x ∈ p2, x ∈ p1) (h2 : ∀ x ∈ p1, ∃ y ∈ p2, x.1 ≤ y.1 ∧ y.2 ≤ x.2) : leastL p1 = leastL p2 := by
  refine leastL_uniq (fun x => ?_) (pset_nd _) (psort_sorted _)
  show x ∈ leastL p1 ↔ _
  rw [mem_leastL, minB_iff]
  constructor
  · rintro ⟨m, hm⟩
    obtain ⟨y, y1, y2, y3⟩ := h2 x m
    have e := hm y (h1 y y1) y2 y3
    subst e
    exact ⟨y1, fun one o1 o2 o3 => hm one (h1 one o1) o2 o3⟩
  · rintro ⟨m, hm⟩
    refine ⟨h1 x m, fun one o1 o2 o3 => ?_⟩
    obtain ⟨y, y1, y2, y3⟩ := h2 one o1
    have e := hm y y1 (by omega) (by omega)
    subst e
    exact Prod.ext (by omega) (by omega)
theorem root_uniq {t : List Int} {a b : Nat} (h : T t a b (-1)) {p q : Nat} (p1 : a ≤ p) (p2 : p < b) (q1 : a ≤ q) (q2 : q < b) (hp : nb t p = -1) (hq : nb t q = -1) : p = q := by
  cases h with
  | nil => omega
  | @node _ _ h _ h1 h2 h3 tl tr =>
    have key : ∀ x, a ≤ x → x < b → nb t x = -1 → x = h := fun x x1 x2 hx => by
      rcases Nat.lt_trichotomy x h with z | z | z
      · rcases tl.inn x x1 z with y | y <;> omega
      · exact z
      · rcases tr.inn x z x2 with y | y <;> omega
    rw [key p p1 p2 hp, key q q1 q2 hq]
/-- the root's stretch is the whole row -/
theorem root_ex {row : List Int} (h0 : 1 ≤ row.length) : ∃ p, p < row.length ∧ nb (treeOf row) p = -1 ∧ Sn row p 0 ((row.length : Int) - 1) := by
  obtain ⟨p, p1, p2, p3, p4⟩ := low_ex row (show 0 < row.length by omega)
  have ep : nb (treeOf row) p = -1 := by
    rw [nb_treeOf (by omega)]
    exact eld_tv (good_all row) p1 p2 p3 fun j j1 j2 => by
      rcases Nat.lt_trichotomy j p with z | z | z
      · exact Int.le_of_lt (p3 j j1 z)
      · rw [z]; exact Int.le_refl _
      · exact p4 j z j2
  refine ⟨p, p2, ep, ⟨by omega, by omega, by omega, by omega, fun j j1 j2 => ?_, fun j j1 j2 => ?_, fun z => by omega, fun z => by omega⟩⟩
  · rw [Int.toNat_natCast]; exact p3 j (by omega) (by omega)
  · rw [Int.toNat_natCast]; exact p4 j (by omega) (by omega)
theorem sub_root {row : List Int} (hl : row.length ≤ 40) {q : Nat} (hq : q < row.length) (hn : nb (treeOf row) q = -1) : ∃ s, SubT row q 0 row.length s := by
  obtain ⟨a, b, s, h⟩ := sub_at hl hq
  have aq := h.aq; have qb := h.qb; have bn := h.bn
  have hT : T (treeOf row) 0 row.length (-1) := (TR_of row row.length 0 row.length (-1) (by omega) (good_all row)).T
  obtain ⟨p, p2, ep, hs⟩ := root_ex (row := row) (by omega)
  have e := root_uniq hT (Nat.zero_le _) hq (Nat.zero_le _) p2 hn ep
  subst e
  suffices hz : a = 0 ∧ b = row.length by
    obtain ⟨rfl, rfl⟩ := hz
    exact ⟨s, h⟩
  have h0 := (h.under 0 (by omega)).mp ((hs.dsc (by omega)).mpr (by omega))
  have h1 := (h.under (row.length - 1) (by omega)).mp ((hs.dsc (by omega)).mpr (by omega))
  omega
theorem top_in {row : List Int} (h0 : 1 ≤ row.length) : (-1) ∈ treeOf row := by
  obtain ⟨p, p2, ep, _⟩ := root_ex h0
  rw [← ep]; exact nb_mem (by rw [treeOf_len]; exact p2)
theorem top_lt {row : List Int} (h0 : 1 ≤ row.length) : (treeOf row).idxOf (-1) < row.length := by
  have := List.idxOf_lt_length_of_mem (top_in h0)
  rwa [treeOf_len] at this
theorem top_sub {row : List Int} (h0 : 1 ≤ row.length) (hl : row.length ≤ 40) : ∃ s, SubT row ((treeOf row).idxOf (-1)) 0 row.length s := by
  refine sub_root hl (top_lt h0) ?_
  have h := (idx_first (top_in h0)).1
  unfold nb
  rw [List.getD_eq_getElem?_getD, h]; rfl
theorem topL_is {row tx : List Int} (h0 : 1 ≤ row.length) {s : BT} (h : SubT row ((treeOf row).idxOf (-1)) 0 row.length s) : topL tx row = line tx s := by
  have := top_lt h0
  unfold topL
  rw [gt_tabL (by omega), h.eq]
theorem mem_somes {tx : List Int} {s : BT} {x : Int × Int} : x ∈ somes (line tx s) ↔ ∃ a : Int, (0 ≤ a ∧ a < tx.length) ∧ pr tx s a = some x := by
  unfold somes line
  rw [List.mem_map]
  constructor
  · rintro ⟨o, ho, rfl⟩
    obtain ⟨h1, h2⟩ := List.mem_filter.mp ho
    obtain ⟨a, ha, rfl⟩ := List.mem_map.mp h1
    have h3 := of_decide_eq_true h2
    refine ⟨a, by have := rg_mem.mp ha; omega, ?_⟩
    cases e : pr tx s a with
    | none => exact absurd e h3
    | some q => rfl
  · rintro ⟨a, ha, e⟩
    refine ⟨some x, List.mem_filter.mpr ⟨List.mem_map.mpr ⟨a, rg_mem.mpr (by omega), e⟩, decide_eq_true (by intro z; cases z)⟩, rfl⟩
theorem whole_sl (row : List Int) : sl row (some ((0 : Nat) : Int)) (some (row.length : Int)) = row := by
  rw [sl_mid (by omega)]
  show (row.drop 0).take _ = row
  rw [List.drop_zero, List.take_of_length_le (by omega)]
theorem same_pairs {row tx : List Int} (h0 : 1 ≤ row.length) (hl : row.length ≤ 40) : leastL ((holdT tx row).map fun one => (gt one 0, gtB one 1)) = leastL (somes (topL tx row)) := by
  obtain ⟨s, h⟩ := top_sub h0 hl
  have hsz := h.size
  rw [topL_is h0 h]
  have ge : ∀ {one : List Int}, one.length = row.length → gt one 0 = nb one 0 ∧ gtB one 1 = nb one (row.length - 1) := fun {one} e => by
    refine ⟨gt_nb one 0, ?_⟩
    unfold gtB nb
    rw [e, List.getD_eq_getElem?_getD, List.getD_eq_getElem?_getD]; rfl
  refine leastL_same (fun x hx => ?_) fun x hx => ?_
  · obtain ⟨a, ha, e⟩ := mem_somes.mp hx
    obtain ⟨f, he, _, f1, f2, _⟩ := pr_le s h.pl ha.1 ha.2 (show pr tx s a = some (x.1, x.2) from e)
    obtain ⟨o1, o2, o3⟩ := of_emb hl h he
    rw [whole_sl] at o2
    have hlen := (mem_tups.mp o1).1
    refine List.mem_map.mpr ⟨_, List.mem_filter.mpr ⟨o1, decide_eq_true o2⟩, ?_⟩
    obtain ⟨g1, g2⟩ := ge (one := (List.range (row.length - 0)).map fun i => f (0 + i)) hlen
    rw [g1, g2]
    have q1 := o3 0 (by omega) (by omega)
    have q2 := o3 (row.length - 1) (by omega) (by omega)
    simp only [Nat.sub_zero] at q1 q2
    refine Prod.ext ?_ ?_
    · show nb _ 0 = x.1
      exact (q1.trans f1)
    · show nb _ (row.length - 1) = x.2
      rw [← f2]
      refine Eq.trans q2 ?_
      congr 1; omega
  · obtain ⟨one, ho, rfl⟩ := List.mem_map.mp hx
    obtain ⟨m1, m2⟩ := List.mem_filter.mp ho
    obtain ⟨n1, n2, n3⟩ := mem_tups.mp m1
    have he := emb_of hl h (one := one) (by omega) n2 n3 (by rw [whole_sl]; exact of_decide_eq_true m2)
    obtain ⟨F, E, e1, e2, e3⟩ := pr_ge s h.pl he h.root
    obtain ⟨g1, g2⟩ := ge n1
    have qb := h.qb
    refine ⟨(F, E), mem_somes.mpr ⟨_, he.r _ (by omega) (by rw [Int.toNat_natCast]; omega), e1⟩, ?_, ?_⟩
    · show gt one 0 ≤ F
      rw [g1]; exact e2
    · show E ≤ gtB one 1
      rw [g2]
      have : nb one (0 + s.size - 1 - 0) = nb one (row.length - 1) := by congr 1; omega
      exact this ▸ e3
end Lo
end TM


set_option linter.all false
set_option maxHeartbeats 1000000
namespace TM
namespace Lo
open GL
abbrev OT := List (List (Option (Int × Int)))
def formB (row text : List Int) (table : OT) : Bool := decide ((table.length : Int) = row.length) && decide (∀ l ∈ table, (l.length : Int) = text.length)
theorem cat_mem {α : Type} {l : List α} {a b c d : Option Int} {x : α} (h : x ∈ sl l a b ++ sl l c d) : x ∈ l := by
  rcases List.mem_append.mp h with z | z
  · exact sl_memB z
  · exact sl_memB z
theorem set_mem {α : Type} {l : List α} {m : Nat} {x y : α} (h : y ∈ l.set m x) : y ∈ l ∨ y = x := List.mem_or_eq_of_mem_set h
def Gd (b : Nat) (L : OT) : Prop := ∀ l ∈ L, l.length ≤ b
theorem Gd.part {b : Nat} {L : OT} (h : Gd b L) {p q r s : Option Int} : Gd (b + 1) (sl L p q ++ sl L r s) := fun l hl => Nat.le_succ_of_le (h l (cat_mem hl))
theorem Gd.more {b : Nat} {L : OT} (h : Gd b L) {x : List (Option (Int × Int))} (hx : x.length ≤ b + 1) : Gd (b + 1) (L ++ [x]) := fun l hl => by
  rcases List.mem_append.mp hl with z | z
  · exact Nat.le_succ_of_le (h l z)
  · rw [List.mem_singleton.mp z]; exact hx
theorem Gd.put {b : Nat} {L : OT} (h : Gd b L) {x : List (Option (Int × Int))} {m : Nat} (hx : x.length ≤ b + 1) : Gd (b + 1) (L.set m x) := fun l hl => by
  rcases set_mem hl with z | z
  · exact Nat.le_succ_of_le (h l z)
  · rw [z]; exact hx
theorem gt_in {α : Type} [Inhabited α] {l : List α} {i : Int} (h : 0 ≤ i ∧ i < l.length) : gt l i ∈ l := List.mem_of_getElem? (gt_get h)
end Lo
end TM


set_option linter.all false
set_option maxHeartbeats 1000000
namespace TM
namespace Lo
open GL
/-! ### one stretch's places told -/
def okS (tx : List Int) (g : Int → Option (Int × Int)) (b e least : Int) (at_ : Int) : Bool := match g at_ with
  | none => false
  | some q => decide (least ≤ gt tx at_) && (decide (b ≤ q.1) && decide (q.2 ≤ e))
def spotF (tx : List Int) (g : Int → Option (Int × Int)) (b e least : Int) : Option Int := (rg b (e + 1)).find? (okS tx g b e least)
theorem okS_iff {tx : List Int} {g : Int → Option (Int × Int)} {b e least at_ : Int} : okS tx g b e least at_ = true ↔ ∃ F E, g at_ = some (F, E) ∧ least ≤ gt tx at_ ∧ b ≤ F ∧ E ≤ e := by
  unfold okS
  cases h : g at_ with
  | none => simp
  | some q =>
    simp only [Bool.and_eq_true, decide_eq_true_iff]
    constructor
    · rintro ⟨h1, h2, h3⟩; exact ⟨q.1, q.2, rfl, h1, h2, h3⟩
    · rintro ⟨F, E, h0, h1, h2, h3⟩; cases h0; exact ⟨h1, h2, h3⟩
theorem spotF_in {tx : List Int} {g : Int → Option (Int × Int)} {b e least x : Int} (h : spotF tx g b e least = some x) : (b ≤ x ∧ x ≤ e) ∧ ∃ F E, g x = some (F, E) ∧ least ≤ gt tx x ∧ b ≤ F ∧ E ≤ e := by
  have h1 := List.mem_of_find?_eq_some h
  have h2 := List.find?_some h
  have h3 := rg_mem.mp h1
  exact ⟨by omega, okS_iff.mp h2⟩
theorem spotF_ex {tx : List Int} {g : Int → Option (Int × Int)} {b e least x : Int} (hx : b ≤ x ∧ x ≤ e) (h : ∃ F E, g x = some (F, E) ∧ least ≤ gt tx x ∧ b ≤ F ∧ E ≤ e) : ∃ y, spotF tx g b e least = some y := by
  have : ((rg b (e + 1)).find? (okS tx g b e least)).isSome = true := by
    rw [List.find?_isSome]
    exact ⟨x, rg_mem.mpr (by omega), okS_iff.mpr h⟩
  exact Option.isSome_iff_exists.mp this
def plc (tx : List Int) : BT → Int → Int → Int → List Int
  | .nil, _, _, _ => []
  | .node l _ r, at_, b, e => (if l.isN then [] else plc tx l (oget (spotF tx (pr tx l) b (at_ - 1) (gt tx at_ + 1))) b (at_ - 1)) ++ [at_] ++ (if r.isN then [] else plc tx r (oget (spotF tx (pr tx r) (at_ + 1) e (gt tx at_))) (at_ + 1) e)
/-- the tree s can be put with its root at at_, within b .. e -/
structure Fit (tx : List Int) (s : BT) (at_ b e : Int) : Prop where
  b0 : 0 ≤ b
  en : e < tx.length
  a0 : 0 ≤ at_
  an : at_ < tx.length
  ex : ∃ F E, pr tx s at_ = some (F, E) ∧ b ≤ F ∧ E ≤ e
theorem lmax_mem {l : List Int} (h : l ≠ []) : lmax l ∈ l := (lmax_spec l h).1
theorem lmin_mem {l : List Int} (h : l ≠ []) : lmin l ∈ l := (lmin_spec l h).1
theorem Fit.left {tx : List Int} {l r : BT} {p c : Nat} {at_ b e : Int} (hp : PL c (.node l p r)) (h : Fit tx (.node l p r) at_ b e) (hl : l.isN = false) : ∃ j, spotF tx (pr tx l) b (at_ - 1) (gt tx at_ + 1) = some j ∧ Fit tx l j b (at_ - 1) ∧ gt tx at_ + 1 ≤ gt tx j ∧ b ≤ j ∧ j ≤ at_ - 1 := by
  obtain ⟨F, E, h1, h2, h3⟩ := h.ex
  have a0 := h.a0; have an := h.an; have b0 := h.b0
  have h4 := (comb_some.mp h1)
  rw [if_neg (by rw [hl]; decide)] at h4
  have hm := lmax_mem h4.1
  have hF : F = lmax (fsT tx (pr tx l) at_) := congrArg Prod.fst h4.2.2
  rw [← hF] at hm
  obtain ⟨j, E', j0, j1, hj, hj2, hj3⟩ := mem_fsT.mp hm
  obtain ⟨_, _, _, _, _, q1, q2, q3, q4⟩ := pr_le l hp.1 j0 (by omega) hj
  obtain ⟨y, hy⟩ := spotF_ex (tx := tx) (g := pr tx l) (b := b) (e := at_ - 1) (least := gt tx at_ + 1) (x := j) (by omega) ⟨F, E', hj, by omega, h2, by omega⟩
  obtain ⟨y1, F2, E2, y2, y3, y4, y5⟩ := spotF_in hy
  exact ⟨y, hy, ⟨b0, by omega, by omega, by omega, F2, E2, y2, y4, y5⟩, y3, y1.1, y1.2⟩
theorem Fit.right {tx : List Int} {l r : BT} {p c : Nat} {at_ b e : Int} (hp : PL c (.node l p r)) (h : Fit tx (.node l p r) at_ b e) (hr : r.isN = false) : ∃ j, spotF tx (pr tx r) (at_ + 1) e (gt tx at_) = some j ∧ Fit tx r j (at_ + 1) e ∧ gt tx at_ ≤ gt tx j ∧ at_ + 1 ≤ j ∧ j ≤ e := by
  obtain ⟨F, E, h1, h2, h3⟩ := h.ex
  have a0 := h.a0; have an := h.an; have en := h.en
  have h4 := (comb_some.mp h1)
  rw [if_neg (show ¬ r.isN = true by rw [hr]; decide)] at h4
  have hm := lmin_mem h4.2.1
  have hE : E = lmin (lsT tx (pr tx r) at_) := congrArg Prod.snd h4.2.2
  rw [← hE] at hm
  obtain ⟨j, F', j0, j1, hj, hj2, hj3⟩ := mem_lsT.mp hm
  obtain ⟨_, _, _, _, _, q1, q2, q3, q4⟩ := pr_le r hp.2.2 (by omega) j1 hj
  obtain ⟨y, hy⟩ := spotF_ex (tx := tx) (g := pr tx r) (b := at_ + 1) (e := e) (least := gt tx at_) (x := j) (by omega) ⟨F', E, hj, by omega, by omega, h3⟩
  obtain ⟨y1, F2, E2, y2, y3, y4, y5⟩ := spotF_in hy
  exact ⟨y, hy, ⟨by omega, en, by omega, by omega, F2, E2, y2, y4, y5⟩, y3, y1.1, y1.2⟩
theorem nb_app1 {l m : List Int} {i : Nat} (h : i < l.length) : nb (l ++ m) i = nb l i := by
  unfold nb; rw [List.getD_eq_getElem?_getD, List.getD_eq_getElem?_getD, List.getElem?_append_left h]
theorem nb_app2 {l m : List Int} {i : Nat} (h : l.length ≤ i) : nb (l ++ m) i = nb m (i - l.length) := by
  unfold nb; rw [List.getD_eq_getElem?_getD, List.getD_eq_getElem?_getD, List.getElem?_append_right h]
theorem isN_nil {s : BT} (h : s.isN = true) : s = .nil := by
  cases s with
  | nil => rfl
  | node => cases h
structure PlcOk (tx : List Int) (s : BT) (c : Nat) (at_ b e : Int) (one : List Int) : Prop where
  len : one.length = s.size
  inn : ∀ x ∈ one, b ≤ x ∧ x ≤ e
  up : one.Pairwise (· < ·)
  rt : ∀ x, s.root = some x → nb one (x.toNat - c) = at_
  fb : FB (fun q => gt tx (nb one (q - c))) s
theorem plc_ok {tx : List Int} : ∀ (s : BT) {c : Nat} {at_ b e : Int}, PL c s → Fit tx s at_ b e → PlcOk tx s c at_ b e (plc tx s at_ b e)
  | .nil, _, _, _, _, _, h => by obtain ⟨F, E, h1, _⟩ := h.ex; cases h1
  | .node l p r, c, at_, b, e, hp, h => by
    have hp' := hp
    obtain ⟨pl, ep, prr⟩ := hp'
    have hin : b ≤ at_ ∧ at_ ≤ e := by
      obtain ⟨F, E, h1, h2, h3⟩ := h.ex
      obtain ⟨_, _, _, _, _, q1, q2, q3, q4⟩ := pr_le (.node l p r) hp h.a0 h.an h1
      omega
    obtain ⟨L, hL, kL⟩ : ∃ L, L = (if l.isN then [] else plc tx l (oget (spotF tx (pr tx l) b (at_ - 1) (gt tx at_ + 1))) b (at_ - 1)) ∧ (L.length = l.size ∧ (∀ x ∈ L, b ≤ x ∧ x ≤ at_ - 1) ∧ L.Pairwise (· < ·) ∧ (∀ x, l.root = some x → gt tx at_ < gt tx (nb L (x.toNat - c))) ∧ FB (fun q => gt tx (nb L (q - c))) l) := by
      by_cases hn : l.isN = true
      · refine ⟨[], by rw [if_pos hn], ?_⟩
        rw [isN_nil hn]
        exact ⟨rfl, fun x hx => (by cases hx), .nil, fun x hx => (by cases hx), trivial⟩
      · obtain ⟨j, hj, hf, hg, _⟩ := h.left hp (by simpa using hn)
        have k := plc_ok l pl hf
        refine ⟨_, rfl, ?_⟩
        rw [if_neg hn, hj, show oget (some j) = j from rfl]
        exact ⟨k.len, k.inn, k.up, fun x hx => by rw [k.rt x hx]; omega, k.fb⟩
    obtain ⟨R, hR, kR⟩ : ∃ R, R = (if r.isN then [] else plc tx r (oget (spotF tx (pr tx r) (at_ + 1) e (gt tx at_))) (at_ + 1) e) ∧ (R.length = r.size ∧ (∀ x ∈ R, at_ + 1 ≤ x ∧ x ≤ e) ∧ R.Pairwise (· < ·) ∧ (∀ x, r.root = some x → gt tx at_ ≤ gt tx (nb R (x.toNat - (p + 1)))) ∧ FB (fun q => gt tx (nb R (q - (p + 1)))) r) := by
      by_cases hn : r.isN = true
      · refine ⟨[], by rw [if_pos hn], ?_⟩
        rw [isN_nil hn]
        exact ⟨rfl, fun x hx => (by cases hx), .nil, fun x hx => (by cases hx), trivial⟩
      · obtain ⟨j, hj, hf, hg, _⟩ := h.right hp (by simpa using hn)
        have k := plc_ok r prr hf
        refine ⟨_, rfl, ?_⟩
        rw [if_neg hn, hj, show oget (some j) = j from rfl]
        exact ⟨k.len, k.inn, k.up, fun x hx => by rw [k.rt x hx]; omega, k.fb⟩
    show PlcOk tx (.node l p r) c at_ b e (_ ++ [at_] ++ _)
    rw [← hL, ← hR]
    obtain ⟨L1, L2, L3, L4, L5⟩ := kL
    obtain ⟨R1, R2, R3, R4, R5⟩ := kR
    have hz : (BT.node l p r).size = l.size + r.size + 1 := rfl
    have eL : ∀ q, c ≤ q → q < c + l.size → nb (L ++ [at_] ++ R) (q - c) = nb L (q - c) := fun q q1 q2 => by
      rw [List.append_assoc, nb_app1 (by omega)]
    have eP : nb (L ++ [at_] ++ R) (p - c) = at_ := by
      rw [List.append_assoc, nb_app2 (by omega), show p - c - L.length = 0 by omega]; rfl
    have eR : ∀ q, p + 1 ≤ q → q < p + 1 + r.size → nb (L ++ [at_] ++ R) (q - c) = nb R (q - (p + 1)) := fun q q1 q2 => by
      rw [nb_app2 (by rw [List.length_append, List.length_singleton]; omega), List.length_append, List.length_singleton, show q - c - (L.length + 1) = q - (p + 1) by omega]
    refine ⟨by rw [List.length_append, List.length_append, List.length_singleton]; omega, fun x hx => ?_, ?_, fun x hx => ?_, fun x hx => ?_, fun x hx => ?_, ?_, ?_⟩
    · rcases List.mem_append.mp hx with hx | hx
      · rcases List.mem_append.mp hx with hx | hx
        · have := L2 x hx; omega
        · rw [List.mem_singleton.mp hx]; exact hin
      · have := R2 x hx; omega
    · rw [List.pairwise_append, List.pairwise_append]
      refine ⟨⟨L3, List.pairwise_singleton _ _, fun x hx y hy => ?_⟩, R3, fun x hx y hy => ?_⟩
      · rw [List.mem_singleton.mp hy]; have := L2 x hx; omega
      · have := R2 y hy
        rcases List.mem_append.mp hx with hx | hx
        · have := L2 x hx; omega
        · rw [List.mem_singleton.mp hx]; omega
    · have e0 : some (p : Int) = some x := hx
      cases e0
      rw [Int.toNat_natCast]; exact eP
    · have := root_in pl hx
      show gt tx (nb _ (p - c)) < gt tx (nb _ (x.toNat - c))
      rw [eP, eL _ (by omega) (by omega)]
      exact L4 x hx
    · have := root_in prr hx
      show gt tx (nb _ (p - c)) ≤ gt tx (nb _ (x.toNat - c))
      rw [eP, eR _ (by omega) (by omega)]
      exact R4 x hx
    · exact L5.congr pl fun q q1 q2 => by rw [eL q q1 q2]
    · exact R5.congr prr fun q q1 q2 => by rw [eR q q1 q2]
end Lo
end TM


set_option linter.all false
set_option maxHeartbeats 1000000
namespace TM
namespace Lo
open GL
/-! ### the finder's state -/
abbrev FS := List Int × List (Option Int × Option Int) × OT × Unit × Unit
def subF (h : List (Option Int × Option Int)) (p : Int) : BT := btF (gt h) 60 (some p)
theorem HB.cg {n : Nat} {f g : Int → Option Int × Option Int} {o : Option Int} {b : BT} (h : HB n f o b) (e : ∀ p : Nat, p < n → f p = g p) : HB n g o b := by
  induction h with
  | nil => exact .nil
  | node hp _ _ i1 i2 =>
    rw [e _ hp] at i1 i2
    exact .node hp i1 i2
theorem subF_is {row : List Int} (hl : row.length ≤ 40) {q : Int} (hq : 0 ≤ q ∧ q < row.length) : subF (handsL (treeOf row)) q = sub (treeOf row) q := by
  obtain ⟨a, b, s, h⟩ := sub_at hl (q := q.toNat) (by omega)
  have e := h.eq
  have hb := h.hb
  rw [show ((q.toNat : Nat) : Int) = q by omega] at e hb
  have hb' := HB.cg (g := gt (handsL (treeOf row))) hb fun p hp => (gt_handsL (by rw [treeOf_len]; exact hp)).symm
  rw [e]
  exact hb'.bt 60 (by have := s.hs; have := h.size; have := h.bn; omega)
def FOk (f : FS) : Prop := ∃ row : List Int, (1 ≤ row.length ∧ row.length ≤ 6) ∧ f.1.length ≤ 16 ∧ f.2.1 = handsL (treeOf row) ∧ f.2.2.1 = tabL f.1 row
theorem FOk.lens {f : FS} (h : FOk f) : f.1.length ≤ 16 ∧ f.2.2.1.length = f.2.1.length ∧ f.2.1.length ≤ 6 ∧ ∀ l ∈ f.2.2.1, l.length = f.1.length := by
  obtain ⟨row, h1, h2, h3, h4⟩ := h
  rw [h3, h4, tabL_len, handsL_len, treeOf_len]
  exact ⟨h2, rfl, h1.2, fun l hl => tabL_mem hl⟩
theorem FOk.line {f : FS} (h : FOk f) {p : Int} (hp : 0 ≤ p ∧ p < f.2.1.length) {a : Int} (ha : 0 ≤ a ∧ a < f.1.length) : gt (gt f.2.2.1 p) a = pr f.1 (subF f.2.1 p) a := by
  obtain ⟨row, h1, h2, h3, h4⟩ := h
  rw [h3, handsL_len, treeOf_len] at hp
  rw [h4, h3, gt_tabL hp, gt_line ha, subF_is (by omega) hp]
def kid (h : List (Option Int × Option Int)) (o : Option Int) : BT := match o with
  | none => .nil
  | some x => subF h x
theorem FOk.node {f : FS} (h : FOk f) {p : Int} (hp : 0 ≤ p ∧ p < f.2.1.length) : (∃ n, subF f.2.1 p = .node (kid f.2.1 (gt f.2.1 p).1) n (kid f.2.1 (gt f.2.1 p).2)) ∧ (∃ c, PL c (subF f.2.1 p)) ∧
    (∀ x, (gt f.2.1 p).1 = some x → 0 ≤ x ∧ x < f.2.1.length) ∧ (∀ x, (gt f.2.1 p).2 = some x → 0 ≤ x ∧ x < f.2.1.length) := by
  obtain ⟨row, h1, h2, h3, h4⟩ := h
  have hl : f.2.1.length = row.length := by rw [h3, handsL_len, treeOf_len]
  rw [hl] at hp ⊢
  obtain ⟨l, r, e1, e2, e3, e4, e5, e6⟩ := sub_node (row := row) (by omega) (q := p.toNat) (by omega)
  rw [show ((p.toNat : Nat) : Int) = p by omega] at e1 e2 e3 e4 e5 e6
  have hg : gt f.2.1 p = hT (treeOf row) p := by
    have := gt_handsL (t := treeOf row) (p := p.toNat) (by rw [treeOf_len]; omega)
    rw [show ((p.toNat : Nat) : Int) = p by omega] at this
    rw [h3]; exact this
  have es : subF f.2.1 p = sub (treeOf row) p := by rw [h3]; exact subF_is (by omega) hp
  rw [es, hg]
  have kl : kid f.2.1 (hT (treeOf row) p).1 = l := by
    cases e : (hT (treeOf row) p).1 with
    | none => exact (e4 e).symm
    | some x =>
      obtain ⟨x0, x1, _, el⟩ := e3 x e
      rw [el, h3]; exact subF_is (by omega) ⟨x0, x1⟩
  have kr : kid f.2.1 (hT (treeOf row) p).2 = r := by
    cases e : (hT (treeOf row) p).2 with
    | none => exact (e6 e).symm
    | some x =>
      obtain ⟨x0, x1, _, el⟩ := e5 x e
      rw [el, h3]; exact subF_is (by omega) ⟨x0, x1⟩
  rw [kl, kr]
  exact ⟨⟨_, e1⟩, e2, fun x hx => ⟨(e3 x hx).1, (e3 x hx).2.1⟩, fun x hx => ⟨(e5 x hx).1, (e5 x hx).2.1⟩⟩
def plcL (tx : List Int) (s : BT) (at_ b : Int) : List Int := if s.isN then [] else plc tx s (oget (spotF tx (pr tx s) b (at_ - 1) (gt tx at_ + 1))) b (at_ - 1)
def plcR (tx : List Int) (s : BT) (at_ e : Int) : List Int := if s.isN then [] else plc tx s (oget (spotF tx (pr tx s) (at_ + 1) e (gt tx at_))) (at_ + 1) e
theorem FOk.plc {f : FS} (h : FOk f) {p : Int} (hp : 0 ≤ p ∧ p < f.2.1.length) (a b e : Int) : plc f.1 (subF f.2.1 p) a b e = plcL f.1 (kid f.2.1 (gt f.2.1 p).1) a b ++ [a] ++ plcR f.1 (kid f.2.1 (gt f.2.1 p).2) a e := by
  obtain ⟨⟨n, e1⟩, _⟩ := h.node hp
  rw [e1]; rfl
theorem kid_some {h : List (Option Int × Option Int)} {x : Int} : (kid h (some x)).isN = false := rfl
theorem FOk.left {f : FS} (h : FOk f) {p : Int} (hp : 0 ≤ p ∧ p < f.2.1.length) {a b e : Int} (hf : Fit f.1 (subF f.2.1 p) a b e) {x : Int} (hx : (gt f.2.1 p).1 = some x) : (0 ≤ x ∧ x < f.2.1.length) ∧ (subF f.2.1 x).size < (subF f.2.1 p).size ∧
    ∃ j, spotF f.1 (pr f.1 (subF f.2.1 x)) b (a - 1) (gt f.1 a + 1) = some j ∧ Fit f.1 (subF f.2.1 x) j b (a - 1) ∧ plcL f.1 (kid f.2.1 (some x)) a b = Lo.plc f.1 (subF f.2.1 x) j b (a - 1) := by
  obtain ⟨⟨n, e1⟩, ⟨c, hc⟩, h1, _⟩ := h.node hp
  rw [e1] at hf hc
  rw [hx] at hf hc e1
  obtain ⟨j, j1, j2, _⟩ := hf.left hc (kid_some (h := f.2.1) (x := x))
  refine ⟨h1 x hx, ?_, j, j1, j2, ?_⟩
  · rw [e1]; show _ < (subF f.2.1 x).size + _ + 1; omega
  · unfold plcL
    rw [if_neg (by rw [kid_some]; decide)]
    show Lo.plc f.1 (subF f.2.1 x) (oget (spotF f.1 (pr f.1 (subF f.2.1 x)) _ _ _)) _ _ = _
    rw [show spotF f.1 (pr f.1 (subF f.2.1 x)) b (a - 1) (gt f.1 a + 1) = some j from j1]; rfl
theorem FOk.right {f : FS} (h : FOk f) {p : Int} (hp : 0 ≤ p ∧ p < f.2.1.length) {a b e : Int} (hf : Fit f.1 (subF f.2.1 p) a b e) {x : Int} (hx : (gt f.2.1 p).2 = some x) : (0 ≤ x ∧ x < f.2.1.length) ∧ (subF f.2.1 x).size < (subF f.2.1 p).size ∧
    ∃ j, spotF f.1 (pr f.1 (subF f.2.1 x)) (a + 1) e (gt f.1 a) = some j ∧ Fit f.1 (subF f.2.1 x) j (a + 1) e ∧ plcR f.1 (kid f.2.1 (some x)) a e = Lo.plc f.1 (subF f.2.1 x) j (a + 1) e := by
  obtain ⟨⟨n, e1⟩, ⟨c, hc⟩, _, h1⟩ := h.node hp
  rw [e1] at hf hc
  rw [hx] at hf hc e1
  obtain ⟨j, j1, j2, _⟩ := hf.right hc (kid_some (h := f.2.1) (x := x))
  refine ⟨h1 x hx, ?_, j, j1, j2, ?_⟩
  · rw [e1]; show _ < _ + (subF f.2.1 x).size + 1; omega
  · unfold plcR
    rw [if_neg (by rw [kid_some]; decide)]
    show Lo.plc f.1 (subF f.2.1 x) (oget (spotF f.1 (pr f.1 (subF f.2.1 x)) _ _ _)) _ _ = _
    rw [show spotF f.1 (pr f.1 (subF f.2.1 x)) (a + 1) e (gt f.1 a) = some j from j1]; rfl
theorem FOk.size {f : FS} (h : FOk f) {p : Int} (hp : 0 ≤ p ∧ p < f.2.1.length) : (subF f.2.1 p).size ≤ 6 := by
  obtain ⟨row, h1, h2, h3, h4⟩ := h
  rw [h3, handsL_len, treeOf_len] at hp
  rw [h3, subF_is (by omega) hp]
  obtain ⟨a, b, s, hs⟩ := sub_at (row := row) (by omega) (q := p.toNat) (by omega)
  have e := hs.eq
  rw [show ((p.toNat : Nat) : Int) = p by omega] at e
  rw [e, hs.size]
  have := hs.bn
  omega
theorem FOk.plen {f : FS} (h : FOk f) {p : Int} (hp : 0 ≤ p ∧ p < f.2.1.length) {a b e : Int} (hf : Fit f.1 (subF f.2.1 p) a b e) : (Lo.plc f.1 (subF f.2.1 p) a b e).length ≤ 6 := by
  obtain ⟨_, ⟨c, hc⟩, _⟩ := h.node hp
  rw [(plc_ok _ hc hf).len]
  exact h.size hp
end Lo
end TM


set_option linter.all false
set_option maxHeartbeats 1000000
namespace TM
namespace Lo
open GL
def placesIn (row text : List Int) (a b : Int) : Option (List Int) :=
  (spotF (sl text (some a) (some (b + 1))) (pr (sl text (some a) (some (b + 1))) (subF (handsL (treeOf row)) (((treeOf row).idxOf (-1) : Nat) : Int))) 0 ((sl text (some a) (some (b + 1))).length - 1) (lmin (sl text (some a) (some (b + 1))))).map fun x =>
    (plc (sl text (some a) (some (b + 1))) (subF (handsL (treeOf row)) (((treeOf row).idxOf (-1) : Nat) : Int)) x 0 ((sl text (some a) (some (b + 1))).length - 1)).map fun y => a + y
def asked53 (x : Addr) (row text : List Int) (a b : Int) : Option (Sum Addr (List Int)) := if 0 ≤ a ∧ a ≤ b ∧ b < text.length then (placesIn row text a b).map Sum.inr else some (.inl x)
structure HoldsP (row text : List Int) (a b : Int) (one : List Int) : Prop where
  len : one.length = row.length
  inn : ∀ x ∈ one, (a ≤ x ∧ x ≤ b) ∧ 0 ≤ x ∧ x < text.length
  up : one.Pairwise (· < ·)
  tree : treeOf (one.map fun x => gt text x) = treeOf row
theorem gtB_in {l : List Int} (h : 0 < l.length) : gtB l 1 ∈ l := by
  unfold gtB
  rw [List.getD_eq_getElem?_getD, List.getElem?_eq_getElem (by omega)]
  exact List.getElem_mem _
theorem gt_part {text : List Int} {a b j : Int} (h : 0 ≤ a ∧ a ≤ b ∧ b < text.length) (hj : 0 ≤ j ∧ j < b + 1 - a) : gt (sl text (some a) (some (b + 1))) j = gt text (a + j) := by
  rw [sl_mid (by omega)]
  unfold gt
  rw [List.getD_eq_getElem?_getD, List.getD_eq_getElem?_getD, List.getElem?_take, if_pos (by omega), List.getElem?_drop, show a.toNat + j.toNat = (a + j).toNat by omega]
theorem mono_le {s : BT} {tx : List Int} {f : Nat → Int} (h : Emb tx s 0 f) {q : Nat} (hq : q < s.size) : f 0 ≤ f q ∧ f q ≤ f (s.size - 1) := by
  constructor
  · rcases Nat.eq_zero_or_pos q with z | z
    · rw [z]; exact Int.le_refl _
    · exact Int.le_of_lt (h.up 0 q (Nat.le_refl _) z (by omega))
  · by_cases z : q = s.size - 1
    · rw [z]; exact Int.le_refl _
    · exact Int.le_of_lt (h.up q (s.size - 1) (Nat.zero_le _) (by omega) (by omega))
theorem places_main {row text : List Int} (hr : 1 ≤ row.length ∧ row.length ≤ 6 ∧ text.length ≤ 16) {a b : Int} (hab : 0 ≤ a ∧ a ≤ b ∧ b < text.length) :
    ((∃ x ∈ somes (topL text row), a ≤ x.1 ∧ x.2 ≤ b) → ∃ one, placesIn row text a b = some one ∧ HoldsP row text a b one) ∧ ((∃ one, placesIn row text a b = some one) → ∃ x ∈ somes (topL text row), a ≤ x.1 ∧ x.2 ≤ b) := by
  obtain ⟨s, h⟩ := top_sub hr.1 (by omega)
  have htl := top_lt hr.1
  have hsz := h.size
  have hpl := h.pl
  have es : subF (handsL (treeOf row)) (((treeOf row).idxOf (-1) : Nat) : Int) = s := (subF_is (by omega) (by omega)).trans h.eq
  obtain ⟨part, hpart⟩ : ∃ part, part = sl text (some a) (some (b + 1)) := ⟨_, rfl⟩
  have plen : (part.length : Int) = b + 1 - a := by rw [hpart]; exact sl_win2_len hab
  have hgp : ∀ {j : Int}, 0 ≤ j → j < b + 1 - a → gt part j = gt text (a + j) := fun h1 h2 => by rw [hpart]; exact gt_part hab ⟨h1, h2⟩
  have hpi : placesIn row text a b = (spotF part (pr part s) 0 ((part.length : Int) - 1) (lmin part)).map fun x => (plc part s x 0 ((part.length : Int) - 1)).map fun y => a + y := by
    rw [hpart, ← es]; rfl
  rw [topL_is hr.1 h]
  constructor
  · rintro ⟨x, hx, x1, x2⟩
    obtain ⟨at_, ha, e⟩ := mem_somes.mp hx
    obtain ⟨f, he, _, f1, f2, _⟩ := pr_le s hpl ha.1 ha.2 (show pr text s at_ = some (x.1, x.2) from e)
    rw [Nat.zero_add] at f2
    have hb : ∀ q, q < s.size → a ≤ f q ∧ f q ≤ b := fun q hq => by have := mono_le he hq; omega
    have he' : Emb part s 0 (fun q => f q - a) := ⟨fun q q1 q2 => by have := hb q (by omega); omega, fun q q' q1 q2 q3 => by have := he.up q q' q1 q2 q3; omega, he.ok.congr hpl fun q q1 q2 => by
      have := hb q (by omega)
      rw [hgp (by omega) (by omega)]; congr 1; omega⟩
    obtain ⟨F, E, g1, g2, g3⟩ := pr_ge s hpl he' h.root
    have hroot : (((treeOf row).idxOf (-1) : Nat) : Int).toNat < s.size := by rw [Int.toNat_natCast]; omega
    have hbr := hb _ hroot
    have hb0 := hb 0 (by omega)
    have hbz := hb (s.size - 1) (by omega)
    rw [Nat.zero_add] at g3
    obtain ⟨y, hy⟩ := spotF_ex (tx := part) (g := pr part s) (b := 0) (e := (part.length : Int) - 1) (least := lmin part) (x := f (((treeOf row).idxOf (-1) : Nat) : Int).toNat - a) (by omega) ⟨F, E, g1, (lmin_spec part (fun z => by rw [z] at plen; simp at plen; omega)).2 _ (gt_in (by omega)), by omega, by omega⟩
    obtain ⟨y1, F2, E2, y2, y3, y4, y5⟩ := spotF_in hy
    have k := plc_ok s hpl (show Fit part s y 0 ((part.length : Int) - 1) from ⟨Int.le_refl _, by omega, by omega, by omega, F2, E2, y2, y4, y5⟩)
    refine ⟨_, by rw [hpi, hy]; rfl, ?_, fun z hz => ?_, ?_, ?_⟩
    · rw [List.length_map, k.len]; omega
    · obtain ⟨w, hw, rfl⟩ := List.mem_map.mp hz
      have := k.inn w hw; omega
    · exact List.pairwise_map.mpr (k.up.imp fun h => by omega)
    · have hz : ((plc part s y 0 ((part.length : Int) - 1)).map fun y => a + y).map (fun x => gt text x) = (plc part s y 0 ((part.length : Int) - 1)).map fun x => gt part x := by
        rw [List.map_map]
        refine List.map_congr_left fun w hw => ?_
        have := k.inn w hw
        show gt text (a + w) = gt part w
        rw [hgp (by omega) (by omega)]
      rw [hz]
      have hown := h.own (row := row) (by omega)
      rw [whole_sl] at hown
      rw [hown]
      refine (h.tree (by omega) (by rw [List.length_map, k.len]; exact h.size)).mpr ?_
      refine k.fb.congr hpl fun q q1 q2 => ?_
      rw [nb_map' (by rw [k.len]; omega)]
  · rintro ⟨one, ho⟩
    rw [hpi] at ho
    cases hy : spotF part (pr part s) 0 ((part.length : Int) - 1) (lmin part) with
    | none => rw [hy] at ho; cases ho
    | some y =>
      obtain ⟨y1, F2, E2, y2, y3, y4, y5⟩ := spotF_in hy
      obtain ⟨f, he, _, f1, f2, q1, q2, q3, q4⟩ := pr_le s hpl (by omega) (by omega) y2
      have hm : ∀ q, q < s.size → 0 ≤ f q ∧ f q < part.length := fun q hq => he.r q (Nat.zero_le _) (by omega)
      have he' : Emb text s 0 (fun q => a + f q) := ⟨fun q q1 q2 => by have := hm q (by omega); omega, fun q q' q1 q2 q3 => by have := he.up q q' q1 q2 q3; omega, he.ok.congr hpl fun q q1 q2 => by
        have := hm q (by omega)
        rw [hgp (by omega) (by omega)]⟩
      obtain ⟨F, E, g1, g2, g3⟩ := pr_ge s hpl he' h.root
      have hroot : (((treeOf row).idxOf (-1) : Nat) : Int).toNat < s.size := by rw [Int.toNat_natCast]; omega
      have hmr := hm _ hroot
      have hm0 := hm 0 (by omega)
      rw [Nat.zero_add] at g3
      have hmz := hm (s.size - 1) (by omega)
      exact ⟨(F, E), mem_somes.mpr ⟨_, ⟨by omega, by omega⟩, g1⟩, by show a ≤ F; omega, by show E ≤ b; omega⟩
end Lo
end TM


set_option linter.all false
set_option maxHeartbeats 1000000
namespace TM
namespace Lo
open GL
/-! ### how many tuples: the count over a tree, and what is known of it -/
def mof (tx : List Int) : BT → Int → Int → Int → Int
  | .nil, _, _, _ => 1
  | .node l n r, b, e, least => (((rg b (e + 1)).filter fun a => decide (gt tx a ≥ least) && (pr tx (.node l n r) a).isSome).map fun a => mof tx l b (a - 1) (gt tx a + 1) * mof tx r (a + 1) e (gt tx a)).sum
def mat (tx : List Int) (t : BT) (a b e : Int) : Int := match t with
  | .nil => 1
  | .node l _ r => mof tx l b (a - 1) (gt tx a + 1) * mof tx r (a + 1) e (gt tx a)
def spots (tx : List Int) (t : BT) (b e least : Int) : List Int := (rg b (e + 1)).filter fun a => decide (gt tx a ≥ least) && (pr tx t a).isSome
/-! what is known -/
def lvls (tx : List Int) : List Int := 0 :: (tx ++ tx.map (· + 1))
def allK (tx : List Int) : List (List Int) := (rg 0 6).flatMap fun p => (rg 0 17).flatMap fun b => (rg (-1) 16).flatMap fun e => (lvls tx).map fun l => [p, b, e, l]
theorem flat_len {α β : Type} {f : α → List β} {n : Nat} : ∀ {l : List α}, (∀ x ∈ l, (f x).length = n) → (l.flatMap f).length = l.length * n
  | [], _ => by simp
  | x :: l, h => by rw [List.flatMap_cons, List.length_append, h x List.mem_cons_self, flat_len fun y hy => h y (List.mem_cons_of_mem _ hy), List.length_cons, Nat.add_mul, Nat.one_mul, Nat.add_comm]
theorem allK_len {tx : List Int} (h : tx.length ≤ 16) : (allK tx).length < 1000000 := by
  have hl : (lvls tx).length ≤ 33 := by unfold lvls; rw [List.length_cons, List.length_append, List.length_map]; omega
  unfold allK
  rw [flat_len (n := 17 * (17 * (lvls tx).length)) fun p _ => ?_, rg_len]
  · show 6 * (17 * (17 * (lvls tx).length)) < 1000000; omega
  · rw [flat_len (n := 17 * (lvls tx).length) fun b _ => ?_, rg_len]
    · rfl
    · rw [flat_len (n := (lvls tx).length) fun e _ => ?_, rg_len]
      · rfl
      · rw [List.length_map]
theorem allK_in {tx : List Int} {p b e l : Int} (h1 : 0 ≤ p ∧ p < 6) (h2 : 0 ≤ b ∧ b < 17) (h3 : -1 ≤ e ∧ e < 16) (h4 : l ∈ lvls tx) : [p, b, e, l] ∈ allK tx := by
  unfold allK
  simp only [List.mem_flatMap, List.mem_map]
  exact ⟨p, rg_mem.mpr h1, b, rg_mem.mpr h2, e, rg_mem.mpr h3, l, h4, rfl⟩
abbrev FM := List Int × List (Option Int × Option Int) × OT × List (List Int × Int) × Unit
def FM.st (f : FM) : FS := (f.1, f.2.1, f.2.2.1, (), ())
structure KOk (f : FM) : Prop where
  ok : FOk f.st
  nd : (f.2.2.2.1.map Prod.fst).Nodup
  inn : ∀ k ∈ f.2.2.2.1.map Prod.fst, k ∈ allK f.1
  val : ∀ p b e l v, dget f.2.2.2.1 [p, b, e, l] = some v → v = mof f.1 (subF f.2.1 p) b e l
structure Box (tx : List Int) (b e l : Int) : Prop where
  b0 : 0 ≤ b
  be : b ≤ e + 1
  en : e < tx.length
  lv : l ∈ lvls tx
theorem KOk.lens {f : FM} (h : KOk f) : f.1.length ≤ 16 ∧ f.2.2.1.length = f.2.1.length ∧ f.2.1.length ≤ 6 ∧ ∀ l ∈ f.2.2.1, l.length = f.1.length := h.ok.lens
theorem KOk.few {f : FM} (h : KOk f) : f.2.2.2.1.length < 1000000 := by
  obtain ⟨T, hT⟩ := perm_sub h.nd h.inn
  have := hT.length_eq
  rw [List.length_append, List.length_map] at this
  have := allK_len h.lens.1
  omega
theorem KOk.put {f : FM} (h : KOk f) {p b e l : Int} (hp : 0 ≤ p ∧ p < f.2.1.length) (hb : Box f.1 b e l) {v : Int} (hv : v = mof f.1 (subF f.2.1 p) b e l) : KOk (f.1, f.2.1, f.2.2.1, dput f.2.2.2.1 [p, b, e, l] v, f.2.2.2.2) := by
  have hl := h.lens
  have hb' := hb
  obtain ⟨b0, be, en, lv⟩ := hb'
  have hk : [p, b, e, l] ∈ allK f.1 := allK_in (by omega) (by omega) (by omega) lv
  refine ⟨h.ok, ?_, ?_, fun p' b' e' l' v' hg => ?_⟩
  · show ((dput f.2.2.2.1 [p, b, e, l] v).map Prod.fst).Nodup
    unfold dput
    split
    · rw [List.map_map, List.map_congr_left (g := Prod.fst)]
      · exact h.nd
      · intro q _; show (if q.1 = [p, b, e, l] then (q.1, v) else q).1 = q.1; split <;> rfl
    · rename_i hn
      rw [List.map_append]
      refine List.nodup_append.mpr ⟨h.nd, by simp, fun a ha c hc => ?_⟩
      rw [List.map_cons, List.map_nil, List.mem_singleton] at hc
      subst hc
      intro e'
      obtain ⟨q, hq, rfl⟩ := List.mem_map.mp ha
      exact hn (List.any_eq_true.mpr ⟨q, hq, decide_eq_true e'⟩)
  · intro k hk'
    have hk2 : k ∈ (dput f.2.2.2.1 [p, b, e, l] v).map Prod.fst := hk'
    unfold dput at hk2
    split at hk2
    · rw [List.map_map, List.map_congr_left (g := Prod.fst)] at hk2
      · exact h.inn k hk2
      · intro q _; show (if q.1 = [p, b, e, l] then (q.1, v) else q).1 = q.1; split <;> rfl
    · rw [List.map_append, List.mem_append] at hk2
      rcases hk2 with z | z
      · exact h.inn k z
      · rw [List.map_cons, List.map_nil, List.mem_singleton] at z
        rw [z]; exact hk
  · have hg' : dget (dput f.2.2.2.1 [p, b, e, l] v) [p', b', e', l'] = some v' := hg
    rw [dget_dput] at hg'
    split at hg'
    · rename_i he
      injection he with e1 he
      injection he with e2 he
      injection he with e3 he
      injection he with e4 _
      subst e1 e2 e3 e4
      cases hg'
      exact hv
    · exact h.val _ _ _ _ _ hg'
theorem KOk.node {f : FM} (h : KOk f) {p : Int} (hp : 0 ≤ p ∧ p < f.2.1.length) : (∃ n, subF f.2.1 p = .node (kid f.2.1 (gt f.2.1 p).1) n (kid f.2.1 (gt f.2.1 p).2)) ∧
    (∀ x, (gt f.2.1 p).1 = some x → 0 ≤ x ∧ x < f.2.1.length) ∧ (∀ x, (gt f.2.1 p).2 = some x → 0 ≤ x ∧ x < f.2.1.length) :=
  let z := h.ok.node hp
  ⟨z.1, z.2.2.1, z.2.2.2⟩
theorem KOk.size {f : FM} (h : KOk f) {p : Int} (hp : 0 ≤ p ∧ p < f.2.1.length) : (subF f.2.1 p).size ≤ 6 := h.ok.size hp
theorem KOk.sizes {f : FM} (h : KOk f) {p : Int} (hp : 0 ≤ p ∧ p < f.2.1.length) : (subF f.2.1 p).size = (kid f.2.1 (gt f.2.1 p).1).size + (kid f.2.1 (gt f.2.1 p).2).size + 1 := by
  obtain ⟨⟨n, e⟩, _⟩ := h.node hp
  rw [e]; rfl
theorem KOk.mat {f : FM} (h : KOk f) {p : Int} (hp : 0 ≤ p ∧ p < f.2.1.length) (a b e : Int) : Lo.mat f.1 (subF f.2.1 p) a b e = mof f.1 (kid f.2.1 (gt f.2.1 p).1) b (a - 1) (gt f.1 a + 1) * mof f.1 (kid f.2.1 (gt f.2.1 p).2) (a + 1) e (gt f.1 a) := by
  obtain ⟨⟨n, e1⟩, _⟩ := h.node hp
  rw [e1]; rfl
theorem KOk.line {f : FM} (h : KOk f) {p : Int} (hp : 0 ≤ p ∧ p < f.2.1.length) {a : Int} (ha : 0 ≤ a ∧ a < f.1.length) : gt (gt f.2.2.1 p) a = pr f.1 (subF f.2.1 p) a := h.ok.line hp ha
def Sm (f g : FM) : Prop := f.1 = g.1 ∧ f.2.1 = g.2.1
def Has (f : FM) (k : List Int) : Prop := (dget f.2.2.2.1 k).isSome = true
theorem Has.put {t : List Int} {h : List (Option Int × Option Int)} {o : OT} {d : List (List Int × Int)} {u : Unit} {k : List Int} {v : Int} : Has (t, h, o, dput d k v, u) k := by
  show (dget (dput d k v) k).isSome = true
  rw [dget_dput, if_pos rfl]; rfl
theorem KOk.get {f : FM} (h : KOk f) {p b e l : Int} (hs : Has f [p, b, e, l]) : dgetV f.2.2.2.1 [p, b, e, l] = mof f.1 (subF f.2.1 p) b e l := by
  obtain ⟨v, hv⟩ := Option.isSome_iff_exists.mp hs
  unfold dgetV
  rw [hv]
  exact h.val _ _ _ _ _ hv
theorem KOk.spots {f : FM} (h : KOk f) {p : Int} (hp : 0 ≤ p ∧ p < f.2.1.length) {b e l : Int} (hb : 0 ≤ b) (he : e < f.1.length) : (rg b (e + 1)).filter (fun c => decide ((l ≤ gt f.1 c) ∧ (¬ gt (gt f.2.2.1 p) c = none))) = Lo.spots f.1 (subF f.2.1 p) b e l := by
  unfold Lo.spots
  refine List.filter_congr fun c hc => ?_
  have hc' := rg_mem.mp hc
  rw [h.line hp (by omega)]
  cases e1 : pr f.1 (subF f.2.1 p) c with
  | none => simp
  | some q => simp
end Lo
end TM


set_option linter.all false
set_option maxHeartbeats 1000000
namespace TM
namespace Lo
open GL
def manyL (row text : List Int) : Int := mof text (kid (handsL (treeOf row)) (some (((treeOf row).idxOf (-1) : Nat) : Int))) 0 (text.length - 1) (dmin text 0)
theorem KOk.new {row text : List Int} (h : (1 ≤ row.length ∧ row.length ≤ 6) ∧ text.length ≤ 16) : KOk (text, handsL (treeOf row), tabL text row, [], ()) :=
  ⟨⟨row, h.1, h.2, rfl, rfl⟩, by show ([] : List (List Int)).Nodup; exact List.nodup_nil, fun k hk => (by cases (show k ∈ ([] : List (List Int)) from hk)), fun p b e l v hv => by cases (show (none : Option Int) = some v from hv)⟩
theorem Box.all {text : List Int} : Box text 0 (text.length - 1) (dmin text 0) := ⟨Int.le_refl _, by omega, by omega, by
  unfold dmin
  split
  · exact List.mem_cons_self
  · rename_i hn
    exact List.mem_cons_of_mem _ (List.mem_append_left _ (lmin_spec _ hn).1)⟩
end Lo
end TM


set_option linter.all false
set_option maxHeartbeats 1000000
namespace TM
namespace Lo
open GL
/-! ### the same words over the finder with its dict -/
def FOkK (f : FM) : Prop := FOk f.st
theorem FOkK.lens {f : FM} (h : FOkK f) : f.1.length ≤ 16 ∧ f.2.2.1.length = f.2.1.length ∧ f.2.1.length ≤ 6 ∧ ∀ l ∈ f.2.2.1, l.length = f.1.length := FOk.lens (f := f.st) h 
theorem FOkK.line {f : FM} (h : FOkK f) {p : Int} (hp : 0 ≤ p ∧ p < f.2.1.length) {a : Int} (ha : 0 ≤ a ∧ a < f.1.length) : gt (gt f.2.2.1 p) a = pr f.1 (subF f.2.1 p) a := FOk.line (f := f.st) h hp ha
theorem FOkK.node {f : FM} (h : FOkK f) {p : Int} (hp : 0 ≤ p ∧ p < f.2.1.length) : (∃ n, subF f.2.1 p = .node (kid f.2.1 (gt f.2.1 p).1) n (kid f.2.1 (gt f.2.1 p).2)) ∧ (∃ c, PL c (subF f.2.1 p)) ∧
    (∀ x, (gt f.2.1 p).1 = some x → 0 ≤ x ∧ x < f.2.1.length) ∧ (∀ x, (gt f.2.1 p).2 = some x → 0 ≤ x ∧ x < f.2.1.length) := FOk.node (f := f.st) h hp
theorem FOkK.plc {f : FM} (h : FOkK f) {p : Int} (hp : 0 ≤ p ∧ p < f.2.1.length) (a b e : Int) : plc f.1 (subF f.2.1 p) a b e = plcL f.1 (kid f.2.1 (gt f.2.1 p).1) a b ++ [a] ++ plcR f.1 (kid f.2.1 (gt f.2.1 p).2) a e := FOk.plc (f := f.st) h hp a b e
theorem FOkK.left {f : FM} (h : FOkK f) {p : Int} (hp : 0 ≤ p ∧ p < f.2.1.length) {a b e : Int} (hf : Fit f.1 (subF f.2.1 p) a b e) {x : Int} (hx : (gt f.2.1 p).1 = some x) : (0 ≤ x ∧ x < f.2.1.length) ∧ (subF f.2.1 x).size < (subF f.2.1 p).size ∧
    ∃ j, spotF f.1 (pr f.1 (subF f.2.1 x)) b (a - 1) (gt f.1 a + 1) = some j ∧ Fit f.1 (subF f.2.1 x) j b (a - 1) ∧ plcL f.1 (kid f.2.1 (some x)) a b = Lo.plc f.1 (subF f.2.1 x) j b (a - 1) := FOk.left (f := f.st) h hp hf hx
theorem FOkK.right {f : FM} (h : FOkK f) {p : Int} (hp : 0 ≤ p ∧ p < f.2.1.length) {a b e : Int} (hf : Fit f.1 (subF f.2.1 p) a b e) {x : Int} (hx : (gt f.2.1 p).2 = some x) : (0 ≤ x ∧ x < f.2.1.length) ∧ (subF f.2.1 x).size < (subF f.2.1 p).size ∧
    ∃ j, spotF f.1 (pr f.1 (subF f.2.1 x)) (a + 1) e (gt f.1 a) = some j ∧ Fit f.1 (subF f.2.1 x) j (a + 1) e ∧ plcR f.1 (kid f.2.1 (some x)) a e = Lo.plc f.1 (subF f.2.1 x) j (a + 1) e := FOk.right (f := f.st) h hp hf hx
theorem FOkK.size {f : FM} (h : FOkK f) {p : Int} (hp : 0 ≤ p ∧ p < f.2.1.length) : (subF f.2.1 p).size ≤ 6 := FOk.size (f := f.st) h hp
theorem FOkK.plen {f : FM} (h : FOkK f) {p : Int} (hp : 0 ≤ p ∧ p < f.2.1.length) {a b e : Int} (hf : Fit f.1 (subF f.2.1 p) a b e) : (Lo.plc f.1 (subF f.2.1 p) a b e).length ≤ 6 := FOk.plen (f := f.st) h hp hf
end Lo
end TM


set_option linter.all false
set_option maxHeartbeats 1000000
namespace TM
namespace Lo
open GL
/-! ### the tuples under a tree, one by one -/
def embs (tx : List Int) : BT → Int → Int → Int → List (List Int)
  | .nil, _, _, _ => [[]]
  | .node l _ r, b, e, k => ((rg b (e + 1)).filter fun a => decide (k ≤ gt tx a)).flatMap fun a => (embs tx l b (a - 1) (gt tx a + 1)).flatMap fun L => (embs tx r (a + 1) e (gt tx a)).map fun R => L ++ a :: R
end Lo
end TM


set_option linter.all false
set_option maxHeartbeats 1000000
namespace TM
namespace Lo
open GL
end Lo
end TM


set_option linter.all false
set_option maxHeartbeats 1000000
namespace TM
namespace Lo
open GL
end Lo
end TM


set_option linter.all false
set_option maxHeartbeats 1000000
namespace TM
namespace Lo
open GL
def holdL (row text : List Int) : List (List Int) := (tups text.length row.length).filter fun one => decide (treeOf (one.map fun p => gt text p) = treeOf row)
end Lo
end TM


set_option linter.all false
set_option maxHeartbeats 1000000
namespace TM
namespace Lo
open GL
/-! rows that rise or sink -/
abbrev Up (r : List Int) : Prop := r.Pairwise (· ≤ ·)
abbrev Dn (r : List Int) : Prop := r.Pairwise (fun a b => b < a)
abbrev Pl (r : List Int) (one : Int) : Prop := (one = 0 ∨ one = 1) ∧ (one = 0 → Up r) ∧ (one = 1 → Dn r)
theorem rg_up : ∀ {a b : Int}, (rg a b).Pairwise (· < ·) := by
  intro a b
  unfold rg
  exact List.pairwise_map.mpr (List.pairwise_lt_range.imp fun h => by omega)
end Lo
end TM


set_option linter.all false
set_option maxHeartbeats 1000000
namespace TM
namespace Lo
open GL
/-! over all trees of so many places -/
/-! pairs of all tuples -/
def prs (row text : List Int) : List (Int × Int) := (holdT text row).map fun one => (gt one 0, gtB one 1)
abbrev leastR (row text : List Int) : List (Int × Int) := leastL (somes (topL text row))
theorem least_prs {row text : List Int} (h0 : 1 ≤ row.length) (hl : row.length ≤ 40) : leastR row text = leastL (prs row text) := (same_pairs h0 hl).symm
theorem mem_prs {row text : List Int} {x : Int × Int} : x ∈ prs row text ↔ ∃ one, one.length = row.length ∧ one.Pairwise (· < ·) ∧ (∀ y : Int, y ∈ one → 0 ≤ y ∧ y < text.length) ∧ treeOf (one.map fun p => gt text p) = treeOf row ∧ x = (gt one 0, gtB one 1) := by
  unfold prs holdT
  rw [List.mem_map]
  constructor
  · rintro ⟨one, h, rfl⟩
    obtain ⟨h1, h2⟩ := List.mem_filter.mp h
    obtain ⟨m1, m2, m3⟩ := mem_tups.mp h1
    exact ⟨one, m1, m2, m3, of_decide_eq_true h2, rfl⟩
  · rintro ⟨one, m1, m2, m3, h2, rfl⟩
    exact ⟨one, List.mem_filter.mpr ⟨mem_tups.mpr ⟨m1, m2, m3⟩, decide_eq_true h2⟩, rfl⟩
theorem up_ends {one : List Int} (h : one.Pairwise (· < ·)) {y : Int} (hy : y ∈ one) : gt one 0 ≤ y ∧ y ≤ gtB one 1 := by
  obtain ⟨i, hi, rfl⟩ := List.getElem_of_mem hy
  have h0 := gtB_get (l := one) (k := 1) ⟨by decide, by omega⟩
  have e1 : gt one 0 = one[0]'(by omega) := by
    unfold gt
    rw [List.getD_eq_getElem?_getD]
    show (one[0]?).getD _ = _
    rw [List.getElem?_eq_getElem (by omega)]; rfl
  have e2 : gtB one 1 = one[one.length - 1]'(by omega) := by
    unfold gtB
    rw [List.getD_eq_getElem?_getD, List.getElem?_eq_getElem (by omega)]; rfl
  rw [e1, e2]
  have hp := List.pairwise_iff_getElem.mp h
  constructor
  · by_cases z : i = 0
    · subst z; exact Int.le_refl _
    · exact Int.le_of_lt (hp 0 i (by omega) hi (by omega))
  · by_cases z : i = one.length - 1
    · subst z; exact Int.le_refl _
    · exact Int.le_of_lt (hp i (one.length - 1) hi (by omega) (by omega))
theorem prs_in {row text : List Int} (h0 : 1 ≤ row.length) {x : Int × Int} (h : x ∈ prs row text) : 0 ≤ x.1 ∧ x.1 ≤ x.2 ∧ x.2 < text.length := by
  obtain ⟨one, m1, m2, m3, _, rfl⟩ := mem_prs.mp h
  have a := gt_in (l := one) (i := 0) (by omega)
  have b := gtB_in (l := one) (by omega)
  exact ⟨(m3 _ a).1, (up_ends m2 a).2, (m3 _ b).2⟩
theorem gt_part2 {text : List Int} {a b j : Int} (h : 0 ≤ a ∧ a ≤ b ∧ b ≤ text.length) (hj : 0 ≤ j ∧ j < b - a) : gt (sl text (some a) (some b)) j = gt text (a + j) := by
  rw [sl_mid h]
  unfold gt
  rw [List.getD_eq_getElem?_getD, List.getD_eq_getElem?_getD, List.getElem?_take, if_pos (by omega), List.getElem?_drop, show a.toNat + j.toNat = (a + j).toNat by omega]
def within (ps : List (Int × Int)) (a b : Int) : List (Int × Int) := (ps.filter fun p => decide (a ≤ p.1 ∧ p.2 < b)).map fun p => (p.1 - a, p.2 - a)
/-! numbers moved by a rising rule -/
/-! where the row is found -/
theorem least_in {ps : List (Int × Int)} (hp : ∀ p ∈ ps, p.1 ≤ p.2) : ∀ {n : Nat} {p : Int × Int}, p ∈ ps → (p.2 - p.1).toNat ≤ n → ∃ q ∈ leastL ps, p.1 ≤ q.1 ∧ q.2 ≤ p.2 := by
  intro n
  induction n with
  | zero =>
    intro p h hn
    refine ⟨p, mem_leastL.mpr ⟨h, fun one o1 o2 o3 => ?_⟩, Int.le_refl _, Int.le_refl _⟩
    have := hp p h; have := hp one o1
    exact Prod.ext (by omega) (by omega)
  | succ n ih =>
    intro p h hn
    by_cases z : ∀ one ∈ ps, p.1 ≤ one.1 → one.2 ≤ p.2 → one = p
    · exact ⟨p, mem_leastL.mpr ⟨h, z⟩, Int.le_refl _, Int.le_refl _⟩
    · have : ∃ one, one ∈ ps ∧ p.1 ≤ one.1 ∧ one.2 ≤ p.2 ∧ one ≠ p := by
        refine Classical.byContradiction fun y => z fun one o1 o2 o3 => Classical.byContradiction fun w => y ⟨one, o1, o2, o3, w⟩
      obtain ⟨one, o1, o2, o3, o4⟩ := this
      have k1 := hp p h; have k2 := hp one o1
      have : ¬ (one.1 = p.1 ∧ one.2 = p.2) := fun y => o4 (Prod.ext y.1 y.2)
      obtain ⟨q, q1, q2, q3⟩ := ih o1 (by omega)
      exact ⟨q, q1, by omega, by omega⟩
theorem up_rg {one : List Int} {a b : Int} (h : one.Pairwise (· < ·)) (hin : ∀ x ∈ one, a ≤ x ∧ x ≤ b) (hl : (one.length : Int) = b + 1 - a) : one = rg a (b + 1) := by
  have hp := List.pairwise_iff_getElem.mp h
  have lo : ∀ (i : Nat) (hi : i < one.length), a + i ≤ one[i] := by
    intro i
    induction i with
    | zero => intro hi; have := hin _ (List.getElem_mem hi); omega
    | succ i ih => intro hi; have := ih (by omega); have := hp i (i + 1) (by omega) hi (by omega); omega
  have hi_ : ∀ (k : Nat) (hk : k < one.length), one[one.length - 1 - k]'(by omega) ≤ b - k := by
    intro k
    induction k with
    | zero => intro hk; have := hin _ (List.getElem_mem (show one.length - 1 - 0 < one.length by omega)); omega
    | succ k ih => intro hk; have h1 := ih (by omega); have := hp (one.length - 1 - (k + 1)) (one.length - 1 - k) (by omega) (by omega) (by omega); omega
  refine List.ext_getElem (by rw [rg_len]; omega) fun i h1 h2 => ?_
  have k1 := lo i h1
  have k2 := hi_ (one.length - 1 - i) (by omega)
  have e : one.length - 1 - (one.length - 1 - i) = i := by omega
  rw [getElem_congr_idx e] at k2
  simp only [rg, List.getElem_map, List.getElem_range]
  omega
theorem gt_rg0 {a b : Int} (h : a < b) : gt (rg a b) 0 = a := by
  unfold gt rg
  rw [List.getD_eq_getElem?_getD, List.getElem?_map, List.getElem?_range (show (0 : Int).toNat < (b - a).toNat by omega)]
  show a + ((0 : Int).toNat : Int) = a
  omega
theorem found {row text : List Int} (hr : 1 ≤ row.length ∧ row.length ≤ 6 ∧ text.length ≤ 16) {s : Int} (h : s ∈ starts row text) :
    0 ≤ s ∧ s + row.length ≤ text.length ∧ placesIn row text s (s + row.length - 1) = some (rg s (s + row.length - 1 + 1)) ∧ ∃ x ∈ leastR row text, s ≤ x.1 ∧ x.2 ≤ s + row.length - 1 := by
  obtain ⟨h1, h2, h3⟩ := starts_in h
  have hk := kinB_tree.mp h3
  have hin : (s, s + row.length - 1) ∈ prs row text := by
    refine mem_prs.mpr ⟨rg s (s + row.length), by rw [rg_len]; omega, rg_up, fun y hy => by have := rg_mem.mp hy; omega, ?_, ?_⟩
    · rw [hk.2]
      congr 1
      refine List.ext_getElem (by rw [List.length_map, rg_len, ← hk.1]; omega) fun i k1 k2 => ?_
      rw [List.length_map, rg_len] at k1
      rw [List.getElem_map]
      have : gt (sl text (some s) (some (s + row.length))) (i : Int) = gt text (s + i) := gt_part2 (by omega) (by omega)
      have e2 : gt (sl text (some s) (some (s + row.length))) (i : Int) = (sl text (some s) (some (s + row.length)))[i] := by
        unfold gt
        rw [List.getD_eq_getElem?_getD, Int.toNat_natCast, List.getElem?_eq_getElem k2]; rfl
      rw [← e2, this]
      congr 1
      simp only [rg, List.getElem_map, List.getElem_range]
    · have q1 : gt (rg s (s + row.length)) 0 = s := gt_rg0 (by omega)
      have hb := gtB_in (l := rg s (s + row.length)) (by rw [rg_len]; omega)
      have hx := (up_ends rg_up (rg_mem.mpr (show s ≤ s + (row.length : Int) - 1 ∧ s + (row.length : Int) - 1 < s + row.length by omega))).2
      have hy := rg_mem.mp hb
      exact Prod.ext q1.symm (by dsimp only; omega)
  obtain ⟨q, q1, q2, q3⟩ := least_in (ps := prs row text) (fun p hp => (prs_in (by omega) hp).2.1) hin (Nat.le_refl _)
  dsimp only at q2 q3
  rw [← least_prs (by omega) (by omega)] at q1
  refine ⟨h1, h2, ?_, q, q1, q2, q3⟩
  obtain ⟨one, e, hh⟩ := (places_main hr (a := s) (b := s + row.length - 1) (by omega)).1 ⟨q, (mem_leastL.mp q1).1, q2, q3⟩
  rw [e]
  congr 1
  exact up_rg hh.up (fun x hx => (hh.inn x hx).1) (by rw [hh.len]; omega)
/-! a table and what is told of it -/
end Lo
end TM


set_option linter.all false
set_option maxHeartbeats 1000000
namespace TM
open GL PySem
/-! what is told of a row hangs on its tree alone -/
def dL (l : List Int) : PyData := .list (l.map .int)
def dPs (l : List (Int × Int)) : PyData := .list (l.map fun p => .tuple [.int p.1, .int p.2])
def dLL (l : List (List Int)) : PyData := .list (l.map dL)
def dT (l : List Int) : PyData := .tuple (l.map .int)
section
variable {r s : List Int} (hl : r.length = s.length) (ht : treeOf r = treeOf s)
include hl ht
end
noncomputable def t86 (row : List Int) : List PyData := [dL (borders row), dL (steps row), dPs ((rg 0 (treeOf row).length).map (spanT (treeOf row))), dLL (gps (trs row 2)), dLL (gps (trs row 3))]
def p1_86 (row text : List Int) : List PyData := if 0 < row.length then [dL (starts row text)] else []
def p2_86 (row text : List Int) : List PyData := if 0 < row.length ∧ row.length < 7 then [dPs (Lo.leastR row text), .int (Lo.manyL row text)] else []
noncomputable def p3_86 (row : List Int) : List PyData := if 1 < row.length then [dT (ltF row)] else []
noncomputable def told86 (row text : List Int) : List PyData := t86 row ++ p1_86 row text ++ p2_86 row text ++ p3_86 row
theorem ok_dL (l : List Int) : PyData.eqv (dL l) (dL l) = true := (eqr_list (K := default) eqr_int).eqv l l |>.mpr rfl
end TM


set_option linter.all false
set_option maxHeartbeats 1000000
namespace TM
open GL PySem
/-! any paper of starts and parted ones, judged -/
def srB (row text starts : List Int) (others : List (List Int)) : Bool :=
  rises starts && (rises (others.map fun q => gt q 0) && (decide (isort (starts ++ others.map fun q => gt q 0) = rg 0 ((text.length : Int) - row.length + 1)) &&
    ((starts.all fun s => kinB row (sl text (some s) (some (s + row.length)))) && ((others.map to3).all fun q => partsB row (sl text (some q.1) (some (q.1 + row.length))) q.2.1 q.2.2))))
theorem sr_iff {row text starts : List Int} {others : List (List Int)} : srB row text starts others = true ↔
    (rises starts = true ∧ rises (others.map fun q => gt q 0) = true) ∧ isort (starts ++ others.map fun q => gt q 0) = rg 0 ((text.length : Int) - row.length + 1) ∧
    (∀ s ∈ starts, kinB row (sl text (some s) (some (s + row.length))) = true) ∧ ∀ q ∈ others.map to3, partsB row (sl text (some q.1) (some (q.1 + row.length))) q.2.1 q.2.2 = true := by
  unfold srB
  rw [Bool.and_eq_true, Bool.and_eq_true, Bool.and_eq_true, Bool.and_eq_true, decide_eq_true_iff, List.all_eq_true, List.all_eq_true]
  exact ⟨fun ⟨a, b, c, d, e⟩ => ⟨⟨a, b⟩, c, d, e⟩, fun ⟨⟨a, b⟩, c, d, e⟩ => ⟨a, b, c, d, e⟩⟩
theorem isort_mem {l : List Int} {x : Int} : x ∈ isort l ↔ x ∈ l := (isort_perm l).mem_iff
theorem sr_in {l : List Int} {n : Int} (h : isort l = rg 0 n) {x : Int} (hx : x ∈ l) : 0 ≤ x ∧ x < n := by
  have := isort_mem.mpr hx
  rw [h] at this
  exact rg_mem.mp this
theorem sr_short {row text starts : List Int} {others : List (List Int)} (h : text.length < row.length) : srB row text starts others = decide ((starts, others) = (([] : List Int), ([] : List (List Int)))) := by
  rw [Bool.eq_iff_iff, decide_eq_true_iff, sr_iff]
  constructor
  · rintro ⟨_, h2, _⟩
    have hn : ∀ x, x ∉ starts ++ others.map fun q => gt q 0 := fun x hx => by
      have := sr_in h2 hx
      omega
    have hz := List.eq_nil_iff_forall_not_mem.mpr hn
    obtain ⟨z1, z2⟩ := List.append_eq_nil_iff.mp hz
    rw [z1, List.map_eq_nil_iff.mp z2]
  · intro z
    obtain ⟨z1, z2⟩ := Prod.mk.inj z
    subst z1 z2
    refine ⟨⟨rfl, rfl⟩, ?_, (by intro s hs; cases hs), (by intro s hs; cases hs)⟩
    rw [rg_nil (by omega)]
    refine List.eq_nil_iff_forall_not_mem.mpr fun x hx => ?_
    have := isort_mem.mp hx
    cases this
theorem st_short {row text : List Int} (h : text.length < row.length) : starts row text = [] ∧ pstarts row text = [] := by
  constructor
  · unfold starts stB; rw [rg_nil (by omega)]; rfl
  · unfold pstarts; rw [rg_nil (by omega)]; rfl
def dTT (l : List (List Int)) : PyData := .list (l.map dT)
noncomputable def d42 (way : Int) (row text : List Int) (paper : List Int × List (List Int)) : PyData := if way = 0 then dL (starts row text) else if way = 1 then dTT (pstarts row text) else .bool (srB row text paper.1 paper.2)
noncomputable def heard42 (x : Addr) (way : Int) (row text : List Int) (paper : List Int × List (List Int)) : Option (Sum Addr PyData) :=
  if row = [] then some (.inl x) else some (.inr (d42 way row text paper))
theorem h42_e {x : Addr} {way : Int} {row text : List Int} {paper : List Int × List (List Int)} (h : row = []) : heard42 x way row text paper = some (.inl x) := if_pos h
theorem h42_r {x : Addr} {way : Int} {row text : List Int} {paper : List Int × List (List Int)} (h : ¬ row = []) : heard42 x way row text paper = some (.inr (d42 way row text paper)) := if_neg h
theorem d42_kind {way : Int} {row text : List Int} {paper : List Int × List (List Int)} : (way < 2 → 0 ≤ way → datN (d42 way row text paper) = "list") ∧ (way = 2 → datN (d42 way row text paper) = "bool") := by
  unfold d42
  constructor
  · intro h1 h2
    by_cases z : way = 0
    · rw [if_pos z]; rfl
    · rw [if_neg z, if_pos (by omega)]; rfl
  · intro h
    rw [if_neg (by omega), if_neg (by omega)]; rfl
theorem d42_short {way : Int} {row text : List Int} {paper : List Int × List (List Int)} (h : text.length < row.length) (hw : 0 ≤ way ∧ way < 3) :
    PyData.eqv (d42 way row text paper) (gt [PyData.list [], PyData.list [], PyData.bool (decide (paper = (([] : List Int), ([] : List (List Int)))))] way) = true := by
  obtain ⟨e1, e2⟩ := st_short h
  have : way = 0 ∨ way = 1 ∨ way = 2 := by omega
  unfold d42
  rcases this with rfl | rfl | rfl
  · rw [if_pos rfl, e1]; exact ok_dL []
  · rw [if_neg (by decide), if_pos rfl, e2]; exact ok_dL []
  · rw [if_neg (by decide), if_neg (by decide), sr_short h]
    exact (eqr_bool (K := default)).eqv _ _ |>.mpr rfl
def J42 (p o : List Int × List (List Int)) : Prop := p.1 = o.1 ∧ p.2.length ≤ 1 ∧ ∀ q ∈ p.2, q.length = 3
end TM


set_option Elab.async false
set_option linter.all false
set_option maxRecDepth 100000
set_option maxHeartbeats 4000000
namespace Law
open PySem L2 GL
def topS (i : Nat) : Stmt := PySem.Challenge.pw_dipkin_k42_nothing_sought.main.body.getD i (.Pass ⟨0, 0, 0, 0⟩)
def PIlaw : HO → Prop := fun o => ∃ x : Int, o = .lst [.int x]
def sp_law_deal : Sp := spF (aCons rInt aNil) (fun (a : Int × Unit) => True) (rList rInt) (fun (a : Int × Unit) b => ∃ x, b = [x]) (fun _ _ => False)
theorem call_law_deal {C : Cn} {Γ : List Ent} {E : XK} {t1 : TE} {a1 : Int} (h1 : Ev C t1 Γ .h rInt a1)  : EvX C (tCall (sp_law_deal) [] E (tCons t1 tNil)) Γ (ResF C (rList rInt) (fun (b : (List Int)) => ∃ x, b = [x])) := ed_call1 h1 trivial exc0 (fun _ z => z)
theorem callx_law_deal {C : Cn} {Γ : List Ent} {E : XK} {t1 : TE} {P1 : Int → Prop} (h1 : EvP C t1 Γ .h rInt P1)  : EvX C (tCall (sp_law_deal) [] E (tCons t1 tNil)) Γ (ResF C (rList rInt) (fun (b : (List Int)) => ∃ a1, P1 a1 ∧ (∃ x, b = [x]))) := ex_call1 h1 (fun a1 _p1 => trivial) exc0 (fun a1 _p1 => fun _ z => z)
def t_law_deal (K : PySem.W.Frag) (E : XK) : TS :=
(tSeq (tIfS (tTest (tOp (rI0 fun i j => .bl (decide (j ≤ i))) (tVar 0) (tOp (rI CPow fun i j => .int (i ^ j.toNat)) (tC (.int 10)) (tC (.int 18))))) (tSeq (tRet (tLst (tCons (tOp (rI (fun _ j => 0 < j) fun i j => .int (i % j)) (tOp (rI0 fun i j => .int (i - j)) (tVar 0) (tOp (rI CPow fun i j => .int (i ^ j.toNat)) (tC (.int 10)) (tC (.int 18)))) (tOp (rI CMulW fun i j => .int (i * j)) (tOp (rI CMulW fun i j => .int (i * j)) (tOp (rI CPow fun i j => .int (i ^ j.toNat)) (tC (.int 10)) (tC (.int 64))) (tOp (rI CPow fun i j => .int (i ^ j.toNat)) (tC (.int 10)) (tC (.int 64)))) (tOp (rI CPow fun i j => .int (i ^ j.toNat)) (tC (.int 10)) (tC (.int 64))))) tNil))) tNext) tNext)
(tSeq (tAsg (tC (.int 0)) (gName 1))
(tSeq (tAsg (tOp (rI0 fun i j => .int (i + j)) (tOp (rI (fun _ j => 0 < j) fun i j => .int (i % j)) (tVar 0) (tC (.int 2147483647))) (tC (.int 6113))) (gName 2))
(tSeq (tFor (iRng1 (tCons (tC (.int 28)) tNil)) (gName 3)
(tSeq (tAsg (tOp (rI (fun _ j => 0 < j) fun i j => .int (i % j)) (tOp (rI0 fun i j => .int (i + j)) (tOp (rI0 fun i j => .int (i + j)) (tOp (rI CMul fun i j => .int (i * j)) (tVar 2) (tC (.int 48271))) (tOp (rI CMul fun i j => .int (i * j)) (tC (.int 7919)) (tVar 3))) (tC (.int 12345))) (tC (.int 2147483647))) (gName 2))
(tSeq (tAsg (tOp (rI (fun _ j => 0 < j) fun i j => .int (i % j)) (tOp (rI CMul fun i j => .int (i * j)) (tVar 2) (tVar 2)) (tC (.int 2147483629))) (gName 4))
(tSeq (tAsg (tOp (rI0 fun i j => .int (i + j)) (tOp (rI CMul fun i j => .int (i * j)) (tVar 1) (tC (.int 4194304))) (tOp (rI (fun _ j => 0 < j) fun i j => .int (i % j)) (tOp (rI CDiv fun i j => .int (i / j)) (tVar 4) (tC (.int 256))) (tC (.int 4194304)))) (gName 1))
tNext))))
(tSeq (tRet (tLst (tCons (tVar 1) tNil))) tNext)))))
theorem go_law_deal {K : PySem.W.Frag} {C : Cn} {D : Ends} {E : XK} (cell_ : Int)  (hR : RetOk C D (rList rInt) (fun (b : (List Int)) => ∃ x, b = [x])) :
    Go C (t_law_deal K E) D [.val .m rInt cell_, .no, .no, .no, .no] := by
  unfold t_law_deal
  refine q_ifT (ec_tst (ev_ge (((ev_var (R := rInt) (a := cell_) rfl)).toh) ((ev_eqc (ev_pow (ev_int) (ev_int) (by unfold CPow; decide)) (c := 1000000000000000000) (by decide +kernel))))) (fun h1 => ?_) (fun h1 => ?_)
  · refine q_ret ((ev_new (ℓ := .g) (en_lstd (ℓ := .g) (em_cons ((ev_mod ((ev_sub (((ev_var (R := rInt) (a := cell_) rfl)).toh) ((ev_eqc (ev_pow (ev_int) (ev_int) (by unfold CPow; decide)) (c := 1000000000000000000) (by decide +kernel))))) ((ev_eqc (ev_mulW ((ev_eqc (ev_mulW ((ev_eqc (ev_pow (ev_int) (ev_int) (by unfold CPow; decide)) (c := 10000000000000000000000000000000000000000000000000000000000000000) (by decide +kernel))) ((ev_eqc (ev_pow (ev_int) (ev_int) (by unfold CPow; decide)) (c := 10000000000000000000000000000000000000000000000000000000000000000) (by decide +kernel))) (wide_mul (a := 214) (b := 214) (by decide +kernel) (by decide +kernel) (by decide) (by decide) (by decide))) (c := 100000000000000000000000000000000000000000000000000000000000000000000000000000000000000000000000000000000000000000000000000000000) (by decide +kernel))) ((ev_eqc (ev_pow (ev_int) (ev_int) (by unfold CPow; decide)) (c := 10000000000000000000000000000000000000000000000000000000000000000) (by decide +kernel))) (wide_mul (a := 427) (b := 214) (by decide +kernel) (by decide +kernel) (by decide) (by decide) (by decide))) (c := 1000000000000000000000000000000000000000000000000000000000000000000000000000000000000000000000000000000000000000000000000000000000000000000000000000000000000000000000000000000000000000000000000) (by decide +kernel))) (by decide +kernel))) em_nil) (Nat.le_of_ble_eq_true rfl)))) hR (fun r2 hr2 => ?_)
    replace hr2 : r2 = [((cell_ - (1000000000000000000 : Int)) % (1000000000000000000000000000000000000000000000000000000000000000000000000000000000000000000000000000000000000000000000000000000000000000000000000000000000000000000000000000000000000000000000000 : Int))] := hr2
    show ∃ x, r2 = [x]
    (try rw [hr2])
    exact ⟨_, rfl⟩
  refine q_asg (i := 1) (ℓ := .g) (ev_int) (fun great3 hgreat3 => ?_)
  replace hgreat3 : great3 = (0 : Int) := hgreat3
  refine q_asg (i := 2) (ℓ := .g) ((ev_add ((ev_mod (((ev_var (R := rInt) (a := cell_) rfl)).toh) (ev_int) (by decide +kernel))) (ev_int))) (fun one4 hone4 => ?_)
  replace hone4 : one4 = ((cell_ % (2147483647 : Int)) + (6113 : Int)) := hone4
  refine q_forD (j := 3) (σS := Int × Int) (fun s => [.val .m rInt cell_, .val .g rInt s.2, .val .g rInt s.1, .no, .no]) (fun (i : Nat) (s : Int × Int) => (0 ≤ s.1 ∧ s.1 < 1099511627776)) (one4, great3) (ei_rg1d (b := true) (ℓ := .g) (ev_int) (by first | omega | assumption | (simp; done) | (constructor <;> omega) | (simp; omega))) (by
        show (0 ≤ one4 ∧ one4 < 1099511627776)
        first | omega | assumption | (simp; done) | (constructor <;> omega) | (simp; omega)) (LeG.k (LeG.k (LeG.k (LeG.f (LeG.f LeG.nil))))) (fun C1 hc1 i1 x5 s hx5 hI0 => ?_) (fun s hI0 => ?_)
  · obtain ⟨one6, great7⟩ := s
    replace hI0 : (0 ≤ one6 ∧ one6 < 1099511627776) := hI0
    have hR := hR.ex hc1
    have hx5l := at_lt hx5
    have hx5r := rg_at hx5
    rw [rg_len] at hx5l
    refine q_asg (i := 2) (ℓ := .g) ((ev_mod ((ev_add ((ev_add ((ev_mul (((ev_var (R := rInt) (a := one6) rfl)).toh) (ev_int) (.inr (by decide)))) ((ev_mul (ev_int) (((ev_var (R := rInt) (a := x5) rfl)).toh) (.inl (by decide)))))) (ev_int))) (ev_int) (by decide +kernel))) (fun one8 hone8 => ?_)
    replace hone8 : one8 = ((((one6 * (48271 : Int)) + ((7919 : Int) * x5)) + (12345 : Int)) % (2147483647 : Int)) := hone8
    refine q_asg (i := 4) (ℓ := .g) ((ev_mod ((ev_mul (((ev_var (R := rInt) (a := one8) rfl)).toh) (((ev_var (R := rInt) (a := one8) rfl)).toh) (by unfold CMul; omega))) (ev_int) (by decide +kernel))) (fun two9 htwo9 => ?_)
    replace htwo9 : two9 = ((one8 * one8) % (2147483629 : Int)) := htwo9
    refine q_asg (i := 1) (ℓ := .g) ((ev_add ((ev_mul (((ev_var (R := rInt) (a := great7) rfl)).toh) (ev_int) (.inr (by decide)))) ((ev_mod ((ev_fdiv (((ev_var (R := rInt) (a := two9) rfl)).toh) (ev_int) (by unfold CDiv; decide))) (ev_int) (by decide +kernel))))) (fun great10 hgreat10 => ?_)
    replace hgreat10 : great10 = ((great7 * (4194304 : Int)) + ((two9 / (256 : Int)) % (4194304 : Int))) := hgreat10
    refine q_next (hol_in (one8, great10) ?_ (LeG.k (LeG.k (LeG.k (LeG.f (LeG.f LeG.nil))))))
    show (0 ≤ one8 ∧ one8 < 1099511627776)
    all_goals (first | omega | assumption | (simp; done) | (constructor <;> omega) | (simp; omega))
  obtain ⟨one11, great12⟩ := s
  replace hI0 : (0 ≤ one11 ∧ one11 < 1099511627776) := hI0
  show Go _ _ _ [.val .m rInt cell_, .val .g rInt great12, .val .g rInt one11, .no, .no]
  refine q_ret ((ev_new (ℓ := .g) (en_lstd (ℓ := .g) (em_cons ((ev_var (R := rInt) (a := great12) rfl)) em_nil) (Nat.le_of_ble_eq_true rfl)))) hR (fun r13 hr13 => ?_)
  replace hr13 : r13 = [great12] := hr13
  show ∃ x, r13 = [x]
  (try rw [hr13])
  exact ⟨_, rfl⟩
abbrev s_law_deal : Stmt := topS 32
theorem sc_law_deal : FnScope ["cell", "great", "one", "k", "two"] ["cell"] (defScope s_law_deal) := ⟨rfl, rfl, rfl, by decide +kernel, rfl, by decide +kernel, by decide +kernel⟩
theorem ok_law_deal {P : Program} {w : PySem.World} {K : PySem.W.Frag} {mg : Str → Option Value} {base : Heap} {f : Addr} {fd : FuncData} (F : Fun K "_law_deal" "_law_deal" s_law_deal f fd) (m_range : mg "range" = none) : FnOk P w K mg base CX0 1 f fd ["cell"] sp_law_deal := by
  have sc := sc_law_deal
  refine F.ok sc (fun vs H Q E h => ?_) (fun cdv A outer s H vs Q E hr h => ?_)
  · obtain ⟨a_, ha_, _⟩ := h
    obtain ⟨v1, _, rfl, _ha1, rfl⟩ := ha_
    rfl
  · obtain ⟨⟨cell_, _⟩, ⟨v1, _, rfl, ha1, rfl⟩, _, hR, hE⟩ := spF_open PIlaw (n := fun _ H' => Q .non H') h
    refine ⟨t_law_deal K E, ?_, go_law_deal (C := (Cn0 PIlaw H)) cell_ hR _ (W0 H []) (world_of (bok0 (PI := PIlaw) H) ⟨⟨by decide, v1, rfl, rInt.mono (mw0 (PI := PIlaw) H) ha1⟩, ⟨trivial, ⟨trivial, ⟨trivial, ⟨trivial, trivial⟩⟩⟩⟩⟩ rfl)⟩
    unfold t_law_deal
    exact (pss_cons (ps_if (pt_cmpR op_ge (pv 0) (pe_op op_pow pe_int pe_int) (nomark _)) (pss_cons (ps_ret (pe_lst (pa_cons (pe_op op_mod (pe_op op_sub (pv 0) (pe_op op_pow pe_int pe_int)) (pe_op op_mulW (pe_op op_mulW (pe_op op_pow pe_int pe_int) (pe_op op_pow pe_int pe_int)) (pe_op op_pow pe_int pe_int))) pa_nil))) pss_nil) pss_nil)
(pss_cons (ps_set (i := 1) sc.nd rfl (Or.inl rfl) pe_int)
(pss_cons (ps_set (i := 2) sc.nd rfl (Or.inl rfl) (pe_op op_add (pe_op op_mod (pv 0) pe_int) pe_int))
(pss_cons (ps_for PassesOwn.never rfl (pi_range1 rfl m_range (pa_cons pe_int pa_nil)) (pg_name (i := 3) sc.nd rfl (Or.inl rfl))
(pss_cons (ps_set (i := 2) sc.nd rfl (Or.inl rfl) (pe_op op_mod (pe_op op_add (pe_op op_add (pe_op op_mul (pv 2) pe_int) (pe_op op_mul pe_int (pv 3))) pe_int) pe_int))
(pss_cons (ps_set (i := 4) sc.nd rfl (Or.inl rfl) (pe_op op_mod (pe_op op_mul (pv 2) (pv 2)) pe_int))
(pss_cons (ps_set (i := 1) sc.nd rfl (Or.inl rfl) (pe_op op_add (pe_op op_mul (pv 1) pe_int) (pe_op op_mod (pe_op op_fdiv (pv 4) pe_int) pe_int)))
pss_nil))))
(pss_cons (ps_ret (pe_lst (pa_cons (pv 1) pa_nil))) pss_nil)))))
def sp_law_take : Sp := spV PIlaw (aCons rInt aNil) (fun (a : Int × Unit) => (0 < a.1 ∧ a.1 < 18446744073709551616)) rInt (fun (a : Int × Unit) b => 0 ≤ b ∧ b < a.1)
theorem volx_law_take {C : Cn} {Γ : List Ent} {E : XK} {i : Nat} {p : Addr} {t1 : TE} {P1 : Int → Prop} (hv : Γ[i]? = some (.vol p)) (hPI : C.PI = PIlaw) (h1 : EvP C t1 Γ .h rInt P1) (hp0 : ∀ a1, P1 a1 → (0 < a1 ∧ a1 < 18446744073709551616)) : EvX C (tCall sp_law_take [] E (tCons (tVar i) (tCons t1 tNil))) Γ (ResF C rInt (fun (b : Int) => ∃ a1, P1 a1 ∧ (0 ≤ b ∧ b < a1))) := ex_vol1 hv hPI h1 (fun a1 _p1 => hp0 a1 _p1)
theorem vol_law_take {C : Cn} {Γ : List Ent} {E : XK} {i : Nat} {p : Addr} {t1 : TE} {a1 : Int} (hv : Γ[i]? = some (.vol p)) (hPI : C.PI = PIlaw) (h1 : Ev C t1 Γ .h rInt a1) (hp0 : 0 < a1 ∧ a1 < 18446744073709551616) : EvX C (tCall sp_law_take [] E (tCons (tVar i) (tCons t1 tNil))) Γ (ResF C rInt (fun (b : Int) => 0 ≤ b ∧ b < a1)) := (volx_law_take hv hPI h1 (fun y1 e1 => by subst e1; exact hp0)).imp fun b h => by obtain ⟨y1, e1, po⟩ := h; subst e1; exact po
theorem volnx_law_take {C : Cn} {Γ : List Ent} {E : XK} {te : TE} {γ : Type} {S0 : Rl γ} {Pz : List γ → Prop} (f0 : Flat S0) (h0 : EvX C te Γ (ResF C (rList S0) Pz)) (hvz : ∀ xs l, Pz l → (∀ H, All2 (S0.is H) xs l) → PIlaw (.lst xs)) {t1 : TE} {P1 : Int → Prop} (h1 : EvP C t1 Γ .h rInt P1) (hp0 : ∀ a1, P1 a1 → (0 < a1 ∧ a1 < 18446744073709551616)) : EvX C (tCall sp_law_take [] E (tCons te (tCons t1 tNil))) Γ (ResF C rInt (fun (b : Int) => ∃ a1, P1 a1 ∧ (0 ≤ b ∧ b < a1))) := ex_voln1 f0 h0 hvz h1 fl_int (fun a1 _p1 => hp0 a1 _p1)
theorem voln_law_take {C : Cn} {Γ : List Ent} {E : XK} {te : TE} {γ : Type} {S0 : Rl γ} {Pz : List γ → Prop} (f0 : Flat S0) (h0 : EvX C te Γ (ResF C (rList S0) Pz)) (hvz : ∀ xs l, Pz l → (∀ H, All2 (S0.is H) xs l) → PIlaw (.lst xs)) {t1 : TE} {a1 : Int} (h1 : Ev C t1 Γ .h rInt a1) (hp0 : 0 < a1 ∧ a1 < 18446744073709551616) : EvX C (tCall sp_law_take [] E (tCons te (tCons t1 tNil))) Γ (ResF C rInt (fun (b : Int) => 0 ≤ b ∧ b < a1)) := (volnx_law_take f0 h0 hvz h1 (fun y1 e1 => by subst e1; exact hp0)).imp fun b h => by obtain ⟨y1, e1, po⟩ := h; subst e1; exact po
def t_law_take (K : PySem.W.Frag) (E : XK) : TS :=
(tSeq (tAsg (tOp (rI (fun _ j => 0 < j) fun i j => .int (i % j)) (tOp (rIxK K .l) (tVar 0) (tC (.int 0))) (tVar 1)) (gName 2))
(tSeq (tAsg (tOp (rI CDivW fun i j => .int (i / j)) (tOp (rIxK K .l) (tVar 0) (tC (.int 0))) (tVar 1)) (gSub (tVar 0) (tC (.int 0)) rSetL))
(tSeq (tRet (tVar 2)) tNext)))
abbrev s_law_take : Stmt := topS 33
theorem sc_law_take : FnScope ["pot", "many", "digit"] ["pot", "many"] (defScope s_law_take) := ⟨rfl, rfl, rfl, by decide +kernel, rfl, by decide +kernel, by decide +kernel⟩
theorem ok_law_take {P : Program} {w : PySem.World} {K : PySem.W.Frag} {mg : Str → Option Value} {base : Heap} {f : Addr} {fd : FuncData} (F : Fun K "_law_take" "_law_take" s_law_take f fd) : FnOk P w K mg base CX0 1 f fd ["pot", "many"] sp_law_take := by
  have sc := sc_law_take
  refine F.ok sc (fun vs H Q E h => ?_) (fun cdv A outer s H vs Q E hr h => ?_)
  · obtain ⟨p_, r_, a_, o_, rfl, _, _, h1_, _⟩ := h
    obtain ⟨v1, _, rfl, _ha1, rfl⟩ := h1_
    rfl
  · obtain ⟨p_, r_, ⟨many_, _⟩, o_, rfl, ho_, hPI_, ⟨v1, _, rfl, ha1, rfl⟩, hp0, hq_⟩ := h
    refine ⟨t_law_take K E, ?_, ?_⟩
    · unfold t_law_take
      exact (pss_cons (ps_set (i := 2) sc.nd rfl (Or.inl rfl) (pe_op op_mod (pe_ix ix_list (pv 0) pe_int (fun _ _ => rfl)) (pv 1)))
(pss_cons (ps_asg (pe_op op_fdivW (pe_ix ix_list (pv 0) pe_int (fun _ _ => rfl)) (pv 1)) (pg_sub (pv 0) pe_int set_list))
(pss_cons (ps_ret (pv 2)) pss_nil)))
    · unfold t_law_take
      obtain ⟨x, rfl⟩ := hPI_
      change rInt.is _ v1 many_ at ha1
      change 0 < many_ ∧ many_ < 18446744073709551616 at hp0
      obtain rfl : v1 = .int many_ := ha1
      have hl : SqL K H p_ [V.int x] := .inl (.inl ho_)
      have hlg : many_.natAbs.log2 < 9000 := Nat.lt_trans (PySem.Flt.log2_lt_of (k := 64) (by decide) (by omega)) (by decide)
      refine ⟨.ref p_, rfl, p_, [V.int x], 0, .int x, rfl, rfl, hl, rfl, .int many_, rfl, x, many_, rfl, rfl, hp0.1, ?_⟩
      refine ⟨.ref p_, rfl, p_, [V.int x], 0, .int x, rfl, rfl, hl, rfl, .int many_, rfl, x, many_, rfl, rfl, ⟨hp0.1, hlg⟩, ?_⟩
      refine ⟨.ref p_, rfl, p_, [V.int x], 0, 0, rfl, rfl, ho_, rfl, .int (x % many_), rfl, ?_⟩
      exact hq_ _ _ (x % many_) same_hid_upd ⟨_, upd_same, _, rfl⟩ rfl ⟨Int.emod_nonneg _ (by omega), Int.emod_lt_of_pos _ hp0.1⟩
def sp_law_unlike : Sp := spV PIlaw (aCons rInt aNil) (fun (a : Int × Unit) => (0 ≤ a.1 ∧ a.1 ≤ 1000)) (rList rInt) (fun (a : Int × Unit) b => (b.length : Int) = a.1)
theorem volx_law_unlike {C : Cn} {Γ : List Ent} {E : XK} {i : Nat} {p : Addr} {t1 : TE} {P1 : Int → Prop} (hv : Γ[i]? = some (.vol p)) (hPI : C.PI = PIlaw) (h1 : EvP C t1 Γ .h rInt P1) (hp0 : ∀ a1, P1 a1 → (0 ≤ a1 ∧ a1 ≤ 1000)) : EvX C (tCall sp_law_unlike [] E (tCons (tVar i) (tCons t1 tNil))) Γ (ResF C (rList rInt) (fun (b : (List Int)) => ∃ a1, P1 a1 ∧ ((b.length : Int) = a1))) := ex_vol1 hv hPI h1 (fun a1 _p1 => hp0 a1 _p1)
theorem vol_law_unlike {C : Cn} {Γ : List Ent} {E : XK} {i : Nat} {p : Addr} {t1 : TE} {a1 : Int} (hv : Γ[i]? = some (.vol p)) (hPI : C.PI = PIlaw) (h1 : Ev C t1 Γ .h rInt a1) (hp0 : 0 ≤ a1 ∧ a1 ≤ 1000) : EvX C (tCall sp_law_unlike [] E (tCons (tVar i) (tCons t1 tNil))) Γ (ResF C (rList rInt) (fun (b : (List Int)) => (b.length : Int) = a1)) := (volx_law_unlike hv hPI h1 (fun y1 e1 => by subst e1; exact hp0)).imp fun b h => by obtain ⟨y1, e1, po⟩ := h; subst e1; exact po
theorem volnx_law_unlike {C : Cn} {Γ : List Ent} {E : XK} {te : TE} {γ : Type} {S0 : Rl γ} {Pz : List γ → Prop} (f0 : Flat S0) (h0 : EvX C te Γ (ResF C (rList S0) Pz)) (hvz : ∀ xs l, Pz l → (∀ H, All2 (S0.is H) xs l) → PIlaw (.lst xs)) {t1 : TE} {P1 : Int → Prop} (h1 : EvP C t1 Γ .h rInt P1) (hp0 : ∀ a1, P1 a1 → (0 ≤ a1 ∧ a1 ≤ 1000)) : EvX C (tCall sp_law_unlike [] E (tCons te (tCons t1 tNil))) Γ (ResF C (rList rInt) (fun (b : (List Int)) => ∃ a1, P1 a1 ∧ ((b.length : Int) = a1))) := ex_voln1 f0 h0 hvz h1 fl_int (fun a1 _p1 => hp0 a1 _p1)
theorem voln_law_unlike {C : Cn} {Γ : List Ent} {E : XK} {te : TE} {γ : Type} {S0 : Rl γ} {Pz : List γ → Prop} (f0 : Flat S0) (h0 : EvX C te Γ (ResF C (rList S0) Pz)) (hvz : ∀ xs l, Pz l → (∀ H, All2 (S0.is H) xs l) → PIlaw (.lst xs)) {t1 : TE} {a1 : Int} (h1 : Ev C t1 Γ .h rInt a1) (hp0 : 0 ≤ a1 ∧ a1 ≤ 1000) : EvX C (tCall sp_law_unlike [] E (tCons te (tCons t1 tNil))) Γ (ResF C (rList rInt) (fun (b : (List Int)) => (b.length : Int) = a1)) := (volnx_law_unlike f0 h0 hvz h1 (fun y1 e1 => by subst e1; exact hp0)).imp fun b h => by obtain ⟨y1, e1, po⟩ := h; subst e1; exact po
def t_law_unlike (K : PySem.W.Frag) (E : XK) : TS :=
(tSeq (tAsg (tLst tNil) (gName 2))
(tSeq (tFor (iRng1 (tCons (tVar 1) tNil)) (gName 3)
(tSeq (tDrop (tBM K "list" rIns (tVar 2) (tCons (tCall sp_law_take [] E0 (tCons (tVar 0) (tCons (tOp (rI0 fun i j => .int (i + j)) (tVar 3) (tC (.int 1))) tNil))) (tCons (tVar 3) tNil))))
tNext))
(tSeq (tRet (tVar 2)) tNext)))
theorem go_law_unlike {K : PySem.W.Frag} {C : Cn} {D : Ends} {E : XK} (p_pot : Addr) (many_ : Int) (hp0 : 0 ≤ many_ ∧ many_ ≤ 1000) (hR : RetOk C D (rList rInt) (fun (b : (List Int)) => (b.length : Int) = many_)) (hPI : C.PI = PIlaw) :
    Go C (t_law_unlike K E) D [.vol p_pot, .val .m rInt many_, .no, .no] := by
  unfold t_law_unlike
  refine q_asgN (i := 2) (ℓ := .g) (en_lstd (ℓ := .g) (R := rInt) em_nil) (fun p2 order1 horder1 => ?_)
  subst horder1
  refine q_forD (j := 3) (σS := (List Int)) (fun s => [.vol p_pot, .val .m rInt many_, .own p2 .g rInt s, .no]) (fun (i : Nat) (s : (List Int)) => (s.length = i)) ([] : List Int) (ei_rg1d (b := true) (ℓ := .g) (((ev_var (R := rInt) (a := many_) rfl)).toh) (by first | omega | assumption | (simp; done) | (constructor <;> omega) | (simp; omega))) (by
        show (([] : List Int).length = 0)
        rfl) (LeG.k (LeG.k (LeG.k (LeG.f LeG.nil)))) (fun C1 hc1 i1 x3 s hx3 hI0 => ?_) (fun s hI0 => ?_)
  · revert s hI0; intro order4 hI0
    replace hI0 : (order4.length = i1) := hI0
    have hR := hR.ex hc1
    have hPI := hc1.pi.trans hPI
    have hx3l := at_lt hx3
    have hx3r := rg_at hx3
    rw [rg_len] at hx3l
    refine q_ins (i := 2) (p := p2) rfl ((ev_call (vol_law_take (i := 0) rfl hPI ((ev_add (((ev_var (R := rInt) (a := x3) rfl)).toh) (ev_int))) (by
          first | omega | assumption | (simp; done) | (constructor <;> omega) | (simp; omega)))).toh) ((ev_var (R := rInt) (a := x3) rfl)) (by first | omega | assumption | (simp; done) | (constructor <;> omega) | (simp; omega)) (by
          intro n8 h9
          obtain h9 := h9
          subst_vars; omega) (fun n7 e6 hn7 he6 => ?_)
    replace hn7 : 0 ≤ n7 ∧ n7 < (x3 + (1 : Int)) := hn7
    refine q_next (hol_in ((order4).take (n7).toNat ++ [e6] ++ (order4).drop (n7).toNat) ?_ (LeG.k (LeG.k (LeG.k (LeG.f LeG.nil)))))
    show (((order4).take (n7).toNat ++ [e6] ++ (order4).drop (n7).toNat).length = (i1 + 1))
    simp only [List.length_append, List.length_take, List.length_drop, List.length_cons, List.length_nil]; omega
  revert s hI0; intro order10 hI0
  replace hI0 : (order10.length = ((rg 0 many_)).length) := hI0
  simp only [rg_len] at hI0
  show Go _ _ _ [.vol p_pot, .val .m rInt many_, .own p2 .g rInt order10, .no]
  refine q_frz (i := 2) (p := p2) rfl ?_
  refine q_ret ((ev_var (R := (rList rInt)) (a := order10) rfl)) hR (fun r11 hr11 => ?_)
  replace hr11 : r11 = order10 := hr11
  show (r11.length : Int) = many_
  (try rw [hr11])
  all_goals (first | rfl | assumption | omega | (simp; done))
abbrev s_law_unlike : Stmt := topS 34
theorem sc_law_unlike : FnScope ["pot", "many", "order", "number"] ["pot", "many"] (defScope s_law_unlike) := ⟨rfl, rfl, rfl, by decide +kernel, rfl, by decide +kernel, by decide +kernel⟩
theorem ok_law_unlike {P : Program} {w : PySem.World} {K : PySem.W.Frag} {mg : Str → Option Value} {base : Heap} {f : Addr} {fd : FuncData} (F : Fun K "_law_unlike" "_law_unlike" s_law_unlike f fd) {f_law_take : Addr} {d_law_take : FuncData} (c_law_take : Cal P w K mg base CX0 1 "_law_take" ["pot", "many"] sp_law_take f_law_take d_law_take) (m_range : mg "range" = none) : FnOk P w K mg base CX0 2 f fd ["pot", "many"] sp_law_unlike := by
  have sc := sc_law_unlike
  refine F.ok sc (fun vs H Q E h => ?_) (fun cdv A outer s H vs Q E hr h => ?_)
  · obtain ⟨p_, r_, a_, o_, rfl, _, _, h1_, _⟩ := h
    obtain ⟨v1, _, rfl, _ha1, rfl⟩ := h1_
    rfl
  · obtain ⟨p_pot, r_, ⟨many_, _⟩, rfl, bk_, ⟨v1, _, rfl, ha1, rfl⟩, hp0, hR⟩ := spV_open (n := fun _ H' => Q .non H') h
    refine ⟨t_law_unlike K E, ?_, go_law_unlike (C := (CnV H p_pot PIlaw)) p_pot many_ hp0 hR rfl _ (W0 H [p_pot]) (world_of bk_ ⟨⟨rfl, List.mem_singleton.mpr rfl, fun ⟨_, z⟩ => by cases z⟩, ⟨⟨by decide, v1, rfl, rInt.mono (mwV H p_pot PIlaw) ha1⟩, ⟨trivial, ⟨trivial, trivial⟩⟩⟩⟩ rfl)⟩
    unfold t_law_unlike
    exact (pss_cons (ps_set (i := 2) sc.nd rfl (Or.inl rfl) (pe_lst pa_nil))
(pss_cons (ps_for PassesOwn.never rfl (pi_range1 rfl m_range (pa_cons (pv 1) pa_nil)) (pg_name (i := 3) sc.nd rfl (Or.inl rfl))
(pss_cons (ps_expr (pe_bm PySem.F.plainAttrs_list PySem.F.slot_list_insert PySem.F.type_list_insert mt_insert (pv 2) (pa_cons (pe_call c_law_take.ok (hr.mono (by decide)) (by rfl) c_law_take.g c_law_take.kp c_law_take.b .nil pass0 (pa_cons (pv 0) (pa_cons (pe_op op_add (pv 3) pe_int) pa_nil))) (pa_cons (pv 3) pa_nil))))
pss_nil))
(pss_cons (ps_ret (pv 2)) pss_nil)))
def sp_law_row : Sp := spV PIlaw (aCons rInt aNil) (fun (a : Int × Unit) => (0 ≤ a.1 ∧ a.1 ≤ 1000)) (rList rInt) (fun (a : Int × Unit) b => (b.length : Int) ≤ a.1)
theorem volx_law_row {C : Cn} {Γ : List Ent} {E : XK} {i : Nat} {p : Addr} {t1 : TE} {P1 : Int → Prop} (hv : Γ[i]? = some (.vol p)) (hPI : C.PI = PIlaw) (h1 : EvP C t1 Γ .h rInt P1) (hp0 : ∀ a1, P1 a1 → (0 ≤ a1 ∧ a1 ≤ 1000)) : EvX C (tCall sp_law_row [] E (tCons (tVar i) (tCons t1 tNil))) Γ (ResF C (rList rInt) (fun (b : (List Int)) => ∃ a1, P1 a1 ∧ ((b.length : Int) ≤ a1))) := ex_vol1 hv hPI h1 (fun a1 _p1 => hp0 a1 _p1)
theorem vol_law_row {C : Cn} {Γ : List Ent} {E : XK} {i : Nat} {p : Addr} {t1 : TE} {a1 : Int} (hv : Γ[i]? = some (.vol p)) (hPI : C.PI = PIlaw) (h1 : Ev C t1 Γ .h rInt a1) (hp0 : 0 ≤ a1 ∧ a1 ≤ 1000) : EvX C (tCall sp_law_row [] E (tCons (tVar i) (tCons t1 tNil))) Γ (ResF C (rList rInt) (fun (b : (List Int)) => (b.length : Int) ≤ a1)) := (volx_law_row hv hPI h1 (fun y1 e1 => by subst e1; exact hp0)).imp fun b h => by obtain ⟨y1, e1, po⟩ := h; subst e1; exact po
theorem volnx_law_row {C : Cn} {Γ : List Ent} {E : XK} {te : TE} {γ : Type} {S0 : Rl γ} {Pz : List γ → Prop} (f0 : Flat S0) (h0 : EvX C te Γ (ResF C (rList S0) Pz)) (hvz : ∀ xs l, Pz l → (∀ H, All2 (S0.is H) xs l) → PIlaw (.lst xs)) {t1 : TE} {P1 : Int → Prop} (h1 : EvP C t1 Γ .h rInt P1) (hp0 : ∀ a1, P1 a1 → (0 ≤ a1 ∧ a1 ≤ 1000)) : EvX C (tCall sp_law_row [] E (tCons te (tCons t1 tNil))) Γ (ResF C (rList rInt) (fun (b : (List Int)) => ∃ a1, P1 a1 ∧ ((b.length : Int) ≤ a1))) := ex_voln1 f0 h0 hvz h1 fl_int (fun a1 _p1 => hp0 a1 _p1)
theorem voln_law_row {C : Cn} {Γ : List Ent} {E : XK} {te : TE} {γ : Type} {S0 : Rl γ} {Pz : List γ → Prop} (f0 : Flat S0) (h0 : EvX C te Γ (ResF C (rList S0) Pz)) (hvz : ∀ xs l, Pz l → (∀ H, All2 (S0.is H) xs l) → PIlaw (.lst xs)) {t1 : TE} {a1 : Int} (h1 : Ev C t1 Γ .h rInt a1) (hp0 : 0 ≤ a1 ∧ a1 ≤ 1000) : EvX C (tCall sp_law_row [] E (tCons te (tCons t1 tNil))) Γ (ResF C (rList rInt) (fun (b : (List Int)) => (b.length : Int) ≤ a1)) := (volnx_law_row f0 h0 hvz h1 (fun y1 e1 => by subst e1; exact hp0)).imp fun b h => by obtain ⟨y1, e1, po⟩ := h; subst e1; exact po
def t_law_row (K : PySem.W.Frag) (E : XK) : TS :=
(tSeq (tAsg (tCall sp_law_take [] E0 (tCons (tVar 0) (tCons (tOp (rI0 fun i j => .int (i + j)) (tVar 1) (tC (.int 1))) tNil))) (gName 2))
(tCut (tIfS (tTest (tOp rEq (tCall sp_law_take [] E0 (tCons (tVar 0) (tCons (tC (.int 8)) tNil))) (tC (.int 0)))) (tSeq (tAsg (tVar 1) (gName 2))
tNext) tNext)
(tSeq (tAsg (tCall sp_law_take [] E0 (tCons (tVar 0) (tCons (tC (.int 6)) tNil))) (gName 3))
(tSeq (tIfS (tTest (tOp rEq (tVar 3) (tC (.int 5)))) (tSeq (tRet (tCall sp_law_unlike [] E0 (tCons (tVar 0) (tCons (tVar 2) tNil)))) tNext) tNext)
(tSeq (tAsg (tLst tNil) (gName 4))
(tSeq (tFor (iRng1 (tCons (tVar 2) tNil)) (gName 5)
(tSeq (tAsg (tCall sp_law_take [] E0 (tCons (tVar 0) (tCons (tOp (rIxK K .t) (tTup (tCons (tC (.int 4)) (tCons (tC (.int 2)) tNil))) (tCB (fun xs H Q => (∃ i, xs = [.int i] ∧ Q (.int i) H) ∨ ∃ k, xs = [.bl k] ∧ Q (.int (if k then 1 else 0)) H) (tCons (tOp (rI0 fun i j => .bl (decide (j < i))) (tVar 3) (tC (.int 0))) tNil))) tNil))) (gName 6))
(tSeq (tAsg (tC (.int 0)) (gName 7))
(tCut (tIfS (tTest (tOp rEq (tVar 3) (tC (.int 4)))) (tSeq (tAsg (tOp (rI CMul fun i j => .int (i * j)) (tOp (rI0 fun i j => .int (i - j)) (tCall sp_law_take [] E0 (tCons (tVar 0) (tCons (tOp (rI0 fun i j => .int (i + j)) (tOp (rI CMul fun i j => .int (i * j)) (tC (.int 2)) (tOp (rI CPow fun i j => .int (i ^ j.toNat)) (tC (.int 10)) (tC (.int 9)))) (tC (.int 1))) tNil))) (tOp (rI CPow fun i j => .int (i ^ j.toNat)) (tC (.int 10)) (tC (.int 9)))) (tOp (rI CPow fun i j => .int (i ^ j.toNat)) (tC (.int 10)) (tC (.int 50)))) (gName 7))
tNext) tNext)
(tSeq (tDrop (tBM K "list" rAppend (tVar 4) (tCons (tOp (rIxK K .t) (tTup (tCons (tVar 6) (tCons (tOp (rI0 fun i j => .int (i + j)) (tVar 5) (tVar 6)) (tCons (tOp (rI0 fun i j => .int (i + j)) (tOp (rI0 fun i j => .int (i - j)) (tVar 2) (tVar 5)) (tVar 6)) (tCons (tOp (rI0 fun i j => .int (i + j)) (tOp (rI CMul fun i j => .int (i * j)) (tOp (rI (fun _ j => 0 < j) fun i j => .int (i % j)) (tVar 5) (tC (.int 4))) (tC (.int 2))) (tVar 6)) (tCons (tVar 7) tNil)))))) (tVar 3)) tNil)))
tNext)))))
(tSeq (tRet (tVar 4)) tNext)))))))
theorem go_law_row {K : PySem.W.Frag} {C : Cn} {D : Ends} {E : XK} (p_pot : Addr) (most_ : Int) (hp0 : 0 ≤ most_ ∧ most_ ≤ 1000) (hR : RetOk C D (rList rInt) (fun (b : (List Int)) => (b.length : Int) ≤ most_)) (hPI : C.PI = PIlaw) :
    Go C (t_law_row K E) D [.vol p_pot, .val .m rInt most_, .no, .no, .no, .no, .no, .no] := by
  unfold t_law_row
  refine q_asg (i := 2) (ℓ := .g) (ev_call (vol_law_take (i := 0) rfl hPI ((ev_add (((ev_var (R := rInt) (a := most_) rfl)).toh) (ev_int))) (by
        first | omega | assumption | (simp; done) | (constructor <;> omega) | (simp; omega)))) (fun many2 hmany2 => ?_)
  replace hmany2 : 0 ≤ many2 ∧ many2 < (most_ + (1 : Int)) := hmany2
  refine q_cut (S := Int) (fun s => [.vol p_pot, .val .m rInt most_, .val .g rInt s, .no, .no, .no, .no, .no]) (fun s => (s = most_ ∨ s = many2)) (c_if (EvB.tt (eb_tst (evp_eqI ((ev_call (vol_law_take (i := 0) rfl hPI (ev_int) (by
        first | omega | assumption | (simp; done) | (constructor <;> omega) | (simp; omega)))).toh) (ev_int)))) (fun h4 => ?_) (fun h4 => ?_)) (fun s h4j => ?_)
  · refine q_asg (i := 2) (ℓ := .g) (((ev_var (R := rInt) (a := most_) rfl)).fl fl_int) (fun many5 hmany5 => ?_)
    replace hmany5 : many5 = most_ := hmany5
    refine q_next (hol_in many5 ?_ (LeG.k (LeG.k (LeG.k (LeG.f (LeG.f (LeG.f (LeG.f (LeG.f LeG.nil)))))))))
    show (many5 = most_ ∨ many5 = many2)
    first | (left; assumption) | (right; assumption) | (left; rfl) | (right; rfl) | (simp_all; done)
  · refine q_next (hol_in many2 ?_ (LeG.k (LeG.k (LeG.k (LeG.f (LeG.f (LeG.f (LeG.f (LeG.f LeG.nil)))))))))
    show (many2 = most_ ∨ many2 = many2)
    first | (left; assumption) | (right; assumption) | (left; rfl) | (right; rfl) | (simp_all; done)
  revert s h4j; intro many6 h4j
  replace h4j : (many6 = most_ ∨ many6 = many2) := h4j
  refine q_asg (i := 3) (ℓ := .g) (ev_call (vol_law_take (i := 0) rfl hPI (ev_int) (by
        first | omega | assumption | (simp; done) | (constructor <;> omega) | (simp; omega)))) (fun kind8 hkind8 => ?_)
  replace hkind8 : 0 ≤ kind8 ∧ kind8 < (6 : Int) := hkind8
  refine q_ifT (ec_tst (ev_eqI (((ev_var (R := rInt) (a := kind8) rfl)).toh) (ev_int))) (fun h9 => ?_) (fun h9 => ?_)
  · refine q_ret (ev_call (vol_law_unlike (i := 0) rfl hPI (((ev_var (R := rInt) (a := many6) rfl)).toh) (by
          first | omega | assumption | (simp; done) | (constructor <;> omega) | (simp; omega)))) hR (fun r11 hr11 => ?_)
    replace hr11 : (r11.length : Int) = many6 := hr11
    show (r11.length : Int) ≤ most_
    all_goals (first | rfl | assumption | omega | (simp; done))
  refine q_asgN (i := 4) (ℓ := .g) (en_lstd (ℓ := .g) (R := rInt) em_nil) (fun p13 row12 hrow12 => ?_)
  subst hrow12
  refine q_forD (j := 5) (σS := (List Int)) (fun s => [.vol p_pot, .val .m rInt most_, .val .g rInt many6, .val .g rInt kind8, .own p13 .g rInt s, .no, .no, .no]) (fun (i : Nat) (s : (List Int)) => (s.length = i)) ([] : List Int) (ei_rg1d (b := true) (ℓ := .g) (((ev_var (R := rInt) (a := many6) rfl)).toh) (by first | omega | assumption | (simp; done) | (constructor <;> omega) | (simp; omega))) (by
        show (([] : List Int).length = 0)
        rfl) (LeG.k (LeG.k (LeG.k (LeG.k (LeG.k (LeG.f (LeG.f (LeG.f LeG.nil)))))))) (fun C1 hc1 i1 x14 s hx14 hI0 => ?_) (fun s hI0 => ?_)
  · revert s hI0; intro row15 hI0
    replace hI0 : (row15.length = i1) := hI0
    have hR := hR.ex hc1
    have hPI := hc1.pi.trans hPI
    have hx14l := at_lt hx14
    have hx14r := rg_at hx14
    rw [rg_len] at hx14l
    refine q_asg (i := 6) (ℓ := .g) (ev_call (vol_law_take (i := 0) rfl hPI (((ev_ix (es_tup (ev_tup (ℓ := .g) (em_cons (ev_int) (em_cons (ev_int) (em_nil (R := rInt)))) (fun _ e => by rw [e]; exact Nat.le_of_ble_eq_true rfl))) ((ev_intB' ((ev_gt (((ev_var (R := rInt) (a := kind8) rfl)).toh) (ev_int))))) (by split <;> decide))).toh) (by
          split <;> decide))) (fun few17 hfew17 => ?_)
    replace hfew17 : 0 ≤ few17 ∧ few17 < (gt [(4 : Int), (2 : Int)] (if (decide ((0 : Int) < kind8)) = true then (1 : Int) else 0)) := hfew17
    refine q_asg (i := 7) (ℓ := .g) (ev_int) (fun great18 hgreat18 => ?_)
    replace hgreat18 : great18 = (0 : Int) := hgreat18
    refine q_cut (S := Int) (fun s => [.vol p_pot, .val .m rInt most_, .val .g rInt many6, .val .g rInt kind8, .own p13 .g rInt row15, .val .g rInt x14, .val .g rInt few17, .val .g rInt s]) (fun s => True) (c_ifC (ec_tst (ev_eqI (((ev_var (R := rInt) (a := kind8) rfl)).toh) (ev_int))) (fun h19 => ?_) (fun h19 => ?_)) (fun s h19j => ?_)
    · refine q_asg (i := 7) (ℓ := .g) (evp_mul (evp_sub ((ev_call (vol_law_take (i := 0) rfl hPI ((ev_eqc (ev_add ((ev_eqc (ev_mul (ev_int) ((ev_eqc (ev_pow (ev_int) (ev_int) (by unfold CPow; decide)) (c := 1000000000) (by decide +kernel))) (.inl (by decide))) (c := 2000000000) (by decide +kernel))) (ev_int)) (c := 2000000001) (by decide +kernel))) (by
            first | omega | assumption | (simp; done) | (constructor <;> omega) | (simp; omega)))).toh) ((ev_eqc (ev_pow (ev_int) (ev_int) (by unfold CPow; decide)) (c := 1000000000) (by decide +kernel)))) ((ev_eqc (ev_pow (ev_int) (ev_int) (by unfold CPow; decide)) (c := 100000000000000000000000000000000000000000000000000) (by decide +kernel))) (by
            intro x21 y22 h23 h24
            obtain ⟨x25, y26, hx25, hy26, h23⟩ := h23
            obtain h24 := h24
            unfold CMul; omega)) (fun great27 hgreat27 => ?_)
      obtain ⟨x28, y29, ⟨x30, y31, hx30, hy31, hx28⟩, hy29, hgreat27⟩ := hgreat27
      refine q_next (hol_in great27 ?_ (LeG.k (LeG.k (LeG.k (LeG.k (LeG.k (LeG.k (LeG.k (LeG.k LeG.nil)))))))))
      show True
      trivial
    · refine q_next (hol_in great18 ?_ (LeG.k (LeG.k (LeG.k (LeG.k (LeG.k (LeG.k (LeG.k (LeG.k LeG.nil)))))))))
      show True
      trivial
    revert s h19j; intro great32 h19j
    replace h19j : True := h19j
    refine q_app (i := 4) (p := p13) rfl ((ev_ix (es_tup (ev_tup (ℓ := .g) (em_cons ((ev_var (R := rInt) (a := few17) rfl)) (em_cons ((ev_add (((ev_var (R := rInt) (a := x14) rfl)).toh) (((ev_var (R := rInt) (a := few17) rfl)).toh))) (em_cons ((ev_add ((ev_sub (((ev_var (R := rInt) (a := many6) rfl)).toh) (((ev_var (R := rInt) (a := x14) rfl)).toh))) (((ev_var (R := rInt) (a := few17) rfl)).toh))) (em_cons ((ev_add ((ev_mul ((ev_mod (((ev_var (R := rInt) (a := x14) rfl)).toh) (ev_int) (by decide +kernel))) (ev_int) (.inr (by decide)))) (((ev_var (R := rInt) (a := few17) rfl)).toh))) (em_cons ((ev_var (R := rInt) (a := great32) rfl)) (em_nil (R := rInt))))))) (fun _ e => by rw [e]; exact Nat.le_of_ble_eq_true rfl))) (((ev_var (R := rInt) (a := kind8) rfl)).toh) (by first | omega | assumption | (simp; done) | (constructor <;> omega) | (simp; omega)))) (by first | omega | assumption | (simp; done) | (constructor <;> omega) | (simp; omega)) (fun e33 he33 => ?_)
    replace he33 : e33 = (gt [few17, (x14 + few17), ((many6 - x14) + few17), (((x14 % (4 : Int)) * (2 : Int)) + few17), great32] kind8) := he33
    rw [he33]; clear he33 e33
    refine q_next (hol_in (row15 ++ [(gt [few17, (x14 + few17), ((many6 - x14) + few17), (((x14 % (4 : Int)) * (2 : Int)) + few17), great32] kind8)]) ?_ (LeG.k (LeG.k (LeG.k (LeG.k (LeG.k (LeG.f (LeG.f (LeG.f LeG.nil)))))))))
    show ((row15 ++ [(gt [few17, (x14 + few17), ((many6 - x14) + few17), (((x14 % (4 : Int)) * (2 : Int)) + few17), great32] kind8)]).length = (i1 + 1))
    simp only [List.length_append, List.length_cons, List.length_nil]; omega
  revert s hI0; intro row34 hI0
  replace hI0 : (row34.length = ((rg 0 many6)).length) := hI0
  simp only [rg_len] at hI0
  show Go _ _ _ [.vol p_pot, .val .m rInt most_, .val .g rInt many6, .val .g rInt kind8, .own p13 .g rInt row34, .no, .no, .no]
  refine q_frz (i := 4) (p := p13) rfl ?_
  refine q_ret ((ev_var (R := (rList rInt)) (a := row34) rfl)) hR (fun r35 hr35 => ?_)
  replace hr35 : r35 = row34 := hr35
  show (r35.length : Int) ≤ most_
  (try rw [hr35])
  all_goals (first | rfl | assumption | omega | (simp; done))
abbrev s_law_row : Stmt := topS 35
theorem sc_law_row : FnScope ["pot", "most", "many", "kind", "row", "place", "few", "great"] ["pot", "most"] (defScope s_law_row) := ⟨rfl, rfl, rfl, by decide +kernel, rfl, by decide +kernel, by decide +kernel⟩
theorem ok_law_row {P : Program} {w : PySem.World} {K : PySem.W.Frag} {mg : Str → Option Value} {base : Heap} {f : Addr} {fd : FuncData} (F : Fun K "_law_row" "_law_row" s_law_row f fd) {f_law_take : Addr} {d_law_take : FuncData} (c_law_take : Cal P w K mg base CX0 1 "_law_take" ["pot", "many"] sp_law_take f_law_take d_law_take) {f_law_unlike : Addr} {d_law_unlike : FuncData} (c_law_unlike : Cal P w K mg base CX0 2 "_law_unlike" ["pot", "many"] sp_law_unlike f_law_unlike d_law_unlike) (m_int : mg "int" = none) (m_range : mg "range" = none) : FnOk P w K mg base CX0 3 f fd ["pot", "most"] sp_law_row := by
  have sc := sc_law_row
  refine F.ok sc (fun vs H Q E h => ?_) (fun cdv A outer s H vs Q E hr h => ?_)
  · obtain ⟨p_, r_, a_, o_, rfl, _, _, h1_, _⟩ := h
    obtain ⟨v1, _, rfl, _ha1, rfl⟩ := h1_
    rfl
  · obtain ⟨p_pot, r_, ⟨most_, _⟩, rfl, bk_, ⟨v1, _, rfl, ha1, rfl⟩, hp0, hR⟩ := spV_open (n := fun _ H' => Q .non H') h
    refine ⟨t_law_row K E, ?_, go_law_row (C := (CnV H p_pot PIlaw)) p_pot most_ hp0 hR rfl _ (W0 H [p_pot]) (world_of bk_ ⟨⟨rfl, List.mem_singleton.mpr rfl, fun ⟨_, z⟩ => by cases z⟩, ⟨⟨by decide, v1, rfl, rInt.mono (mwV H p_pot PIlaw) ha1⟩, ⟨trivial, ⟨trivial, ⟨trivial, ⟨trivial, ⟨trivial, ⟨trivial, trivial⟩⟩⟩⟩⟩⟩⟩⟩ rfl)⟩
    unfold t_law_row
    exact (pss_cons (ps_set (i := 2) sc.nd rfl (Or.inl rfl) (pe_call c_law_take.ok (hr.mono (by decide)) (by rfl) c_law_take.g c_law_take.kp c_law_take.b .nil pass0 (pa_cons (pv 0) (pa_cons (pe_op op_add (pv 1) pe_int) pa_nil))))
(pss_cut (ps_if (pt_cmpR op_eq (pe_call c_law_take.ok (hr.mono (by decide)) (by rfl) c_law_take.g c_law_take.kp c_law_take.b .nil pass0 (pa_cons (pv 0) (pa_cons pe_int pa_nil))) pe_int (nomark _)) (pss_cons (ps_set (i := 2) sc.nd rfl (Or.inl rfl) (pv 1))
pss_nil) pss_nil)
(pss_cons (ps_set (i := 3) sc.nd rfl (Or.inl rfl) (pe_call c_law_take.ok (hr.mono (by decide)) (by rfl) c_law_take.g c_law_take.kp c_law_take.b .nil pass0 (pa_cons (pv 0) (pa_cons pe_int pa_nil))))
(pss_cons (ps_if (pt_cmpR op_eq (pv 3) pe_int (nomark _)) (pss_cons (ps_ret (pe_call c_law_unlike.ok (hr.mono (by decide)) (by rfl) c_law_unlike.g c_law_unlike.kp c_law_unlike.b .nil pass0 (pa_cons (pv 0) (pa_cons (pv 2) pa_nil)))) pss_nil) pss_nil)
(pss_cons (ps_set (i := 4) sc.nd rfl (Or.inl rfl) (pe_lst pa_nil))
(pss_cons (ps_for PassesOwn.never rfl (pi_range1 rfl m_range (pa_cons (pv 2) pa_nil)) (pg_name (i := 5) sc.nd rfl (Or.inl rfl))
(pss_cons (ps_set (i := 6) sc.nd rfl (Or.inl rfl) (pe_call c_law_take.ok (hr.mono (by decide)) (by rfl) c_law_take.g c_law_take.kp c_law_take.b .nil pass0 (pa_cons (pv 0) (pa_cons (pe_ix ix_tup (pe_tup (pa_cons pe_int (pa_cons pe_int pa_nil))) (pe_callTy call_int1 (by rfl) m_int bt_int (pa_cons (pe_cmpR op_gt (pv 3) pe_int (nomark _)) pa_nil)) (fun _ _ => rfl)) pa_nil))))
(pss_cons (ps_set (i := 7) sc.nd rfl (Or.inl rfl) pe_int)
(pss_cut (ps_if (pt_cmpR op_eq (pv 3) pe_int (nomark _)) (pss_cons (ps_set (i := 7) sc.nd rfl (Or.inl rfl) (pe_op op_mul (pe_op op_sub (pe_call c_law_take.ok (hr.mono (by decide)) (by rfl) c_law_take.g c_law_take.kp c_law_take.b .nil pass0 (pa_cons (pv 0) (pa_cons (pe_op op_add (pe_op op_mul pe_int (pe_op op_pow pe_int pe_int)) pe_int) pa_nil))) (pe_op op_pow pe_int pe_int)) (pe_op op_pow pe_int pe_int)))
pss_nil) pss_nil)
(pss_cons (ps_expr (pe_bm PySem.F.plainAttrs_list PySem.F.slot_list_append PySem.F.type_list_append mt_append (pv 4) (pa_cons (pe_ix ix_tup (pe_tup (pa_cons (pv 6) (pa_cons (pe_op op_add (pv 5) (pv 6)) (pa_cons (pe_op op_add (pe_op op_sub (pv 2) (pv 5)) (pv 6)) (pa_cons (pe_op op_add (pe_op op_mul (pe_op op_mod (pv 5) pe_int) pe_int) (pv 6)) (pa_cons (pv 7) pa_nil)))))) (pv 3) (fun _ _ => rfl)) pa_nil)))
pss_nil)))))
(pss_cons (ps_ret (pv 4)) pss_nil)))))))
def sp_backs_of : Sp := spF (aCons (rSeq rInt) aNil) (fun (a : (List Int) × Unit) => (a.1.length ≤ 100000)) (rList rInt) (fun (a : (List Int) × Unit) b => b = TM.backs a.1) (fun _ _ => False)
theorem call_backs_of {C : Cn} {Γ : List Ent} {E : XK} {t1 : TE} {a1 : (List Int)} (h1 : Ev C t1 Γ .h (rSeq rInt) a1) (hp0 : a1.length ≤ 100000) : EvX C (tCall (sp_backs_of) [] E (tCons t1 tNil)) Γ (ResF C (rList rInt) (fun b => b = TM.backs a1)) := ed_call1 h1 hp0 exc0 (fun _ z => z)
theorem callx_backs_of {C : Cn} {Γ : List Ent} {E : XK} {t1 : TE} {P1 : (List Int) → Prop} (h1 : EvP C t1 Γ .h (rSeq rInt) P1) (hp0 : ∀ a1, P1 a1 → (a1.length ≤ 100000)) : EvX C (tCall (sp_backs_of) [] E (tCons t1 tNil)) Γ (ResF C (rList rInt) (fun b => ∃ a1, P1 a1 ∧ (b = TM.backs a1))) := ex_call1 h1 (fun a1 _p1 => hp0 a1 _p1) exc0 (fun a1 _p1 => fun _ z => z)
def t_backs_of (K : PySem.W.Frag) (E : XK) : TS :=
(tSeq (tAsg (tLst tNil) (gName 1))
(tSeq (tAsg (tLst tNil) (gName 2))
(tSeq (tFor (iEnumE K (tCons (tVar 0) tNil)) (gTup K 2 (gCons (gName 3) (gCons (gName 4) gNil)))
(tSeq (tWhile (tAnd (tTest (tOp (rNeD K) (tVar 2) (tLst tNil))) (tTest (tOp (rI0 fun i j => .bl (decide (j < i))) (tOp (rIxK K .e) (tVar 0) (tOp (rIxK K .l) (tVar 2) (tUn (rU fun i => .int (-i)) (tC (.int 1))))) (tVar 4))))
(tSeq (tDrop (tBM0 K "list" rPop (tVar 2)))
tNext))
(tCut (tIfS (tTest (tOp (rEqD K) (tVar 2) (tLst tNil))) (tSeq (tDrop (tBM K "list" rAppend (tVar 1) (tCons (tC (.int 0)) tNil)))
tNext) (tSeq (tDrop (tBM K "list" rAppend (tVar 1) (tCons (tOp (rI0 fun i j => .int (i - j)) (tVar 3) (tOp (rIxK K .l) (tVar 2) (tUn (rU fun i => .int (-i)) (tC (.int 1))))) tNil)))
tNext))
(tSeq (tDrop (tBM K "list" rAppend (tVar 2) (tCons (tVar 3) tNil)))
tNext))))
(tSeq (tRet (tVar 1)) tNext))))
theorem go_backs_of {K : PySem.W.Frag} {C : Cn} {D : Ends} {E : XK} (row_ : (List Int)) (hp0 : row_.length ≤ 100000) (hR : RetOk C D (rList rInt) (fun b => b = TM.backs row_)) :
    Go C (t_backs_of K E) D [.val .m (rSeq rInt) row_, .no, .no, .no, .no] := by
  unfold t_backs_of
  refine q_asgN (i := 1) (ℓ := .g) (en_lstd (ℓ := .g) (R := rInt) em_nil) (fun p2 found1 hfound1 => ?_)
  subst hfound1
  refine q_asgN (i := 2) (ℓ := .g) (en_lstd (ℓ := .g) (R := rInt) em_nil) (fun p4 left3 hleft3 => ?_)
  subst hleft3
  refine q_forD2 (i := 3) (j := 4) (σS := (List Int) × (List Int)) (fun s => [.val .m (rSeq rInt) row_, .own p2 .g rInt s.2, .own p4 .g rInt s.1, .no, .no]) (fun (i : Nat) (s : (List Int) × (List Int)) => (s.2 = (List.range i).map (TM.bk row_)) ∧ (s.1 = (TM.opens row_ i).map fun (q : Nat) => (q : Int)) ∧ (s.2.length = i)) (([] : List Int), ([] : List Int)) (ei_enumEd (b := true) (hc := (by intro _; decide)) (ev_var (R := (rSeq rInt)) (a := row_) rfl)) (by
        show (([] : List Int) = (List.range 0).map (TM.bk row_)) ∧ (([] : List Int) = (TM.opens row_ 0).map fun (q : Nat) => (q : Int)) ∧ (([] : List Int).length = 0)
        exact ⟨rfl, rfl, rfl⟩) (LeG.k (LeG.k (LeG.k (LeG.f (LeG.f LeG.nil))))) (fun C1 hc1 i1 x5 s hx5 hI0 => ?_) (fun s hI0 => ?_)
  · obtain ⟨left6, found7⟩ := s
    replace hI0 : (found7 = (List.range i1).map (TM.bk row_)) ∧ (left6 = (TM.opens row_ i1).map fun (q : Nat) => (q : Int)) ∧ (found7.length = i1) := hI0
    obtain ⟨hI0_0, hI0_1, hI0_2⟩ := hI0
    have hR := hR.ex hc1
    have hx5l := at_lt hx5
    have hx5r := enu_at hx5
    rw [enu_len] at hx5l
    refine q_while (S := (List Int)) (fun s => [.val .m (rSeq rInt) row_, .own p2 .g rInt found7, .own p4 .g rInt s, .val .m rInt x5.1, .val .m rInt x5.2]) (fun (s : (List Int)) => (s.length ≤ left6.length) ∧ (s = left6.take s.length) ∧ (∀ j, s.length ≤ j → ∀ q, left6[j]? = some q → x5.2 < gt row_ q)) (fun (s : (List Int)) => s.length) (fun (s : (List Int)) => ((¬ s = ([] : List Int)) ∧ (x5.2 < (gt row_ (gtB s 1))))) left6 (by
          show (left6.length ≤ left6.length) ∧ (left6 = left6.take left6.length) ∧ (∀ j, left6.length ≤ j → ∀ q, left6[j]? = some q → x5.2 < gt row_ q)
          exact ⟨Nat.le_refl _, (List.take_length ..).symm, fun j hj q hq => by have := at_lt hq; omega⟩) (LeG.k (LeG.k (LeG.k (LeG.k (LeG.k LeG.nil))))) (fun s hI1 => ?_) (fun s hI1 hw => ?_) (fun s hI1 hw => ?_)
    · revert s hI1; intro left8 hI1
      replace hI1 : (left8.length ≤ left6.length) ∧ (left8 = left6.take left8.length) ∧ (∀ j, left8.length ≤ j → ∀ q, left6[j]? = some q → x5.2 < gt row_ q) := hI1
      obtain ⟨hI1_0, hI1_1, hI1_2⟩ := hI1
      exact (ec_and (ec_tstN (ev_neD (eqr_list eqr_int) (Nat.le_of_ble_eq_true rfl) (ev_own (R := rInt) (l := left8) rfl) (((ev_new (ℓ := .g) (en_lstd (ℓ := .g) (R := rInt) em_nil))).toh))) (fun hb9 => (ec_tst (ev_gt (((ev_ix (es_seq (ev_var (R := (rSeq rInt)) (a := row_) rfl)) (((ev_ixB (n := 1) (es_own (R := rInt) (l := left8) rfl) (by exact ⟨by decide, List.length_pos_iff.mpr (by assumption)⟩))).toh) (by exact TM.tree_in hI0_1 (by omega) hI1_1 (by assumption)))).toh) (((ev_var (R := rInt) (a := x5.2) rfl)).toh)))))
    · revert s hI1 hw; intro left11 hI1 hw
      replace hI1 : (left11.length ≤ left6.length) ∧ (left11 = left6.take left11.length) ∧ (∀ j, left11.length ≤ j → ∀ q, left6[j]? = some q → x5.2 < gt row_ q) := hI1
      obtain ⟨hI1_0, hI1_1, hI1_2⟩ := hI1
      replace hw : ((¬ left11 = ([] : List Int)) ∧ (x5.2 < (gt row_ (gtB left11 1)))) := hw
      show Go _ _ _ [.val .m (rSeq rInt) row_, .own p2 .g rInt found7, .own p4 .g rInt left11, .val .m rInt x5.1, .val .m rInt x5.2]
      refine q_popD (i := 2) (p := p4) rfl (by exact hw.1) ?_
      refine q_next (hol_in (left11).dropLast ?_ (LeG.k (LeG.k (LeG.k (LeG.k (LeG.k LeG.nil))))))
      show (((left11).dropLast.length ≤ left6.length) ∧ ((left11).dropLast = left6.take (left11).dropLast.length) ∧ (∀ j, (left11).dropLast.length ≤ j → ∀ q, left6[j]? = some q → x5.2 < gt row_ q)) ∧ (left11).dropLast.length < left11.length
      obtain ⟨⟨h1, h2, h3, _⟩, h5⟩ := TM.tree_pop hI1_0 hI1_1 hI1_2 hw.1 hw.2 rfl
      exact ⟨⟨h1, h2, h3⟩, h5⟩
    revert s hI1 hw; intro left12 hI1 hw
    replace hI1 : (left12.length ≤ left6.length) ∧ (left12 = left6.take left12.length) ∧ (∀ j, left12.length ≤ j → ∀ q, left6[j]? = some q → x5.2 < gt row_ q) := hI1
    obtain ⟨hI1_0, hI1_1, hI1_2⟩ := hI1
    replace hw : ¬ ((¬ left12 = ([] : List Int)) ∧ (x5.2 < (gt row_ (gtB left12 1)))) := hw
    show Go _ _ _ [.val .m (rSeq rInt) row_, .own p2 .g rInt found7, .own p4 .g rInt left12, .val .m rInt x5.1, .val .m rInt x5.2]
    refine q_cut (S := (List Int)) (fun s => [.val .m (rSeq rInt) row_, .own p2 .g rInt s, .own p4 .g rInt left12, .val .m rInt x5.1, .val .m rInt x5.2]) (fun s => (s = found7 ++ [if left12 = [] then 0 else x5.1 - gtB left12 1])) (c_ifC (ec_tst (ev_eqD (eqr_list eqr_int) (Nat.le_of_ble_eq_true rfl) (ev_own (R := rInt) (l := left12) rfl) (((ev_new (ℓ := .g) (en_lstd (ℓ := .g) (R := rInt) em_nil))).toh))) (fun h13 => ?_) (fun h13 => ?_)) (fun s h13j => ?_)
    · refine q_app (i := 1) (p := p2) rfl (ev_int) (by first | omega | assumption | (simp; done) | (constructor <;> omega) | (simp; omega)) (fun e14 he14 => ?_)
      replace he14 : e14 = (0 : Int) := he14
      rw [he14]; clear he14 e14
      refine q_next (hol_in (found7 ++ [(0 : Int)]) ?_ (LeG.k (LeG.k (LeG.k (LeG.k (LeG.k LeG.nil))))))
      show ((found7 ++ [(0 : Int)]) = found7 ++ [if left12 = [] then 0 else x5.1 - gtB left12 1])
      first | rw [if_pos (by assumption)] | rw [if_neg (by assumption)]
    · refine q_app (i := 1) (p := p2) rfl ((ev_sub (((ev_var (R := rInt) (a := x5.1) rfl)).toh) (((ev_ixB (n := 1) (es_own (R := rInt) (l := left12) rfl) (by exact ⟨by decide, List.length_pos_iff.mpr (by assumption)⟩))).toh))) (by first | omega | assumption | (simp; done) | (constructor <;> omega) | (simp; omega)) (fun e15 he15 => ?_)
      replace he15 : e15 = (x5.1 - (gtB left12 1)) := he15
      rw [he15]; clear he15 e15
      refine q_next (hol_in (found7 ++ [(x5.1 - (gtB left12 1))]) ?_ (LeG.k (LeG.k (LeG.k (LeG.k (LeG.k LeG.nil))))))
      show ((found7 ++ [(x5.1 - (gtB left12 1))]) = found7 ++ [if left12 = [] then 0 else x5.1 - gtB left12 1])
      first | rw [if_pos (by assumption)] | rw [if_neg (by assumption)]
    revert s h13j; intro found16 h13j
    replace h13j : (found16 = found7 ++ [if left12 = [] then 0 else x5.1 - gtB left12 1]) := h13j
    refine q_app (i := 2) (p := p4) rfl (((ev_var (R := rInt) (a := x5.1) rfl)).fl fl_int) (by have := TM.tree_open hI1_0 hI0_1; omega) (fun e17 he17 => ?_)
    replace he17 : e17 = x5.1 := he17
    rw [he17]; clear he17 e17
    refine q_next (hol_in ((left12 ++ [x5.1]), found16) ?_ (LeG.k (LeG.k (LeG.k (LeG.f (LeG.f LeG.nil))))))
    show (found16 = (List.range (i1 + 1)).map (TM.bk row_)) ∧ ((left12 ++ [x5.1]) = (TM.opens row_ (i1 + 1)).map fun (q : Nat) => (q : Int)) ∧ (found16.length = (i1 + 1))
    obtain ⟨h1, h2, h3⟩ := TM.stack_turn hI0_1 hI1_0 hI1_1 hI1_2 hw hx5
    refine ⟨?_, h1, by rw [h13j, List.length_append, List.length_singleton, hI0_2]⟩
    rw [h13j, hI0_0, List.range_succ, List.map_append]
    congr 1
    show [_] = [_]
    congr 1
    split
    · rename_i z; exact (h2 z).symm
    · rename_i z; exact (h3 z).symm
  obtain ⟨left18, found19⟩ := s
  replace hI0 : (found19 = (List.range ((enu row_)).length).map (TM.bk row_)) ∧ (left18 = (TM.opens row_ ((enu row_)).length).map fun (q : Nat) => (q : Int)) ∧ (found19.length = ((enu row_)).length) := hI0
  obtain ⟨hI0_0, hI0_1, hI0_2⟩ := hI0
  simp only [enu_len] at hI0_0 hI0_1 hI0_2
  show Go _ _ _ [.val .m (rSeq rInt) row_, .own p2 .g rInt found19, .own p4 .g rInt left18, .no, .no]
  refine q_frz (i := 1) (p := p2) rfl ?_
  refine q_ret ((ev_var (R := (rList rInt)) (a := found19) rfl)) hR (fun r20 hr20 => ?_)
  replace hr20 : r20 = found19 := hr20
  show r20 = TM.backs row_
  rw [hr20]
  exact hI0_0
abbrev s_backs_of : Stmt := topS 20
theorem sc_backs_of : FnScope ["row", "found", "left", "place", "number"] ["row"] (defScope s_backs_of) := ⟨rfl, rfl, rfl, by decide +kernel, rfl, by decide +kernel, by decide +kernel⟩
theorem ok_backs_of {P : Program} {w : PySem.World} {K : PySem.W.Frag} {mg : Str → Option Value} {base : Heap} {f : Addr} {fd : FuncData} (F : Fun K "backs_of" "backs_of" s_backs_of f fd) (m_enumerate : mg "enumerate" = none) : FnOk P w K mg base CX0 1 f fd ["row"] sp_backs_of := by
  have sc := sc_backs_of
  refine F.ok sc (fun vs H Q E h => ?_) (fun cdv A outer s H vs Q E hr h => ?_)
  · obtain ⟨a_, ha_, _⟩ := h
    obtain ⟨v1, _, rfl, _ha1, rfl⟩ := ha_
    rfl
  · obtain ⟨⟨row_, _⟩, ⟨v1, _, rfl, ha1, rfl⟩, hp0, hR, hE⟩ := spF_open PIlaw (n := fun _ H' => Q .non H') h
    refine ⟨t_backs_of K E, ?_, go_backs_of (C := (Cn0 PIlaw H)) row_ hp0 hR _ (W0 H []) (world_of (bok0 (PI := PIlaw) H) ⟨⟨by decide, v1, rfl, (rSeq rInt).mono (mw0 (PI := PIlaw) H) ha1⟩, ⟨trivial, ⟨trivial, ⟨trivial, ⟨trivial, trivial⟩⟩⟩⟩⟩ rfl)⟩
    unfold t_backs_of
    exact (pss_cons (ps_set (i := 1) sc.nd rfl (Or.inl rfl) (pe_lst pa_nil))
(pss_cons (ps_set (i := 2) sc.nd rfl (Or.inl rfl) (pe_lst pa_nil))
(pss_cons (ps_for PassesOwn.never rfl (pi_enumE (by rfl) m_enumerate (pa_cons (pv 0) pa_nil)) (pg_tup rfl (pgs_cons (pg_name (i := 3) sc.nd rfl (Or.inl rfl)) (pgs_cons (pg_name (i := 4) sc.nd rfl (Or.inl rfl)) pgs_nil)))
(pss_cons (ps_while PassesOwn.never (PW.pt (pw_and (pt_cmpR (op_neD (roomUn hr)) (pv 2) (pe_lst pa_nil) (nomark _)) (pw_and1 (pt_cmpR op_gt (pe_ix ix_seq (pv 0) (pe_ix ix_list (pv 2) (pe_un un_neg pe_int) (fun _ _ => rfl)) (fun _ _ => rfl)) (pv 4) (nomark _)))))
(pss_cons (ps_expr (pe_bm0 PySem.F.plainAttrs_list PySem.F.slot_list_pop PySem.F.type_list_pop mt_pop (pv 2)))
pss_nil))
(pss_cut (ps_if (pt_cmpR (op_eqD (roomUn hr)) (pv 2) (pe_lst pa_nil) (nomark _)) (pss_cons (ps_expr (pe_bm PySem.F.plainAttrs_list PySem.F.slot_list_append PySem.F.type_list_append mt_append (pv 1) (pa_cons pe_int pa_nil)))
pss_nil) (pss_cons (ps_expr (pe_bm PySem.F.plainAttrs_list PySem.F.slot_list_append PySem.F.type_list_append mt_append (pv 1) (pa_cons (pe_op op_sub (pv 3) (pe_ix ix_list (pv 2) (pe_un un_neg pe_int) (fun _ _ => rfl))) pa_nil)))
pss_nil))
(pss_cons (ps_expr (pe_bm PySem.F.plainAttrs_list PySem.F.slot_list_append PySem.F.type_list_append mt_append (pv 2) (pa_cons (pv 3) pa_nil)))
pss_nil))))
(pss_cons (ps_ret (pv 1)) pss_nil))))
def sp_cut_back : Sp := spF (aCons rInt (aCons rInt aNil)) (fun (a : Int × Int × Unit) => True) rInt (fun (a : Int × Int × Unit) b => b = TM.cutb a.1 a.2.1) (fun _ _ => False)
theorem call_cut_back {C : Cn} {Γ : List Ent} {E : XK} {t1 : TE} {t2 : TE} {a1 : Int} {a2 : Int} (h1 : Ev C t1 Γ .h rInt a1) (h2 : Ev C t2 Γ .h rInt a2)  : EvX C (tCall (sp_cut_back) [] E (tCons t1 (tCons t2 tNil))) Γ (ResF C rInt (fun b => b = TM.cutb a1 a2)) := ed_call2 h1 h2 trivial exc0 (fun _ z => z)
theorem callx_cut_back {C : Cn} {Γ : List Ent} {E : XK} {t1 : TE} {t2 : TE} {P1 : Int → Prop} {P2 : Int → Prop} (h1 : EvP C t1 Γ .h rInt P1) (h2 : EvP C t2 Γ .h rInt P2)  : EvX C (tCall (sp_cut_back) [] E (tCons t1 (tCons t2 tNil))) Γ (ResF C rInt (fun b => ∃ a1 a2, P1 a1 ∧ P2 a2 ∧ (b = TM.cutb a1 a2))) := ex_call2 h1 h2 (fun a1 a2 _p1 _p2 => trivial) exc0 (fun a1 a2 _p1 _p2 => fun _ z => z)
def t_cut_back (K : PySem.W.Frag) (E : XK) : TS :=
(tSeq (tIfS (tTest (tOp (rI0 fun i j => .bl (decide (j < i))) (tVar 0) (tVar 1))) (tSeq (tRet (tC (.int 0))) tNext) tNext)
(tSeq (tRet (tVar 0)) tNext))
theorem go_cut_back {K : PySem.W.Frag} {C : Cn} {D : Ends} {E : XK} (far_ : Int) (many_ : Int)  (hR : RetOk C D rInt (fun b => b = TM.cutb far_ many_)) :
    Go C (t_cut_back K E) D [.val .m rInt far_, .val .m rInt many_] := by
  unfold t_cut_back
  refine q_ifT (ec_tst (ev_gt (((ev_var (R := rInt) (a := far_) rfl)).toh) (((ev_var (R := rInt) (a := many_) rfl)).toh))) (fun h1 => ?_) (fun h1 => ?_)
  · refine q_ret (ev_int) hR (fun r2 hr2 => ?_)
    replace hr2 : r2 = (0 : Int) := hr2
    show r2 = TM.cutb far_ many_
    rw [hr2]
    unfold TM.cutb; simp [*]
  refine q_ret (((ev_var (R := rInt) (a := far_) rfl)).fl fl_int) hR (fun r3 hr3 => ?_)
  replace hr3 : r3 = far_ := hr3
  show r3 = TM.cutb far_ many_
  rw [hr3]
  unfold TM.cutb; simp [*]
abbrev s_cut_back : Stmt := topS 21
theorem sc_cut_back : FnScope ["far", "many"] ["far", "many"] (defScope s_cut_back) := ⟨rfl, rfl, rfl, by decide +kernel, rfl, by decide +kernel, by decide +kernel⟩
theorem ok_cut_back {P : Program} {w : PySem.World} {K : PySem.W.Frag} {mg : Str → Option Value} {base : Heap} {f : Addr} {fd : FuncData} (F : Fun K "cut_back" "cut_back" s_cut_back f fd) : FnOk P w K mg base CX0 1 f fd ["far", "many"] sp_cut_back := by
  have sc := sc_cut_back
  refine F.ok sc (fun vs H Q E h => ?_) (fun cdv A outer s H vs Q E hr h => ?_)
  · obtain ⟨a_, ha_, _⟩ := h
    obtain ⟨v1, _, rfl, _ha1, ⟨v2, _, rfl, _ha2, rfl⟩⟩ := ha_
    rfl
  · obtain ⟨⟨far_, many_, _⟩, ⟨v1, _, rfl, ha1, ⟨v2, _, rfl, ha2, rfl⟩⟩, _, hR, hE⟩ := spF_open PIlaw (n := fun _ H' => Q .non H') h
    refine ⟨t_cut_back K E, ?_, go_cut_back (C := (Cn0 PIlaw H)) far_ many_ hR _ (W0 H []) (world_of (bok0 (PI := PIlaw) H) ⟨⟨by decide, v1, rfl, rInt.mono (mw0 (PI := PIlaw) H) ha1⟩, ⟨⟨by decide, v2, rfl, rInt.mono (mw0 (PI := PIlaw) H) ha2⟩, trivial⟩⟩ rfl)⟩
    unfold t_cut_back
    exact (pss_cons (ps_if (pt_cmpR op_gt (pv 0) (pv 1) (nomark _)) (pss_cons (ps_ret pe_int) pss_nil) pss_nil)
(pss_cons (ps_ret (pv 0)) pss_nil))
def sp_borders_of : Sp := spF (aCons (rSeq rInt) aNil) (fun (a : (List Int) × Unit) => (a.1.length ≤ 100000)) (rList rInt) (fun (a : (List Int) × Unit) b => b = TM.borders a.1) (fun _ _ => False)
theorem call_borders_of {C : Cn} {Γ : List Ent} {E : XK} {t1 : TE} {a1 : (List Int)} (h1 : Ev C t1 Γ .h (rSeq rInt) a1) (hp0 : a1.length ≤ 100000) : EvX C (tCall (sp_borders_of) [] E (tCons t1 tNil)) Γ (ResF C (rList rInt) (fun b => b = TM.borders a1)) := ed_call1 h1 hp0 exc0 (fun _ z => z)
theorem callx_borders_of {C : Cn} {Γ : List Ent} {E : XK} {t1 : TE} {P1 : (List Int) → Prop} (h1 : EvP C t1 Γ .h (rSeq rInt) P1) (hp0 : ∀ a1, P1 a1 → (a1.length ≤ 100000)) : EvX C (tCall (sp_borders_of) [] E (tCons t1 tNil)) Γ (ResF C (rList rInt) (fun b => ∃ a1, P1 a1 ∧ (b = TM.borders a1))) := ex_call1 h1 (fun a1 _p1 => hp0 a1 _p1) exc0 (fun a1 _p1 => fun _ z => z)
def t_borders_of (K : PySem.W.Frag) (E : XK) : TS :=
(tSeq (tAsg (tCall sp_backs_of [] E0 (tCons (tVar 0) tNil)) (gName 1))
(tSeq (tAsg (tLst tNil) (gName 2))
(tSeq (tAsg (tC (.int 0)) (gName 3))
(tSeq (tFor (iEnum K (tCons (tVar 1) tNil)) (gTup K 2 (gCons (gName 4) (gCons (gName 5) gNil)))
(tCut (tIfS (tTest (tOp (rI0 fun i j => .bl (decide (j < i))) (tVar 4) (tC (.int 0)))) (tSeq (tWhile (tTest (tOp rNe (tCall sp_cut_back [] E0 (tCons (tVar 5) (tCons (tVar 3) tNil))) (tOp (rIxK K .l) (tVar 1) (tVar 3))))
(tSeq (tAsg (tOp (rIxK K .l) (tVar 2) (tOp (rI0 fun i j => .int (i - j)) (tVar 3) (tC (.int 1)))) (gName 3))
tNext))
(tSeq (tAsg (tOp (rI0 fun i j => .int (i + j)) (tVar 3) (tC (.int 1))) (gName 3))
tNext)) tNext)
(tSeq (tDrop (tBM K "list" rAppend (tVar 2) (tCons (tVar 3) tNil)))
tNext)))
(tSeq (tRet (tVar 2)) tNext)))))
theorem go_borders_of {K : PySem.W.Frag} {C : Cn} {D : Ends} {E : XK} (row_ : (List Int)) (hp0 : row_.length ≤ 100000) (hR : RetOk C D (rList rInt) (fun b => b = TM.borders row_)) :
    Go C (t_borders_of K E) D [.val .m (rSeq rInt) row_, .no, .no, .no, .no, .no] := by
  unfold t_borders_of
  refine q_asg (i := 1) (ℓ := .g) ((ev_new (ℓ := .g) (en_call (ℓ := .g) fl_int (call_backs_of (((ev_var (R := (rSeq rInt)) (a := row_) rfl)).toh) (by first | omega | assumption | (simp; done) | (constructor <;> omega) | (simp; omega)))))) (fun backs1 hbacks1 => ?_)
  replace hbacks1 : backs1 = (TM.backs row_) := hbacks1
  refine q_asgN (i := 2) (ℓ := .g) (en_lstd (ℓ := .g) (R := rInt) em_nil) (fun p3 told2 htold2 => ?_)
  subst htold2
  refine q_asg (i := 3) (ℓ := .g) (ev_int) (fun size4 hsize4 => ?_)
  replace hsize4 : size4 = (0 : Int) := hsize4
  refine q_forD2 (i := 4) (j := 5) (σS := Int × (List Int)) (fun s => [.val .m (rSeq rInt) row_, .val .g (rList rInt) backs1, .own p3 .g rInt s.2, .val .g rInt s.1, .no, .no]) (fun (i : Nat) (s : Int × (List Int)) => (s.2 = (List.range i).map (fun j => (TM.bord row_ (j + 1) : Int))) ∧ (s.1 = (if i = 0 then 0 else (TM.bord row_ i : Int))) ∧ (s.2.length = i)) (size4, ([] : List Int)) (ei_enumd (b := true) (hc := (by intro _; decide)) (hl := (by intro _; decide)) (es_list (ev_var (R := (rList rInt)) (a := backs1) rfl))) (by
        show (([] : List Int) = (List.range 0).map (fun j => (TM.bord row_ (j + 1) : Int))) ∧ (size4 = (if 0 = 0 then 0 else (TM.bord row_ 0 : Int))) ∧ (([] : List Int).length = 0)
        exact ⟨rfl, by rw [hsize4]; rfl, rfl⟩) (LeG.k (LeG.k (LeG.k (LeG.k (LeG.f (LeG.f LeG.nil)))))) (fun C1 hc1 i1 x5 s hx5 hI0 => ?_) (fun s hI0 => ?_)
  · obtain ⟨size6, told7⟩ := s
    replace hI0 : (told7 = (List.range i1).map (fun j => (TM.bord row_ (j + 1) : Int))) ∧ (size6 = (if i1 = 0 then 0 else (TM.bord row_ i1 : Int))) ∧ (told7.length = i1) := hI0
    obtain ⟨hI0_0, hI0_1, hI0_2⟩ := hI0
    have hR := hR.ex hc1
    have hx5l := at_lt hx5
    have hx5r := enu_at hx5
    rw [enu_len] at hx5l
    obtain ⟨hn1, hn2, hn3⟩ := TM.enu_num hx5
    have hbl : (backs1).length = (row_).length := by rw [hbacks1]; exact TM.backs_len _
    have hgb : ∀ s : Int, 0 ≤ s → s < (row_).length → gt backs1 s = TM.bk row_ s.toNat := fun s a b => by rw [hbacks1]; exact TM.gt_backs ⟨a, b⟩
    have hfar : x5.2 = TM.bk row_ i1 := by rw [hn3, hgb _ (by omega) (by omega), hn1, Int.toNat_natCast]
    refine q_cut (S := Int) (fun s => [.val .m (rSeq rInt) row_, .val .g (rList rInt) backs1, .own p3 .g rInt told7, .val .g rInt s, .val .g rInt x5.1, .val .g rInt x5.2]) (fun s => (s = (TM.bord row_ ((x5.1).toNat + 1) : Int))) (c_ifC (ec_tst (ev_gt (((ev_var (R := rInt) (a := x5.1) rfl)).toh) (ev_int))) (fun h8 => ?_) (fun h8 => ?_)) (fun s h8j => ?_)
    · refine q_while (S := Int) (fun s => [.val .m (rSeq rInt) row_, .val .g (rList rInt) backs1, .own p3 .g rInt told7, .val .g rInt s, .val .g rInt x5.1, .val .g rInt x5.2]) (fun (s : Int) => (TM.BS row_ i1 s)) (fun (s : Int) => s.toNat) (fun (s : Int) => (¬ (TM.cutb x5.2 s) = (gt backs1 s))) size6 (by
            show (TM.BS row_ i1 size6)
            rw [hI0_1, if_neg (by omega)]; exact TM.bs_init (by omega)) (LeG.k (LeG.k (LeG.k (LeG.k (LeG.k (LeG.k LeG.nil)))))) (fun s hI1 => ?_) (fun s hI1 hw => ?_) (fun s hI1 hw => ?_)
      · revert s hI1; intro size9 hI1
        replace hI1 : (TM.BS row_ i1 size9) := hI1
        exact (ec_tstN (ev_neI (((ev_call (call_cut_back (((ev_var (R := rInt) (a := x5.2) rfl)).toh) (((ev_var (R := rInt) (a := size9) rfl)).toh) ))).toh) (((ev_ix (es_list (ev_var (R := (rList rInt)) (a := backs1) rfl)) (((ev_var (R := rInt) (a := size9) rfl)).toh) (by have := hI1.s0; have := hI1.si; omega))).toh)))
      · revert s hI1 hw; intro size10 hI1 hw
        replace hI1 : (TM.BS row_ i1 size10) := hI1
        replace hw : (¬ (TM.cutb x5.2 size10) = (gt backs1 size10)) := hw
        show Go _ _ _ [.val .m (rSeq rInt) row_, .val .g (rList rInt) backs1, .own p3 .g rInt told7, .val .g rInt size10, .val .g rInt x5.1, .val .g rInt x5.2]
        have hsn := hI1.s0
        have hsi := hI1.si
        have hne : ¬ TM.cutb x5.2 size10 = TM.bk row_ (size10).toNat := by rw [← hgb _ hsn (by omega)]; exact hw
        have hsp := TM.bs_pos hI1 hfar hne
        have hgt := TM.gt_told hI0_0 (s := size10) (by omega)
        refine q_asg (i := 3) (ℓ := .g) ((ev_ix (es_own (R := rInt) (l := told7) rfl) ((ev_sub (((ev_var (R := rInt) (a := size10) rfl)).toh) (ev_int))) (by omega))) (fun size11 hsize11 => ?_)
        replace hsize11 : size11 = (gt told7 (size10 - (1 : Int))) := hsize11
        refine q_next (hol_in size11 ?_ (LeG.k (LeG.k (LeG.k (LeG.k (LeG.k (LeG.k LeG.nil)))))))
        show ((TM.BS row_ i1 size11)) ∧ size11.toNat < size10.toNat
        obtain ⟨h1, h2⟩ := TM.bs_step hI1 hfar hne
        rw [hsize11, hgt]; exact ⟨h1, by omega⟩
      revert s hI1 hw; intro size12 hI1 hw
      replace hI1 : (TM.BS row_ i1 size12) := hI1
      replace hw : ¬ (¬ (TM.cutb x5.2 size12) = (gt backs1 size12)) := hw
      show Go _ _ _ [.val .m (rSeq rInt) row_, .val .g (rList rInt) backs1, .own p3 .g rInt told7, .val .g rInt size12, .val .g rInt x5.1, .val .g rInt x5.2]
      refine q_asg (i := 3) (ℓ := .g) ((ev_add (((ev_var (R := rInt) (a := size12) rfl)).toh) (ev_int))) (fun size13 hsize13 => ?_)
      replace hsize13 : size13 = (size12 + (1 : Int)) := hsize13
      refine q_next (hol_in size13 ?_ (LeG.k (LeG.k (LeG.k (LeG.k (LeG.k (LeG.k LeG.nil)))))))
      show (size13 = (TM.bord row_ ((x5.1).toNat + 1) : Int))
      first | (rw [hsize13, hn1, Int.toNat_natCast]; exact TM.bs_end hI1 hfar (by rw [← hgb _ hI1.s0 (by have := hI1.si; omega)]; exact Classical.not_not.mp hw)) | (rw [hI0_1, if_pos (show i1 = 0 by omega), hn1, show i1 = 0 by omega]; exact (congrArg Nat.cast (TM.bord_one _)).symm)
    · refine q_next (hol_in size6 ?_ (LeG.k (LeG.k (LeG.k (LeG.k (LeG.k (LeG.k LeG.nil)))))))
      show (size6 = (TM.bord row_ ((x5.1).toNat + 1) : Int))
      first | (rw [hsize6, hn1, Int.toNat_natCast]; exact TM.bs_end hI1 hfar (by rw [← hgb _ hI1.s0 (by have := hI1.si; omega)]; exact Classical.not_not.mp hw)) | (rw [hI0_1, if_pos (show i1 = 0 by omega), hn1, show i1 = 0 by omega]; exact (congrArg Nat.cast (TM.bord_one _)).symm)
    revert s h8j; intro size14 h8j
    replace h8j : (size14 = (TM.bord row_ ((x5.1).toNat + 1) : Int)) := h8j
    refine q_app (i := 2) (p := p3) rfl ((ev_var (R := rInt) (a := size14) rfl)) (by first | omega | assumption | (simp; done) | (constructor <;> omega) | (simp; omega)) (fun e15 he15 => ?_)
    replace he15 : e15 = size14 := he15
    rw [he15]; clear he15 e15
    refine q_next (hol_in (size14, (told7 ++ [size14])) ?_ (LeG.k (LeG.k (LeG.k (LeG.k (LeG.f (LeG.f LeG.nil)))))))
    show ((told7 ++ [size14]) = (List.range (i1 + 1)).map (fun j => (TM.bord row_ (j + 1) : Int))) ∧ (size14 = (if (i1 + 1) = 0 then 0 else (TM.bord row_ (i1 + 1) : Int))) ∧ ((told7 ++ [size14]).length = (i1 + 1))
    refine ⟨?_, ?_, ?_⟩
    · rw [hI0_0, List.range_succ, List.map_append, h8j, hn1, Int.toNat_natCast]; rfl
    · rw [if_neg (by omega), h8j, hn1, Int.toNat_natCast]
    · rw [List.length_append, List.length_singleton, hI0_2]
  obtain ⟨size16, told17⟩ := s
  replace hI0 : (told17 = (List.range ((enu backs1)).length).map (fun j => (TM.bord row_ (j + 1) : Int))) ∧ (size16 = (if ((enu backs1)).length = 0 then 0 else (TM.bord row_ ((enu backs1)).length : Int))) ∧ (told17.length = ((enu backs1)).length) := hI0
  obtain ⟨hI0_0, hI0_1, hI0_2⟩ := hI0
  simp only [enu_len] at hI0_0 hI0_1 hI0_2
  show Go _ _ _ [.val .m (rSeq rInt) row_, .val .g (rList rInt) backs1, .own p3 .g rInt told17, .val .g rInt size16, .no, .no]
  refine q_frz (i := 2) (p := p3) rfl ?_
  refine q_ret ((ev_var (R := (rList rInt)) (a := told17) rfl)) hR (fun r18 hr18 => ?_)
  replace hr18 : r18 = told17 := hr18
  show r18 = TM.borders row_
  rw [hr18]
  rw [hI0_0]; unfold TM.borders; rw [show (backs1).length = (row_).length by rw [hbacks1]; exact TM.backs_len _]
abbrev s_borders_of : Stmt := topS 22
theorem sc_borders_of : FnScope ["row", "backs", "told", "size", "place", "far"] ["row"] (defScope s_borders_of) := ⟨rfl, rfl, rfl, by decide +kernel, rfl, by decide +kernel, by decide +kernel⟩
theorem ok_borders_of {P : Program} {w : PySem.World} {K : PySem.W.Frag} {mg : Str → Option Value} {base : Heap} {f : Addr} {fd : FuncData} (F : Fun K "borders_of" "borders_of" s_borders_of f fd) {f_backs_of : Addr} {d_backs_of : FuncData} (c_backs_of : Cal P w K mg base CX0 1 "backs_of" ["row"] sp_backs_of f_backs_of d_backs_of) {f_cut_back : Addr} {d_cut_back : FuncData} (c_cut_back : Cal P w K mg base CX0 1 "cut_back" ["far", "many"] sp_cut_back f_cut_back d_cut_back) (m_enumerate : mg "enumerate" = none) : FnOk P w K mg base CX0 2 f fd ["row"] sp_borders_of := by
  have sc := sc_borders_of
  refine F.ok sc (fun vs H Q E h => ?_) (fun cdv A outer s H vs Q E hr h => ?_)
  · obtain ⟨a_, ha_, _⟩ := h
    obtain ⟨v1, _, rfl, _ha1, rfl⟩ := ha_
    rfl
  · obtain ⟨⟨row_, _⟩, ⟨v1, _, rfl, ha1, rfl⟩, hp0, hR, hE⟩ := spF_open PIlaw (n := fun _ H' => Q .non H') h
    refine ⟨t_borders_of K E, ?_, go_borders_of (C := (Cn0 PIlaw H)) row_ hp0 hR _ (W0 H []) (world_of (bok0 (PI := PIlaw) H) ⟨⟨by decide, v1, rfl, (rSeq rInt).mono (mw0 (PI := PIlaw) H) ha1⟩, ⟨trivial, ⟨trivial, ⟨trivial, ⟨trivial, ⟨trivial, trivial⟩⟩⟩⟩⟩⟩ rfl)⟩
    unfold t_borders_of
    exact (pss_cons (ps_set (i := 1) sc.nd rfl (Or.inl rfl) (pe_call c_backs_of.ok (hr.mono (by decide)) (by rfl) c_backs_of.g c_backs_of.kp c_backs_of.b .nil pass0 (pa_cons (pv 0) pa_nil)))
(pss_cons (ps_set (i := 2) sc.nd rfl (Or.inl rfl) (pe_lst pa_nil))
(pss_cons (ps_set (i := 3) sc.nd rfl (Or.inl rfl) pe_int)
(pss_cons (ps_for PassesOwn.never rfl (pi_enum (by rfl) m_enumerate (pa_cons (pv 1) pa_nil)) (pg_tup rfl (pgs_cons (pg_name (i := 4) sc.nd rfl (Or.inl rfl)) (pgs_cons (pg_name (i := 5) sc.nd rfl (Or.inl rfl)) pgs_nil)))
(pss_cut (ps_if (pt_cmpR op_gt (pv 4) pe_int (nomark _)) (pss_cons (ps_while PassesOwn.never (pt_cmpR op_ne (pe_call c_cut_back.ok (hr.mono (by decide)) (by rfl) c_cut_back.g c_cut_back.kp c_cut_back.b .nil pass0 (pa_cons (pv 5) (pa_cons (pv 3) pa_nil))) (pe_ix ix_list (pv 1) (pv 3) (fun _ _ => rfl)) (nomark _))
(pss_cons (ps_set (i := 3) sc.nd rfl (Or.inl rfl) (pe_ix ix_list (pv 2) (pe_op op_sub (pv 3) pe_int) (fun _ _ => rfl)))
pss_nil))
(pss_cons (ps_set (i := 3) sc.nd rfl (Or.inl rfl) (pe_op op_add (pv 3) pe_int))
pss_nil)) pss_nil)
(pss_cons (ps_expr (pe_bm PySem.F.plainAttrs_list PySem.F.slot_list_append PySem.F.type_list_append mt_append (pv 2) (pa_cons (pv 3) pa_nil)))
pss_nil)))
(pss_cons (ps_ret (pv 2)) pss_nil)))))
def sp_steps_of : Sp := spF (aCons (rSeq rInt) aNil) (fun (a : (List Int) × Unit) => (a.1.length ≤ 1000)) (rList rInt) (fun (a : (List Int) × Unit) b => b = TM.steps a.1) (fun _ _ => False)
theorem call_steps_of {C : Cn} {Γ : List Ent} {E : XK} {t1 : TE} {a1 : (List Int)} (h1 : Ev C t1 Γ .h (rSeq rInt) a1) (hp0 : a1.length ≤ 1000) : EvX C (tCall (sp_steps_of) [] E (tCons t1 tNil)) Γ (ResF C (rList rInt) (fun b => b = TM.steps a1)) := ed_call1 h1 hp0 exc0 (fun _ z => z)
theorem callx_steps_of {C : Cn} {Γ : List Ent} {E : XK} {t1 : TE} {P1 : (List Int) → Prop} (h1 : EvP C t1 Γ .h (rSeq rInt) P1) (hp0 : ∀ a1, P1 a1 → (a1.length ≤ 1000)) : EvX C (tCall (sp_steps_of) [] E (tCons t1 tNil)) Γ (ResF C (rList rInt) (fun b => ∃ a1, P1 a1 ∧ (b = TM.steps a1))) := ex_call1 h1 (fun a1 _p1 => hp0 a1 _p1) exc0 (fun a1 _p1 => fun _ z => z)
def t_steps_of (K : PySem.W.Frag) (E : XK) : TS :=
(tSeq (tAsg (tCall sp_borders_of [] E0 (tCons (tVar 0) tNil)) (gName 1))
(tSeq (tAsg (tLst tNil) (gName 2))
(tSeq (tAsg (tCB (rLenS K) (tCons (tVar 0) tNil)) (gName 3))
(tSeq (tWhile (tTest (tOp (rI0 fun i j => .bl (decide (j < i))) (tVar 3) (tC (.int 0))))
(tSeq (tAsg (tOp (rIxK K .l) (tVar 1) (tOp (rI0 fun i j => .int (i - j)) (tVar 3) (tC (.int 1)))) (gName 3))
(tSeq (tDrop (tBM K "list" rAppend (tVar 2) (tCons (tOp (rI0 fun i j => .int (i - j)) (tCB (rLenS K) (tCons (tVar 0) tNil)) (tVar 3)) tNil)))
tNext)))
(tSeq (tRet (tVar 2)) tNext)))))
theorem go_steps_of {K : PySem.W.Frag} {C : Cn} {D : Ends} {E : XK} (row_ : (List Int)) (hp0 : row_.length ≤ 1000) (hR : RetOk C D (rList rInt) (fun b => b = TM.steps row_)) :
    Go C (t_steps_of K E) D [.val .m (rSeq rInt) row_, .no, .no, .no] := by
  unfold t_steps_of
  refine q_asg (i := 1) (ℓ := .g) ((ev_new (ℓ := .g) (en_call (ℓ := .g) fl_int (call_borders_of (((ev_var (R := (rSeq rInt)) (a := row_) rfl)).toh) (by first | omega | assumption | (simp; done) | (constructor <;> omega) | (simp; omega)))))) (fun told1 htold1 => ?_)
  replace htold1 : told1 = (TM.borders row_) := htold1
  refine q_asgN (i := 2) (ℓ := .g) (en_lstd (ℓ := .g) (R := rInt) em_nil) (fun p3 some2 hsome2 => ?_)
  subst hsome2
  refine q_asg (i := 3) (ℓ := .g) ((ev_len (es_seq (ev_var (R := (rSeq rInt)) (a := row_) rfl)))) (fun size4 hsize4 => ?_)
  replace hsize4 : size4 = ((row_).length : Int) := hsize4
  refine q_while (S := Int × (List Int)) (fun s => [.val .m (rSeq rInt) row_, .val .g (rList rInt) told1, .own p3 .g rInt s.2, .val .g rInt s.1]) (fun (s : Int × (List Int)) => (TM.SP row_ s.2 s.1) ∧ ((s.2.length : Int) + s.1 ≤ row_.length)) (fun (s : Int × (List Int)) => s.1.toNat) (fun (s : Int × (List Int)) => ((0 : Int) < s.1)) (size4, ([] : List Int)) (by
        show (TM.SP row_ ([] : List Int) size4) ∧ ((([] : List Int).length : Int) + size4 ≤ row_.length)
        rw [hsize4]; exact ⟨TM.sp_init row_, by simp⟩) (LeG.k (LeG.k (LeG.k (LeG.k LeG.nil)))) (fun s hI0 => ?_) (fun s hI0 hw => ?_) (fun s hI0 hw => ?_)
  · obtain ⟨size5, some6⟩ := s
    replace hI0 : (TM.SP row_ some6 size5) ∧ ((some6.length : Int) + size5 ≤ row_.length) := hI0
    obtain ⟨hI0_0, hI0_1⟩ := hI0
    exact (ec_tst (ev_gt (((ev_var (R := rInt) (a := size5) rfl)).toh) (ev_int)))
  · obtain ⟨size7, some8⟩ := s
    replace hI0 : (TM.SP row_ some8 size7) ∧ ((some8.length : Int) + size7 ≤ row_.length) := hI0
    obtain ⟨hI0_0, hI0_1⟩ := hI0
    replace hw : ((0 : Int) < size7) := hw
    show Go _ _ _ [.val .m (rSeq rInt) row_, .val .g (rList rInt) told1, .own p3 .g rInt some8, .val .g rInt size7]
    have hs0 := hI0_0.s0
    have hsn := hI0_0.sn
    have hbl := TM.borders_len row_
    obtain ⟨h1, h2⟩ := TM.sp_step hI0_0 hw
    have hgt := TM.gt_told (told := told1) (i := (row_).length) (s := size7) htold1 (by omega)
    refine q_asg (i := 3) (ℓ := .g) ((ev_ix (es_list (ev_var (R := (rList rInt)) (a := told1) rfl)) ((ev_sub (((ev_var (R := rInt) (a := size7) rfl)).toh) (ev_int))) (by rw [htold1, TM.borders_len]; omega))) (fun size9 hsize9 => ?_)
    replace hsize9 : size9 = (gt told1 (size7 - (1 : Int))) := hsize9
    refine q_app (i := 2) (p := p3) rfl ((ev_sub ((ev_len (es_seq (ev_var (R := (rSeq rInt)) (a := row_) rfl)))) (((ev_var (R := rInt) (a := size9) rfl)).toh))) (by first | omega | assumption | (simp; done) | (constructor <;> omega) | (simp; omega)) (fun e10 he10 => ?_)
    replace he10 : e10 = (((row_).length : Int) - size9) := he10
    rw [he10]; clear he10 e10
    refine q_next (hol_in (size9, (some8 ++ [(((row_).length : Int) - size9)])) ?_ (LeG.k (LeG.k (LeG.k (LeG.k LeG.nil)))))
    show ((TM.SP row_ (some8 ++ [(((row_).length : Int) - size9)]) size9) ∧ (((some8 ++ [(((row_).length : Int) - size9)]).length : Int) + size9 ≤ row_.length)) ∧ size9.toNat < size7.toNat
    rw [hsize9, hgt]; exact ⟨⟨h1, by rw [List.length_append, List.length_singleton]; omega⟩, by omega⟩
  obtain ⟨size11, some12⟩ := s
  replace hI0 : (TM.SP row_ some12 size11) ∧ ((some12.length : Int) + size11 ≤ row_.length) := hI0
  obtain ⟨hI0_0, hI0_1⟩ := hI0
  replace hw : ¬ ((0 : Int) < size11) := hw
  show Go _ _ _ [.val .m (rSeq rInt) row_, .val .g (rList rInt) told1, .own p3 .g rInt some12, .val .g rInt size11]
  refine q_frz (i := 2) (p := p3) rfl ?_
  refine q_ret ((ev_var (R := (rList rInt)) (a := some12) rfl)) hR (fun r13 hr13 => ?_)
  replace hr13 : r13 = some12 := hr13
  show r13 = TM.steps row_
  rw [hr13]
  exact TM.sp_end hI0_0 hw
abbrev s_steps_of : Stmt := topS 26
theorem sc_steps_of : FnScope ["row", "told", "some", "size"] ["row"] (defScope s_steps_of) := ⟨rfl, rfl, rfl, by decide +kernel, rfl, by decide +kernel, by decide +kernel⟩
theorem ok_steps_of {P : Program} {w : PySem.World} {K : PySem.W.Frag} {mg : Str → Option Value} {base : Heap} {f : Addr} {fd : FuncData} (F : Fun K "steps_of" "steps_of" s_steps_of f fd) {f_borders_of : Addr} {d_borders_of : FuncData} (c_borders_of : Cal P w K mg base CX0 2 "borders_of" ["row"] sp_borders_of f_borders_of d_borders_of) (m_len : mg "len" = none) : FnOk P w K mg base CX0 3 f fd ["row"] sp_steps_of := by
  have sc := sc_steps_of
  refine F.ok sc (fun vs H Q E h => ?_) (fun cdv A outer s H vs Q E hr h => ?_)
  · obtain ⟨a_, ha_, _⟩ := h
    obtain ⟨v1, _, rfl, _ha1, rfl⟩ := ha_
    rfl
  · obtain ⟨⟨row_, _⟩, ⟨v1, _, rfl, ha1, rfl⟩, hp0, hR, hE⟩ := spF_open PIlaw (n := fun _ H' => Q .non H') h
    refine ⟨t_steps_of K E, ?_, go_steps_of (C := (Cn0 PIlaw H)) row_ hp0 hR _ (W0 H []) (world_of (bok0 (PI := PIlaw) H) ⟨⟨by decide, v1, rfl, (rSeq rInt).mono (mw0 (PI := PIlaw) H) ha1⟩, ⟨trivial, ⟨trivial, ⟨trivial, trivial⟩⟩⟩⟩ rfl)⟩
    unfold t_steps_of
    exact (pss_cons (ps_set (i := 1) sc.nd rfl (Or.inl rfl) (pe_call c_borders_of.ok (hr.mono (by decide)) (by rfl) c_borders_of.g c_borders_of.kp c_borders_of.b .nil pass0 (pa_cons (pv 0) pa_nil)))
(pss_cons (ps_set (i := 2) sc.nd rfl (Or.inl rfl) (pe_lst pa_nil))
(pss_cons (ps_set (i := 3) sc.nd rfl (Or.inl rfl) (pe_callB call_len_seq (by rfl) m_len bt_len (pa_cons (pv 0) pa_nil)))
(pss_cons (ps_while PassesOwn.never (pt_cmpR op_gt (pv 3) pe_int (nomark _))
(pss_cons (ps_set (i := 3) sc.nd rfl (Or.inl rfl) (pe_ix ix_list (pv 1) (pe_op op_sub (pv 3) pe_int) (fun _ _ => rfl)))
(pss_cons (ps_expr (pe_bm PySem.F.plainAttrs_list PySem.F.slot_list_append PySem.F.type_list_append mt_append (pv 2) (pa_cons (pe_op op_sub (pe_callB call_len_seq (by rfl) m_len bt_len (pa_cons (pv 0) pa_nil)) (pv 3)) pa_nil)))
pss_nil)))
(pss_cons (ps_ret (pv 2)) pss_nil)))))
def sp_look_at_row (x_Empty : Addr) : Sp := spF (aCons (rSeq rInt) aNil) (fun (a : (List Int) × Unit) => True) rNone (fun (a : (List Int) × Unit) b => ¬ a.1 = []) (fun (a : (List Int) × Unit) c => (c = x_Empty ∧ a.1 = []))
theorem call_look_at_row {C : Cn} {Γ : List Ent} {E : XK} {x_Empty : Addr} {t1 : TE} {a1 : (List Int)} (h1 : Ev C t1 Γ .h (rSeq rInt) a1)  {Pe : Addr → Prop} (hE : ExcOk C E Pe) (he : ∀ c, ((c = x_Empty ∧ a1 = [])) → Pe c) : EvX C (tCall (sp_look_at_row x_Empty) [] E (tCons t1 tNil)) Γ (ResF C rNone (fun (b : Unit) => ¬ a1 = [])) := ed_call1 h1 trivial hE he
theorem callsn_look_at_row {C : Cn} {Γ : List Ent} {x_Empty : Addr} {t1 : TE} {a1 : (List Int)} (h1 : Ev C t1 Γ .h (rSeq rInt) a1)  {W0 : WX} {Pe : Addr → Prop} (hE : ExcOkG C W0 Γ Pe) (he : ∀ c, ((c = x_Empty ∧ a1 = [])) → Pe c) : EvX C (tCallS (sp_look_at_row x_Empty) (WE W0) (tCons t1 tNil)) Γ (ResF C rNone (fun (b : Unit) => ¬ a1 = [])) := esd_call1 h1 trivial hE he
theorem calls_look_at_row {C : Cn} {Γ : List Ent} {x_Empty : Addr} {t1 : TE} {a1 : (List Int)} (h1 : Ev C t1 Γ .h (rSeq rInt) a1)  {W0 : WX} {Pe : Addr → Prop} (hE : ExcOkG C W0 Γ Pe) (he : ∀ c, ((c = x_Empty ∧ a1 = [])) → Pe c) : EvX C (tCallS (sp_look_at_row x_Empty) (WE W0) (tCons t1 tNil)) Γ (ResF C rNone (fun (b : Unit) => ¬ a1 = [])) := EvX.imp (esd_call1 h1 trivial hE he) (fun _ h => h)
theorem callsx_look_at_row {C : Cn} {Γ : List Ent} {x_Empty : Addr} {t1 : TE} {P1 : (List Int) → Prop} (h1 : EvP C t1 Γ .h (rSeq rInt) P1)  {W0 : WX} {Pe : Addr → Prop} (hE : ExcOkG C W0 Γ Pe) (he : ∀ a1, P1 a1 → ∀ c, ((c = x_Empty ∧ a1 = [])) → Pe c) : EvX C (tCallS (sp_look_at_row x_Empty) (WE W0) (tCons t1 tNil)) Γ (ResF C rNone (fun (b : Unit) => ∃ a1, P1 a1 ∧ (¬ a1 = []))) := es_call1 h1 (fun a1 _p1 => trivial) hE he
theorem callx_look_at_row {C : Cn} {Γ : List Ent} {E : XK} {x_Empty : Addr} {t1 : TE} {P1 : (List Int) → Prop} (h1 : EvP C t1 Γ .h (rSeq rInt) P1)  {Pe : Addr → Prop} (hE : ExcOk C E Pe) (he : ∀ a1, P1 a1 → ∀ c, ((c = x_Empty ∧ a1 = [])) → Pe c) : EvX C (tCall (sp_look_at_row x_Empty) [] E (tCons t1 tNil)) Γ (ResF C rNone (fun (b : Unit) => ∃ a1, P1 a1 ∧ (¬ a1 = []))) := ex_call1 h1 (fun a1 _p1 => trivial) hE he
def t_look_at_row (K : PySem.W.Frag) (E : XK) (x_Empty : Addr) : TS :=
(tSeq (tIfS (tTest (tOp rEq (tCB (rLenS K) (tCons (tVar 0) tNil)) (tC (.int 0)))) (tSeq (fun _ _ H => E (.ref x_Empty) none H) tNext) tNext)
tNext)
theorem go_look_at_row {K : PySem.W.Frag} {C : Cn} {D : Ends} {E : XK} (x_Empty : Addr) (row_ : (List Int))  (hR : RetOk C D rNone (fun (b : Unit) => ¬ row_ = [])) (hE : ExcOk C E (fun c => (c = x_Empty ∧ row_ = []))) (hN : ∀ H, D.rt .non H → ∀ σ, D.nx σ H) :
    Go C (t_look_at_row K E x_Empty) D [.val .m (rSeq rInt) row_] := by
  unfold t_look_at_row
  refine q_ifT (ec_tst (ev_eqI ((ev_len (es_seq (ev_var (R := (rSeq rInt)) (a := row_) rfl)))) (ev_int))) (fun h1 => ?_) (fun h1 => ?_)
  · refine q_raise hE ?_
    exact ⟨rfl, List.eq_nil_of_length_eq_zero (by omega)⟩
  refine q_retE hR hN ?_
  show ¬ row_ = []
  intro z; simp_all
abbrev s_look_at_row : Stmt := topS 23
theorem sc_look_at_row : FnScope ["row"] ["row"] (defScope s_look_at_row) := ⟨rfl, rfl, rfl, by decide +kernel, rfl, by decide +kernel, by decide +kernel⟩
theorem ok_look_at_row {P : Program} {w : PySem.World} {K : PySem.W.Frag} {mg : Str → Option Value} {base : Heap} {x_Empty : Addr} {f : Addr} {fd : FuncData} (F : Fun K "look_at_row" "look_at_row" s_look_at_row f fd) (m_len : mg "len" = none) (z_Empty : ExcT K mg x_Empty "Empty") : FnOk P w K mg base (L2.CX P w) 1 f fd ["row"] (sp_look_at_row x_Empty) := by
  have sc := sc_look_at_row
  refine F.okX sc (fun vs H Q E h => ?_) (fun cdv A outer s H vs Q E hr h => ?_)
  · obtain ⟨a_, ha_, _⟩ := h
    obtain ⟨v1, _, rfl, _ha1, rfl⟩ := ha_
    rfl
  · obtain ⟨⟨row_, _⟩, ⟨v1, _, rfl, ha1, rfl⟩, _, hR, hE⟩ := spF_open PIlaw (n := fun _ H' => Q .non H') h
    refine ⟨t_look_at_row K E x_Empty, ?_, go_look_at_row (C := (Cn0 PIlaw H)) x_Empty row_ hR hE (fun _ h _ => h) _ (W0 H []) (world_of (bok0 (PI := PIlaw) H) ⟨⟨by decide, v1, rfl, (rSeq rInt).mono (mw0 (PI := PIlaw) H) ha1⟩, trivial⟩ rfl)⟩
    unfold t_look_at_row
    exact (pss_cons (ps_if (pt_cmpR op_eq (pe_callB call_len_seq (by rfl) m_len bt_len (pa_cons (pv 0) pa_nil)) pe_int (nomark _)) (pss_cons (ps_raise rfl (takes_of rfl rfl rfl rfl) (pmk_own PySem.F.excBase_ValueError z_Empty.x z_Empty.g z_Empty.k (raises_own z_Empty.b z_Empty.t) (by exact rfl))) pss_nil) pss_nil)
pss_nil)
def sp_starts_of (x_Empty : Addr) : Sp := spF (aCons (rSeq rInt) (aCons (rSeq rInt) aNil)) (fun (a : (List Int) × (List Int) × Unit) => (a.1.length ≤ 1000 ∧ a.2.1.length ≤ 1000)) (rList rInt) (fun (a : (List Int) × (List Int) × Unit) b => b = TM.starts a.1 a.2.1 ∧ ¬ a.1 = []) (fun (a : (List Int) × (List Int) × Unit) c => (c = x_Empty ∧ a.1 = []))
theorem call_starts_of {C : Cn} {Γ : List Ent} {E : XK} {x_Empty : Addr} {t1 : TE} {t2 : TE} {a1 : (List Int)} {a2 : (List Int)} (h1 : Ev C t1 Γ .h (rSeq rInt) a1) (h2 : Ev C t2 Γ .h (rSeq rInt) a2) (hp0 : a1.length ≤ 1000 ∧ a2.length ≤ 1000) {Pe : Addr → Prop} (hE : ExcOk C E Pe) (he : ∀ c, ((c = x_Empty ∧ a1 = [])) → Pe c) : EvX C (tCall (sp_starts_of x_Empty) [] E (tCons t1 (tCons t2 tNil))) Γ (ResF C (rList rInt) (fun b => b = TM.starts a1 a2)) := EvX.imp (ed_call2 h1 h2 hp0 hE he) (fun _ h => h.1)
theorem calln_starts_of {C : Cn} {Γ : List Ent} {E : XK} {x_Empty : Addr} {t1 : TE} {t2 : TE} {a1 : (List Int)} {a2 : (List Int)} (h1 : Ev C t1 Γ .h (rSeq rInt) a1) (h2 : Ev C t2 Γ .h (rSeq rInt) a2) (hp0 : a1.length ≤ 1000 ∧ a2.length ≤ 1000) {Pe : Addr → Prop} (hE : ExcOk C E Pe) (he : ∀ c, ((c = x_Empty ∧ a1 = [])) → Pe c) : EvX C (tCall (sp_starts_of x_Empty) [] E (tCons t1 (tCons t2 tNil))) Γ (ResF C (rList rInt) (fun b => b = TM.starts a1 a2 ∧ ¬ a1 = [])) := ed_call2 h1 h2 hp0 hE he
theorem callsn_starts_of {C : Cn} {Γ : List Ent} {x_Empty : Addr} {t1 : TE} {t2 : TE} {a1 : (List Int)} {a2 : (List Int)} (h1 : Ev C t1 Γ .h (rSeq rInt) a1) (h2 : Ev C t2 Γ .h (rSeq rInt) a2) (hp0 : a1.length ≤ 1000 ∧ a2.length ≤ 1000) {W0 : WX} {Pe : Addr → Prop} (hE : ExcOkG C W0 Γ Pe) (he : ∀ c, ((c = x_Empty ∧ a1 = [])) → Pe c) : EvX C (tCallS (sp_starts_of x_Empty) (WE W0) (tCons t1 (tCons t2 tNil))) Γ (ResF C (rList rInt) (fun b => b = TM.starts a1 a2 ∧ ¬ a1 = [])) := esd_call2 h1 h2 hp0 hE he
theorem calls_starts_of {C : Cn} {Γ : List Ent} {x_Empty : Addr} {t1 : TE} {t2 : TE} {a1 : (List Int)} {a2 : (List Int)} (h1 : Ev C t1 Γ .h (rSeq rInt) a1) (h2 : Ev C t2 Γ .h (rSeq rInt) a2) (hp0 : a1.length ≤ 1000 ∧ a2.length ≤ 1000) {W0 : WX} {Pe : Addr → Prop} (hE : ExcOkG C W0 Γ Pe) (he : ∀ c, ((c = x_Empty ∧ a1 = [])) → Pe c) : EvX C (tCallS (sp_starts_of x_Empty) (WE W0) (tCons t1 (tCons t2 tNil))) Γ (ResF C (rList rInt) (fun b => b = TM.starts a1 a2)) := EvX.imp (esd_call2 h1 h2 hp0 hE he) (fun _ h => h.1)
-- no callx
def t_starts_of (K : PySem.W.Frag) (E : XK) (x_Empty : Addr) : TS :=
(tSeq (tDrop (tCall (sp_look_at_row x_Empty) [] E (tCons (tVar 0) tNil)))
(tSeq (tAsg (tCall sp_backs_of [] E0 (tCons (tVar 0) tNil)) (gName 2))
(tSeq (tAsg (tCall sp_borders_of [] E0 (tCons (tVar 0) tNil)) (gName 3))
(tSeq (tAsg (tLst tNil) (gName 4))
(tSeq (tAsg (tC (.int 0)) (gName 5))
(tSeq (tFor (iEnum K (tCons (tCall sp_backs_of [] E0 (tCons (tVar 1) tNil)) tNil)) (gTup K 2 (gCons (gName 6) (gCons (gName 7) gNil)))
(tCut (tIfS (tTest (tOp rEq (tVar 5) (tCB (rLenS K) (tCons (tVar 0) tNil)))) (tSeq (tAsg (tOp (rIxK K .l) (tVar 3) (tOp (rI0 fun i j => .int (i - j)) (tVar 5) (tC (.int 1)))) (gName 5))
tNext) tNext)
(tSeq (tWhile (tTest (tOp rNe (tCall sp_cut_back [] E0 (tCons (tVar 7) (tCons (tVar 5) tNil))) (tOp (rIxK K .l) (tVar 2) (tVar 5))))
(tSeq (tAsg (tOp (rIxK K .l) (tVar 3) (tOp (rI0 fun i j => .int (i - j)) (tVar 5) (tC (.int 1)))) (gName 5))
tNext))
(tSeq (tAsg (tOp (rI0 fun i j => .int (i + j)) (tVar 5) (tC (.int 1))) (gName 5))
(tSeq (tIfS (tTest (tOp rEq (tVar 5) (tCB (rLenS K) (tCons (tVar 0) tNil)))) (tSeq (tDrop (tBM K "list" rAppend (tVar 4) (tCons (tOp (rI0 fun i j => .int (i - j)) (tOp (rI0 fun i j => .int (i + j)) (tVar 6) (tC (.int 1))) (tVar 5)) tNil)))
tNext) tNext)
tNext)))))
(tSeq (tRet (tVar 4)) tNext)))))))
theorem go_starts_of {K : PySem.W.Frag} {C : Cn} {D : Ends} {E : XK} (x_Empty : Addr) (row_ : (List Int)) (text_ : (List Int)) (hp0 : row_.length ≤ 1000 ∧ text_.length ≤ 1000) (hR : RetOk C D (rList rInt) (fun b => b = TM.starts row_ text_ ∧ ¬ row_ = [])) (hE : ExcOk C E (fun c => (c = x_Empty ∧ row_ = []))) :
    Go C (t_starts_of K E x_Empty) D [.val .m (rSeq rInt) row_, .val .m (rSeq rInt) text_, .no, .no, .no, .no, .no, .no] := by
  unfold t_starts_of
  refine q_drop (ev_call (call_look_at_row (((ev_var (R := (rSeq rInt)) (a := row_) rfl)).toh)  hE (by intro c hc; exact hc))) (fun _ hk1 => ?_)
  replace hk1 : ¬ row_ = [] := hk1
  have hrp : 0 < (row_).length := List.length_pos_iff.mpr (by assumption)
  refine q_asg (i := 2) (ℓ := .g) ((ev_new (ℓ := .g) (en_call (ℓ := .g) fl_int (call_backs_of (((ev_var (R := (rSeq rInt)) (a := row_) rfl)).toh) (by first | omega | assumption | (simp; done) | (constructor <;> omega) | (simp; omega)))))) (fun backs2 hbacks2 => ?_)
  replace hbacks2 : backs2 = (TM.backs row_) := hbacks2
  refine q_asg (i := 3) (ℓ := .g) ((ev_new (ℓ := .g) (en_call (ℓ := .g) fl_int (call_borders_of (((ev_var (R := (rSeq rInt)) (a := row_) rfl)).toh) (by first | omega | assumption | (simp; done) | (constructor <;> omega) | (simp; omega)))))) (fun told3 htold3 => ?_)
  replace htold3 : told3 = (TM.borders row_) := htold3
  refine q_asgN (i := 4) (ℓ := .g) (en_lstd (ℓ := .g) (R := rInt) em_nil) (fun p5 starts4 hstarts4 => ?_)
  subst hstarts4
  refine q_asg (i := 5) (ℓ := .g) (ev_int) (fun size6 hsize6 => ?_)
  replace hsize6 : size6 = (0 : Int) := hsize6
  refine q_forD2 (i := 6) (j := 7) (σS := Int × (List Int)) (fun s => [.val .m (rSeq rInt) row_, .val .m (rSeq rInt) text_, .val .g (rList rInt) backs2, .val .g (rList rInt) told3, .own p5 .g rInt s.2, .val .g rInt s.1, .no, .no]) (fun (i : Nat) (s : Int × (List Int)) => (TM.SI row_ text_ i s.1) ∧ (s.2 = TM.stB row_ text_ i) ∧ (s.2.length ≤ i)) (size6, ([] : List Int)) (ei_enumd (b := true) (hc := (by intro _; decide)) (hl := (by intro _; decide)) (es_list (ev_new (ℓ := .g) (en_call (ℓ := .g) fl_int (call_backs_of (((ev_var (R := (rSeq rInt)) (a := text_) rfl)).toh) (by first | omega | assumption | (simp; done) | (constructor <;> omega) | (simp; omega))))))) (by
        show (TM.SI row_ text_ 0 size6) ∧ (([] : List Int) = TM.stB row_ text_ 0) ∧ (([] : List Int).length ≤ 0)
        rw [hsize6]; exact ⟨TM.si_init _ _, (TM.st_init _ hrp).symm, Nat.le_refl _⟩) (LeG.k (LeG.k (LeG.k (LeG.k (LeG.k (LeG.k (LeG.f (LeG.f LeG.nil)))))))) (fun C1 hc1 i1 x7 s hx7 hI0 => ?_) (fun s hI0 => ?_)
  · obtain ⟨size8, starts9⟩ := s
    replace hI0 : (TM.SI row_ text_ i1 size8) ∧ (starts9 = TM.stB row_ text_ i1) ∧ (starts9.length ≤ i1) := hI0
    obtain ⟨hI0_0, hI0_1, hI0_2⟩ := hI0
    have hR := hR.ex hc1
    have hE := hE.ex hc1
    have hx7l := at_lt hx7
    have hx7r := enu_at hx7
    rw [enu_len] at hx7l
    obtain ⟨hn1, hn2, hn3⟩ := TM.enu_num hx7
    rw [TM.backs_len] at hn2
    have htl2 : (told3).length = (row_).length := by rw [htold3]; exact TM.borders_len _
    have hbl : (backs2).length = (row_).length := by rw [hbacks2]; exact TM.backs_len _
    have hgb : ∀ s : Int, 0 ≤ s → s < (row_).length → gt backs2 s = TM.bk row_ s.toNat := fun s a b => by rw [hbacks2]; exact TM.gt_backs ⟨a, b⟩
    have hfar : x7.2 = TM.bk text_ i1 := by rw [hn3, TM.gt_backs (by omega), hn1, Int.toNat_natCast]
    have hi0 := hI0_0.s0
    have hin := hI0_0.sn
    refine q_cut (S := Int) (fun s => [.val .m (rSeq rInt) row_, .val .m (rSeq rInt) text_, .val .g (rList rInt) backs2, .val .g (rList rInt) told3, .own p5 .g rInt starts9, .val .g rInt s, .val .g rInt x7.1, .val .g rInt x7.2]) (fun s => (TM.TS2 row_ text_ i1 s)) (c_ifC (ec_tst (ev_eqI (((ev_var (R := rInt) (a := size8) rfl)).toh) ((ev_len (es_seq (ev_var (R := (rSeq rInt)) (a := row_) rfl)))))) (fun h10 => ?_) (fun h10 => ?_)) (fun s h10j => ?_)
    · refine q_asg (i := 5) (ℓ := .g) ((ev_ix (es_list (ev_var (R := (rList rInt)) (a := told3) rfl)) ((ev_sub (((ev_var (R := rInt) (a := size8) rfl)).toh) (ev_int))) (by omega))) (fun size11 hsize11 => ?_)
      replace hsize11 : size11 = (gt told3 (size8 - (1 : Int))) := hsize11
      refine q_next (hol_in size11 ?_ (LeG.k (LeG.k (LeG.k (LeG.k (LeG.k (LeG.k (LeG.k (LeG.k LeG.nil)))))))))
      show (TM.TS2 row_ text_ i1 size11)
      first | exact TM.si_same hI0_0 (by assumption) | (rw [TM.gt_told (told := told3) (i := (row_).length) htold3 (by omega)]; exact TM.si_full hI0_0 hrp (by assumption)) | (rw [hsize11, TM.gt_told (told := told3) (i := (row_).length) htold3 (by omega)]; exact TM.si_full hI0_0 hrp (by assumption))
    · refine q_next (hol_in size8 ?_ (LeG.k (LeG.k (LeG.k (LeG.k (LeG.k (LeG.k (LeG.k (LeG.k LeG.nil)))))))))
      show (TM.TS2 row_ text_ i1 size8)
      first | exact TM.si_same hI0_0 (by assumption) | (rw [TM.gt_told (told := told3) (i := (row_).length) htold3 (by omega)]; exact TM.si_full hI0_0 hrp (by assumption)) | (rw [hsize8, TM.gt_told (told := told3) (i := (row_).length) htold3 (by omega)]; exact TM.si_full hI0_0 hrp (by assumption))
    revert s h10j; intro size12 h10j
    replace h10j : (TM.TS2 row_ text_ i1 size12) := h10j
    refine q_while (S := Int) (fun s => [.val .m (rSeq rInt) row_, .val .m (rSeq rInt) text_, .val .g (rList rInt) backs2, .val .g (rList rInt) told3, .own p5 .g rInt starts9, .val .g rInt s, .val .g rInt x7.1, .val .g rInt x7.2]) (fun (s : Int) => (TM.TS2 row_ text_ i1 s)) (fun (s : Int) => s.toNat) (fun (s : Int) => (¬ (TM.cutb x7.2 s) = (gt backs2 s))) size12 (by
          show (TM.TS2 row_ text_ i1 size12)
          all_goals (first | omega | assumption | (simp; done) | (constructor <;> omega) | (simp; omega))) (LeG.k (LeG.k (LeG.k (LeG.k (LeG.k (LeG.k (LeG.k (LeG.k LeG.nil)))))))) (fun s hI1 => ?_) (fun s hI1 hw => ?_) (fun s hI1 hw => ?_)
    · revert s hI1; intro size13 hI1
      replace hI1 : (TM.TS2 row_ text_ i1 size13) := hI1
      exact (ec_tstN (ev_neI (((ev_call (call_cut_back (((ev_var (R := rInt) (a := x7.2) rfl)).toh) (((ev_var (R := rInt) (a := size13) rfl)).toh) ))).toh) (((ev_ix (es_list (ev_var (R := (rList rInt)) (a := backs2) rfl)) (((ev_var (R := rInt) (a := size13) rfl)).toh) (by have := hI1.s0; have := hI1.sn; omega))).toh)))
    · revert s hI1 hw; intro size14 hI1 hw
      replace hI1 : (TM.TS2 row_ text_ i1 size14) := hI1
      replace hw : (¬ (TM.cutb x7.2 size14) = (gt backs2 size14)) := hw
      show Go _ _ _ [.val .m (rSeq rInt) row_, .val .m (rSeq rInt) text_, .val .g (rList rInt) backs2, .val .g (rList rInt) told3, .own p5 .g rInt starts9, .val .g rInt size14, .val .g rInt x7.1, .val .g rInt x7.2]
      have hsn := hI1.s0
      have hsi := hI1.sn
      have hne : ¬ TM.cutb x7.2 size14 = TM.bk row_ (size14).toNat := by rw [← hgb _ hsn (by omega)]; exact hw
      have hsp := TM.ts_pos hI1 hfar hne
      have hgt := TM.gt_told (told := told3) (i := (row_).length) (s := size14) htold3 (by omega)
      refine q_asg (i := 5) (ℓ := .g) ((ev_ix (es_list (ev_var (R := (rList rInt)) (a := told3) rfl)) ((ev_sub (((ev_var (R := rInt) (a := size14) rfl)).toh) (ev_int))) (by omega))) (fun size15 hsize15 => ?_)
      replace hsize15 : size15 = (gt told3 (size14 - (1 : Int))) := hsize15
      refine q_next (hol_in size15 ?_ (LeG.k (LeG.k (LeG.k (LeG.k (LeG.k (LeG.k (LeG.k (LeG.k LeG.nil)))))))))
      show ((TM.TS2 row_ text_ i1 size15)) ∧ size15.toNat < size14.toNat
      obtain ⟨h1, h2⟩ := TM.ts_step hI1 hfar hne
      rw [hsize15, hgt]; exact ⟨h1, by omega⟩
    revert s hI1 hw; intro size16 hI1 hw
    replace hI1 : (TM.TS2 row_ text_ i1 size16) := hI1
    replace hw : ¬ (¬ (TM.cutb x7.2 size16) = (gt backs2 size16)) := hw
    show Go _ _ _ [.val .m (rSeq rInt) row_, .val .m (rSeq rInt) text_, .val .g (rList rInt) backs2, .val .g (rList rInt) told3, .own p5 .g rInt starts9, .val .g rInt size16, .val .g rInt x7.1, .val .g rInt x7.2]
    have hsn := hI1.s0
    have hsi := hI1.sn
    have hS := TM.ts_end hI1 hfar (by rw [← hgb _ hsn (by omega)]; exact Classical.not_not.mp hw)
    have hst := TM.st_step hn2 hrp hS
    refine q_asg (i := 5) (ℓ := .g) ((ev_add (((ev_var (R := rInt) (a := size16) rfl)).toh) (ev_int))) (fun size17 hsize17 => ?_)
    replace hsize17 : size17 = (size16 + (1 : Int)) := hsize17
    refine q_ifC (ec_tst (ev_eqI (((ev_var (R := rInt) (a := size17) rfl)).toh) ((ev_len (es_seq (ev_var (R := (rSeq rInt)) (a := row_) rfl)))))) (fun h18 => ?_) (fun h18 => ?_)
    · refine q_app (i := 4) (p := p5) rfl ((ev_sub ((ev_add (((ev_var (R := rInt) (a := x7.1) rfl)).toh) (ev_int))) (((ev_var (R := rInt) (a := size17) rfl)).toh))) (by first | omega | assumption | (simp; done) | (constructor <;> omega) | (simp; omega)) (fun e19 he19 => ?_)
      replace he19 : e19 = ((x7.1 + (1 : Int)) - size17) := he19
      rw [he19]; clear he19 e19
      refine q_next (?_ : Go _ tNext _ _)
      refine q_next (hol_in (size17, (starts9 ++ [((x7.1 + (1 : Int)) - size17)])) ?_ (LeG.k (LeG.k (LeG.k (LeG.k (LeG.k (LeG.k (LeG.f (LeG.f LeG.nil)))))))))
      show (TM.SI row_ text_ (i1 + 1) size17) ∧ ((starts9 ++ [((x7.1 + (1 : Int)) - size17)]) = TM.stB row_ text_ (i1 + 1)) ∧ ((starts9 ++ [((x7.1 + (1 : Int)) - size17)]).length ≤ (i1 + 1))
      rw [hsize17]
      first | exact ⟨hS, by rw [hI0_1, hst.2 (by omega)], by omega⟩ | (refine ⟨hS, ?_, by rw [List.length_append, List.length_singleton]; omega⟩; rw [hI0_1, hst.1 (by omega), hn1])
    · refine q_next (?_ : Go _ tNext _ _)
      refine q_next (hol_in (size17, starts9) ?_ (LeG.k (LeG.k (LeG.k (LeG.k (LeG.k (LeG.k (LeG.f (LeG.f LeG.nil)))))))))
      show (TM.SI row_ text_ (i1 + 1) size17) ∧ (starts9 = TM.stB row_ text_ (i1 + 1)) ∧ (starts9.length ≤ (i1 + 1))
      rw [hsize17]
      first | exact ⟨hS, by rw [hI0_1, hst.2 (by omega)], by omega⟩ | (refine ⟨hS, ?_, by rw [List.length_append, List.length_singleton]; omega⟩; rw [hI0_1, hst.1 (by omega), hn1])
  obtain ⟨size20, starts21⟩ := s
  replace hI0 : (TM.SI row_ text_ ((enu (TM.backs text_))).length size20) ∧ (starts21 = TM.stB row_ text_ ((enu (TM.backs text_))).length) ∧ (starts21.length ≤ ((enu (TM.backs text_))).length) := hI0
  obtain ⟨hI0_0, hI0_1, hI0_2⟩ := hI0
  simp only [enu_len] at hI0_0 hI0_1 hI0_2
  show Go _ _ _ [.val .m (rSeq rInt) row_, .val .m (rSeq rInt) text_, .val .g (rList rInt) backs2, .val .g (rList rInt) told3, .own p5 .g rInt starts21, .val .g rInt size20, .no, .no]
  refine q_frz (i := 4) (p := p5) rfl ?_
  refine q_ret ((ev_var (R := (rList rInt)) (a := starts21) rfl)) hR (fun r22 hr22 => ?_)
  replace hr22 : r22 = starts21 := hr22
  show r22 = TM.starts row_ text_ ∧ ¬ row_ = []
  rw [hr22]
  rw [TM.backs_len] at hI0_1; exact ⟨hI0_1, by assumption⟩
abbrev s_starts_of : Stmt := topS 24
theorem sc_starts_of : FnScope ["row", "text", "backs", "told", "starts", "size", "place", "far"] ["row", "text"] (defScope s_starts_of) := ⟨rfl, rfl, rfl, by decide +kernel, rfl, by decide +kernel, by decide +kernel⟩
theorem ok_starts_of {P : Program} {w : PySem.World} {K : PySem.W.Frag} {mg : Str → Option Value} {base : Heap} {x_Empty : Addr} {f : Addr} {fd : FuncData} (F : Fun K "starts_of" "starts_of" s_starts_of f fd) {f_look_at_row : Addr} {d_look_at_row : FuncData} (c_look_at_row : Cal P w K mg base (L2.CX P w) 1 "look_at_row" ["row"] (sp_look_at_row x_Empty) f_look_at_row d_look_at_row) {f_backs_of : Addr} {d_backs_of : FuncData} (c_backs_of : Cal P w K mg base CX0 1 "backs_of" ["row"] sp_backs_of f_backs_of d_backs_of) {f_borders_of : Addr} {d_borders_of : FuncData} (c_borders_of : Cal P w K mg base CX0 2 "borders_of" ["row"] sp_borders_of f_borders_of d_borders_of) {f_cut_back : Addr} {d_cut_back : FuncData} (c_cut_back : Cal P w K mg base CX0 1 "cut_back" ["far", "many"] sp_cut_back f_cut_back d_cut_back) (m_enumerate : mg "enumerate" = none) (m_len : mg "len" = none) : FnOk P w K mg base (L2.CX P w) 3 f fd ["row", "text"] (sp_starts_of x_Empty) := by
  have sc := sc_starts_of
  refine F.okX sc (fun vs H Q E h => ?_) (fun cdv A outer s H vs Q E hr h => ?_)
  · obtain ⟨a_, ha_, _⟩ := h
    obtain ⟨v1, _, rfl, _ha1, ⟨v2, _, rfl, _ha2, rfl⟩⟩ := ha_
    rfl
  · obtain ⟨⟨row_, text_, _⟩, ⟨v1, _, rfl, ha1, ⟨v2, _, rfl, ha2, rfl⟩⟩, hp0, hR, hE⟩ := spF_open PIlaw (n := fun _ H' => Q .non H') h
    refine ⟨t_starts_of K E x_Empty, ?_, go_starts_of (C := (Cn0 PIlaw H)) x_Empty row_ text_ hp0 hR hE _ (W0 H []) (world_of (bok0 (PI := PIlaw) H) ⟨⟨by decide, v1, rfl, (rSeq rInt).mono (mw0 (PI := PIlaw) H) ha1⟩, ⟨⟨by decide, v2, rfl, (rSeq rInt).mono (mw0 (PI := PIlaw) H) ha2⟩, ⟨trivial, ⟨trivial, ⟨trivial, ⟨trivial, ⟨trivial, ⟨trivial, trivial⟩⟩⟩⟩⟩⟩⟩⟩ rfl)⟩
    unfold t_starts_of
    exact (pss_cons (ps_expr (pe_call c_look_at_row.ok (hr.mono (by decide)) (by rfl) c_look_at_row.g c_look_at_row.kp c_look_at_row.b .nil (passes_call (takes_of rfl rfl rfl rfl) (fun _ _ _ _ z => z)) (pa_cons (pv 0) pa_nil)))
(pss_cons (ps_set (i := 2) sc.nd rfl (Or.inl rfl) (pe_call c_backs_of.ok (hr.mono (by decide)) (by rfl) c_backs_of.g c_backs_of.kp c_backs_of.b .nil pass0 (pa_cons (pv 0) pa_nil)))
(pss_cons (ps_set (i := 3) sc.nd rfl (Or.inl rfl) (pe_call c_borders_of.ok (hr.mono (by decide)) (by rfl) c_borders_of.g c_borders_of.kp c_borders_of.b .nil pass0 (pa_cons (pv 0) pa_nil)))
(pss_cons (ps_set (i := 4) sc.nd rfl (Or.inl rfl) (pe_lst pa_nil))
(pss_cons (ps_set (i := 5) sc.nd rfl (Or.inl rfl) pe_int)
(pss_cons (ps_for PassesOwn.leaving rfl (pi_enum (by rfl) m_enumerate (pa_cons (pe_call c_backs_of.ok (hr.mono (by decide)) (by rfl) c_backs_of.g c_backs_of.kp c_backs_of.b .nil pass0 (pa_cons (pv 1) pa_nil)) pa_nil)) (pg_tup rfl (pgs_cons (pg_name (i := 6) sc.nd rfl (Or.inl rfl)) (pgs_cons (pg_name (i := 7) sc.nd rfl (Or.inl rfl)) pgs_nil)))
(pss_cut (ps_if (pt_cmpR op_eq (pv 5) (pe_callB call_len_seq (by rfl) m_len bt_len (pa_cons (pv 0) pa_nil)) (nomark _)) (pss_cons (ps_set (i := 5) sc.nd rfl (Or.inl rfl) (pe_ix ix_list (pv 3) (pe_op op_sub (pv 5) pe_int) (fun _ _ => rfl)))
pss_nil) pss_nil)
(pss_cons (ps_while PassesOwn.leaving (pt_cmpR op_ne (pe_call c_cut_back.ok (hr.mono (by decide)) (by rfl) c_cut_back.g c_cut_back.kp c_cut_back.b .nil pass0 (pa_cons (pv 7) (pa_cons (pv 5) pa_nil))) (pe_ix ix_list (pv 2) (pv 5) (fun _ _ => rfl)) (nomark _))
(pss_cons (ps_set (i := 5) sc.nd rfl (Or.inl rfl) (pe_ix ix_list (pv 3) (pe_op op_sub (pv 5) pe_int) (fun _ _ => rfl)))
pss_nil))
(pss_cons (ps_set (i := 5) sc.nd rfl (Or.inl rfl) (pe_op op_add (pv 5) pe_int))
(pss_cons (ps_if (pt_cmpR op_eq (pv 5) (pe_callB call_len_seq (by rfl) m_len bt_len (pa_cons (pv 0) pa_nil)) (nomark _)) (pss_cons (ps_expr (pe_bm PySem.F.plainAttrs_list PySem.F.slot_list_append PySem.F.type_list_append mt_append (pv 4) (pa_cons (pe_op op_sub (pe_op op_add (pv 6) pe_int) (pv 5)) pa_nil)))
pss_nil) pss_nil)
pss_nil)))))
(pss_cons (ps_ret (pv 4)) pss_nil)))))))
def sp_longer_lows : Sp := spF (aCons (rSeq rInt) (aCons (rList rInt) (aCons rInt aNil))) (fun (a : (List Int) × (List Int) × Int × Unit) => (2 ≤ a.2.2.1 ∧ a.2.2.1 ≤ a.1.length ∧ a.1.length ≤ 1000) ∧ (a.2.1 = TM.lowsOf a.1 (a.2.2.1 - 1))) (rList rInt) (fun (a : (List Int) × (List Int) × Int × Unit) b => b = TM.lowsOf a.1 a.2.2.1) (fun _ _ => False)
theorem call_longer_lows {C : Cn} {Γ : List Ent} {E : XK} {t1 : TE} {t2 : TE} {t3 : TE} {a1 : (List Int)} {a2 : (List Int)} {a3 : Int} (h1 : Ev C t1 Γ .h (rSeq rInt) a1) (h2 : Ev C t2 Γ .h (rList rInt) a2) (h3 : Ev C t3 Γ .h rInt a3) (hp0 : 2 ≤ a3 ∧ a3 ≤ a1.length ∧ a1.length ≤ 1000) (hp1 : a2 = TM.lowsOf a1 (a3 - 1)) : EvX C (tCall (sp_longer_lows) [] E (tCons t1 (tCons t2 (tCons t3 tNil)))) Γ (ResF C (rList rInt) (fun b => b = TM.lowsOf a1 a3)) := ed_call3 h1 h2 h3 ⟨hp0, hp1⟩ exc0 (fun _ z => z)
theorem callx_longer_lows {C : Cn} {Γ : List Ent} {E : XK} {t1 : TE} {t2 : TE} {t3 : TE} {P1 : (List Int) → Prop} {P2 : (List Int) → Prop} {P3 : Int → Prop} (h1 : EvP C t1 Γ .h (rSeq rInt) P1) (h2 : EvP C t2 Γ .h (rList rInt) P2) (h3 : EvP C t3 Γ .h rInt P3) (hp0 : ∀ a1 a2 a3, P1 a1 → P2 a2 → P3 a3 → (2 ≤ a3 ∧ a3 ≤ a1.length ∧ a1.length ≤ 1000)) (hp1 : ∀ a1 a2 a3, P1 a1 → P2 a2 → P3 a3 → (a2 = TM.lowsOf a1 (a3 - 1))) : EvX C (tCall (sp_longer_lows) [] E (tCons t1 (tCons t2 (tCons t3 tNil)))) Γ (ResF C (rList rInt) (fun b => ∃ a1 a2 a3, P1 a1 ∧ P2 a2 ∧ P3 a3 ∧ (b = TM.lowsOf a1 a3))) := ex_call3 h1 h2 h3 (fun a1 a2 a3 _p1 _p2 _p3 => ⟨hp0 a1 a2 a3 _p1 _p2 _p3, hp1 a1 a2 a3 _p1 _p2 _p3⟩) exc0 (fun a1 a2 a3 _p1 _p2 _p3 => fun _ z => z)
def t_longer_lows (K : PySem.W.Frag) (E : XK) : TS :=
(tSeq (tAsg (tLst tNil) (gName 3))
(tSeq (tFor (iRng1 (tCons (tOp (rI0 fun i j => .int (i + j)) (tOp (rI0 fun i j => .int (i - j)) (tCB (rLenS K) (tCons (tVar 0) tNil)) (tVar 2)) (tC (.int 1))) tNil)) (gName 4)
(tSeq (tAsg (tOp (rI0 fun i j => .int (i - j)) (tOp (rI0 fun i j => .int (i + j)) (tVar 4) (tVar 2)) (tC (.int 1))) (gName 5))
(tSeq (tAsg (tOp (rIxK K .l) (tVar 1) (tVar 4)) (gName 6))
(tCut (tIfS (tTest (tOp (rI0 fun i j => .bl (decide (i < j))) (tOp (rIxK K .e) (tVar 0) (tVar 5)) (tOp (rIxK K .e) (tVar 0) (tVar 6)))) (tSeq (tAsg (tVar 5) (gName 6))
tNext) tNext)
(tSeq (tDrop (tBM K "list" rAppend (tVar 3) (tCons (tVar 6) tNil)))
tNext)))))
(tSeq (tRet (tVar 3)) tNext)))
theorem go_longer_lows {K : PySem.W.Frag} {C : Cn} {D : Ends} {E : XK} (row_ : (List Int)) (lows_ : (List Int)) (size_ : Int) (hp0 : 2 ≤ size_ ∧ size_ ≤ row_.length ∧ row_.length ≤ 1000) (hp1 : lows_ = TM.lowsOf row_ (size_ - 1)) (hR : RetOk C D (rList rInt) (fun b => b = TM.lowsOf row_ size_)) :
    Go C (t_longer_lows K E) D [.val .m (rSeq rInt) row_, .val .m (rList rInt) lows_, .val .m rInt size_, .no, .no, .no, .no] := by
  unfold t_longer_lows
  have hll : (lows_).length = ((row_).length : Int) - size_ + 2 := by rw [hp1, TM.lowsOf_len]; omega
  refine q_asgN (i := 3) (ℓ := .g) (en_lstd (ℓ := .g) (R := rInt) em_nil) (fun p2 longer1 hlonger1 => ?_)
  subst hlonger1
  refine q_forD (j := 4) (σS := (List Int)) (fun s => [.val .m (rSeq rInt) row_, .val .m (rList rInt) lows_, .val .m rInt size_, .own p2 .g rInt s, .no, .no, .no]) (fun (i : Nat) (s : (List Int)) => (s = ((rg 0 ((((row_).length : Int) - size_) + (1 : Int))).take i).map (fun z => TM.low row_ z (z + size_ - 1))) ∧ (s.length = i)) ([] : List Int) (ei_rg1d (b := true) (ℓ := .g) ((ev_add ((ev_sub ((ev_len (es_seq (ev_var (R := (rSeq rInt)) (a := row_) rfl)))) (((ev_var (R := rInt) (a := size_) rfl)).toh))) (ev_int))) (by first | omega | assumption | (simp; done) | (constructor <;> omega) | (simp; omega))) (by
        show (([] : List Int) = ((rg 0 ((((row_).length : Int) - size_) + (1 : Int))).take 0).map (fun z => TM.low row_ z (z + size_ - 1))) ∧ (([] : List Int).length = 0)
        exact ⟨rfl, rfl⟩) (LeG.k (LeG.k (LeG.k (LeG.k (LeG.f (LeG.f (LeG.f LeG.nil))))))) (fun C1 hc1 i1 x3 s hx3 hI0 => ?_) (fun s hI0 => ?_)
  · revert s hI0; intro longer4 hI0
    replace hI0 : (longer4 = ((rg 0 ((((row_).length : Int) - size_) + (1 : Int))).take i1).map (fun z => TM.low row_ z (z + size_ - 1))) ∧ (longer4.length = i1) := hI0
    obtain ⟨hI0_0, hI0_1⟩ := hI0
    have hR := hR.ex hc1
    have hx3l := at_lt hx3
    have hx3r := rg_at hx3
    rw [rg_len] at hx3l
    have hg : gt lows_ x3 = TM.low row_ x3 (x3 + size_ - 2) := by rw [hp1, TM.gt_lowsOf (by omega)]; congr 1; omega
    have hb := TM.low_longer (row := row_) (a := x3) (b := x3 + size_ - 2) (by omega)
    rw [show x3 + size_ - 2 + 1 = x3 + size_ - 1 by omega] at hb
    have hf := TM.low_FL (row := row_) (a := x3) (b := x3 + size_ - 2) (by omega)
    have hf1 := hf.ah
    have hf2 := hf.hb
    refine q_asg (i := 5) (ℓ := .g) ((ev_sub ((ev_add (((ev_var (R := rInt) (a := x3) rfl)).toh) (((ev_var (R := rInt) (a := size_) rfl)).toh))) (ev_int))) (fun last5 hlast5 => ?_)
    replace hlast5 : last5 = ((x3 + size_) - (1 : Int)) := hlast5
    refine q_asg (i := 6) (ℓ := .g) (((ev_ix (es_list (ev_var (R := (rList rInt)) (a := lows_) rfl)) (((ev_var (R := rInt) (a := x3) rfl)).toh) (by first | omega | assumption | (simp; done) | (constructor <;> omega) | (simp; omega)))).fl fl_int) (fun best6 hbest6 => ?_)
    replace hbest6 : best6 = (gt lows_ x3) := hbest6
    refine q_cut (S := Int) (fun s => [.val .m (rSeq rInt) row_, .val .m (rList rInt) lows_, .val .m rInt size_, .own p2 .g rInt longer4, .val .g rInt x3, .val .g rInt last5, .val .g rInt s]) (fun s => (s = TM.low row_ x3 (x3 + size_ - 1))) (c_ifC (ec_tst (ev_lt (((ev_ix (es_seq (ev_var (R := (rSeq rInt)) (a := row_) rfl)) (((ev_var (R := rInt) (a := last5) rfl)).toh) (by first | omega | assumption | (simp; done) | (constructor <;> omega) | (simp; omega)))).toh) (((ev_ix (es_seq (ev_var (R := (rSeq rInt)) (a := row_) rfl)) (((ev_var (R := rInt) (a := best6) rfl)).toh) (by first | omega | assumption | (simp; done) | (constructor <;> omega) | (simp; omega)))).toh))) (fun h7 => ?_) (fun h7 => ?_)) (fun s h7j => ?_)
    · refine q_asg (i := 6) (ℓ := .g) ((ev_var (R := rInt) (a := last5) rfl)) (fun best8 hbest8 => ?_)
      replace hbest8 : best8 = last5 := hbest8
      refine q_next (hol_in best8 ?_ (LeG.k (LeG.k (LeG.k (LeG.k (LeG.k (LeG.k (LeG.k LeG.nil))))))))
      show (best8 = TM.low row_ x3 (x3 + size_ - 1))
      rw [hb, ← hg]
      subst_vars
      first | rw [if_pos (by assumption)] | rw [if_neg (by assumption)]
    · refine q_next (hol_in best6 ?_ (LeG.k (LeG.k (LeG.k (LeG.k (LeG.k (LeG.k (LeG.k LeG.nil))))))))
      show (best6 = TM.low row_ x3 (x3 + size_ - 1))
      rw [hb, ← hg]
      subst_vars
      first | rw [if_pos (by assumption)] | rw [if_neg (by assumption)]
    revert s h7j; intro best9 h7j
    replace h7j : (best9 = TM.low row_ x3 (x3 + size_ - 1)) := h7j
    refine q_app (i := 3) (p := p2) rfl ((ev_var (R := rInt) (a := best9) rfl)) (by first | omega | assumption | (simp; done) | (constructor <;> omega) | (simp; omega)) (fun e10 he10 => ?_)
    replace he10 : e10 = best9 := he10
    rw [he10]; clear he10 e10
    refine q_next (hol_in (longer4 ++ [best9]) ?_ (LeG.k (LeG.k (LeG.k (LeG.k (LeG.f (LeG.f (LeG.f LeG.nil))))))))
    show ((longer4 ++ [best9]) = ((rg 0 ((((row_).length : Int) - size_) + (1 : Int))).take (i1 + 1)).map (fun z => TM.low row_ z (z + size_ - 1))) ∧ ((longer4 ++ [best9]).length = (i1 + 1))
    exact ⟨by rw [TM.mp_step hx3, hI0_0, h7j], by rw [List.length_append, hI0_1]; rfl⟩
  revert s hI0; intro longer11 hI0
  replace hI0 : (longer11 = ((rg 0 ((((row_).length : Int) - size_) + (1 : Int))).take ((rg 0 ((((row_).length : Int) - size_) + (1 : Int)))).length).map (fun z => TM.low row_ z (z + size_ - 1))) ∧ (longer11.length = ((rg 0 ((((row_).length : Int) - size_) + (1 : Int)))).length) := hI0
  obtain ⟨hI0_0, hI0_1⟩ := hI0
  simp only [rg_len] at hI0_0 hI0_1
  show Go _ _ _ [.val .m (rSeq rInt) row_, .val .m (rList rInt) lows_, .val .m rInt size_, .own p2 .g rInt longer11, .no, .no, .no]
  refine q_frz (i := 3) (p := p2) rfl ?_
  refine q_ret ((ev_var (R := (rList rInt)) (a := longer11) rfl)) hR (fun r12 hr12 => ?_)
  replace hr12 : r12 = longer11 := hr12
  show r12 = TM.lowsOf row_ size_
  rw [hr12]
  rw [hI0_0]; unfold TM.lowsOf; congr 1; exact List.take_of_length_le (by rw [rg_len]; exact Nat.le_refl _)
abbrev s_longer_lows : Stmt := topS 16
theorem sc_longer_lows : FnScope ["row", "lows", "size", "longer", "a", "last", "best"] ["row", "lows", "size"] (defScope s_longer_lows) := ⟨rfl, rfl, rfl, by decide +kernel, rfl, by decide +kernel, by decide +kernel⟩
theorem ok_longer_lows {P : Program} {w : PySem.World} {K : PySem.W.Frag} {mg : Str → Option Value} {base : Heap} {f : Addr} {fd : FuncData} (F : Fun K "longer_lows" "longer_lows" s_longer_lows f fd) (m_len : mg "len" = none) (m_range : mg "range" = none) : FnOk P w K mg base CX0 1 f fd ["row", "lows", "size"] sp_longer_lows := by
  have sc := sc_longer_lows
  refine F.ok sc (fun vs H Q E h => ?_) (fun cdv A outer s H vs Q E hr h => ?_)
  · obtain ⟨a_, ha_, _⟩ := h
    obtain ⟨v1, _, rfl, _ha1, ⟨v2, _, rfl, _ha2, ⟨v3, _, rfl, _ha3, rfl⟩⟩⟩ := ha_
    rfl
  · obtain ⟨⟨row_, lows_, size_, _⟩, ⟨v1, _, rfl, ha1, ⟨v2, _, rfl, ha2, ⟨v3, _, rfl, ha3, rfl⟩⟩⟩, ⟨hp0, hp1⟩, hR, hE⟩ := spF_open PIlaw (n := fun _ H' => Q .non H') h
    refine ⟨t_longer_lows K E, ?_, go_longer_lows (C := (Cn0 PIlaw H)) row_ lows_ size_ hp0 hp1 hR _ (W0 H []) (world_of (bok0 (PI := PIlaw) H) ⟨⟨by decide, v1, rfl, (rSeq rInt).mono (mw0 (PI := PIlaw) H) ha1⟩, ⟨⟨by decide, v2, rfl, (rList rInt).mono (mw0 (PI := PIlaw) H) ha2⟩, ⟨⟨by decide, v3, rfl, rInt.mono (mw0 (PI := PIlaw) H) ha3⟩, ⟨trivial, ⟨trivial, ⟨trivial, ⟨trivial, trivial⟩⟩⟩⟩⟩⟩⟩ rfl)⟩
    unfold t_longer_lows
    exact (pss_cons (ps_set (i := 3) sc.nd rfl (Or.inl rfl) (pe_lst pa_nil))
(pss_cons (ps_for PassesOwn.never rfl (pi_range1 rfl m_range (pa_cons (pe_op op_add (pe_op op_sub (pe_callB call_len_seq (by rfl) m_len bt_len (pa_cons (pv 0) pa_nil)) (pv 2)) pe_int) pa_nil)) (pg_name (i := 4) sc.nd rfl (Or.inl rfl))
(pss_cons (ps_set (i := 5) sc.nd rfl (Or.inl rfl) (pe_op op_sub (pe_op op_add (pv 4) (pv 2)) pe_int))
(pss_cons (ps_set (i := 6) sc.nd rfl (Or.inl rfl) (pe_ix ix_list (pv 1) (pv 4) (fun _ _ => rfl)))
(pss_cut (ps_if (pt_cmpR op_lt (pe_ix ix_seq (pv 0) (pv 5) (fun _ _ => rfl)) (pe_ix ix_seq (pv 0) (pv 6) (fun _ _ => rfl)) (nomark _)) (pss_cons (ps_set (i := 6) sc.nd rfl (Or.inl rfl) (pv 5))
pss_nil) pss_nil)
(pss_cons (ps_expr (pe_bm PySem.F.plainAttrs_list PySem.F.slot_list_append PySem.F.type_list_append mt_append (pv 3) (pa_cons (pv 6) pa_nil)))
pss_nil)))))
(pss_cons (ps_ret (pv 3)) pss_nil)))
def sp_parted (x_Unlike : Addr) : Sp := spF (aCons (rSeq rInt) (aCons (rSeq rInt) aNil)) (fun (a : (List Int) × (List Int) × Unit) => (a.1.length ≤ 1000 ∧ a.2.1.length ≤ 1000)) (rOpt (rPair rInt rInt)) (fun (a : (List Int) × (List Int) × Unit) b => b = TM.parted a.1 a.2.1 ∧ (a.1.length = a.2.1.length)) (fun (a : (List Int) × (List Int) × Unit) c => (c = x_Unlike ∧ ¬ a.1.length = a.2.1.length))
theorem call_parted {C : Cn} {Γ : List Ent} {E : XK} {x_Unlike : Addr} {t1 : TE} {t2 : TE} {a1 : (List Int)} {a2 : (List Int)} (h1 : Ev C t1 Γ .h (rSeq rInt) a1) (h2 : Ev C t2 Γ .h (rSeq rInt) a2) (hp0 : a1.length ≤ 1000 ∧ a2.length ≤ 1000) {Pe : Addr → Prop} (hE : ExcOk C E Pe) (he : ∀ c, ((c = x_Unlike ∧ ¬ a1.length = a2.length)) → Pe c) : EvX C (tCall (sp_parted x_Unlike) [] E (tCons t1 (tCons t2 tNil))) Γ (ResF C (rOpt (rPair rInt rInt)) (fun b => b = TM.parted a1 a2)) := EvX.imp (ed_call2 h1 h2 hp0 hE he) (fun _ h => h.1)
theorem calln_parted {C : Cn} {Γ : List Ent} {E : XK} {x_Unlike : Addr} {t1 : TE} {t2 : TE} {a1 : (List Int)} {a2 : (List Int)} (h1 : Ev C t1 Γ .h (rSeq rInt) a1) (h2 : Ev C t2 Γ .h (rSeq rInt) a2) (hp0 : a1.length ≤ 1000 ∧ a2.length ≤ 1000) {Pe : Addr → Prop} (hE : ExcOk C E Pe) (he : ∀ c, ((c = x_Unlike ∧ ¬ a1.length = a2.length)) → Pe c) : EvX C (tCall (sp_parted x_Unlike) [] E (tCons t1 (tCons t2 tNil))) Γ (ResF C (rOpt (rPair rInt rInt)) (fun b => b = TM.parted a1 a2 ∧ (a1.length = a2.length))) := ed_call2 h1 h2 hp0 hE he
theorem callsn_parted {C : Cn} {Γ : List Ent} {x_Unlike : Addr} {t1 : TE} {t2 : TE} {a1 : (List Int)} {a2 : (List Int)} (h1 : Ev C t1 Γ .h (rSeq rInt) a1) (h2 : Ev C t2 Γ .h (rSeq rInt) a2) (hp0 : a1.length ≤ 1000 ∧ a2.length ≤ 1000) {W0 : WX} {Pe : Addr → Prop} (hE : ExcOkG C W0 Γ Pe) (he : ∀ c, ((c = x_Unlike ∧ ¬ a1.length = a2.length)) → Pe c) : EvX C (tCallS (sp_parted x_Unlike) (WE W0) (tCons t1 (tCons t2 tNil))) Γ (ResF C (rOpt (rPair rInt rInt)) (fun b => b = TM.parted a1 a2 ∧ (a1.length = a2.length))) := esd_call2 h1 h2 hp0 hE he
theorem calls_parted {C : Cn} {Γ : List Ent} {x_Unlike : Addr} {t1 : TE} {t2 : TE} {a1 : (List Int)} {a2 : (List Int)} (h1 : Ev C t1 Γ .h (rSeq rInt) a1) (h2 : Ev C t2 Γ .h (rSeq rInt) a2) (hp0 : a1.length ≤ 1000 ∧ a2.length ≤ 1000) {W0 : WX} {Pe : Addr → Prop} (hE : ExcOkG C W0 Γ Pe) (he : ∀ c, ((c = x_Unlike ∧ ¬ a1.length = a2.length)) → Pe c) : EvX C (tCallS (sp_parted x_Unlike) (WE W0) (tCons t1 (tCons t2 tNil))) Γ (ResF C (rOpt (rPair rInt rInt)) (fun b => b = TM.parted a1 a2)) := EvX.imp (esd_call2 h1 h2 hp0 hE he) (fun _ h => h.1)
-- no callx
def t_parted (K : PySem.W.Frag) (E : XK) (x_Unlike : Addr) : TS :=
(tSeq (tIfS (tTest (tOp rNe (tCB (rLenS K) (tCons (tVar 0) tNil)) (tCB (rLenS K) (tCons (tVar 1) tNil)))) (tSeq (fun _ _ H => E (.ref x_Unlike) none H) tNext) tNext)
(tSeq (tAsg (tLstRg (tRg1 (tCB (rLenS K) (tCons (tVar 0) tNil)))) (gName 2))
(tSeq (tAsg (tCB (rListOf K) (tCons (tVar 2) tNil)) (gName 3))
(tSeq (tFor (iRng2 (tCons (tC (.int 2)) (tCons (tOp (rI0 fun i j => .int (i + j)) (tCB (rLenS K) (tCons (tVar 0) tNil)) (tC (.int 1))) tNil))) (gName 4)
(tSeq (tAsg (tCall sp_longer_lows [] E0 (tCons (tVar 0) (tCons (tVar 2) (tCons (tVar 4) tNil)))) (gName 2))
(tSeq (tAsg (tCall sp_longer_lows [] E0 (tCons (tVar 1) (tCons (tVar 3) (tCons (tVar 4) tNil)))) (gName 3))
(tSeq (tFor (iRng1 (tCons (tCB (rLenS K) (tCons (tVar 2) tNil)) tNil)) (gName 5)
(tSeq (tIfS (tTest (tOp rNe (tOp (rIxK K .l) (tVar 2) (tVar 5)) (tOp (rIxK K .l) (tVar 3) (tVar 5)))) (tSeq (tRet (tTup (tCons (tVar 5) (tCons (tOp (rI0 fun i j => .int (i - j)) (tOp (rI0 fun i j => .int (i + j)) (tVar 5) (tVar 4)) (tC (.int 1))) tNil)))) tNext) tNext)
tNext))
tNext))))
(tSeq (tRet (tC .non)) tNext)))))
theorem go_parted {K : PySem.W.Frag} {C : Cn} {D : Ends} {E : XK} (x_Unlike : Addr) (one_ : (List Int)) (other_ : (List Int)) (hp0 : one_.length ≤ 1000 ∧ other_.length ≤ 1000) (hR : RetOk C D (rOpt (rPair rInt rInt)) (fun b => b = TM.parted one_ other_ ∧ (one_.length = other_.length))) (hE : ExcOk C E (fun c => (c = x_Unlike ∧ ¬ one_.length = other_.length))) :
    Go C (t_parted K E x_Unlike) D [.val .m (rSeq rInt) one_, .val .m (rSeq rInt) other_, .no, .no, .no, .no] := by
  unfold t_parted
  refine q_ifT (ec_tstN (ev_neI ((ev_len (es_seq (ev_var (R := (rSeq rInt)) (a := one_) rfl)))) ((ev_len (es_seq (ev_var (R := (rSeq rInt)) (a := other_) rfl)))))) (fun h1 => ?_) (fun h1 => ?_)
  · refine q_raise hE ?_
    exact ⟨rfl, by omega⟩
  have hel : (one_).length = (other_).length := by omega
  refine q_asg (i := 2) (ℓ := .g) ((ev_new (ℓ := .g) (en_listRg1 ((ev_len (es_seq (ev_var (R := (rSeq rInt)) (a := one_) rfl)))) (by first | omega | (rw [h_none, TM.lowsOf_len]; omega))))) (fun lows2 hlows2 => ?_)
  replace hlows2 : lows2 = (rg 0 ((one_).length : Int)) := hlows2
  refine q_asg (i := 3) (ℓ := .g) ((ev_new (ℓ := .g) (en_list (es_list (ev_var (R := (rList rInt)) (a := lows2) rfl))))) (fun others3 hothers3 => ?_)
  replace hothers3 : others3 = lows2 := hothers3
  refine q_forD (j := 4) (σS := (List Int) × (List Int)) (fun s => [.val .m (rSeq rInt) one_, .val .m (rSeq rInt) other_, .val .g (rList rInt) s.1, .val .g (rList rInt) s.2, .no, .no]) (fun (i : Nat) (s : (List Int) × (List Int)) => (s.1 = TM.lowsOf one_ (1 + (i : Nat))) ∧ (s.2 = TM.lowsOf other_ (1 + (i : Nat))) ∧ (TM.NP one_ other_ (2 + (i : Nat)) 0)) (lows2, others3) (ei_rg2d (b := true) (ℓ := .g) (ev_int) ((ev_add ((ev_len (es_seq (ev_var (R := (rSeq rInt)) (a := one_) rfl)))) (ev_int))) (by first | omega | (rw [hlows2, TM.lowsOf_len]; omega))) (by
        show (lows2 = TM.lowsOf one_ (1 + (0 : Nat))) ∧ (others3 = TM.lowsOf other_ (1 + (0 : Nat))) ∧ (TM.NP one_ other_ (2 + (0 : Nat)) 0)
        rw [hothers3, hlows2]; exact ⟨TM.lowsOf_one _, (by rw [hel]; exact TM.lowsOf_one _), TM.np_init hel⟩) (LeG.k (LeG.k (LeG.k (LeG.k (LeG.f (LeG.f LeG.nil)))))) (fun C1 hc1 i1 x4 s hx4 hI0 => ?_) (fun s hI0 => ?_)
  · obtain ⟨lows5, others6⟩ := s
    replace hI0 : (lows5 = TM.lowsOf one_ (1 + (i1 : Nat))) ∧ (others6 = TM.lowsOf other_ (1 + (i1 : Nat))) ∧ (TM.NP one_ other_ (2 + (i1 : Nat)) 0) := hI0
    obtain ⟨hI0_0, hI0_1, hI0_2⟩ := hI0
    have hR := hR.ex hc1
    have hE := hE.ex hc1
    have hx4l := at_lt hx4
    have hx4r := rg_at hx4
    rw [rg_len] at hx4l
    have hel : (one_).length = (other_).length := by omega
    refine q_asg (i := 2) (ℓ := .g) ((ev_new (ℓ := .g) (en_call (ℓ := .g) fl_int (call_longer_lows (((ev_var (R := (rSeq rInt)) (a := one_) rfl)).toh) (((ev_var (R := (rList rInt)) (a := lows5) rfl)).toh) (((ev_var (R := rInt) (a := x4) rfl)).toh) (by omega) (by rw [hI0_0]; congr 1; omega))))) (fun lows7 hlows7 => ?_)
    replace hlows7 : lows7 = (TM.lowsOf one_ x4) := hlows7
    refine q_asg (i := 3) (ℓ := .g) ((ev_new (ℓ := .g) (en_call (ℓ := .g) fl_int (call_longer_lows (((ev_var (R := (rSeq rInt)) (a := other_) rfl)).toh) (((ev_var (R := (rList rInt)) (a := others6) rfl)).toh) (((ev_var (R := rInt) (a := x4) rfl)).toh) (by omega) (by rw [hI0_1]; congr 1; omega))))) (fun others8 hothers8 => ?_)
    replace hothers8 : others8 = (TM.lowsOf other_ x4) := hothers8
    refine q_forD (j := 5) (σS := Unit) (fun s => [.val .m (rSeq rInt) one_, .val .m (rSeq rInt) other_, .val .g (rList rInt) lows7, .val .g (rList rInt) others8, .val .g rInt x4, .no]) (fun (i : Nat) (s : Unit) => (TM.NP one_ other_ x4 (i : Nat))) () (ei_rg1d (b := true) (ℓ := .g) ((ev_len (es_list (ev_var (R := (rList rInt)) (a := lows7) rfl)))) (by first | omega | (rw [hlows7, TM.lowsOf_len]; omega))) (by
          show (TM.NP one_ other_ x4 (0 : Nat))
          have e := hI0_2; rw [show (2 : Int) + ((i1 : Nat) : Int) = x4 by omega] at e; exact e) (LeG.k (LeG.k (LeG.k (LeG.k (LeG.k (LeG.f LeG.nil)))))) (fun C2 hc2 i2 x9 s hx9 hI1 => ?_) (fun s hI1 => ?_)
    · replace hI1 : (TM.NP one_ other_ x4 (i2 : Nat)) := hI1
      have hR := hR.ex hc2
      have hE := hE.ex hc2
      have hx9l := at_lt hx9
      have hx9r := rg_at hx9
      rw [rg_len] at hx9l
      refine q_ifT (ec_tstN (ev_neI (((ev_ix (es_list (ev_var (R := (rList rInt)) (a := lows7) rfl)) (((ev_var (R := rInt) (a := x9) rfl)).toh) (by omega))).toh) (((ev_ix (es_list (ev_var (R := (rList rInt)) (a := others8) rfl)) (((ev_var (R := rInt) (a := x9) rfl)).toh) (by
            have e1 : (lows7).length = (others8).length := by rw [hlows7, hothers8, TM.lowsOf_len, TM.lowsOf_len, hel]
            omega))).toh))) (fun h10 => ?_) (fun h10 => ?_)
      · refine q_ret ((ev_some (ev_paird (ℓ := .g) ((ev_var (R := rInt) (a := x9) rfl)) ((ev_sub ((ev_add (((ev_var (R := rInt) (a := x9) rfl)).toh) (((ev_var (R := rInt) (a := x4) rfl)).toh))) (ev_int)))) nn_pair)) hR (fun r11 hr11 => ?_)
        replace hr11 : r11 = (some (x9, ((x9 + x4) - (1 : Int)))) := hr11
        show r11 = TM.parted one_ other_ ∧ (one_.length = other_.length)
        rw [hr11]
        have e1 := TM.lowsOf_len one_ x4
        have e2 : gt lows7 x9 = TM.low one_ x9 (x9 + x4 - 1) := by rw [hlows7]; exact TM.gt_lowsOf (by rw [hlows7] at *; omega)
        have e3 : gt others8 x9 = TM.low other_ x9 (x9 + x4 - 1) := by rw [hothers8]; exact TM.gt_lowsOf (by rw [hlows7] at *; omega)
        refine ⟨(TM.parted_at ⟨by omega, by omega, (by rw [hlows7] at *; omega), (by rw [← e2, ← e3]; assumption), ?_⟩).symm, hel⟩
        rw [show x9 = ((i2 : Nat) : Int) by omega]; exact hI1
      refine q_next (hol_in () ?_ (LeG.k (LeG.k (LeG.k (LeG.k (LeG.k (LeG.f LeG.nil)))))))
      show (TM.NP one_ other_ x4 ((i2 + 1) : Nat))
      have e1 := TM.lowsOf_len one_ x4
      have e2 : gt lows7 x9 = TM.low one_ x9 (x9 + x4 - 1) := by rw [hlows7]; exact TM.gt_lowsOf (by rw [hlows7] at *; omega)
      have e3 : gt others8 x9 = TM.low other_ x9 (x9 + x4 - 1) := by rw [hothers8]; exact TM.gt_lowsOf (by rw [hlows7] at *; omega)
      have e4 : gt lows7 x9 = gt others8 x9 := Classical.not_not.mp (by assumption)
      exact TM.np_step hI1 (by rw [show ((i2 : Nat) : Int) = x9 by omega, ← e2, ← e3]; exact e4)
    replace hI1 : (TM.NP one_ other_ x4 (((rg 0 ((lows7).length : Int))).length : Nat)) := hI1
    simp only [rg_len] at hI1
    show Go _ _ _ [.val .m (rSeq rInt) one_, .val .m (rSeq rInt) other_, .val .g (rList rInt) lows7, .val .g (rList rInt) others8, .val .g rInt x4, .no]
    refine q_next (hol_in (lows7, others8) ?_ (LeG.k (LeG.k (LeG.k (LeG.k (LeG.f (LeG.f LeG.nil)))))))
    show (lows7 = TM.lowsOf one_ (1 + ((i1 + 1) : Nat))) ∧ (others8 = TM.lowsOf other_ (1 + ((i1 + 1) : Nat))) ∧ (TM.NP one_ other_ (2 + ((i1 + 1) : Nat)) 0)
    refine ⟨by rw [hlows7]; congr 1; omega, by rw [hothers8]; congr 1; omega, ?_⟩
    have e := TM.np_next hI1 (by rw [hlows7, TM.lowsOf_len]; omega)
    rw [show (2 : Int) + ((i1 + 1 : Nat) : Int) = x4 + 1 by omega]; exact e
  obtain ⟨lows12, others13⟩ := s
  replace hI0 : (lows12 = TM.lowsOf one_ (1 + (((rg (2 : Int) (((one_).length : Int) + (1 : Int)))).length : Nat))) ∧ (others13 = TM.lowsOf other_ (1 + (((rg (2 : Int) (((one_).length : Int) + (1 : Int)))).length : Nat))) ∧ (TM.NP one_ other_ (2 + (((rg (2 : Int) (((one_).length : Int) + (1 : Int)))).length : Nat)) 0) := hI0
  obtain ⟨hI0_0, hI0_1, hI0_2⟩ := hI0
  simp only [rg_len] at hI0_0 hI0_1 hI0_2
  show Go _ _ _ [.val .m (rSeq rInt) one_, .val .m (rSeq rInt) other_, .val .g (rList rInt) lows12, .val .g (rList rInt) others13, .no, .no]
  refine q_ret ((ev_non (R := (rPair rInt rInt)))) hR (fun r14 hr14 => ?_)
  replace hr14 : r14 = none := hr14
  show r14 = TM.parted one_ other_ ∧ (one_.length = other_.length)
  rw [hr14]
  exact ⟨(TM.parted_no (TM.np_all hI0_2 (by omega))).symm, hel⟩
abbrev s_parted : Stmt := topS 17
theorem sc_parted : FnScope ["one", "other", "lows", "others", "size", "a"] ["one", "other"] (defScope s_parted) := ⟨rfl, rfl, rfl, by decide +kernel, rfl, by decide +kernel, by decide +kernel⟩
theorem ok_parted {P : Program} {w : PySem.World} {K : PySem.W.Frag} {mg : Str → Option Value} {base : Heap} {x_Unlike : Addr} {f : Addr} {fd : FuncData} (F : Fun K "parted" "parted" s_parted f fd) {f_longer_lows : Addr} {d_longer_lows : FuncData} (c_longer_lows : Cal P w K mg base CX0 1 "longer_lows" ["row", "lows", "size"] sp_longer_lows f_longer_lows d_longer_lows) (m_len : mg "len" = none) (m_list : mg "list" = none) (m_range : mg "range" = none) (z_Unlike : ExcT K mg x_Unlike "Unlike") : FnOk P w K mg base (L2.CX P w) 2 f fd ["one", "other"] (sp_parted x_Unlike) := by
  have sc := sc_parted
  refine F.okX sc (fun vs H Q E h => ?_) (fun cdv A outer s H vs Q E hr h => ?_)
  · obtain ⟨a_, ha_, _⟩ := h
    obtain ⟨v1, _, rfl, _ha1, ⟨v2, _, rfl, _ha2, rfl⟩⟩ := ha_
    rfl
  · obtain ⟨⟨one_, other_, _⟩, ⟨v1, _, rfl, ha1, ⟨v2, _, rfl, ha2, rfl⟩⟩, hp0, hR, hE⟩ := spF_open PIlaw (n := fun _ H' => Q .non H') h
    refine ⟨t_parted K E x_Unlike, ?_, go_parted (C := (Cn0 PIlaw H)) x_Unlike one_ other_ hp0 hR hE _ (W0 H []) (world_of (bok0 (PI := PIlaw) H) ⟨⟨by decide, v1, rfl, (rSeq rInt).mono (mw0 (PI := PIlaw) H) ha1⟩, ⟨⟨by decide, v2, rfl, (rSeq rInt).mono (mw0 (PI := PIlaw) H) ha2⟩, ⟨trivial, ⟨trivial, ⟨trivial, ⟨trivial, trivial⟩⟩⟩⟩⟩⟩ rfl)⟩
    unfold t_parted
    exact (pss_cons (ps_if (pt_cmpR op_ne (pe_callB call_len_seq (by rfl) m_len bt_len (pa_cons (pv 0) pa_nil)) (pe_callB call_len_seq (by rfl) m_len bt_len (pa_cons (pv 1) pa_nil)) (nomark _)) (pss_cons (ps_raise rfl (takes_of rfl rfl rfl rfl) (pmk_own PySem.F.excBase_ValueError z_Unlike.x z_Unlike.g z_Unlike.k (raises_own z_Unlike.b z_Unlike.t) (by exact rfl))) pss_nil) pss_nil)
(pss_cons (ps_set (i := 2) sc.nd rfl (Or.inl rfl) (pe_listRg rfl (by rfl) m_list (prg_1 (by rfl) m_range (pe_callB call_len_seq (by rfl) m_len bt_len (pa_cons (pv 0) pa_nil)))))
(pss_cons (ps_set (i := 3) sc.nd rfl (Or.inl rfl) (pe_callTy call_list_of (by rfl) m_list bt_list (pa_cons (pv 2) pa_nil)))
(pss_cons (ps_for PassesOwn.leaving rfl (pi_range2 rfl m_range (pa_cons pe_int (pa_cons (pe_op op_add (pe_callB call_len_seq (by rfl) m_len bt_len (pa_cons (pv 0) pa_nil)) pe_int) pa_nil))) (pg_name (i := 4) sc.nd rfl (Or.inl rfl))
(pss_cons (ps_set (i := 2) sc.nd rfl (Or.inl rfl) (pe_call c_longer_lows.ok (hr.mono (by decide)) (by rfl) c_longer_lows.g c_longer_lows.kp c_longer_lows.b .nil pass0 (pa_cons (pv 0) (pa_cons (pv 2) (pa_cons (pv 4) pa_nil)))))
(pss_cons (ps_set (i := 3) sc.nd rfl (Or.inl rfl) (pe_call c_longer_lows.ok (hr.mono (by decide)) (by rfl) c_longer_lows.g c_longer_lows.kp c_longer_lows.b .nil pass0 (pa_cons (pv 1) (pa_cons (pv 3) (pa_cons (pv 4) pa_nil)))))
(pss_cons (ps_for PassesOwn.leaving rfl (pi_range1 rfl m_range (pa_cons (pe_callB call_len_seq (by rfl) m_len bt_len (pa_cons (pv 2) pa_nil)) pa_nil)) (pg_name (i := 5) sc.nd rfl (Or.inl rfl))
(pss_cons (ps_if (pt_cmpR op_ne (pe_ix ix_list (pv 2) (pv 5) (fun _ _ => rfl)) (pe_ix ix_list (pv 3) (pv 5) (fun _ _ => rfl)) (nomark _)) (pss_cons (ps_ret (pe_tup (pa_cons (pv 5) (pa_cons (pe_op op_sub (pe_op op_add (pv 5) (pv 4)) pe_int) pa_nil)))) pss_nil) pss_nil)
pss_nil))
pss_nil))))
(pss_cons (ps_ret pe_non) pss_nil)))))
def sp_parted_starts (x_Empty : Addr) : Sp := spF (aCons (rSeq rInt) (aCons (rSeq rInt) aNil)) (fun (a : (List Int) × (List Int) × Unit) => (a.1.length ≤ 1000 ∧ a.2.1.length ≤ 1000)) (rList (rTup rInt)) (fun (a : (List Int) × (List Int) × Unit) b => b = TM.pstarts a.1 a.2.1 ∧ ¬ a.1 = []) (fun (a : (List Int) × (List Int) × Unit) c => (c = x_Empty ∧ a.1 = []))
theorem call_parted_starts {C : Cn} {Γ : List Ent} {E : XK} {x_Empty : Addr} {t1 : TE} {t2 : TE} {a1 : (List Int)} {a2 : (List Int)} (h1 : Ev C t1 Γ .h (rSeq rInt) a1) (h2 : Ev C t2 Γ .h (rSeq rInt) a2) (hp0 : a1.length ≤ 1000 ∧ a2.length ≤ 1000) {Pe : Addr → Prop} (hE : ExcOk C E Pe) (he : ∀ c, ((c = x_Empty ∧ a1 = [])) → Pe c) : EvX C (tCall (sp_parted_starts x_Empty) [] E (tCons t1 (tCons t2 tNil))) Γ (ResF C (rList (rTup rInt)) (fun b => b = TM.pstarts a1 a2)) := EvX.imp (ed_call2 h1 h2 hp0 hE he) (fun _ h => h.1)
theorem calln_parted_starts {C : Cn} {Γ : List Ent} {E : XK} {x_Empty : Addr} {t1 : TE} {t2 : TE} {a1 : (List Int)} {a2 : (List Int)} (h1 : Ev C t1 Γ .h (rSeq rInt) a1) (h2 : Ev C t2 Γ .h (rSeq rInt) a2) (hp0 : a1.length ≤ 1000 ∧ a2.length ≤ 1000) {Pe : Addr → Prop} (hE : ExcOk C E Pe) (he : ∀ c, ((c = x_Empty ∧ a1 = [])) → Pe c) : EvX C (tCall (sp_parted_starts x_Empty) [] E (tCons t1 (tCons t2 tNil))) Γ (ResF C (rList (rTup rInt)) (fun b => b = TM.pstarts a1 a2 ∧ ¬ a1 = [])) := ed_call2 h1 h2 hp0 hE he
theorem callsn_parted_starts {C : Cn} {Γ : List Ent} {x_Empty : Addr} {t1 : TE} {t2 : TE} {a1 : (List Int)} {a2 : (List Int)} (h1 : Ev C t1 Γ .h (rSeq rInt) a1) (h2 : Ev C t2 Γ .h (rSeq rInt) a2) (hp0 : a1.length ≤ 1000 ∧ a2.length ≤ 1000) {W0 : WX} {Pe : Addr → Prop} (hE : ExcOkG C W0 Γ Pe) (he : ∀ c, ((c = x_Empty ∧ a1 = [])) → Pe c) : EvX C (tCallS (sp_parted_starts x_Empty) (WE W0) (tCons t1 (tCons t2 tNil))) Γ (ResF C (rList (rTup rInt)) (fun b => b = TM.pstarts a1 a2 ∧ ¬ a1 = [])) := esd_call2 h1 h2 hp0 hE he
theorem calls_parted_starts {C : Cn} {Γ : List Ent} {x_Empty : Addr} {t1 : TE} {t2 : TE} {a1 : (List Int)} {a2 : (List Int)} (h1 : Ev C t1 Γ .h (rSeq rInt) a1) (h2 : Ev C t2 Γ .h (rSeq rInt) a2) (hp0 : a1.length ≤ 1000 ∧ a2.length ≤ 1000) {W0 : WX} {Pe : Addr → Prop} (hE : ExcOkG C W0 Γ Pe) (he : ∀ c, ((c = x_Empty ∧ a1 = [])) → Pe c) : EvX C (tCallS (sp_parted_starts x_Empty) (WE W0) (tCons t1 (tCons t2 tNil))) Γ (ResF C (rList (rTup rInt)) (fun b => b = TM.pstarts a1 a2)) := EvX.imp (esd_call2 h1 h2 hp0 hE he) (fun _ h => h.1)
-- no callx
def t_parted_starts (K : PySem.W.Frag) (E : XK) (x_Empty : Addr) (x_Unlike : Addr) : TS :=
(tSeq (tAsg (tCall (sp_starts_of x_Empty) [] E (tCons (tVar 0) (tCons (tVar 1) tNil))) (gName 2))
(tSeq (tAsg (tLst tNil) (gName 3))
(tSeq (tFor (iRng1 (tCons (tOp (rI0 fun i j => .int (i + j)) (tOp (rI0 fun i j => .int (i - j)) (tCB (rLenS K) (tCons (tVar 1) tNil)) (tCB (rLenS K) (tCons (tVar 0) tNil))) (tC (.int 1))) tNil)) (gName 4)
(tSeq (tIfS (tTest (tOp (rIn K true) (tVar 4) (tVar 2))) (tSeq (tAsg (tCall (sp_parted x_Unlike) [] E (tCons (tVar 0) (tCons (tSl (rSlE K) (tVar 1) (tPart (tVar 4)) (tPart (tOp (rI0 fun i j => .int (i + j)) (tVar 4) (tCB (rLenS K) (tCons (tVar 0) tNil))))) tNil))) (gTup K 2 (gCons (gName 5) (gCons (gName 6) gNil))))
(tSeq (tDrop (tBM K "list" rAppend (tVar 3) (tCons (tTup (tCons (tVar 4) (tCons (tVar 5) (tCons (tVar 6) tNil)))) tNil)))
tNext)) tNext)
tNext))
(tSeq (tRet (tVar 3)) tNext))))
theorem go_parted_starts {K : PySem.W.Frag} {C : Cn} {D : Ends} {E : XK} (x_Empty : Addr) (x_Unlike : Addr) (row_ : (List Int)) (text_ : (List Int)) (hp0 : row_.length ≤ 1000 ∧ text_.length ≤ 1000) (hR : RetOk C D (rList (rTup rInt)) (fun b => b = TM.pstarts row_ text_ ∧ ¬ row_ = [])) (hE : ExcOk C E (fun c => (c = x_Empty ∧ row_ = []))) :
    Go C (t_parted_starts K E x_Empty x_Unlike) D [.val .m (rSeq rInt) row_, .val .m (rSeq rInt) text_, .no, .no, .no, .no, .no] := by
  unfold t_parted_starts
  refine q_asg (i := 2) (ℓ := .g) (ev_call (calln_starts_of (((ev_var (R := (rSeq rInt)) (a := row_) rfl)).toh) (((ev_var (R := (rSeq rInt)) (a := text_) rfl)).toh) (by first | omega | assumption | (simp; done) | (constructor <;> omega) | (simp; omega)) hE (by intro c hc; exact hc))) (fun starts1 hstarts1 => ?_)
  obtain ⟨hstarts1, hstarts1_n⟩ := hstarts1
  replace hstarts1 : starts1 = (TM.starts row_ text_) := hstarts1
  replace hstarts1_n : ¬ row_ = [] := hstarts1_n
  refine q_asgN (i := 3) (ℓ := .g) (en_lstd (ℓ := .g) (R := (rTup rInt)) em_nil) (fun p3 others2 hothers2 => ?_)
  subst hothers2
  refine q_forD (j := 4) (σS := (List (List Int))) (fun s => [.val .m (rSeq rInt) row_, .val .m (rSeq rInt) text_, .val .g (rList rInt) starts1, .own p3 .g (rTup rInt) s, .no, .no, .no]) (fun (i : Nat) (s : (List (List Int))) => (s = (((rg 0 ((((text_).length : Int) - ((row_).length : Int)) + (1 : Int))).take i).filter (fun z => decide (z ∉ TM.starts row_ text_))).map (TM.pst row_ text_)) ∧ (s.length ≤ i)) ([] : List (List Int)) (ei_rg1d (b := true) (ℓ := .g) ((ev_add ((ev_sub ((ev_len (es_seq (ev_var (R := (rSeq rInt)) (a := text_) rfl)))) ((ev_len (es_seq (ev_var (R := (rSeq rInt)) (a := row_) rfl)))))) (ev_int))) (by first | omega | assumption | (simp; done) | (constructor <;> omega) | (simp; omega))) (by
        show (([] : List (List Int)) = (((rg 0 ((((text_).length : Int) - ((row_).length : Int)) + (1 : Int))).take 0).filter (fun z => decide (z ∉ TM.starts row_ text_))).map (TM.pst row_ text_)) ∧ (([] : List (List Int)).length ≤ 0)
        exact ⟨rfl, Nat.le_refl _⟩) (LeG.k (LeG.k (LeG.k (LeG.k (LeG.f (LeG.f (LeG.f LeG.nil))))))) (fun C1 hc1 i1 x4 s hx4 hI0 => ?_) (fun s hI0 => ?_)
  · revert s hI0; intro others5 hI0
    replace hI0 : (others5 = (((rg 0 ((((text_).length : Int) - ((row_).length : Int)) + (1 : Int))).take i1).filter (fun z => decide (z ∉ TM.starts row_ text_))).map (TM.pst row_ text_)) ∧ (others5.length ≤ i1) := hI0
    obtain ⟨hI0_0, hI0_1⟩ := hI0
    have hR := hR.ex hc1
    have hE := hE.ex hc1
    have hx4l := at_lt hx4
    have hx4r := rg_at hx4
    rw [rg_len] at hx4l
    have hsl : ((sl text_ (some x4) (some (x4 + (row_).length))).length : Int) = (row_).length := TM.sl_win (text := text_) (start := x4) (n := (row_).length) (by omega)
    have hpt := TM.pst_start (row := row_) (text := text_) (start := x4) (by omega)
    have hfs := TM.fm_step hx4 (fun z => decide (z ∉ TM.starts row_ text_)) (TM.pst row_ text_)
    refine q_ifC (ec_tstN (ev_nin (((ev_var (R := rInt) (a := x4) rfl)).toh) (EvS.fl fl_int (es_list (ev_var (R := (rList rInt)) (a := starts1) rfl))))) (fun h6 => ?_) (fun h6 => ?_)
    · refine q_asg2 (i := 5) (j := 6) (ℓ := .g) ((ev_the (ev_call (call_parted (((ev_var (R := (rSeq rInt)) (a := row_) rfl)).toh) (((ev_slEd (ev_var (R := (rSeq rInt)) (a := text_) rfl) (eo_part (((ev_var (R := rInt) (a := x4) rfl)).toh)) (eo_part ((ev_add (((ev_var (R := rInt) (a := x4) rfl)).toh) ((ev_len (es_seq (ev_var (R := (rSeq rInt)) (a := row_) rfl))))))))).toh) (by omega) hE (by rintro c ⟨_, hn⟩; omega))) (by exact oget_some (fun z => absurd (hpt.mp z) (by rw [← hstarts1]; assumption))))) (fun t7 ht7 => ?_)
      refine q_app (i := 3) (p := p3) rfl ((ev_tup (ℓ := .g) (em_cons ((ev_var (R := rInt) (a := x4) rfl)) (em_cons ((ev_var (R := rInt) (a := t7.1) rfl)) (em_cons ((ev_var (R := rInt) (a := t7.2) rfl)) (em_nil (R := rInt))))) (fun _ e => by rw [e]; exact Nat.le_of_ble_eq_true rfl))) (by omega) (fun e8 he8 => ?_)
      replace he8 : e8 = [x4, t7.1, t7.2] := he8
      rw [he8]; clear he8 e8
      refine q_next (?_ : Go _ tNext _ _)
      refine q_next (hol_in (others5 ++ [[x4, t7.1, t7.2]]) ?_ (LeG.k (LeG.k (LeG.k (LeG.k (LeG.f (LeG.f (LeG.f LeG.nil))))))))
      show ((others5 ++ [[x4, t7.1, t7.2]]) = (((rg 0 ((((text_).length : Int) - ((row_).length : Int)) + (1 : Int))).take (i1 + 1)).filter (fun z => decide (z ∉ TM.starts row_ text_))).map (TM.pst row_ text_)) ∧ ((others5 ++ [[x4, t7.1, t7.2]]).length ≤ (i1 + 1))
      rw [hstarts1] at *
      first | exact ⟨by rw [hfs, if_pos (by rw [decide_eq_true_iff]; assumption), hI0_0]; simp_all [TM.pst], by rw [List.length_append, List.length_singleton]; omega⟩ | exact ⟨by rw [hfs, if_neg (by rw [decide_eq_true_iff]; assumption), hI0_0, List.append_nil], by omega⟩
    · refine q_next (?_ : Go _ tNext _ _)
      refine q_next (hol_in others5 ?_ (LeG.k (LeG.k (LeG.k (LeG.k (LeG.f (LeG.f (LeG.f LeG.nil))))))))
      show (others5 = (((rg 0 ((((text_).length : Int) - ((row_).length : Int)) + (1 : Int))).take (i1 + 1)).filter (fun z => decide (z ∉ TM.starts row_ text_))).map (TM.pst row_ text_)) ∧ (others5.length ≤ (i1 + 1))
      rw [hstarts1] at *
      first | exact ⟨by rw [hfs, if_pos (by rw [decide_eq_true_iff]; assumption), hI0_0]; simp_all [TM.pst], by rw [List.length_append, List.length_singleton]; omega⟩ | exact ⟨by rw [hfs, if_neg (by rw [decide_eq_true_iff]; assumption), hI0_0, List.append_nil], by omega⟩
  revert s hI0; intro others9 hI0
  replace hI0 : (others9 = (((rg 0 ((((text_).length : Int) - ((row_).length : Int)) + (1 : Int))).take ((rg 0 ((((text_).length : Int) - ((row_).length : Int)) + (1 : Int)))).length).filter (fun z => decide (z ∉ TM.starts row_ text_))).map (TM.pst row_ text_)) ∧ (others9.length ≤ ((rg 0 ((((text_).length : Int) - ((row_).length : Int)) + (1 : Int)))).length) := hI0
  obtain ⟨hI0_0, hI0_1⟩ := hI0
  simp only [rg_len] at hI0_0 hI0_1
  show Go _ _ _ [.val .m (rSeq rInt) row_, .val .m (rSeq rInt) text_, .val .g (rList rInt) starts1, .own p3 .g (rTup rInt) others9, .no, .no, .no]
  refine q_frz (i := 3) (p := p3) rfl ?_
  refine q_ret ((ev_var (R := (rList (rTup rInt))) (a := others9) rfl)) hR (fun r10 hr10 => ?_)
  replace hr10 : r10 = others9 := hr10
  show r10 = TM.pstarts row_ text_ ∧ ¬ row_ = []
  rw [hr10]
  exact ⟨by rw [hI0_0]; unfold TM.pstarts; congr 2; exact List.take_of_length_le (by rw [rg_len]; exact Nat.le_refl _), by assumption⟩
abbrev s_parted_starts : Stmt := topS 25
theorem sc_parted_starts : FnScope ["row", "text", "starts", "others", "start", "a", "b"] ["row", "text"] (defScope s_parted_starts) := ⟨rfl, rfl, rfl, by decide +kernel, rfl, by decide +kernel, by decide +kernel⟩
theorem ok_parted_starts {P : Program} {w : PySem.World} {K : PySem.W.Frag} {mg : Str → Option Value} {base : Heap} {x_Empty : Addr} {x_Unlike : Addr} {f : Addr} {fd : FuncData} (F : Fun K "parted_starts" "parted_starts" s_parted_starts f fd) {f_starts_of : Addr} {d_starts_of : FuncData} (c_starts_of : Cal P w K mg base (L2.CX P w) 3 "starts_of" ["row", "text"] (sp_starts_of x_Empty) f_starts_of d_starts_of) {f_parted : Addr} {d_parted : FuncData} (c_parted : Cal P w K mg base (L2.CX P w) 2 "parted" ["one", "other"] (sp_parted x_Unlike) f_parted d_parted) (m_len : mg "len" = none) (m_range : mg "range" = none) : FnOk P w K mg base (L2.CX P w) 4 f fd ["row", "text"] (sp_parted_starts x_Empty) := by
  have sc := sc_parted_starts
  refine F.okX sc (fun vs H Q E h => ?_) (fun cdv A outer s H vs Q E hr h => ?_)
  · obtain ⟨a_, ha_, _⟩ := h
    obtain ⟨v1, _, rfl, _ha1, ⟨v2, _, rfl, _ha2, rfl⟩⟩ := ha_
    rfl
  · obtain ⟨⟨row_, text_, _⟩, ⟨v1, _, rfl, ha1, ⟨v2, _, rfl, ha2, rfl⟩⟩, hp0, hR, hE⟩ := spF_open PIlaw (n := fun _ H' => Q .non H') h
    refine ⟨t_parted_starts K E x_Empty x_Unlike, ?_, go_parted_starts (C := (Cn0 PIlaw H)) x_Empty x_Unlike row_ text_ hp0 hR hE _ (W0 H []) (world_of (bok0 (PI := PIlaw) H) ⟨⟨by decide, v1, rfl, (rSeq rInt).mono (mw0 (PI := PIlaw) H) ha1⟩, ⟨⟨by decide, v2, rfl, (rSeq rInt).mono (mw0 (PI := PIlaw) H) ha2⟩, ⟨trivial, ⟨trivial, ⟨trivial, ⟨trivial, ⟨trivial, trivial⟩⟩⟩⟩⟩⟩⟩ rfl)⟩
    unfold t_parted_starts
    exact (pss_cons (ps_set (i := 2) sc.nd rfl (Or.inl rfl) (pe_call c_starts_of.ok (hr.mono (by decide)) (by rfl) c_starts_of.g c_starts_of.kp c_starts_of.b .nil (passes_call (takes_of rfl rfl rfl rfl) (fun _ _ _ _ z => z)) (pa_cons (pv 0) (pa_cons (pv 1) pa_nil))))
(pss_cons (ps_set (i := 3) sc.nd rfl (Or.inl rfl) (pe_lst pa_nil))
(pss_cons (ps_for PassesOwn.leaving rfl (pi_range1 rfl m_range (pa_cons (pe_op op_add (pe_op op_sub (pe_callB call_len_seq (by rfl) m_len bt_len (pa_cons (pv 1) pa_nil)) (pe_callB call_len_seq (by rfl) m_len bt_len (pa_cons (pv 0) pa_nil))) pe_int) pa_nil)) (pg_name (i := 4) sc.nd rfl (Or.inl rfl))
(pss_cons (ps_if (pt_cmpR op_notIn_seq (pv 4) (pv 2) (by rfl)) (pss_cons (ps_asg (pe_call c_parted.ok (hr.mono (by decide)) (by rfl) c_parted.g c_parted.kp c_parted.b .nil (passes_call (takes_of rfl rfl rfl rfl) (fun _ _ _ _ z => z)) (pa_cons (pv 0) (pa_cons (pe_slice sl_eith (pv 1) (po_some (pv 4)) (po_some (pe_op op_add (pv 4) (pe_callB call_len_seq (by rfl) m_len bt_len (pa_cons (pv 0) pa_nil))))) pa_nil))) (pg_tup rfl (pgs_cons (pg_name (i := 5) sc.nd rfl (Or.inl rfl)) (pgs_cons (pg_name (i := 6) sc.nd rfl (Or.inl rfl)) pgs_nil))))
(pss_cons (ps_expr (pe_bm PySem.F.plainAttrs_list PySem.F.slot_list_append PySem.F.type_list_append mt_append (pv 3) (pa_cons (pe_tup (pa_cons (pv 4) (pa_cons (pv 5) (pa_cons (pv 6) pa_nil)))) pa_nil)))
pss_nil)) pss_nil)
pss_nil))
(pss_cons (ps_ret (pv 3)) pss_nil))))
def sp_rises : Sp := spF (aCons (rSeq rInt) aNil) (fun (a : (List Int) × Unit) => (a.1.length ≤ 1000)) rBool (fun (a : (List Int) × Unit) b => b = TM.rises a.1) (fun _ _ => False)
theorem call_rises {C : Cn} {Γ : List Ent} {E : XK} {t1 : TE} {a1 : (List Int)} (h1 : Ev C t1 Γ .h (rSeq rInt) a1) (hp0 : a1.length ≤ 1000) : EvX C (tCall (sp_rises) [] E (tCons t1 tNil)) Γ (ResF C rBool (fun b => b = TM.rises a1)) := ed_call1 h1 hp0 exc0 (fun _ z => z)
theorem callx_rises {C : Cn} {Γ : List Ent} {E : XK} {t1 : TE} {P1 : (List Int) → Prop} (h1 : EvP C t1 Γ .h (rSeq rInt) P1) (hp0 : ∀ a1, P1 a1 → (a1.length ≤ 1000)) : EvX C (tCall (sp_rises) [] E (tCons t1 tNil)) Γ (ResF C rBool (fun b => ∃ a1, P1 a1 ∧ (b = TM.rises a1))) := ex_call1 h1 (fun a1 _p1 => hp0 a1 _p1) exc0 (fun a1 _p1 => fun _ z => z)
def t_rises (K : PySem.W.Frag) (E : XK) : TS :=
(tSeq (tRet (tCB (rAll K) (tCons (tLc (iRng1 (tCons (tOp (rI0 fun i j => .int (i - j)) (tCB (rLenS K) (tCons (tVar 0) tNil)) (tC (.int 1))) tNil)) (gName 1) tYes (tOp (rI0 fun i j => .bl (decide (i < j))) (tOp (rIxK K .e) (tVar 0) (tVar 1)) (tOp (rIxK K .e) (tVar 0) (tOp (rI0 fun i j => .int (i + j)) (tVar 1) (tC (.int 1))))) [1]) tNil))) tNext)
theorem go_rises {K : PySem.W.Frag} {C : Cn} {D : Ends} {E : XK} (numbers_ : (List Int)) (hp0 : numbers_.length ≤ 1000) (hR : RetOk C D rBool (fun b => b = TM.rises numbers_)) :
    Go C (t_rises K E) D [.val .m (rSeq rInt) numbers_, .no] := by
  unfold t_rises
  refine q_ret ((ev_all (EvS.fl fl_bool (es_list (ev_new (ℓ := .g) (en_mapd (ℓ' := .g) (fun c1 : Int => (decide ((gt numbers_ c1) < (gt numbers_ (c1 + (1 : Int)))))) (ei_rg1d (b := false) (ℓ := .g) ((ev_sub ((ev_len (es_seq (ev_var (R := (rSeq rInt)) (a := numbers_) rfl)))) (ev_int))) (by omega)) (by rw [rg_len]; omega) (fun c1 hc2 => by
          have hc2_ := rg_mem.mp hc2
          exact (ev_lt (((ev_ix (es_seq (ev_var (R := (rSeq rInt)) (a := numbers_) rfl)) (((ev_var (R := rInt) (a := c1) rfl)).toh) (by omega))).toh) (((ev_ix (es_seq (ev_var (R := (rSeq rInt)) (a := numbers_) rfl)) ((ev_add (((ev_var (R := rInt) (a := c1) rfl)).toh) (ev_int))) (by omega))).toh))))))))) hR (fun r4 hr4 => ?_)
  replace hr4 : r4 = ((((rg 0 (((numbers_).length : Int) - (1 : Int))).map (fun c1 : Int => (decide ((gt numbers_ c1) < (gt numbers_ (c1 + (1 : Int)))))))).all id) := hr4
  show r4 = TM.rises numbers_
  rw [hr4]
  rfl
abbrev s_rises : Stmt := topS 28
theorem sc_rises : FnScope ["numbers", "at"] ["numbers"] (defScope s_rises) := ⟨rfl, rfl, rfl, by decide +kernel, rfl, by decide +kernel, by decide +kernel⟩
theorem ok_rises {P : Program} {w : PySem.World} {K : PySem.W.Frag} {mg : Str → Option Value} {base : Heap} {f : Addr} {fd : FuncData} (F : Fun K "rises" "rises" s_rises f fd) (m_all : mg "all" = none) (m_len : mg "len" = none) (m_range : mg "range" = none) : FnOk P w K mg base CX0 1 f fd ["numbers"] sp_rises := by
  have sc := sc_rises
  refine F.ok sc (fun vs H Q E h => ?_) (fun cdv A outer s H vs Q E hr h => ?_)
  · obtain ⟨a_, ha_, _⟩ := h
    obtain ⟨v1, _, rfl, _ha1, rfl⟩ := ha_
    rfl
  · obtain ⟨⟨numbers_, _⟩, ⟨v1, _, rfl, ha1, rfl⟩, hp0, hR, hE⟩ := spF_open PIlaw (n := fun _ H' => Q .non H') h
    refine ⟨t_rises K E, ?_, go_rises (C := (Cn0 PIlaw H)) numbers_ hp0 hR _ (W0 H []) (world_of (bok0 (PI := PIlaw) H) ⟨⟨by decide, v1, rfl, (rSeq rInt).mono (mw0 (PI := PIlaw) H) ha1⟩, ⟨trivial, trivial⟩⟩ rfl)⟩
    unfold t_rises
    exact (pss_cons (ps_ret (pe_callB (cr_all rfl) (by rfl) m_all bt_all (pa_cons (pe_lc (own := [("at", 1)]) (g := (gName 1)) rfl sc.nd (pi_range1 rfl m_range (pa_cons (pe_op op_sub (pe_callB call_len_seq (by rfl) m_len bt_len (pa_cons (pv 0) pa_nil)) pe_int) pa_nil)) (blkOk_by (own := [("at", 1)]) (N := ["numbers", "at"]) (sc := defScope s_rises) (by decide +kernel)) (fun _ _ _ _ _ => pg_name (i := 1) sc.nd rfl (Or.inl rfl)) (fun _ _ _ _ _ => pts_nil) (fun _ _ _ _ _ => (pe_cmpR op_lt (pe_ix ix_seq (pv 0) (pv 1) (fun _ _ => rfl)) (pe_ix ix_seq (pv 0) (pe_op op_add (pv 1) pe_int) (fun _ _ => rfl)) (nomark _)))) pa_nil))) pss_nil)
def sp_kin : Sp := spF (aCons (rSeq rInt) (aCons (rSeq rInt) aNil)) (fun (a : (List Int) × (List Int) × Unit) => (a.1.length ≤ 1000 ∧ a.2.1.length ≤ 1000)) rBool (fun (a : (List Int) × (List Int) × Unit) b => b = TM.kinB a.1 a.2.1) (fun _ _ => False)
theorem call_kin {C : Cn} {Γ : List Ent} {E : XK} {t1 : TE} {t2 : TE} {a1 : (List Int)} {a2 : (List Int)} (h1 : Ev C t1 Γ .h (rSeq rInt) a1) (h2 : Ev C t2 Γ .h (rSeq rInt) a2) (hp0 : a1.length ≤ 1000 ∧ a2.length ≤ 1000) : EvX C (tCall (sp_kin) [] E (tCons t1 (tCons t2 tNil))) Γ (ResF C rBool (fun b => b = TM.kinB a1 a2)) := ed_call2 h1 h2 hp0 exc0 (fun _ z => z)
theorem callx_kin {C : Cn} {Γ : List Ent} {E : XK} {t1 : TE} {t2 : TE} {P1 : (List Int) → Prop} {P2 : (List Int) → Prop} (h1 : EvP C t1 Γ .h (rSeq rInt) P1) (h2 : EvP C t2 Γ .h (rSeq rInt) P2) (hp0 : ∀ a1 a2, P1 a1 → P2 a2 → (a1.length ≤ 1000 ∧ a2.length ≤ 1000)) : EvX C (tCall (sp_kin) [] E (tCons t1 (tCons t2 tNil))) Γ (ResF C rBool (fun b => ∃ a1 a2, P1 a1 ∧ P2 a2 ∧ (b = TM.kinB a1 a2))) := ex_call2 h1 h2 (fun a1 a2 _p1 _p2 => hp0 a1 a2 _p1 _p2) exc0 (fun a1 a2 _p1 _p2 => fun _ z => z)
def t_kin (K : PySem.W.Frag) (E : XK) (x_Unlike : Addr) : TS :=
(tSeq (tRet (tAndV (tOp rEq (tCB (rLenS K) (tCons (tVar 0) tNil)) (tCB (rLenS K) (tCons (tVar 1) tNil))) (tOp (fun x y H Q => y = .non ∧ Q (.bl (decide (x = .non))) H) (tCall (sp_parted x_Unlike) [] E0 (tCons (tVar 0) (tCons (tVar 1) tNil))) (tC .non)))) tNext)
theorem go_kin {K : PySem.W.Frag} {C : Cn} {D : Ends} {E : XK} (x_Unlike : Addr) (one_ : (List Int)) (other_ : (List Int)) (hp0 : one_.length ≤ 1000 ∧ other_.length ≤ 1000) (hR : RetOk C D rBool (fun b => b = TM.kinB one_ other_)) :
    Go C (t_kin K E x_Unlike) D [.val .m (rSeq rInt) one_, .val .m (rSeq rInt) other_] := by
  unfold t_kin
  refine q_ret ((ev_andV ((ev_eqI ((ev_len (es_seq (ev_var (R := (rSeq rInt)) (a := one_) rfl)))) ((ev_len (es_seq (ev_var (R := (rSeq rInt)) (a := other_) rfl)))))) (fun hb1 => have hb1p : (((one_).length : Int) = ((other_).length : Int)) := (by first | (intro z; rw [z] at hb1; cases hb1; done) | simpa using hb1); ((ev_isN (ev_call (call_parted (((ev_var (R := (rSeq rInt)) (a := one_) rfl)).toh) (((ev_var (R := (rSeq rInt)) (a := other_) rfl)).toh) (by first | omega | assumption | (simp; done) | (constructor <;> omega) | (simp; omega)) exc0 (by first | (rintro c ⟨_, hn⟩; first | exact hn (by omega) | omega | contradiction | (simp_all; done)) | (rintro c (⟨_, hn⟩ | ⟨_, hn⟩) <;> first | exact hn (by omega) | omega | contradiction | (simp_all; done)) | (rintro c (⟨_, hn⟩ | ⟨_, hn⟩ | ⟨_, hn⟩) <;> first | exact hn (by omega) | omega | contradiction | (simp_all; done)) | (intro c hc; exact absurd hc (by simp [*])))))))))) hR (fun r3 hr3 => ?_)
  replace hr3 : r3 = ((decide (((one_).length : Int) = ((other_).length : Int))) && ((TM.parted one_ other_)).isNone) := hr3
  show r3 = TM.kinB one_ other_
  rw [hr3]
  exact TM.kin_parted
abbrev s_kin : Stmt := topS 18
theorem sc_kin : FnScope ["one", "other"] ["one", "other"] (defScope s_kin) := ⟨rfl, rfl, rfl, by decide +kernel, rfl, by decide +kernel, by decide +kernel⟩
theorem ok_kin {P : Program} {w : PySem.World} {K : PySem.W.Frag} {mg : Str → Option Value} {base : Heap} {x_Unlike : Addr} {f : Addr} {fd : FuncData} (F : Fun K "kin" "kin" s_kin f fd) {f_parted : Addr} {d_parted : FuncData} (c_parted : Cal P w K mg base (L2.CX P w) 2 "parted" ["one", "other"] (sp_parted x_Unlike) f_parted d_parted) (m_len : mg "len" = none) : FnOk P w K mg base CX0 3 f fd ["one", "other"] sp_kin := by
  have sc := sc_kin
  refine F.ok sc (fun vs H Q E h => ?_) (fun cdv A outer s H vs Q E hr h => ?_)
  · obtain ⟨a_, ha_, _⟩ := h
    obtain ⟨v1, _, rfl, _ha1, ⟨v2, _, rfl, _ha2, rfl⟩⟩ := ha_
    rfl
  · obtain ⟨⟨one_, other_, _⟩, ⟨v1, _, rfl, ha1, ⟨v2, _, rfl, ha2, rfl⟩⟩, hp0, hR, hE⟩ := spF_open PIlaw (n := fun _ H' => Q .non H') h
    refine ⟨t_kin K E x_Unlike, ?_, go_kin (C := (Cn0 PIlaw H)) x_Unlike one_ other_ hp0 hR _ (W0 H []) (world_of (bok0 (PI := PIlaw) H) ⟨⟨by decide, v1, rfl, (rSeq rInt).mono (mw0 (PI := PIlaw) H) ha1⟩, ⟨⟨by decide, v2, rfl, (rSeq rInt).mono (mw0 (PI := PIlaw) H) ha2⟩, trivial⟩⟩ rfl)⟩
    unfold t_kin
    exact (pss_cons (ps_ret (pe_and (pe_cmpR op_eq (pe_callB call_len_seq (by rfl) m_len bt_len (pa_cons (pv 0) pa_nil)) (pe_callB call_len_seq (by rfl) m_len bt_len (pa_cons (pv 1) pa_nil)) (nomark _)) (pe_one (pe_cmpR op_isN (pe_call c_parted.ok (hr.mono (by decide)) (by rfl) c_parted.g c_parted.kp c_parted.b .nil passL (pa_cons (pv 0) (pa_cons (pv 1) pa_nil))) pe_non (nomark _))))) pss_nil)
def sp_look_at_stretch (x_NoPlace : Addr) : Sp := spF (aCons rInt (aCons rInt (aCons rInt aNil))) (fun (a : Int × Int × Int × Unit) => True) rNone (fun (a : Int × Int × Int × Unit) b => 0 ≤ a.2.1 ∧ a.2.1 ≤ a.2.2.1 ∧ a.2.2.1 < a.1) (fun (a : Int × Int × Int × Unit) c => (c = x_NoPlace ∧ ¬ (0 ≤ a.2.1 ∧ a.2.1 ≤ a.2.2.1 ∧ a.2.2.1 < a.1)))
theorem call_look_at_stretch {C : Cn} {Γ : List Ent} {E : XK} {x_NoPlace : Addr} {t1 : TE} {t2 : TE} {t3 : TE} {a1 : Int} {a2 : Int} {a3 : Int} (h1 : Ev C t1 Γ .h rInt a1) (h2 : Ev C t2 Γ .h rInt a2) (h3 : Ev C t3 Γ .h rInt a3)  {Pe : Addr → Prop} (hE : ExcOk C E Pe) (he : ∀ c, ((c = x_NoPlace ∧ ¬ (0 ≤ a2 ∧ a2 ≤ a3 ∧ a3 < a1))) → Pe c) : EvX C (tCall (sp_look_at_stretch x_NoPlace) [] E (tCons t1 (tCons t2 (tCons t3 tNil)))) Γ (ResF C rNone (fun (b : Unit) => 0 ≤ a2 ∧ a2 ≤ a3 ∧ a3 < a1)) := ed_call3 h1 h2 h3 trivial hE he
theorem callsn_look_at_stretch {C : Cn} {Γ : List Ent} {x_NoPlace : Addr} {t1 : TE} {t2 : TE} {t3 : TE} {a1 : Int} {a2 : Int} {a3 : Int} (h1 : Ev C t1 Γ .h rInt a1) (h2 : Ev C t2 Γ .h rInt a2) (h3 : Ev C t3 Γ .h rInt a3)  {W0 : WX} {Pe : Addr → Prop} (hE : ExcOkG C W0 Γ Pe) (he : ∀ c, ((c = x_NoPlace ∧ ¬ (0 ≤ a2 ∧ a2 ≤ a3 ∧ a3 < a1))) → Pe c) : EvX C (tCallS (sp_look_at_stretch x_NoPlace) (WE W0) (tCons t1 (tCons t2 (tCons t3 tNil)))) Γ (ResF C rNone (fun (b : Unit) => 0 ≤ a2 ∧ a2 ≤ a3 ∧ a3 < a1)) := esd_call3 h1 h2 h3 trivial hE he
theorem calls_look_at_stretch {C : Cn} {Γ : List Ent} {x_NoPlace : Addr} {t1 : TE} {t2 : TE} {t3 : TE} {a1 : Int} {a2 : Int} {a3 : Int} (h1 : Ev C t1 Γ .h rInt a1) (h2 : Ev C t2 Γ .h rInt a2) (h3 : Ev C t3 Γ .h rInt a3)  {W0 : WX} {Pe : Addr → Prop} (hE : ExcOkG C W0 Γ Pe) (he : ∀ c, ((c = x_NoPlace ∧ ¬ (0 ≤ a2 ∧ a2 ≤ a3 ∧ a3 < a1))) → Pe c) : EvX C (tCallS (sp_look_at_stretch x_NoPlace) (WE W0) (tCons t1 (tCons t2 (tCons t3 tNil)))) Γ (ResF C rNone (fun (b : Unit) => 0 ≤ a2 ∧ a2 ≤ a3 ∧ a3 < a1)) := EvX.imp (esd_call3 h1 h2 h3 trivial hE he) (fun _ h => h)
theorem callx_look_at_stretch {C : Cn} {Γ : List Ent} {E : XK} {x_NoPlace : Addr} {t1 : TE} {t2 : TE} {t3 : TE} {P1 : Int → Prop} {P2 : Int → Prop} {P3 : Int → Prop} (h1 : EvP C t1 Γ .h rInt P1) (h2 : EvP C t2 Γ .h rInt P2) (h3 : EvP C t3 Γ .h rInt P3)  {Pe : Addr → Prop} (hE : ExcOk C E Pe) (he : ∀ a1 a2 a3, P1 a1 → P2 a2 → P3 a3 → ∀ c, ((c = x_NoPlace ∧ ¬ (0 ≤ a2 ∧ a2 ≤ a3 ∧ a3 < a1))) → Pe c) : EvX C (tCall (sp_look_at_stretch x_NoPlace) [] E (tCons t1 (tCons t2 (tCons t3 tNil)))) Γ (ResF C rNone (fun (b : Unit) => ∃ a1 a2 a3, P1 a1 ∧ P2 a2 ∧ P3 a3 ∧ (0 ≤ a2 ∧ a2 ≤ a3 ∧ a3 < a1))) := ex_call3 h1 h2 h3 (fun a1 a2 a3 _p1 _p2 _p3 => trivial) hE he
def t_look_at_stretch (K : PySem.W.Frag) (E : XK) (x_NoPlace : Addr) : TS :=
(tSeq (tIfS (tNot (tTest (tChain3 (rI0 fun i j => .bl (decide (i ≤ j))) (rI0 fun i j => .bl (decide (i ≤ j))) (rI0 fun i j => .bl (decide (i < j))) (tC (.int 0)) (tVar 1) (tVar 2) (tVar 0)))) (tSeq (fun _ _ H => E (.ref x_NoPlace) none H) tNext) tNext)
tNext)
theorem go_look_at_stretch {K : PySem.W.Frag} {C : Cn} {D : Ends} {E : XK} (x_NoPlace : Addr) (many_ : Int) (a_ : Int) (b_ : Int)  (hR : RetOk C D rNone (fun (b : Unit) => 0 ≤ a_ ∧ a_ ≤ b_ ∧ b_ < many_)) (hE : ExcOk C E (fun c => (c = x_NoPlace ∧ ¬ (0 ≤ a_ ∧ a_ ≤ b_ ∧ b_ < many_)))) (hN : ∀ H, D.rt .non H → ∀ σ, D.nx σ H) :
    Go C (t_look_at_stretch K E x_NoPlace) D [.val .m rInt many_, .val .m rInt a_, .val .m rInt b_] := by
  unfold t_look_at_stretch
  refine q_ifT (ec_not (ec_chain3 (p := fun i j => i ≤ j) (q := fun i j => i ≤ j) (r := fun i j => i < j) (ev_int) (((ev_var (R := rInt) (a := a_) rfl)).toh) (((ev_var (R := rInt) (a := b_) rfl)).toh) (((ev_var (R := rInt) (a := many_) rfl)).toh))) (fun h1 => ?_) (fun h1 => ?_)
  · refine q_raise hE ?_
    exact ⟨rfl, by assumption⟩
  refine q_retE hR hN ?_
  show 0 ≤ a_ ∧ a_ ≤ b_ ∧ b_ < many_
  exact Classical.not_not.mp (by assumption)
abbrev s_look_at_stretch : Stmt := topS 13
theorem sc_look_at_stretch : FnScope ["many", "a", "b"] ["many", "a", "b"] (defScope s_look_at_stretch) := ⟨rfl, rfl, rfl, by decide +kernel, rfl, by decide +kernel, by decide +kernel⟩
theorem ok_look_at_stretch {P : Program} {w : PySem.World} {K : PySem.W.Frag} {mg : Str → Option Value} {base : Heap} {x_NoPlace : Addr} {f : Addr} {fd : FuncData} (F : Fun K "look_at_stretch" "look_at_stretch" s_look_at_stretch f fd) (z_NoPlace : ExcT K mg x_NoPlace "NoPlace") : FnOk P w K mg base (L2.CX P w) 1 f fd ["many", "a", "b"] (sp_look_at_stretch x_NoPlace) := by
  have sc := sc_look_at_stretch
  refine F.okX sc (fun vs H Q E h => ?_) (fun cdv A outer s H vs Q E hr h => ?_)
  · obtain ⟨a_, ha_, _⟩ := h
    obtain ⟨v1, _, rfl, _ha1, ⟨v2, _, rfl, _ha2, ⟨v3, _, rfl, _ha3, rfl⟩⟩⟩ := ha_
    rfl
  · obtain ⟨⟨many_, a_, b_, _⟩, ⟨v1, _, rfl, ha1, ⟨v2, _, rfl, ha2, ⟨v3, _, rfl, ha3, rfl⟩⟩⟩, _, hR, hE⟩ := spF_open PIlaw (n := fun _ H' => Q .non H') h
    refine ⟨t_look_at_stretch K E x_NoPlace, ?_, go_look_at_stretch (C := (Cn0 PIlaw H)) x_NoPlace many_ a_ b_ hR hE (fun _ h _ => h) _ (W0 H []) (world_of (bok0 (PI := PIlaw) H) ⟨⟨by decide, v1, rfl, rInt.mono (mw0 (PI := PIlaw) H) ha1⟩, ⟨⟨by decide, v2, rfl, rInt.mono (mw0 (PI := PIlaw) H) ha2⟩, ⟨⟨by decide, v3, rfl, rInt.mono (mw0 (PI := PIlaw) H) ha3⟩, trivial⟩⟩⟩ rfl)⟩
    unfold t_look_at_stretch
    exact (pss_cons (ps_if (pt_not (pt_chain3 op_le op_le op_lt pe_int (pv 1) (pv 2) (pv 0))) (pss_cons (ps_raise rfl (takes_of rfl rfl rfl rfl) (pmk_own PySem.F.excBase_ValueError z_NoPlace.x z_NoPlace.g z_NoPlace.k (raises_own z_NoPlace.b z_NoPlace.t) (by exact rfl))) pss_nil) pss_nil)
pss_nil)
def sp_least_place : Sp := spF (aCons (rSeq rInt) (aCons rInt (aCons rInt aNil))) (fun (a : (List Int) × Int × Int × Unit) => (0 ≤ a.2.1 ∧ a.2.1 ≤ a.2.2.1 ∧ a.2.2.1 < a.1.length) ∧ (a.1.length ≤ 100000)) rInt (fun (a : (List Int) × Int × Int × Unit) b => b = TM.low a.1 a.2.1 a.2.2.1) (fun _ _ => False)
theorem call_least_place {C : Cn} {Γ : List Ent} {E : XK} {t1 : TE} {t2 : TE} {t3 : TE} {a1 : (List Int)} {a2 : Int} {a3 : Int} (h1 : Ev C t1 Γ .h (rSeq rInt) a1) (h2 : Ev C t2 Γ .h rInt a2) (h3 : Ev C t3 Γ .h rInt a3) (hp0 : 0 ≤ a2 ∧ a2 ≤ a3 ∧ a3 < a1.length) (hp1 : a1.length ≤ 100000) : EvX C (tCall (sp_least_place) [] E (tCons t1 (tCons t2 (tCons t3 tNil)))) Γ (ResF C rInt (fun b => b = TM.low a1 a2 a3)) := ed_call3 h1 h2 h3 ⟨hp0, hp1⟩ exc0 (fun _ z => z)
theorem callx_least_place {C : Cn} {Γ : List Ent} {E : XK} {t1 : TE} {t2 : TE} {t3 : TE} {P1 : (List Int) → Prop} {P2 : Int → Prop} {P3 : Int → Prop} (h1 : EvP C t1 Γ .h (rSeq rInt) P1) (h2 : EvP C t2 Γ .h rInt P2) (h3 : EvP C t3 Γ .h rInt P3) (hp0 : ∀ a1 a2 a3, P1 a1 → P2 a2 → P3 a3 → (0 ≤ a2 ∧ a2 ≤ a3 ∧ a3 < a1.length)) (hp1 : ∀ a1 a2 a3, P1 a1 → P2 a2 → P3 a3 → (a1.length ≤ 100000)) : EvX C (tCall (sp_least_place) [] E (tCons t1 (tCons t2 (tCons t3 tNil)))) Γ (ResF C rInt (fun b => ∃ a1 a2 a3, P1 a1 ∧ P2 a2 ∧ P3 a3 ∧ (b = TM.low a1 a2 a3))) := ex_call3 h1 h2 h3 (fun a1 a2 a3 _p1 _p2 _p3 => ⟨hp0 a1 a2 a3 _p1 _p2 _p3, hp1 a1 a2 a3 _p1 _p2 _p3⟩) exc0 (fun a1 a2 a3 _p1 _p2 _p3 => fun _ z => z)
def t_least_place (K : PySem.W.Frag) (E : XK) : TS :=
(tSeq (tAsg (tVar 1) (gName 3))
(tSeq (tFor (iRng2 (tCons (tOp (rI0 fun i j => .int (i + j)) (tVar 1) (tC (.int 1))) (tCons (tOp (rI0 fun i j => .int (i + j)) (tVar 2) (tC (.int 1))) tNil))) (gName 4)
(tSeq (tIfS (tTest (tOp (rI0 fun i j => .bl (decide (i < j))) (tOp (rIxK K .e) (tVar 0) (tVar 4)) (tOp (rIxK K .e) (tVar 0) (tVar 3)))) (tSeq (tAsg (tVar 4) (gName 3))
tNext) tNext)
tNext))
(tSeq (tRet (tVar 3)) tNext)))
theorem go_least_place {K : PySem.W.Frag} {C : Cn} {D : Ends} {E : XK} (row_ : (List Int)) (a_ : Int) (b_ : Int) (hp0 : 0 ≤ a_ ∧ a_ ≤ b_ ∧ b_ < row_.length) (hp1 : row_.length ≤ 100000) (hR : RetOk C D rInt (fun b => b = TM.low row_ a_ b_)) :
    Go C (t_least_place K E) D [.val .m (rSeq rInt) row_, .val .m rInt a_, .val .m rInt b_, .no, .no] := by
  unfold t_least_place
  refine q_asg (i := 3) (ℓ := .g) (((ev_var (R := rInt) (a := a_) rfl)).fl fl_int) (fun best1 hbest1 => ?_)
  replace hbest1 : best1 = a_ := hbest1
  refine q_forD (j := 4) (σS := Int) (fun s => [.val .m (rSeq rInt) row_, .val .m rInt a_, .val .m rInt b_, .val .g rInt s, .no]) (fun (i : Nat) (s : Int) => (TM.FL row_ a_ (a_ + (i : Nat)) s)) best1 (ei_rg2d (b := true) (ℓ := .g) ((ev_add (((ev_var (R := rInt) (a := a_) rfl)).toh) (ev_int))) ((ev_add (((ev_var (R := rInt) (a := b_) rfl)).toh) (ev_int))) (by first | omega | assumption | (simp; done) | (constructor <;> omega) | (simp; omega))) (by
        show (TM.FL row_ a_ (a_ + (0 : Nat)) best1)
        rw [hbest1]; exact TM.lp_init row_) (LeG.k (LeG.k (LeG.k (LeG.k (LeG.f LeG.nil))))) (fun C1 hc1 i1 x2 s hx2 hI0 => ?_) (fun s hI0 => ?_)
  · revert s hI0; intro best3 hI0
    replace hI0 : (TM.FL row_ a_ (a_ + (i1 : Nat)) best3) := hI0
    have hR := hR.ex hc1
    have hx2l := at_lt hx2
    have hx2r := rg_at hx2
    rw [rg_len] at hx2l
    refine q_ifC (ec_tst (ev_lt (((ev_ix (es_seq (ev_var (R := (rSeq rInt)) (a := row_) rfl)) (((ev_var (R := rInt) (a := x2) rfl)).toh) (by first | omega | assumption | (simp; done) | (constructor <;> omega) | (simp; omega)))).toh) (((ev_ix (es_seq (ev_var (R := (rSeq rInt)) (a := row_) rfl)) (((ev_var (R := rInt) (a := best3) rfl)).toh) (by have := hI0.ah; have := hI0.hb; omega))).toh))) (fun h4 => ?_) (fun h4 => ?_)
    · refine q_asg (i := 3) (ℓ := .g) ((ev_var (R := rInt) (a := x2) rfl)) (fun best5 hbest5 => ?_)
      replace hbest5 : best5 = x2 := hbest5
      refine q_next (?_ : Go _ tNext _ _)
      refine q_next (hol_in best5 ?_ (LeG.k (LeG.k (LeG.k (LeG.k (LeG.f LeG.nil))))))
      show (TM.FL row_ a_ (a_ + ((i1 + 1) : Nat)) best5)
      first | (rw [hbest5]; exact (TM.lp_step hp0.1 hI0 (rg_at hx2).1).1 (by assumption)) | exact (TM.lp_step hp0.1 hI0 (rg_at hx2).1).2 (by assumption)
    · refine q_next (?_ : Go _ tNext _ _)
      refine q_next (hol_in best3 ?_ (LeG.k (LeG.k (LeG.k (LeG.k (LeG.f LeG.nil))))))
      show (TM.FL row_ a_ (a_ + ((i1 + 1) : Nat)) best3)
      first | (rw [hbest3]; exact (TM.lp_step hp0.1 hI0 (rg_at hx2).1).1 (by assumption)) | exact (TM.lp_step hp0.1 hI0 (rg_at hx2).1).2 (by assumption)
  revert s hI0; intro best6 hI0
  replace hI0 : (TM.FL row_ a_ (a_ + (((rg (a_ + (1 : Int)) (b_ + (1 : Int)))).length : Nat)) best6) := hI0
  simp only [rg_len] at hI0
  show Go _ _ _ [.val .m (rSeq rInt) row_, .val .m rInt a_, .val .m rInt b_, .val .g rInt best6, .no]
  refine q_ret ((ev_var (R := rInt) (a := best6) rfl)) hR (fun r7 hr7 => ?_)
  replace hr7 : r7 = best6 := hr7
  show r7 = TM.low row_ a_ b_
  rw [hr7]
  rw [show a_ + (((b_ + 1 - (a_ + 1)).toNat : Nat) : Int) = b_ by omega] at hI0; exact hI0.low hp0
abbrev s_least_place : Stmt := topS 14
theorem sc_least_place : FnScope ["row", "a", "b", "best", "place"] ["row", "a", "b"] (defScope s_least_place) := ⟨rfl, rfl, rfl, by decide +kernel, rfl, by decide +kernel, by decide +kernel⟩
theorem ok_least_place {P : Program} {w : PySem.World} {K : PySem.W.Frag} {mg : Str → Option Value} {base : Heap} {f : Addr} {fd : FuncData} (F : Fun K "least_place" "least_place" s_least_place f fd) (m_range : mg "range" = none) : FnOk P w K mg base CX0 1 f fd ["row", "a", "b"] sp_least_place := by
  have sc := sc_least_place
  refine F.ok sc (fun vs H Q E h => ?_) (fun cdv A outer s H vs Q E hr h => ?_)
  · obtain ⟨a_, ha_, _⟩ := h
    obtain ⟨v1, _, rfl, _ha1, ⟨v2, _, rfl, _ha2, ⟨v3, _, rfl, _ha3, rfl⟩⟩⟩ := ha_
    rfl
  · obtain ⟨⟨row_, a_, b_, _⟩, ⟨v1, _, rfl, ha1, ⟨v2, _, rfl, ha2, ⟨v3, _, rfl, ha3, rfl⟩⟩⟩, ⟨hp0, hp1⟩, hR, hE⟩ := spF_open PIlaw (n := fun _ H' => Q .non H') h
    refine ⟨t_least_place K E, ?_, go_least_place (C := (Cn0 PIlaw H)) row_ a_ b_ hp0 hp1 hR _ (W0 H []) (world_of (bok0 (PI := PIlaw) H) ⟨⟨by decide, v1, rfl, (rSeq rInt).mono (mw0 (PI := PIlaw) H) ha1⟩, ⟨⟨by decide, v2, rfl, rInt.mono (mw0 (PI := PIlaw) H) ha2⟩, ⟨⟨by decide, v3, rfl, rInt.mono (mw0 (PI := PIlaw) H) ha3⟩, ⟨trivial, ⟨trivial, trivial⟩⟩⟩⟩⟩ rfl)⟩
    unfold t_least_place
    exact (pss_cons (ps_set (i := 3) sc.nd rfl (Or.inl rfl) (pv 1))
(pss_cons (ps_for PassesOwn.never rfl (pi_range2 rfl m_range (pa_cons (pe_op op_add (pv 1) pe_int) (pa_cons (pe_op op_add (pv 2) pe_int) pa_nil))) (pg_name (i := 4) sc.nd rfl (Or.inl rfl))
(pss_cons (ps_if (pt_cmpR op_lt (pe_ix ix_seq (pv 0) (pv 4) (fun _ _ => rfl)) (pe_ix ix_seq (pv 0) (pv 3) (fun _ _ => rfl)) (nomark _)) (pss_cons (ps_set (i := 3) sc.nd rfl (Or.inl rfl) (pv 4))
pss_nil) pss_nil)
pss_nil))
(pss_cons (ps_ret (pv 3)) pss_nil)))
def sp_low (x_NoPlace : Addr) : Sp := spF (aCons (rSeq rInt) (aCons rInt (aCons rInt aNil))) (fun (a : (List Int) × Int × Int × Unit) => (a.1.length ≤ 100000)) rInt (fun (a : (List Int) × Int × Int × Unit) b => b = TM.low a.1 a.2.1 a.2.2.1 ∧ (0 ≤ a.2.1 ∧ a.2.1 ≤ a.2.2.1 ∧ a.2.2.1 < a.1.length)) (fun (a : (List Int) × Int × Int × Unit) c => (c = x_NoPlace ∧ ¬ (0 ≤ a.2.1 ∧ a.2.1 ≤ a.2.2.1 ∧ a.2.2.1 < a.1.length)))
theorem call_low {C : Cn} {Γ : List Ent} {E : XK} {x_NoPlace : Addr} {t1 : TE} {t2 : TE} {t3 : TE} {a1 : (List Int)} {a2 : Int} {a3 : Int} (h1 : Ev C t1 Γ .h (rSeq rInt) a1) (h2 : Ev C t2 Γ .h rInt a2) (h3 : Ev C t3 Γ .h rInt a3) (hp0 : a1.length ≤ 100000) {Pe : Addr → Prop} (hE : ExcOk C E Pe) (he : ∀ c, ((c = x_NoPlace ∧ ¬ (0 ≤ a2 ∧ a2 ≤ a3 ∧ a3 < a1.length))) → Pe c) : EvX C (tCall (sp_low x_NoPlace) [] E (tCons t1 (tCons t2 (tCons t3 tNil)))) Γ (ResF C rInt (fun b => b = TM.low a1 a2 a3)) := EvX.imp (ed_call3 h1 h2 h3 hp0 hE he) (fun _ h => h.1)
theorem calln_low {C : Cn} {Γ : List Ent} {E : XK} {x_NoPlace : Addr} {t1 : TE} {t2 : TE} {t3 : TE} {a1 : (List Int)} {a2 : Int} {a3 : Int} (h1 : Ev C t1 Γ .h (rSeq rInt) a1) (h2 : Ev C t2 Γ .h rInt a2) (h3 : Ev C t3 Γ .h rInt a3) (hp0 : a1.length ≤ 100000) {Pe : Addr → Prop} (hE : ExcOk C E Pe) (he : ∀ c, ((c = x_NoPlace ∧ ¬ (0 ≤ a2 ∧ a2 ≤ a3 ∧ a3 < a1.length))) → Pe c) : EvX C (tCall (sp_low x_NoPlace) [] E (tCons t1 (tCons t2 (tCons t3 tNil)))) Γ (ResF C rInt (fun b => b = TM.low a1 a2 a3 ∧ (0 ≤ a2 ∧ a2 ≤ a3 ∧ a3 < a1.length))) := ed_call3 h1 h2 h3 hp0 hE he
theorem callsn_low {C : Cn} {Γ : List Ent} {x_NoPlace : Addr} {t1 : TE} {t2 : TE} {t3 : TE} {a1 : (List Int)} {a2 : Int} {a3 : Int} (h1 : Ev C t1 Γ .h (rSeq rInt) a1) (h2 : Ev C t2 Γ .h rInt a2) (h3 : Ev C t3 Γ .h rInt a3) (hp0 : a1.length ≤ 100000) {W0 : WX} {Pe : Addr → Prop} (hE : ExcOkG C W0 Γ Pe) (he : ∀ c, ((c = x_NoPlace ∧ ¬ (0 ≤ a2 ∧ a2 ≤ a3 ∧ a3 < a1.length))) → Pe c) : EvX C (tCallS (sp_low x_NoPlace) (WE W0) (tCons t1 (tCons t2 (tCons t3 tNil)))) Γ (ResF C rInt (fun b => b = TM.low a1 a2 a3 ∧ (0 ≤ a2 ∧ a2 ≤ a3 ∧ a3 < a1.length))) := esd_call3 h1 h2 h3 hp0 hE he
theorem calls_low {C : Cn} {Γ : List Ent} {x_NoPlace : Addr} {t1 : TE} {t2 : TE} {t3 : TE} {a1 : (List Int)} {a2 : Int} {a3 : Int} (h1 : Ev C t1 Γ .h (rSeq rInt) a1) (h2 : Ev C t2 Γ .h rInt a2) (h3 : Ev C t3 Γ .h rInt a3) (hp0 : a1.length ≤ 100000) {W0 : WX} {Pe : Addr → Prop} (hE : ExcOkG C W0 Γ Pe) (he : ∀ c, ((c = x_NoPlace ∧ ¬ (0 ≤ a2 ∧ a2 ≤ a3 ∧ a3 < a1.length))) → Pe c) : EvX C (tCallS (sp_low x_NoPlace) (WE W0) (tCons t1 (tCons t2 (tCons t3 tNil)))) Γ (ResF C rInt (fun b => b = TM.low a1 a2 a3)) := EvX.imp (esd_call3 h1 h2 h3 hp0 hE he) (fun _ h => h.1)
-- no callx
def t_low (K : PySem.W.Frag) (E : XK) (x_NoPlace : Addr) : TS :=
(tSeq (tDrop (tCall (sp_look_at_stretch x_NoPlace) [] E (tCons (tCB (rLenS K) (tCons (tVar 0) tNil)) (tCons (tVar 1) (tCons (tVar 2) tNil)))))
(tSeq (tRet (tCall sp_least_place [] E0 (tCons (tVar 0) (tCons (tVar 1) (tCons (tVar 2) tNil))))) tNext))
theorem go_low {K : PySem.W.Frag} {C : Cn} {D : Ends} {E : XK} (x_NoPlace : Addr) (row_ : (List Int)) (a_ : Int) (b_ : Int) (hp0 : row_.length ≤ 100000) (hR : RetOk C D rInt (fun b => b = TM.low row_ a_ b_ ∧ (0 ≤ a_ ∧ a_ ≤ b_ ∧ b_ < row_.length))) (hE : ExcOk C E (fun c => (c = x_NoPlace ∧ ¬ (0 ≤ a_ ∧ a_ ≤ b_ ∧ b_ < row_.length)))) :
    Go C (t_low K E x_NoPlace) D [.val .m (rSeq rInt) row_, .val .m rInt a_, .val .m rInt b_] := by
  unfold t_low
  refine q_drop (ev_call (call_look_at_stretch ((ev_len (es_seq (ev_var (R := (rSeq rInt)) (a := row_) rfl)))) (((ev_var (R := rInt) (a := a_) rfl)).toh) (((ev_var (R := rInt) (a := b_) rfl)).toh)  hE (by intro c hc; exact hc))) (fun _ hk1 => ?_)
  replace hk1 : 0 ≤ a_ ∧ a_ ≤ b_ ∧ b_ < ((row_).length : Int) := hk1
  refine q_ret ((ev_call (call_least_place (((ev_var (R := (rSeq rInt)) (a := row_) rfl)).toh) (((ev_var (R := rInt) (a := a_) rfl)).toh) (((ev_var (R := rInt) (a := b_) rfl)).toh) (by first | omega | assumption | (simp; done) | (constructor <;> omega) | (simp; omega)) (by first | omega | assumption | (simp; done) | (constructor <;> omega) | (simp; omega))))) hR (fun r2 hr2 => ?_)
  replace hr2 : r2 = (TM.low row_ a_ b_) := hr2
  show r2 = TM.low row_ a_ b_ ∧ (0 ≤ a_ ∧ a_ ≤ b_ ∧ b_ < row_.length)
  rw [hr2]
  exact ⟨rfl, by assumption⟩
abbrev s_low : Stmt := topS 15
theorem sc_low : FnScope ["row", "a", "b"] ["row", "a", "b"] (defScope s_low) := ⟨rfl, rfl, rfl, by decide +kernel, rfl, by decide +kernel, by decide +kernel⟩
theorem ok_low {P : Program} {w : PySem.World} {K : PySem.W.Frag} {mg : Str → Option Value} {base : Heap} {x_NoPlace : Addr} {f : Addr} {fd : FuncData} (F : Fun K "low" "low" s_low f fd) {f_look_at_stretch : Addr} {d_look_at_stretch : FuncData} (c_look_at_stretch : Cal P w K mg base (L2.CX P w) 1 "look_at_stretch" ["many", "a", "b"] (sp_look_at_stretch x_NoPlace) f_look_at_stretch d_look_at_stretch) {f_least_place : Addr} {d_least_place : FuncData} (c_least_place : Cal P w K mg base CX0 1 "least_place" ["row", "a", "b"] sp_least_place f_least_place d_least_place) (m_len : mg "len" = none) : FnOk P w K mg base (L2.CX P w) 2 f fd ["row", "a", "b"] (sp_low x_NoPlace) := by
  have sc := sc_low
  refine F.okX sc (fun vs H Q E h => ?_) (fun cdv A outer s H vs Q E hr h => ?_)
  · obtain ⟨a_, ha_, _⟩ := h
    obtain ⟨v1, _, rfl, _ha1, ⟨v2, _, rfl, _ha2, ⟨v3, _, rfl, _ha3, rfl⟩⟩⟩ := ha_
    rfl
  · obtain ⟨⟨row_, a_, b_, _⟩, ⟨v1, _, rfl, ha1, ⟨v2, _, rfl, ha2, ⟨v3, _, rfl, ha3, rfl⟩⟩⟩, hp0, hR, hE⟩ := spF_open PIlaw (n := fun _ H' => Q .non H') h
    refine ⟨t_low K E x_NoPlace, ?_, go_low (C := (Cn0 PIlaw H)) x_NoPlace row_ a_ b_ hp0 hR hE _ (W0 H []) (world_of (bok0 (PI := PIlaw) H) ⟨⟨by decide, v1, rfl, (rSeq rInt).mono (mw0 (PI := PIlaw) H) ha1⟩, ⟨⟨by decide, v2, rfl, rInt.mono (mw0 (PI := PIlaw) H) ha2⟩, ⟨⟨by decide, v3, rfl, rInt.mono (mw0 (PI := PIlaw) H) ha3⟩, trivial⟩⟩⟩ rfl)⟩
    unfold t_low
    exact (pss_cons (ps_expr (pe_call c_look_at_stretch.ok (hr.mono (by decide)) (by rfl) c_look_at_stretch.g c_look_at_stretch.kp c_look_at_stretch.b .nil (passes_call (takes_of rfl rfl rfl rfl) (fun _ _ _ _ z => z)) (pa_cons (pe_callB call_len_seq (by rfl) m_len bt_len (pa_cons (pv 0) pa_nil)) (pa_cons (pv 1) (pa_cons (pv 2) pa_nil)))))
(pss_cons (ps_ret (pe_call c_least_place.ok (hr.mono (by decide)) (by rfl) c_least_place.g c_least_place.kp c_least_place.b .nil pass0 (pa_cons (pv 0) (pa_cons (pv 1) (pa_cons (pv 2) pa_nil))))) pss_nil))
def sp_parts_them : Sp := spF (aCons (rSeq rInt) (aCons (rSeq rInt) (aCons rInt (aCons rInt aNil)))) (fun (a : (List Int) × (List Int) × Int × Int × Unit) => (a.1.length ≤ 1000) ∧ ((a.2.1.length : Int) = a.1.length)) rBool (fun (a : (List Int) × (List Int) × Int × Int × Unit) b => b = TM.partsB a.1 a.2.1 a.2.2.1 a.2.2.2.1) (fun _ _ => False)
theorem call_parts_them {C : Cn} {Γ : List Ent} {E : XK} {t1 : TE} {t2 : TE} {t3 : TE} {t4 : TE} {a1 : (List Int)} {a2 : (List Int)} {a3 : Int} {a4 : Int} (h1 : Ev C t1 Γ .h (rSeq rInt) a1) (h2 : Ev C t2 Γ .h (rSeq rInt) a2) (h3 : Ev C t3 Γ .h rInt a3) (h4 : Ev C t4 Γ .h rInt a4) (hp0 : a1.length ≤ 1000) (hp1 : (a2.length : Int) = a1.length) : EvX C (tCall (sp_parts_them) [] E (tCons t1 (tCons t2 (tCons t3 (tCons t4 tNil))))) Γ (ResF C rBool (fun b => b = TM.partsB a1 a2 a3 a4)) := ed_call4 h1 h2 h3 h4 ⟨hp0, hp1⟩ exc0 (fun _ z => z)
theorem callx_parts_them {C : Cn} {Γ : List Ent} {E : XK} {t1 : TE} {t2 : TE} {t3 : TE} {t4 : TE} {P1 : (List Int) → Prop} {P2 : (List Int) → Prop} {P3 : Int → Prop} {P4 : Int → Prop} (h1 : EvP C t1 Γ .h (rSeq rInt) P1) (h2 : EvP C t2 Γ .h (rSeq rInt) P2) (h3 : EvP C t3 Γ .h rInt P3) (h4 : EvP C t4 Γ .h rInt P4) (hp0 : ∀ a1 a2 a3 a4, P1 a1 → P2 a2 → P3 a3 → P4 a4 → (a1.length ≤ 1000)) (hp1 : ∀ a1 a2 a3 a4, P1 a1 → P2 a2 → P3 a3 → P4 a4 → ((a2.length : Int) = a1.length)) : EvX C (tCall (sp_parts_them) [] E (tCons t1 (tCons t2 (tCons t3 (tCons t4 tNil))))) Γ (ResF C rBool (fun b => ∃ a1 a2 a3 a4, P1 a1 ∧ P2 a2 ∧ P3 a3 ∧ P4 a4 ∧ (b = TM.partsB a1 a2 a3 a4))) := ex_call4 h1 h2 h3 h4 (fun a1 a2 a3 a4 _p1 _p2 _p3 _p4 => ⟨hp0 a1 a2 a3 a4 _p1 _p2 _p3 _p4, hp1 a1 a2 a3 a4 _p1 _p2 _p3 _p4⟩) exc0 (fun a1 a2 a3 a4 _p1 _p2 _p3 _p4 => fun _ z => z)
def t_parts_them (K : PySem.W.Frag) (E : XK) (x_NoPlace : Addr) : TS :=
(tSeq (tIfS (tOr (tTest (tOp (rI0 fun i j => .bl (decide (i < j))) (tVar 2) (tC (.int 0)))) (tOr (tTest (tOp (rI0 fun i j => .bl (decide (i < j))) (tVar 3) (tVar 2))) (tTest (tOp (rI0 fun i j => .bl (decide (j ≤ i))) (tVar 3) (tCB (rLenS K) (tCons (tVar 0) tNil)))))) (tSeq (tRet (tC (.bl false))) tNext) tNext)
(tSeq (tRet (tOp rNe (tCall (sp_low x_NoPlace) [] E0 (tCons (tVar 0) (tCons (tVar 2) (tCons (tVar 3) tNil)))) (tCall (sp_low x_NoPlace) [] E0 (tCons (tVar 1) (tCons (tVar 2) (tCons (tVar 3) tNil)))))) tNext))
theorem go_parts_them {K : PySem.W.Frag} {C : Cn} {D : Ends} {E : XK} (x_NoPlace : Addr) (row_ : (List Int)) (other_ : (List Int)) (a_ : Int) (b_ : Int) (hp0 : row_.length ≤ 1000) (hp1 : (other_.length : Int) = row_.length) (hR : RetOk C D rBool (fun b => b = TM.partsB row_ other_ a_ b_)) :
    Go C (t_parts_them K E x_NoPlace) D [.val .m (rSeq rInt) row_, .val .m (rSeq rInt) other_, .val .m rInt a_, .val .m rInt b_] := by
  unfold t_parts_them
  refine q_ifT (ec_or (ec_tst (ev_lt (((ev_var (R := rInt) (a := a_) rfl)).toh) (ev_int))) (fun hb1 => (ec_or (ec_tst (ev_lt (((ev_var (R := rInt) (a := b_) rfl)).toh) (((ev_var (R := rInt) (a := a_) rfl)).toh))) (fun hb2 => (ec_tst (ev_ge (((ev_var (R := rInt) (a := b_) rfl)).toh) ((ev_len (es_seq (ev_var (R := (rSeq rInt)) (a := row_) rfl)))))))))) (fun h4 => ?_) (fun h4 => ?_)
  · refine q_ret (ev_bl) hR (fun r5 hr5 => ?_)
    replace hr5 : r5 = false := hr5
    show r5 = TM.partsB row_ other_ a_ b_
    rw [hr5]
    unfold TM.partsB; rw [decide_eq_false (by omega)]; rfl
  refine q_ret ((ev_neI (((ev_call (call_low (((ev_var (R := (rSeq rInt)) (a := row_) rfl)).toh) (((ev_var (R := rInt) (a := a_) rfl)).toh) (((ev_var (R := rInt) (a := b_) rfl)).toh) (by first | omega | assumption | (simp; done) | (constructor <;> omega) | (simp; omega)) exc0 (by rintro c ⟨_, z⟩; omega)))).toh) (((ev_call (call_low (((ev_var (R := (rSeq rInt)) (a := other_) rfl)).toh) (((ev_var (R := rInt) (a := a_) rfl)).toh) (((ev_var (R := rInt) (a := b_) rfl)).toh) (by first | omega | assumption | (simp; done) | (constructor <;> omega) | (simp; omega)) exc0 (by rintro c ⟨_, z⟩; omega)))).toh))) hR (fun r6 hr6 => ?_)
  replace hr6 : r6 = (!decide ((TM.low row_ a_ b_) = (TM.low other_ a_ b_))) := hr6
  show r6 = TM.partsB row_ other_ a_ b_
  rw [hr6]
  unfold TM.partsB; rw [decide_eq_true (show 0 ≤ a_ ∧ a_ ≤ b_ ∧ b_ < ((row_).length : Int) by omega)]; simp
abbrev s_parts_them : Stmt := topS 29
theorem sc_parts_them : FnScope ["row", "other", "a", "b"] ["row", "other", "a", "b"] (defScope s_parts_them) := ⟨rfl, rfl, rfl, by decide +kernel, rfl, by decide +kernel, by decide +kernel⟩
theorem ok_parts_them {P : Program} {w : PySem.World} {K : PySem.W.Frag} {mg : Str → Option Value} {base : Heap} {x_NoPlace : Addr} {f : Addr} {fd : FuncData} (F : Fun K "parts_them" "parts_them" s_parts_them f fd) {f_low : Addr} {d_low : FuncData} (c_low : Cal P w K mg base (L2.CX P w) 2 "low" ["row", "a", "b"] (sp_low x_NoPlace) f_low d_low) (m_len : mg "len" = none) : FnOk P w K mg base CX0 3 f fd ["row", "other", "a", "b"] sp_parts_them := by
  have sc := sc_parts_them
  refine F.ok sc (fun vs H Q E h => ?_) (fun cdv A outer s H vs Q E hr h => ?_)
  · obtain ⟨a_, ha_, _⟩ := h
    obtain ⟨v1, _, rfl, _ha1, ⟨v2, _, rfl, _ha2, ⟨v3, _, rfl, _ha3, ⟨v4, _, rfl, _ha4, rfl⟩⟩⟩⟩ := ha_
    rfl
  · obtain ⟨⟨row_, other_, a_, b_, _⟩, ⟨v1, _, rfl, ha1, ⟨v2, _, rfl, ha2, ⟨v3, _, rfl, ha3, ⟨v4, _, rfl, ha4, rfl⟩⟩⟩⟩, ⟨hp0, hp1⟩, hR, hE⟩ := spF_open PIlaw (n := fun _ H' => Q .non H') h
    refine ⟨t_parts_them K E x_NoPlace, ?_, go_parts_them (C := (Cn0 PIlaw H)) x_NoPlace row_ other_ a_ b_ hp0 hp1 hR _ (W0 H []) (world_of (bok0 (PI := PIlaw) H) ⟨⟨by decide, v1, rfl, (rSeq rInt).mono (mw0 (PI := PIlaw) H) ha1⟩, ⟨⟨by decide, v2, rfl, (rSeq rInt).mono (mw0 (PI := PIlaw) H) ha2⟩, ⟨⟨by decide, v3, rfl, rInt.mono (mw0 (PI := PIlaw) H) ha3⟩, ⟨⟨by decide, v4, rfl, rInt.mono (mw0 (PI := PIlaw) H) ha4⟩, trivial⟩⟩⟩⟩ rfl)⟩
    unfold t_parts_them
    exact (pss_cons (ps_if (PW.pt (pw_or (pt_cmpR op_lt (pv 2) pe_int (nomark _)) (pw_or (pt_cmpR op_lt (pv 3) (pv 2) (nomark _)) (pw_or1 (pt_cmpR op_ge (pv 3) (pe_callB call_len_seq (by rfl) m_len bt_len (pa_cons (pv 0) pa_nil)) (nomark _)))))) (pss_cons (ps_ret pe_bl) pss_nil) pss_nil)
(pss_cons (ps_ret (pe_cmpR op_ne (pe_call c_low.ok (hr.mono (by decide)) (by rfl) c_low.g c_low.kp c_low.b .nil passL (pa_cons (pv 0) (pa_cons (pv 2) (pa_cons (pv 3) pa_nil)))) (pe_call c_low.ok (hr.mono (by decide)) (by rfl) c_low.g c_low.kp c_low.b .nil passL (pa_cons (pv 1) (pa_cons (pv 2) (pa_cons (pv 3) pa_nil)))) (nomark _))) pss_nil))
def sp_starts_right (x_Empty : Addr) : Sp := spF (aCons (rSeq rInt) (aCons (rSeq rInt) (aCons (rSeq rInt) (aCons (rSeq (rTup rInt)) aNil)))) (fun (a : (List Int) × (List Int) × (List Int) × (List (List Int)) × Unit) => (a.1.length ≤ 1000 ∧ a.2.1.length ≤ 1000) ∧ (a.2.2.1.length ≤ 1000 ∧ a.2.2.2.1.length ≤ 1000) ∧ (∀ q_ ∈ a.2.2.2.1, q_.length = 3)) rBool (fun (a : (List Int) × (List Int) × (List Int) × (List (List Int)) × Unit) b => b = TM.srB a.1 a.2.1 a.2.2.1 a.2.2.2.1 ∧ ¬ a.1 = []) (fun (a : (List Int) × (List Int) × (List Int) × (List (List Int)) × Unit) c => (c = x_Empty ∧ a.1 = []))
theorem call_starts_right {C : Cn} {Γ : List Ent} {E : XK} {x_Empty : Addr} {t1 : TE} {t2 : TE} {t3 : TE} {t4 : TE} {a1 : (List Int)} {a2 : (List Int)} {a3 : (List Int)} {a4 : (List (List Int))} (h1 : Ev C t1 Γ .h (rSeq rInt) a1) (h2 : Ev C t2 Γ .h (rSeq rInt) a2) (h3 : Ev C t3 Γ .h (rSeq rInt) a3) (h4 : Ev C t4 Γ .h (rSeq (rTup rInt)) a4) (hp0 : a1.length ≤ 1000 ∧ a2.length ≤ 1000) (hp1 : a3.length ≤ 1000 ∧ a4.length ≤ 1000) (hp2 : ∀ q_ ∈ a4, q_.length = 3) {Pe : Addr → Prop} (hE : ExcOk C E Pe) (he : ∀ c, ((c = x_Empty ∧ a1 = [])) → Pe c) : EvX C (tCall (sp_starts_right x_Empty) [] E (tCons t1 (tCons t2 (tCons t3 (tCons t4 tNil))))) Γ (ResF C rBool (fun b => b = TM.srB a1 a2 a3 a4)) := EvX.imp (ed_call4 h1 h2 h3 h4 ⟨hp0, hp1, hp2⟩ hE he) (fun _ h => h.1)
theorem calln_starts_right {C : Cn} {Γ : List Ent} {E : XK} {x_Empty : Addr} {t1 : TE} {t2 : TE} {t3 : TE} {t4 : TE} {a1 : (List Int)} {a2 : (List Int)} {a3 : (List Int)} {a4 : (List (List Int))} (h1 : Ev C t1 Γ .h (rSeq rInt) a1) (h2 : Ev C t2 Γ .h (rSeq rInt) a2) (h3 : Ev C t3 Γ .h (rSeq rInt) a3) (h4 : Ev C t4 Γ .h (rSeq (rTup rInt)) a4) (hp0 : a1.length ≤ 1000 ∧ a2.length ≤ 1000) (hp1 : a3.length ≤ 1000 ∧ a4.length ≤ 1000) (hp2 : ∀ q_ ∈ a4, q_.length = 3) {Pe : Addr → Prop} (hE : ExcOk C E Pe) (he : ∀ c, ((c = x_Empty ∧ a1 = [])) → Pe c) : EvX C (tCall (sp_starts_right x_Empty) [] E (tCons t1 (tCons t2 (tCons t3 (tCons t4 tNil))))) Γ (ResF C rBool (fun b => b = TM.srB a1 a2 a3 a4 ∧ ¬ a1 = [])) := ed_call4 h1 h2 h3 h4 ⟨hp0, hp1, hp2⟩ hE he
theorem callsn_starts_right {C : Cn} {Γ : List Ent} {x_Empty : Addr} {t1 : TE} {t2 : TE} {t3 : TE} {t4 : TE} {a1 : (List Int)} {a2 : (List Int)} {a3 : (List Int)} {a4 : (List (List Int))} (h1 : Ev C t1 Γ .h (rSeq rInt) a1) (h2 : Ev C t2 Γ .h (rSeq rInt) a2) (h3 : Ev C t3 Γ .h (rSeq rInt) a3) (h4 : Ev C t4 Γ .h (rSeq (rTup rInt)) a4) (hp0 : a1.length ≤ 1000 ∧ a2.length ≤ 1000) (hp1 : a3.length ≤ 1000 ∧ a4.length ≤ 1000) (hp2 : ∀ q_ ∈ a4, q_.length = 3) {W0 : WX} {Pe : Addr → Prop} (hE : ExcOkG C W0 Γ Pe) (he : ∀ c, ((c = x_Empty ∧ a1 = [])) → Pe c) : EvX C (tCallS (sp_starts_right x_Empty) (WE W0) (tCons t1 (tCons t2 (tCons t3 (tCons t4 tNil))))) Γ (ResF C rBool (fun b => b = TM.srB a1 a2 a3 a4 ∧ ¬ a1 = [])) := esd_call4 h1 h2 h3 h4 ⟨hp0, hp1, hp2⟩ hE he
theorem calls_starts_right {C : Cn} {Γ : List Ent} {x_Empty : Addr} {t1 : TE} {t2 : TE} {t3 : TE} {t4 : TE} {a1 : (List Int)} {a2 : (List Int)} {a3 : (List Int)} {a4 : (List (List Int))} (h1 : Ev C t1 Γ .h (rSeq rInt) a1) (h2 : Ev C t2 Γ .h (rSeq rInt) a2) (h3 : Ev C t3 Γ .h (rSeq rInt) a3) (h4 : Ev C t4 Γ .h (rSeq (rTup rInt)) a4) (hp0 : a1.length ≤ 1000 ∧ a2.length ≤ 1000) (hp1 : a3.length ≤ 1000 ∧ a4.length ≤ 1000) (hp2 : ∀ q_ ∈ a4, q_.length = 3) {W0 : WX} {Pe : Addr → Prop} (hE : ExcOkG C W0 Γ Pe) (he : ∀ c, ((c = x_Empty ∧ a1 = [])) → Pe c) : EvX C (tCallS (sp_starts_right x_Empty) (WE W0) (tCons t1 (tCons t2 (tCons t3 (tCons t4 tNil))))) Γ (ResF C rBool (fun b => b = TM.srB a1 a2 a3 a4)) := EvX.imp (esd_call4 h1 h2 h3 h4 ⟨hp0, hp1, hp2⟩ hE he) (fun _ h => h.1)
-- no callx
def t_starts_right (K : PySem.W.Frag) (E : XK) (x_Empty : Addr) : TS :=
(tSeq (tDrop (tCall (sp_look_at_row x_Empty) [] E (tCons (tVar 0) tNil)))
(tSeq (tAsg (tLc (iEith K (tVar 3)) (gName 8) tYes (tOp (rIxK K .t) (tVar 8) (tC (.int 0))) [8]) (gName 4))
(tSeq (tIfS (tOr (tNot (tB (tCall sp_rises [] E0 (tCons (tVar 2) tNil)))) (tNot (tB (tCall sp_rises [] E0 (tCons (tVar 4) tNil))))) (tSeq (tRet (tC (.bl false))) tNext) tNext)
(tSeq (tIfS (tTest (tOp (rNeD K) (tCB (rSortedI K) (tCons (tOp rCat (tCB (rListOf K) (tCons (tVar 2) tNil)) (tVar 4)) tNil)) (tLstRg (tRg1 (tOp (rI0 fun i j => .int (i + j)) (tOp (rI0 fun i j => .int (i - j)) (tCB (rLenS K) (tCons (tVar 1) tNil)) (tCB (rLenS K) (tCons (tVar 0) tNil))) (tC (.int 1))))))) (tSeq (tRet (tC (.bl false))) tNext) tNext)
(tSeq (tFor (iEith K (tVar 2)) (gName 5)
(tSeq (tIfS (tNot (tB (tCall sp_kin [] E0 (tCons (tVar 0) (tCons (tSl (rSlE K) (tVar 1) (tPart (tVar 5)) (tPart (tOp (rI0 fun i j => .int (i + j)) (tVar 5) (tCB (rLenS K) (tCons (tVar 0) tNil))))) tNil))))) (tSeq (tRet (tC (.bl false))) tNext) tNext)
tNext))
(tSeq (tFor (iEith K (tVar 3)) (gTup K 3 (gCons (gName 5) (gCons (gName 6) (gCons (gName 7) gNil))))
(tSeq (tIfS (tNot (tB (tCall sp_parts_them [] E0 (tCons (tVar 0) (tCons (tSl (rSlE K) (tVar 1) (tPart (tVar 5)) (tPart (tOp (rI0 fun i j => .int (i + j)) (tVar 5) (tCB (rLenS K) (tCons (tVar 0) tNil))))) (tCons (tVar 6) (tCons (tVar 7) tNil))))))) (tSeq (tRet (tC (.bl false))) tNext) tNext)
tNext))
(tSeq (tRet (tC (.bl true))) tNext)))))))
theorem go_starts_right {K : PySem.W.Frag} {C : Cn} {D : Ends} {E : XK} (x_Empty : Addr) (row_ : (List Int)) (text_ : (List Int)) (starts_ : (List Int)) (others_ : (List (List Int))) (hp0 : row_.length ≤ 1000 ∧ text_.length ≤ 1000) (hp1 : starts_.length ≤ 1000 ∧ others_.length ≤ 1000) (hp2 : ∀ q_ ∈ others_, q_.length = 3) (hR : RetOk C D rBool (fun b => b = TM.srB row_ text_ starts_ others_ ∧ ¬ row_ = [])) (hE : ExcOk C E (fun c => (c = x_Empty ∧ row_ = []))) :
    Go C (t_starts_right K E x_Empty) D [.val .m (rSeq rInt) row_, .val .m (rSeq rInt) text_, .val .m (rSeq rInt) starts_, .val .m (rSeq (rTup rInt)) others_, .no, .no, .no, .no, .no] := by
  unfold t_starts_right
  refine q_drop (ev_call (call_look_at_row (((ev_var (R := (rSeq rInt)) (a := row_) rfl)).toh)  hE (by intro c hc; exact hc))) (fun _ hk1 => ?_)
  replace hk1 : ¬ row_ = [] := hk1
  refine q_asg (i := 4) (ℓ := .g) ((ev_new (ℓ := .g) (en_mapd (ℓ' := .g) (fun c2 : (List Int) => (gt c2 (0 : Int))) (ei_eith (b := false) (hc := (by intro h; exact absurd h (by decide))) (ev_var (R := (rSeq (rTup rInt))) (a := others_) rfl)) (by omega) (fun c2 hc3 => ((ev_ix (es_tup (ev_var (R := (rTup rInt)) (a := c2) rfl)) (ev_int) (by rw [hp2 _ (by assumption)]; decide))).fl fl_int)))) (fun begins5 hbegins5 => ?_)
  replace hbegins5 : begins5 = (others_.map (fun c2 : (List Int) => (gt c2 (0 : Int)))) := hbegins5
  have hbe : begins5 = (others_).map (fun q_ => gt q_ 0) := hbegins5
  have hbl : (begins5).length = (others_).length := by rw [hbe, List.length_map]
  refine q_ifT (ec_or (ec_not (ec_valB (((ev_call (call_rises (((ev_var (R := (rSeq rInt)) (a := starts_) rfl)).toh) (by omega)))).toh))) (fun hb6 => (ec_not (ec_valB (((ev_call (call_rises (((ev_seqL (ev_var (R := (rList rInt)) (a := begins5) rfl))).toh) (by omega)))).toh))))) (fun h8 => ?_) (fun h8 => ?_)
  · refine q_ret (ev_bl) hR (fun r9 hr9 => ?_)
    replace hr9 : r9 = false := hr9
    show r9 = TM.srB row_ text_ starts_ others_ ∧ ¬ row_ = []
    rw [hr9]
    refine ⟨(Bool.eq_false_iff.mpr fun z => ?_).symm, by assumption⟩
    obtain ⟨z1, z2, z3, z4⟩ := TM.sr_iff.mp z
    first
    | (have hz := (by assumption : ¬ TM.rises _ = true ∨ _)
       rw [hbe] at hz
       exact hz.elim (fun y => y z1.1) fun y => y z1.2)
    | exact (by assumption : ¬ isort _ = _) (by rw [hbe]; exact z2)
    | exact (by assumption : ¬ TM.kinB _ _ = true) (z3 _ hsm)
    | exact (by assumption : ¬ TM.partsB _ _ _ _ = true) (z4 _ hsm)
  refine q_ifT (ec_tstN (ev_neD (eqr_list eqr_int) (Nat.le_of_ble_eq_true rfl) (((ev_new (ℓ := .g) (en_sortI (ℓ := .g) (EvS.fl fl_int (es_list (ev_new (ℓ := .g) (en_catd (es_list (ev_new (ℓ := .g) (en_list (EvS.fl fl_int (es_seq (ev_var (R := (rSeq rInt)) (a := starts_) rfl)))))) (es_list (ev_var (R := (rList rInt)) (a := begins5) rfl)) (by rw [hbl]; omega)))))))).toh) (((ev_new (ℓ := .g) (en_listRg1 ((ev_add ((ev_sub ((ev_len (es_seq (ev_var (R := (rSeq rInt)) (a := text_) rfl)))) ((ev_len (es_seq (ev_var (R := (rSeq rInt)) (a := row_) rfl)))))) (ev_int))) (by omega)))).toh))) (fun h10 => ?_) (fun h10 => ?_)
  · refine q_ret (ev_bl) hR (fun r11 hr11 => ?_)
    replace hr11 : r11 = false := hr11
    show r11 = TM.srB row_ text_ starts_ others_ ∧ ¬ row_ = []
    rw [hr11]
    refine ⟨(Bool.eq_false_iff.mpr fun z => ?_).symm, by assumption⟩
    obtain ⟨z1, z2, z3, z4⟩ := TM.sr_iff.mp z
    first
    | (have hz := (by assumption : ¬ TM.rises _ = true ∨ _)
       rw [hbe] at hz
       exact hz.elim (fun y => y z1.1) fun y => y z1.2)
    | exact (by assumption : ¬ isort _ = _) (by rw [hbe]; exact z2)
    | exact (by assumption : ¬ TM.kinB _ _ = true) (z3 _ hsm)
    | exact (by assumption : ¬ TM.partsB _ _ _ _ = true) (z4 _ hsm)
  have hso : isort (starts_ ++ (others_).map (fun q_ => gt q_ 0)) = rg 0 (((text_).length : Int) - (row_).length + 1) := by rw [← hbe]; exact Classical.not_not.mp (by assumption)
  have hri : TM.rises starts_ = true ∧ TM.rises ((others_).map (fun q_ => gt q_ 0)) = true := by
    rw [← hbe]
    exact ⟨Classical.not_not.mp fun z => (by assumption : ¬ (¬ TM.rises _ = true ∨ _)) (.inl z), Classical.not_not.mp fun z => (by assumption : ¬ (¬ TM.rises _ = true ∨ _)) (.inr z)⟩
  refine q_forD (j := 5) (σS := Unit) (fun s => [.val .m (rSeq rInt) row_, .val .m (rSeq rInt) text_, .val .m (rSeq rInt) starts_, .val .m (rSeq (rTup rInt)) others_, .val .g (rList rInt) begins5, .no, .no, .no, .no]) (fun (i : Nat) (s : Unit) => (∀ s_ ∈ starts_.take i, TM.kinB row_ (sl text_ (some s_) (some (s_ + row_.length))) = true)) () (ei_eith (b := true) (hc := (by intro _; decide)) (ev_var (R := (rSeq rInt)) (a := starts_) rfl)) (by
        show (∀ s_ ∈ starts_.take 0, TM.kinB row_ (sl text_ (some s_) (some (s_ + row_.length))) = true)
        intro s_ hs_; cases hs_) (LeG.k (LeG.k (LeG.k (LeG.k (LeG.k (LeG.f (LeG.f (LeG.f (LeG.f LeG.nil))))))))) (fun C1 hc1 i1 x12 s hx12 hI0 => ?_) (fun s hI0 => ?_)
  · replace hI0 : (∀ s_ ∈ starts_.take i1, TM.kinB row_ (sl text_ (some s_) (some (s_ + row_.length))) = true) := hI0
    have hR := hR.ex hc1
    have hE := hE.ex hc1
    have hx12l := at_lt hx12
    have hsm := List.mem_of_getElem? hx12
    have hst := TM.sr_in hso (List.mem_append_left _ hsm)
    refine q_ifT (ec_not (ec_valB (((ev_call (call_kin (((ev_var (R := (rSeq rInt)) (a := row_) rfl)).toh) (((ev_slEd (ev_var (R := (rSeq rInt)) (a := text_) rfl) (eo_part (((ev_var (R := rInt) (a := x12) rfl)).toh)) (eo_part ((ev_add (((ev_var (R := rInt) (a := x12) rfl)).toh) ((ev_len (es_seq (ev_var (R := (rSeq rInt)) (a := row_) rfl))))))))).toh) (by have := sl_len_le (l := text_) (some x12) (some (x12 + (row_).length)); omega)))).toh))) (fun h13 => ?_) (fun h13 => ?_)
    · refine q_ret (ev_bl) hR (fun r14 hr14 => ?_)
      replace hr14 : r14 = false := hr14
      show r14 = TM.srB row_ text_ starts_ others_ ∧ ¬ row_ = []
      rw [hr14]
      refine ⟨(Bool.eq_false_iff.mpr fun z => ?_).symm, by assumption⟩
      obtain ⟨z1, z2, z3, z4⟩ := TM.sr_iff.mp z
      first
      | (have hz := (by assumption : ¬ TM.rises _ = true ∨ _)
         rw [hbe] at hz
         exact hz.elim (fun y => y z1.1) fun y => y z1.2)
      | exact (by assumption : ¬ isort _ = _) (by rw [hbe]; exact z2)
      | exact (by assumption : ¬ TM.kinB _ _ = true) (z3 _ hsm)
      | exact (by assumption : ¬ TM.partsB _ _ _ _ = true) (z4 _ hsm)
    refine q_next (hol_in () ?_ (LeG.k (LeG.k (LeG.k (LeG.k (LeG.k (LeG.f (LeG.f (LeG.f (LeG.f LeG.nil))))))))))
    show (∀ s_ ∈ starts_.take (i1 + 1), TM.kinB row_ (sl text_ (some s_) (some (s_ + row_.length))) = true)
    intro s_ hs_
    rw [List.take_succ, hx12, List.mem_append] at hs_
    rcases hs_ with z | z
    · exact hI0 s_ z
    · rw [Option.toList_some, List.mem_singleton] at z; rw [z]; exact Classical.not_not.mp (by assumption)
  replace hI0 : (∀ s_ ∈ starts_.take (starts_).length, TM.kinB row_ (sl text_ (some s_) (some (s_ + row_.length))) = true) := hI0
  show Go _ _ _ [.val .m (rSeq rInt) row_, .val .m (rSeq rInt) text_, .val .m (rSeq rInt) starts_, .val .m (rSeq (rTup rInt)) others_, .val .g (rList rInt) begins5, .no, .no, .no, .no]
  rw [List.take_length] at hI0
  refine q_forD3 (i := 5) (j := 6) (n := 7) (σS := Unit) (fun s => [.val .m (rSeq rInt) row_, .val .m (rSeq rInt) text_, .val .m (rSeq rInt) starts_, .val .m (rSeq (rTup rInt)) others_, .val .g (rList rInt) begins5, .no, .no, .no, .no]) (fun (i : Nat) (s : Unit) => (∀ q_ ∈ ((others_).map to3).take i, TM.partsB row_ (sl text_ (some q_.1) (some (q_.1 + row_.length))) q_.2.1 q_.2.2 = true)) () (ei_eith (b := true) (hc := fun _ => by decide) (ev_tripsE (ev_var (R := (rSeq (rTup rInt))) (a := others_) rfl) (by exact hp2))) (by
        show (∀ q_ ∈ ((others_).map to3).take 0, TM.partsB row_ (sl text_ (some q_.1) (some (q_.1 + row_.length))) q_.2.1 q_.2.2 = true)
        intro s_ hs_; cases hs_) (LeG.k (LeG.k (LeG.k (LeG.k (LeG.k (LeG.f (LeG.f (LeG.f (LeG.f LeG.nil))))))))) (fun C2 hc2 i2 x15 s hx15 hI1 => ?_) (fun s hI1 => ?_)
  · replace hI1 : (∀ q_ ∈ ((others_).map to3).take i2, TM.partsB row_ (sl text_ (some q_.1) (some (q_.1 + row_.length))) q_.2.1 q_.2.2 = true) := hI1
    have hR := hR.ex hc2
    have hE := hE.ex hc2
    have hx15l := at_lt hx15
    have hsm := List.mem_of_getElem? hx15
    obtain ⟨q0_, hq0_, hq1_⟩ := List.mem_map.mp hsm
    have hst := TM.sr_in hso (List.mem_append_right _ (List.mem_map.mpr ⟨q0_, hq0_, rfl⟩))
    have he0_ : gt q0_ 0 = x15.1 := by rw [← hq1_]; rfl
    rw [he0_] at hst
    have hsl2 := TM.sl_win (text := text_) (start := x15.1) (n := (row_).length) (by omega)
    refine q_ifT (ec_not (ec_valB (((ev_call (call_parts_them (((ev_var (R := (rSeq rInt)) (a := row_) rfl)).toh) (((ev_slEd (ev_var (R := (rSeq rInt)) (a := text_) rfl) (eo_part (((ev_var (R := rInt) (a := x15.1) rfl)).toh)) (eo_part ((ev_add (((ev_var (R := rInt) (a := x15.1) rfl)).toh) ((ev_len (es_seq (ev_var (R := (rSeq rInt)) (a := row_) rfl))))))))).toh) (((ev_var (R := rInt) (a := x15.2.1) rfl)).toh) (((ev_var (R := rInt) (a := x15.2.2) rfl)).toh) (by omega) (by omega)))).toh))) (fun h16 => ?_) (fun h16 => ?_)
    · refine q_ret (ev_bl) hR (fun r17 hr17 => ?_)
      replace hr17 : r17 = false := hr17
      show r17 = TM.srB row_ text_ starts_ others_ ∧ ¬ row_ = []
      rw [hr17]
      refine ⟨(Bool.eq_false_iff.mpr fun z => ?_).symm, by assumption⟩
      obtain ⟨z1, z2, z3, z4⟩ := TM.sr_iff.mp z
      first
      | (have hz := (by assumption : ¬ TM.rises _ = true ∨ _)
         rw [hbe] at hz
         exact hz.elim (fun y => y z1.1) fun y => y z1.2)
      | exact (by assumption : ¬ isort _ = _) (by rw [hbe]; exact z2)
      | exact (by assumption : ¬ TM.kinB _ _ = true) (z3 _ hsm)
      | exact (by assumption : ¬ TM.partsB _ _ _ _ = true) (z4 _ hsm)
    refine q_next (hol_in () ?_ (LeG.k (LeG.k (LeG.k (LeG.k (LeG.k (LeG.f (LeG.f (LeG.f (LeG.f LeG.nil))))))))))
    show (∀ q_ ∈ ((others_).map to3).take (i2 + 1), TM.partsB row_ (sl text_ (some q_.1) (some (q_.1 + row_.length))) q_.2.1 q_.2.2 = true)
    intro s_ hs_
    rw [List.take_succ, hx15, List.mem_append] at hs_
    rcases hs_ with z | z
    · exact hI1 s_ z
    · rw [Option.toList_some, List.mem_singleton] at z; rw [z]; exact Classical.not_not.mp (by assumption)
  replace hI1 : (∀ q_ ∈ ((others_).map to3).take (((others_).map to3)).length, TM.partsB row_ (sl text_ (some q_.1) (some (q_.1 + row_.length))) q_.2.1 q_.2.2 = true) := hI1
  show Go _ _ _ [.val .m (rSeq rInt) row_, .val .m (rSeq rInt) text_, .val .m (rSeq rInt) starts_, .val .m (rSeq (rTup rInt)) others_, .val .g (rList rInt) begins5, .no, .no, .no, .no]
  refine q_ret (ev_bl) hR (fun r18 hr18 => ?_)
  replace hr18 : r18 = true := hr18
  show r18 = TM.srB row_ text_ starts_ others_ ∧ ¬ row_ = []
  rw [hr18]
  rw [List.take_length] at hI1
  exact ⟨(TM.sr_iff.mpr ⟨hri, hso, hI0, hI1⟩).symm, by assumption⟩
abbrev s_starts_right : Stmt := topS 30
theorem sc_starts_right : FnScope ["row", "text", "starts", "others", "begins", "start", "a", "b", "one"] ["row", "text", "starts", "others"] (defScope s_starts_right) := ⟨rfl, rfl, rfl, by decide +kernel, rfl, by decide +kernel, by decide +kernel⟩
theorem ok_starts_right {P : Program} {w : PySem.World} {K : PySem.W.Frag} {mg : Str → Option Value} {base : Heap} {x_Empty : Addr} {f : Addr} {fd : FuncData} (F : Fun K "starts_right" "starts_right" s_starts_right f fd) {f_look_at_row : Addr} {d_look_at_row : FuncData} (c_look_at_row : Cal P w K mg base (L2.CX P w) 1 "look_at_row" ["row"] (sp_look_at_row x_Empty) f_look_at_row d_look_at_row) {f_rises : Addr} {d_rises : FuncData} (c_rises : Cal P w K mg base CX0 1 "rises" ["numbers"] sp_rises f_rises d_rises) {f_kin : Addr} {d_kin : FuncData} (c_kin : Cal P w K mg base CX0 3 "kin" ["one", "other"] sp_kin f_kin d_kin) {f_parts_them : Addr} {d_parts_them : FuncData} (c_parts_them : Cal P w K mg base CX0 3 "parts_them" ["row", "other", "a", "b"] sp_parts_them f_parts_them d_parts_them) (m_len : mg "len" = none) (m_list : mg "list" = none) (m_range : mg "range" = none) (m_sorted : mg "sorted" = none) : FnOk P w K mg base (L2.CX P w) 4 f fd ["row", "text", "starts", "others"] (sp_starts_right x_Empty) := by
  have sc := sc_starts_right
  refine F.okX sc (fun vs H Q E h => ?_) (fun cdv A outer s H vs Q E hr h => ?_)
  · obtain ⟨a_, ha_, _⟩ := h
    obtain ⟨v1, _, rfl, _ha1, ⟨v2, _, rfl, _ha2, ⟨v3, _, rfl, _ha3, ⟨v4, _, rfl, _ha4, rfl⟩⟩⟩⟩ := ha_
    rfl
  · obtain ⟨⟨row_, text_, starts_, others_, _⟩, ⟨v1, _, rfl, ha1, ⟨v2, _, rfl, ha2, ⟨v3, _, rfl, ha3, ⟨v4, _, rfl, ha4, rfl⟩⟩⟩⟩, ⟨hp0, hp1, hp2⟩, hR, hE⟩ := spF_open PIlaw (n := fun _ H' => Q .non H') h
    refine ⟨t_starts_right K E x_Empty, ?_, go_starts_right (C := (Cn0 PIlaw H)) x_Empty row_ text_ starts_ others_ hp0 hp1 hp2 hR hE _ (W0 H []) (world_of (bok0 (PI := PIlaw) H) ⟨⟨by decide, v1, rfl, (rSeq rInt).mono (mw0 (PI := PIlaw) H) ha1⟩, ⟨⟨by decide, v2, rfl, (rSeq rInt).mono (mw0 (PI := PIlaw) H) ha2⟩, ⟨⟨by decide, v3, rfl, (rSeq rInt).mono (mw0 (PI := PIlaw) H) ha3⟩, ⟨⟨by decide, v4, rfl, (rSeq (rTup rInt)).mono (mw0 (PI := PIlaw) H) ha4⟩, ⟨trivial, ⟨trivial, ⟨trivial, ⟨trivial, ⟨trivial, trivial⟩⟩⟩⟩⟩⟩⟩⟩⟩ rfl)⟩
    unfold t_starts_right
    exact (pss_cons (ps_expr (pe_call c_look_at_row.ok (hr.mono (by decide)) (by rfl) c_look_at_row.g c_look_at_row.kp c_look_at_row.b .nil (passes_call (takes_of rfl rfl rfl rfl) (fun _ _ _ _ z => z)) (pa_cons (pv 0) pa_nil)))
(pss_cons (ps_setLc (i := 4) (own := [("one", 8)]) (g := (gName 8)) rfl sc.nd rfl rfl (sw_true rfl rfl rfl (by decide +kernel)) (pi_eith (pv 3)) (blkOk_by (own := [("one", 8)]) (N := ["row", "text", "starts", "others", "begins", "start", "a", "b", "one"]) (sc := defScope s_starts_right) (by decide +kernel)) (fun _ _ _ _ _ => pg_name (i := 8) sc.nd rfl (Or.inl rfl)) (fun _ _ _ _ _ => pts_nil) (fun _ _ _ _ _ => (pe_ix ix_tup (pv 8) pe_int (fun _ _ => rfl))))
(pss_cons (ps_if (PW.pt (pw_or (pt_not (pt_val (pe_call c_rises.ok (hr.mono (by decide)) (by rfl) c_rises.g c_rises.kp c_rises.b .nil pass0 (pa_cons (pv 2) pa_nil)))) (pw_or1 (pt_not (pt_val (pe_call c_rises.ok (hr.mono (by decide)) (by rfl) c_rises.g c_rises.kp c_rises.b .nil pass0 (pa_cons (pv 4) pa_nil))))))) (pss_cons (ps_ret pe_bl) pss_nil) pss_nil)
(pss_cons (ps_if (pt_cmpR (op_neD (roomUn hr)) (pe_callB cr_sortedI (by rfl) m_sorted bt_sorted (pa_cons (pe_op op_cat (pe_callTy call_list_of (by rfl) m_list bt_list (pa_cons (pv 2) pa_nil)) (pv 4)) pa_nil)) (pe_listRg rfl (by rfl) m_list (prg_1 (by rfl) m_range (pe_op op_add (pe_op op_sub (pe_callB call_len_seq (by rfl) m_len bt_len (pa_cons (pv 1) pa_nil)) (pe_callB call_len_seq (by rfl) m_len bt_len (pa_cons (pv 0) pa_nil))) pe_int))) (nomark _)) (pss_cons (ps_ret pe_bl) pss_nil) pss_nil)
(pss_cons (ps_for PassesOwn.leaving rfl (pi_eith (pv 2)) (pg_name (i := 5) sc.nd rfl (Or.inl rfl))
(pss_cons (ps_if (pt_not (pt_val (pe_call c_kin.ok (hr.mono (by decide)) (by rfl) c_kin.g c_kin.kp c_kin.b .nil pass0 (pa_cons (pv 0) (pa_cons (pe_slice sl_eith (pv 1) (po_some (pv 5)) (po_some (pe_op op_add (pv 5) (pe_callB call_len_seq (by rfl) m_len bt_len (pa_cons (pv 0) pa_nil))))) pa_nil))))) (pss_cons (ps_ret pe_bl) pss_nil) pss_nil)
pss_nil))
(pss_cons (ps_for PassesOwn.leaving rfl (pi_eith (pv 3)) (pg_tup rfl (pgs_cons (pg_name (i := 5) sc.nd rfl (Or.inl rfl)) (pgs_cons (pg_name (i := 6) sc.nd rfl (Or.inl rfl)) (pgs_cons (pg_name (i := 7) sc.nd rfl (Or.inl rfl)) pgs_nil))))
(pss_cons (ps_if (pt_not (pt_val (pe_call c_parts_them.ok (hr.mono (by decide)) (by rfl) c_parts_them.g c_parts_them.kp c_parts_them.b .nil pass0 (pa_cons (pv 0) (pa_cons (pe_slice sl_eith (pv 1) (po_some (pv 5)) (po_some (pe_op op_add (pv 5) (pe_callB call_len_seq (by rfl) m_len bt_len (pa_cons (pv 0) pa_nil))))) (pa_cons (pv 6) (pa_cons (pv 7) pa_nil))))))) (pss_cons (ps_ret pe_bl) pss_nil) pss_nil)
pss_nil))
(pss_cons (ps_ret pe_bl) pss_nil)))))))
def sp_law_heard (x_Empty : Addr) : Sp := spF (aCons rInt (aCons (rSeq rInt) (aCons (rSeq rInt) (aCons (rPair (rList rInt) (rList (rTup rInt))) aNil)))) (fun (a : Int × (List Int) × (List Int) × ((List Int) × (List (List Int))) × Unit) => (0 ≤ a.1 ∧ a.1 < 3) ∧ (a.2.1.length ≤ 1000 ∧ a.2.2.1.length ≤ 1000) ∧ (a.2.2.2.1.1.length ≤ 1000 ∧ a.2.2.2.1.2.length ≤ 1000 ∧ ∀ q_ ∈ a.2.2.2.1.2, q_.length = 3)) (rOpt (rEx rDat)) (fun (a : Int × (List Int) × (List Int) × ((List Int) × (List (List Int))) × Unit) b => b = TM.heard42 x_Empty a.1 a.2.1 a.2.2.1 a.2.2.2.1) (fun _ _ => False)
theorem call_law_heard {C : Cn} {Γ : List Ent} {E : XK} {x_Empty : Addr} {t1 : TE} {t2 : TE} {t3 : TE} {t4 : TE} {a1 : Int} {a2 : (List Int)} {a3 : (List Int)} {a4 : ((List Int) × (List (List Int)))} (h1 : Ev C t1 Γ .h rInt a1) (h2 : Ev C t2 Γ .h (rSeq rInt) a2) (h3 : Ev C t3 Γ .h (rSeq rInt) a3) (h4 : Ev C t4 Γ .h (rPair (rList rInt) (rList (rTup rInt))) a4) (hp0 : 0 ≤ a1 ∧ a1 < 3) (hp1 : a2.length ≤ 1000 ∧ a3.length ≤ 1000) (hp2 : a4.1.length ≤ 1000 ∧ a4.2.length ≤ 1000 ∧ ∀ q_ ∈ a4.2, q_.length = 3) : EvX C (tCall (sp_law_heard x_Empty) [] E (tCons t1 (tCons t2 (tCons t3 (tCons t4 tNil))))) Γ (ResF C (rOpt (rEx rDat)) (fun b => b = TM.heard42 x_Empty a1 a2 a3 a4)) := ed_call4 h1 h2 h3 h4 ⟨hp0, hp1, hp2⟩ exc0 (fun _ z => z)
theorem callx_law_heard {C : Cn} {Γ : List Ent} {E : XK} {x_Empty : Addr} {t1 : TE} {t2 : TE} {t3 : TE} {t4 : TE} {P1 : Int → Prop} {P2 : (List Int) → Prop} {P3 : (List Int) → Prop} {P4 : ((List Int) × (List (List Int))) → Prop} (h1 : EvP C t1 Γ .h rInt P1) (h2 : EvP C t2 Γ .h (rSeq rInt) P2) (h3 : EvP C t3 Γ .h (rSeq rInt) P3) (h4 : EvP C t4 Γ .h (rPair (rList rInt) (rList (rTup rInt))) P4) (hp0 : ∀ a1 a2 a3 a4, P1 a1 → P2 a2 → P3 a3 → P4 a4 → (0 ≤ a1 ∧ a1 < 3)) (hp1 : ∀ a1 a2 a3 a4, P1 a1 → P2 a2 → P3 a3 → P4 a4 → (a2.length ≤ 1000 ∧ a3.length ≤ 1000)) (hp2 : ∀ a1 a2 a3 a4, P1 a1 → P2 a2 → P3 a3 → P4 a4 → (a4.1.length ≤ 1000 ∧ a4.2.length ≤ 1000 ∧ ∀ q_ ∈ a4.2, q_.length = 3)) : EvX C (tCall (sp_law_heard x_Empty) [] E (tCons t1 (tCons t2 (tCons t3 (tCons t4 tNil))))) Γ (ResF C (rOpt (rEx rDat)) (fun b => ∃ a1 a2 a3 a4, P1 a1 ∧ P2 a2 ∧ P3 a3 ∧ P4 a4 ∧ (b = TM.heard42 x_Empty a1 a2 a3 a4))) := ex_call4 h1 h2 h3 h4 (fun a1 a2 a3 a4 _p1 _p2 _p3 _p4 => ⟨hp0 a1 a2 a3 a4 _p1 _p2 _p3 _p4, hp1 a1 a2 a3 a4 _p1 _p2 _p3 _p4, hp2 a1 a2 a3 a4 _p1 _p2 _p3 _p4⟩) exc0 (fun a1 a2 a3 a4 _p1 _p2 _p3 _p4 => fun _ z => z)
def t_law_heard (K : PySem.W.Frag) (E : XK) (x_DipError : Addr) (x_Empty : Addr) (x_NoLine : Addr) (x_NoNumber : Addr) (x_NoPast : Addr) (x_NoPlace : Addr) (x_NoTelling : Addr) (x_NoText : Addr) (x_NoTree : Addr) (x_TooMany : Addr) (x_Unlike : Addr) : TS :=
(tSeq (tAsg (tC .non) (gName 4))
(tCut (tTry K (.ref x_DipError) 5 (fun W_ =>
(tSeq (tIfS (tTest (tOp rEq (tVar 0) (tC (.int 0)))) (tSeq (tAsg (tCallS (sp_starts_of x_Empty) (WE W_) (tCons (tVar 1) (tCons (tVar 2) tNil))) (gName 4))
tNext) (tSeq (tIfS (tTest (tOp rEq (tVar 0) (tC (.int 1)))) (tSeq (tAsg (tCallS (sp_parted_starts x_Empty) (WE W_) (tCons (tVar 1) (tCons (tVar 2) tNil))) (gName 4))
tNext) (tSeq (tAsg (tCallS (sp_starts_right x_Empty) (WE W_) (tCons (tVar 1) (tCons (tVar 2) (tCons (tOp (rIxK K .t) (tVar 3) (tC (.int 0))) (tCons (tOp (rIxK K .t) (tVar 3) (tC (.int 1))) tNil))))) (gName 4))
tNext))
tNext))
tNext))
(tSeq (tAsg (tVar 5) (gName 4))
tNext))
(tSeq (tRet (tVar 4)) tNext)))
theorem go_law_heard {K : PySem.W.Frag} {C : Cn} {D : Ends} {E : XK} (x_DipError : Addr) (x_Empty : Addr) (x_NoLine : Addr) (x_NoNumber : Addr) (x_NoPast : Addr) (x_NoPlace : Addr) (x_NoTelling : Addr) (x_NoText : Addr) (x_NoTree : Addr) (x_TooMany : Addr) (x_Unlike : Addr) (way_ : Int) (row_ : (List Int)) (text_ : (List Int)) (paper_ : ((List Int) × (List (List Int)))) (hp0 : 0 ≤ way_ ∧ way_ < 3) (hp1 : row_.length ≤ 1000 ∧ text_.length ≤ 1000) (hp2 : paper_.1.length ≤ 1000 ∧ paper_.2.length ≤ 1000 ∧ ∀ q_ ∈ paper_.2, q_.length = 3) (hR : RetOk C D (rOpt (rEx rDat)) (fun b => b = TM.heard42 x_Empty way_ row_ text_ paper_)) (hX : KitF K [x_Empty] [x_Unlike, x_Empty, x_TooMany, x_NoTree, x_NoTelling, x_NoPlace, x_NoNumber, x_NoPast, x_NoText, x_NoLine] x_DipError) :
    Go C (t_law_heard K E x_DipError x_Empty x_NoLine x_NoNumber x_NoPast x_NoPlace x_NoTelling x_NoText x_NoTree x_TooMany x_Unlike) D [.val .m rInt way_, .val .m (rSeq rInt) row_, .val .m (rSeq rInt) text_, .val .m (rPair (rList rInt) (rList (rTup rInt))) paper_, .no, .no] := by
  unfold t_law_heard
  refine q_asg (i := 4) (ℓ := .g) ((ev_non (R := (rEx rDat)))) (fun found1 hfound1 => ?_)
  replace hfound1 : found1 = none := hfound1
  refine q_cut (S := (Option (Sum Addr PyData))) (fun s => [.val .m rInt way_, .val .m (rSeq rInt) row_, .val .m (rSeq rInt) text_, .val .m (rPair (rList rInt) (rList (rTup rInt))) paper_, .val .g (rOpt (rEx rDat)) s, .no]) (fun s => (s = TM.heard42 x_Empty way_ row_ text_ paper_)) (c_try (i := 5) (Pe := fun c => c = x_Empty ∧ row_ = []) (fun W_ hW_ => ?_) (fun c2 hc2 => ?_) (fun c hz => hX.exm (by
        have hz : c = x_Empty ∧ row_ = [] := hz
        first | (rcases hz with ⟨rfl, _⟩; simp; done) | (rcases hz with ⟨rfl, _⟩ | ⟨rfl, _⟩ <;> simp; done) | (rcases hz with ⟨rfl, _⟩ | ⟨rfl, _⟩ | ⟨rfl, _⟩ <;> simp; done) | (rcases hz with ⟨rfl, _⟩ | ⟨rfl, _⟩ | ⟨rfl, _⟩ | ⟨rfl, _⟩ <;> simp; done) | (simp_all; done) | exact hz | exact hz.1))) (fun s hj0 => ?_)
  · refine q_ifC (ec_tst (ev_eqI (((ev_var (R := rInt) (a := way_) rfl)).toh) (ev_int))) (fun h3 => ?_) (fun h3 => ?_)
    · refine q_asg (i := 4) (ℓ := .g) (evp_some (evp_inr (evp_dat (dt_list dt_int) (GdD.of (K := default) (eqr_list eqr_int) (Nat.le_of_ble_eq_true rfl)) (ev_call (callsn_starts_of (((ev_var (R := (rSeq rInt)) (a := row_) rfl)).toh) (((ev_var (R := (rSeq rInt)) (a := text_) rfl)).toh) (by first | omega | assumption | (simp; done) | (constructor <;> omega) | (simp; omega)) hW_ (by intro c hc; exact hc))))) (nn_ex nn_dat)) (fun found4 hfound4 => ?_)
      obtain ⟨_, hfound4, _, rfl, y5, ⟨hy5, hfound4_n⟩, rfl⟩ := hfound4
      replace hy5 : y5 = (TM.starts row_ text_) := hy5
      subst hfound4
      replace hfound4_n : ¬ row_ = [] := hfound4_n
      refine q_next (?_ : Go _ tNext _ _)
      refine q_next (hol_in (some (Sum.inr ((fun l : (List Int) => PyData.list (l.map PyData.int)) y5))) ?_ (LeG.k (LeG.k (LeG.k (LeG.k (LeG.k (LeG.f LeG.nil)))))))
      show ((some (Sum.inr ((fun l : (List Int) => PyData.list (l.map PyData.int)) y5))) = TM.heard42 x_Empty way_ row_ text_ paper_)
      first
      | (have hn_ := (by assumption : ¬ row_ = []); rw [TM.h42_r hn_]; unfold TM.d42; rw [if_pos (by assumption)]; subst_vars; rfl)
      | (have hn_ := (by assumption : ¬ row_ = []); rw [TM.h42_r hn_]; unfold TM.d42; rw [if_neg (by omega), if_pos (by assumption)]; subst_vars; rfl)
      | (have hn_ := (by assumption : ¬ row_ = []); rw [TM.h42_r hn_]; unfold TM.d42; rw [if_neg (by omega), if_neg (by omega)]; subst_vars; rfl)
    · refine q_ifC (ec_tst (ev_eqI (((ev_var (R := rInt) (a := way_) rfl)).toh) (ev_int))) (fun h6 => ?_) (fun h6 => ?_)
      · refine q_asg (i := 4) (ℓ := .g) (evp_some (evp_inr (evp_dat (dt_list (dt_tup dt_int)) (GdD.of (K := default) (eqr_list (eqr_tup eqr_int)) (Nat.le_of_ble_eq_true rfl)) (ev_call (callsn_parted_starts (((ev_var (R := (rSeq rInt)) (a := row_) rfl)).toh) (((ev_var (R := (rSeq rInt)) (a := text_) rfl)).toh) (by first | omega | assumption | (simp; done) | (constructor <;> omega) | (simp; omega)) hW_ (by intro c hc; exact hc))))) (nn_ex nn_dat)) (fun found7 hfound7 => ?_)
        obtain ⟨_, hfound7, _, rfl, y8, ⟨hy8, hfound7_n⟩, rfl⟩ := hfound7
        replace hy8 : y8 = (TM.pstarts row_ text_) := hy8
        subst hfound7
        replace hfound7_n : ¬ row_ = [] := hfound7_n
        refine q_next (?_ : Go _ tNext _ _)
        refine q_next (?_ : Go _ tNext _ _)
        refine q_next (hol_in (some (Sum.inr ((fun l : (List (List Int)) => PyData.list (l.map (fun l : (List Int) => PyData.tuple (l.map PyData.int)))) y8))) ?_ (LeG.k (LeG.k (LeG.k (LeG.k (LeG.k (LeG.f LeG.nil)))))))
        show ((some (Sum.inr ((fun l : (List (List Int)) => PyData.list (l.map (fun l : (List Int) => PyData.tuple (l.map PyData.int)))) y8))) = TM.heard42 x_Empty way_ row_ text_ paper_)
        first
        | (have hn_ := (by assumption : ¬ row_ = []); rw [TM.h42_r hn_]; unfold TM.d42; rw [if_pos (by assumption)]; subst_vars; rfl)
        | (have hn_ := (by assumption : ¬ row_ = []); rw [TM.h42_r hn_]; unfold TM.d42; rw [if_neg (by omega), if_pos (by assumption)]; subst_vars; rfl)
        | (have hn_ := (by assumption : ¬ row_ = []); rw [TM.h42_r hn_]; unfold TM.d42; rw [if_neg (by omega), if_neg (by omega)]; subst_vars; rfl)
      · refine q_asg (i := 4) (ℓ := .g) (evp_some (evp_inr (evp_dat dt_bool (GdD.of (K := default) eqr_bool (Nat.le_of_ble_eq_true rfl)) (ev_call (callsn_starts_right (((ev_var (R := (rSeq rInt)) (a := row_) rfl)).toh) (((ev_var (R := (rSeq rInt)) (a := text_) rfl)).toh) (((ev_seqL (ev_pair0 (ev_var (R := (rPair (rList rInt) (rList (rTup rInt)))) (a := paper_) rfl)))).toh) (((ev_seqL (ev_pair1 (ev_var (R := (rPair (rList rInt) (rList (rTup rInt)))) (a := paper_) rfl)))).toh) (by exact hp1) (by omega) (by exact hp2.2.2) hW_ (by intro c hc; exact hc))))) (nn_ex nn_dat)) (fun found9 hfound9 => ?_)
        obtain ⟨_, hfound9, _, rfl, y10, ⟨hy10, hfound9_n⟩, rfl⟩ := hfound9
        replace hy10 : y10 = (TM.srB row_ text_ paper_.1 paper_.2) := hy10
        subst hfound9
        replace hfound9_n : ¬ row_ = [] := hfound9_n
        refine q_next (?_ : Go _ tNext _ _)
        refine q_next (?_ : Go _ tNext _ _)
        refine q_next (hol_in (some (Sum.inr (PyData.bool y10))) ?_ (LeG.k (LeG.k (LeG.k (LeG.k (LeG.k (LeG.f LeG.nil)))))))
        show ((some (Sum.inr (PyData.bool y10))) = TM.heard42 x_Empty way_ row_ text_ paper_)
        first
        | (have hn_ := (by assumption : ¬ row_ = []); rw [TM.h42_r hn_]; unfold TM.d42; rw [if_pos (by assumption)]; subst_vars; rfl)
        | (have hn_ := (by assumption : ¬ row_ = []); rw [TM.h42_r hn_]; unfold TM.d42; rw [if_neg (by omega), if_pos (by assumption)]; subst_vars; rfl)
        | (have hn_ := (by assumption : ¬ row_ = []); rw [TM.h42_r hn_]; unfold TM.d42; rw [if_neg (by omega), if_neg (by omega)]; subst_vars; rfl)
  · replace hc2 : c2 = x_Empty ∧ row_ = [] := hc2
    refine q_asg (i := 4) (ℓ := .g) ((ev_some (ev_inl (R := rDat) (ev_var (R := rExc) (a := c2) rfl)) (nn_ex nn_dat))) (fun found11 hfound11 => ?_)
    replace hfound11 : found11 = (some (Sum.inl c2)) := hfound11
    refine q_nextX (hol_in found11 ?_ (LeG.k (LeG.k (LeG.k (LeG.k (LeG.k (LeG.f LeG.nil)))))))
    show (found11 = TM.heard42 x_Empty way_ row_ text_ paper_)
    rw [hfound11, hc2.1, TM.h42_e hc2.2]
  revert s hj0; intro found12 hj0
  replace hj0 : (found12 = TM.heard42 x_Empty way_ row_ text_ paper_) := hj0
  refine q_ret ((ev_var (R := (rOpt (rEx rDat))) (a := found12) rfl)) hR (fun r13 hr13 => ?_)
  replace hr13 : r13 = found12 := hr13
  show r13 = TM.heard42 x_Empty way_ row_ text_ paper_
  rw [hr13]
  exact hj0
abbrev s_law_heard : Stmt := topS 37
theorem sc_law_heard : FnScope ["way", "row", "text", "paper", "found", "e"] ["way", "row", "text", "paper"] (defScope s_law_heard) := ⟨rfl, rfl, rfl, by decide +kernel, rfl, by decide +kernel, by decide +kernel⟩
theorem ok_law_heard {P : Program} {w : PySem.World} {K : PySem.W.Frag} {mg : Str → Option Value} {base : Heap} {x_DipError : Addr} {x_Empty : Addr} {x_NoLine : Addr} {x_NoNumber : Addr} {x_NoPast : Addr} {x_NoPlace : Addr} {x_NoTelling : Addr} {x_NoText : Addr} {x_NoTree : Addr} {x_TooMany : Addr} {x_Unlike : Addr} {f : Addr} {fd : FuncData} (F : Fun K "_law_heard" "_law_heard" s_law_heard f fd) {f_starts_of : Addr} {d_starts_of : FuncData} (c_starts_of : Cal P w K mg base (L2.CX P w) 3 "starts_of" ["row", "text"] (sp_starts_of x_Empty) f_starts_of d_starts_of) {f_parted_starts : Addr} {d_parted_starts : FuncData} (c_parted_starts : Cal P w K mg base (L2.CX P w) 4 "parted_starts" ["row", "text"] (sp_parted_starts x_Empty) f_parted_starts d_parted_starts) {f_starts_right : Addr} {d_starts_right : FuncData} (c_starts_right : Cal P w K mg base (L2.CX P w) 4 "starts_right" ["row", "text", "starts", "others"] (sp_starts_right x_Empty) f_starts_right d_starts_right) (gx_DipError : mg "DipError" = some (.ref x_DipError)) (hX : KitF K [x_Empty] [x_Unlike, x_Empty, x_TooMany, x_NoTree, x_NoTelling, x_NoPlace, x_NoNumber, x_NoPast, x_NoText, x_NoLine] x_DipError) : FnOk P w K mg base CX0 5 f fd ["way", "row", "text", "paper"] (sp_law_heard x_Empty) := by
  have sc := sc_law_heard
  refine F.ok sc (fun vs H Q E h => ?_) (fun cdv A outer s H vs Q E hr h => ?_)
  · obtain ⟨a_, ha_, _⟩ := h
    obtain ⟨v1, _, rfl, _ha1, ⟨v2, _, rfl, _ha2, ⟨v3, _, rfl, _ha3, ⟨v4, _, rfl, _ha4, rfl⟩⟩⟩⟩ := ha_
    rfl
  · obtain ⟨⟨way_, row_, text_, paper_, _⟩, ⟨v1, _, rfl, ha1, ⟨v2, _, rfl, ha2, ⟨v3, _, rfl, ha3, ⟨v4, _, rfl, ha4, rfl⟩⟩⟩⟩, ⟨hp0, hp1, hp2⟩, hR, hE⟩ := spF_open PIlaw (n := fun _ H' => Q .non H') h
    refine ⟨t_law_heard K E x_DipError x_Empty x_NoLine x_NoNumber x_NoPast x_NoPlace x_NoTelling x_NoText x_NoTree x_TooMany x_Unlike, ?_, go_law_heard (C := (Cn0 PIlaw H)) x_DipError x_Empty x_NoLine x_NoNumber x_NoPast x_NoPlace x_NoTelling x_NoText x_NoTree x_TooMany x_Unlike way_ row_ text_ paper_ hp0 hp1 hp2 hR hX _ (W0 H []) (world_of (bok0 (PI := PIlaw) H) ⟨⟨by decide, v1, rfl, rInt.mono (mw0 (PI := PIlaw) H) ha1⟩, ⟨⟨by decide, v2, rfl, (rSeq rInt).mono (mw0 (PI := PIlaw) H) ha2⟩, ⟨⟨by decide, v3, rfl, (rSeq rInt).mono (mw0 (PI := PIlaw) H) ha3⟩, ⟨⟨by decide, v4, rfl, (rPair (rList rInt) (rList (rTup rInt))).mono (mw0 (PI := PIlaw) H) ha4⟩, ⟨trivial, ⟨trivial, trivial⟩⟩⟩⟩⟩⟩ rfl)⟩
    unfold t_law_heard
    exact (pss_cons (ps_set (i := 4) sc.nd rfl (Or.inl rfl) pe_non)
(pss_cut (ps_try_keep rfl rfl rfl sc.nd (i := 5) rfl rfl ⟨rfl, by decide, .inl gx_DipError⟩ (fun W_ pn_ xe_ tk_ po_ =>
(pss_cons (ps_if (pt_cmpR op_eq (pv 0) pe_int (nomark _)) (pss_cons (ps_set (i := 4) sc.nd rfl (Or.inl rfl) (pe_callS c_starts_of.ok (hr.mono (by decide)) (by rfl) c_starts_of.g c_starts_of.kp c_starts_of.b (fun σ_ => passAt tk_ σ_) (pa_cons (pv 1) (pa_cons (pv 2) pa_nil))))
pss_nil) (pss_cons (ps_if (pt_cmpR op_eq (pv 0) pe_int (nomark _)) (pss_cons (ps_set (i := 4) sc.nd rfl (Or.inl rfl) (pe_callS c_parted_starts.ok (hr.mono (by decide)) (by rfl) c_parted_starts.g c_parted_starts.kp c_parted_starts.b (fun σ_ => passAt tk_ σ_) (pa_cons (pv 1) (pa_cons (pv 2) pa_nil))))
pss_nil) (pss_cons (ps_set (i := 4) sc.nd rfl (Or.inl rfl) (pe_callS c_starts_right.ok (hr.mono (by decide)) (by rfl) c_starts_right.g c_starts_right.kp c_starts_right.b (fun σ_ => passAt tk_ σ_) (pa_cons (pv 1) (pa_cons (pv 2) (pa_cons (pe_ix ix_tup (pv 3) pe_int (fun _ _ => rfl)) (pa_cons (pe_ix ix_tup (pv 3) pe_int (fun _ _ => rfl)) pa_nil))))))
pss_nil))
pss_nil))
pss_nil)) (fun a_ pn_ =>
(pss_cons (ps_set (i := 4) sc.nd rfl (Or.inl rfl) (pv 5))
pss_nil)))
(pss_cons (ps_ret (pv 4)) pss_nil)))
def sp_law_alone (x_Empty : Addr) (x_NoLine : Addr) (x_NoNumber : Addr) (x_NoPast : Addr) (x_NoPlace : Addr) (x_NoTelling : Addr) (x_NoText : Addr) (x_NoTree : Addr) (x_TooMany : Addr) (x_Unlike : Addr) : Sp := spF (aCons rExc (aCons rInt aNil)) (fun (a : Addr × Int × Unit) => (a.1 ∈ [x_Empty]) ∧ (0 ≤ a.2.1 ∧ a.2.1 < 10)) rBool (fun (a : Addr × Int × Unit) b => b = decide (gt [x_Unlike, x_Empty, x_TooMany, x_NoTree, x_NoTelling, x_NoPlace, x_NoNumber, x_NoPast, x_NoText, x_NoLine] a.2.1 = a.1)) (fun _ _ => False)
theorem call_law_alone {C : Cn} {Γ : List Ent} {E : XK} {x_Empty : Addr} {x_NoLine : Addr} {x_NoNumber : Addr} {x_NoPast : Addr} {x_NoPlace : Addr} {x_NoTelling : Addr} {x_NoText : Addr} {x_NoTree : Addr} {x_TooMany : Addr} {x_Unlike : Addr} {t1 : TE} {t2 : TE} {a1 : Addr} {a2 : Int} (h1 : Ev C t1 Γ .h rExc a1) (h2 : Ev C t2 Γ .h rInt a2) (hp0 : a1 ∈ [x_Empty]) (hp1 : 0 ≤ a2 ∧ a2 < 10) : EvX C (tCall (sp_law_alone x_Empty x_NoLine x_NoNumber x_NoPast x_NoPlace x_NoTelling x_NoText x_NoTree x_TooMany x_Unlike) [] E (tCons t1 (tCons t2 tNil))) Γ (ResF C rBool (fun b => b = decide (gt [x_Unlike, x_Empty, x_TooMany, x_NoTree, x_NoTelling, x_NoPlace, x_NoNumber, x_NoPast, x_NoText, x_NoLine] a2 = a1))) := ed_call2 h1 h2 ⟨hp0, hp1⟩ exc0 (fun _ z => z)
theorem callx_law_alone {C : Cn} {Γ : List Ent} {E : XK} {x_Empty : Addr} {x_NoLine : Addr} {x_NoNumber : Addr} {x_NoPast : Addr} {x_NoPlace : Addr} {x_NoTelling : Addr} {x_NoText : Addr} {x_NoTree : Addr} {x_TooMany : Addr} {x_Unlike : Addr} {t1 : TE} {t2 : TE} {P1 : Addr → Prop} {P2 : Int → Prop} (h1 : EvP C t1 Γ .h rExc P1) (h2 : EvP C t2 Γ .h rInt P2) (hp0 : ∀ a1 a2, P1 a1 → P2 a2 → (a1 ∈ [x_Empty])) (hp1 : ∀ a1 a2, P1 a1 → P2 a2 → (0 ≤ a2 ∧ a2 < 10)) : EvX C (tCall (sp_law_alone x_Empty x_NoLine x_NoNumber x_NoPast x_NoPlace x_NoTelling x_NoText x_NoTree x_TooMany x_Unlike) [] E (tCons t1 (tCons t2 tNil))) Γ (ResF C rBool (fun b => ∃ a1 a2, P1 a1 ∧ P2 a2 ∧ (b = decide (gt [x_Unlike, x_Empty, x_TooMany, x_NoTree, x_NoTelling, x_NoPlace, x_NoNumber, x_NoPast, x_NoText, x_NoLine] a2 = a1)))) := ex_call2 h1 h2 (fun a1 a2 _p1 _p2 => ⟨hp0 a1 a2 _p1 _p2, hp1 a1 a2 _p1 _p2⟩) exc0 (fun a1 a2 _p1 _p2 => fun _ z => z)
def t_law_alone (K : PySem.W.Frag) (E : XK) (x_DipError : Addr) (x_Empty : Addr) (x_NoLine : Addr) (x_NoNumber : Addr) (x_NoPast : Addr) (x_NoPlace : Addr) (x_NoTelling : Addr) (x_NoText : Addr) (x_NoTree : Addr) (x_TooMany : Addr) (x_Unlike : Addr) : TS :=
(tSeq (tAsg (tLst (tCons (tCB (rIsX K) (tCons (tVar 0) (tCons (tC (.ref x_Unlike)) tNil))) (tCons (tCB (rIsX K) (tCons (tVar 0) (tCons (tC (.ref x_Empty)) tNil))) (tCons (tCB (rIsX K) (tCons (tVar 0) (tCons (tC (.ref x_TooMany)) tNil))) (tCons (tCB (rIsX K) (tCons (tVar 0) (tCons (tC (.ref x_NoTree)) tNil))) (tCons (tCB (rIsX K) (tCons (tVar 0) (tCons (tC (.ref x_NoTelling)) tNil))) (tCons (tCB (rIsX K) (tCons (tVar 0) (tCons (tC (.ref x_NoPlace)) tNil))) (tCons (tCB (rIsX K) (tCons (tVar 0) (tCons (tC (.ref x_NoNumber)) tNil))) (tCons (tCB (rIsX K) (tCons (tVar 0) (tCons (tC (.ref x_NoPast)) tNil))) (tCons (tCB (rIsX K) (tCons (tVar 0) (tCons (tC (.ref x_NoText)) tNil))) (tCons (tCB (rIsX K) (tCons (tVar 0) (tCons (tC (.ref x_NoLine)) tNil))) tNil))))))))))) (gName 2))
(tSeq (tIfS (tOr (tNot (tB (tCB (rIsX K) (tCons (tVar 0) (tCons (tC (.ref x_DipError)) tNil))))) (tNot (tB (tCB (rIsX K) (tCons (tVar 0) (tCons (tC (.ty "ValueError")) tNil)))))) (tSeq (tRet (tC (.bl false))) tNext) tNext)
(tSeq (tRet (tAndV (tOp rEq (tBM K "list" (rCountB K) (tVar 2) (tCons (tC (.bl true)) tNil)) (tC (.int 1))) (tOp (rIxK K .l) (tVar 2) (tVar 1)))) tNext)))
theorem go_law_alone {K : PySem.W.Frag} {C : Cn} {D : Ends} {E : XK} (x_DipError : Addr) (x_Empty : Addr) (x_NoLine : Addr) (x_NoNumber : Addr) (x_NoPast : Addr) (x_NoPlace : Addr) (x_NoTelling : Addr) (x_NoText : Addr) (x_NoTree : Addr) (x_TooMany : Addr) (x_Unlike : Addr) (e_ : Addr) (at_ : Int) (hp0 : e_ ∈ [x_Empty]) (hp1 : 0 ≤ at_ ∧ at_ < 10) (hR : RetOk C D rBool (fun b => b = decide (gt [x_Unlike, x_Empty, x_TooMany, x_NoTree, x_NoTelling, x_NoPlace, x_NoNumber, x_NoPast, x_NoText, x_NoLine] at_ = e_))) (hX : KitF K [x_Empty] [x_Unlike, x_Empty, x_TooMany, x_NoTree, x_NoTelling, x_NoPlace, x_NoNumber, x_NoPast, x_NoText, x_NoLine] x_DipError) :
    Go C (t_law_alone K E x_DipError x_Empty x_NoLine x_NoNumber x_NoPast x_NoPlace x_NoTelling x_NoText x_NoTree x_TooMany x_Unlike) D [.val .m rExc e_, .val .m rInt at_, .no] := by
  unfold t_law_alone
  refine q_asg (i := 2) (ℓ := .g) ((ev_new (ℓ := .g) (en_lstd (ℓ := .g) (em_cons ((ev_isX (p := e_ = x_Unlike) (ev_var (R := rExc) (a := e_) rfl) (fun _ e => e) (hX.c.of _ (by assumption)) (hX.kit (by assumption) (by simp)))) (em_cons ((ev_isX (p := e_ = x_Empty) (ev_var (R := rExc) (a := e_) rfl) (fun _ e => e) (hX.c.of _ (by assumption)) (hX.kit (by assumption) (by simp)))) (em_cons ((ev_isX (p := e_ = x_TooMany) (ev_var (R := rExc) (a := e_) rfl) (fun _ e => e) (hX.c.of _ (by assumption)) (hX.kit (by assumption) (by simp)))) (em_cons ((ev_isX (p := e_ = x_NoTree) (ev_var (R := rExc) (a := e_) rfl) (fun _ e => e) (hX.c.of _ (by assumption)) (hX.kit (by assumption) (by simp)))) (em_cons ((ev_isX (p := e_ = x_NoTelling) (ev_var (R := rExc) (a := e_) rfl) (fun _ e => e) (hX.c.of _ (by assumption)) (hX.kit (by assumption) (by simp)))) (em_cons ((ev_isX (p := e_ = x_NoPlace) (ev_var (R := rExc) (a := e_) rfl) (fun _ e => e) (hX.c.of _ (by assumption)) (hX.kit (by assumption) (by simp)))) (em_cons ((ev_isX (p := e_ = x_NoNumber) (ev_var (R := rExc) (a := e_) rfl) (fun _ e => e) (hX.c.of _ (by assumption)) (hX.kit (by assumption) (by simp)))) (em_cons ((ev_isX (p := e_ = x_NoPast) (ev_var (R := rExc) (a := e_) rfl) (fun _ e => e) (hX.c.of _ (by assumption)) (hX.kit (by assumption) (by simp)))) (em_cons ((ev_isX (p := e_ = x_NoText) (ev_var (R := rExc) (a := e_) rfl) (fun _ e => e) (hX.c.of _ (by assumption)) (hX.kit (by assumption) (by simp)))) (em_cons ((ev_isX (p := e_ = x_NoLine) (ev_var (R := rExc) (a := e_) rfl) (fun _ e => e) (hX.c.of _ (by assumption)) (hX.kit (by assumption) (by simp)))) em_nil)))))))))) (Nat.le_of_ble_eq_true rfl)))) (fun some1 hsome1 => ?_)
  replace hsome1 : some1 = [(decide (e_ = x_Unlike)), (decide (e_ = x_Empty)), (decide (e_ = x_TooMany)), (decide (e_ = x_NoTree)), (decide (e_ = x_NoTelling)), (decide (e_ = x_NoPlace)), (decide (e_ = x_NoNumber)), (decide (e_ = x_NoPast)), (decide (e_ = x_NoText)), (decide (e_ = x_NoLine))] := hsome1
  refine q_ifT (ec_or (ec_not (ec_valB ((ev_isX (p := True) (ev_var (R := rExc) (a := e_) rfl) (fun _ e => e) (hX.c.of _ (by assumption)) (hX.kitD (by assumption)))))) (fun hb2 => (ec_not (ec_valB ((ev_isX (p := True) (ev_var (R := rExc) (a := e_) rfl) (fun _ e => e) (hX.c.of _ (by assumption)) (hX.kitV (by assumption)))))))) (fun h4 => ?_) (fun h4 => ?_)
  · refine q_ret (ev_bl) hR (fun r5 hr5 => ?_)
    replace hr5 : r5 = false := hr5
    show r5 = decide (gt [x_Unlike, x_Empty, x_TooMany, x_NoTree, x_NoTelling, x_NoPlace, x_NoNumber, x_NoPast, x_NoText, x_NoLine] at_ = e_)
    rw [hr5]
    exfalso; simp_all; done
  refine q_ret ((ev_andV ((ev_eqI ((ev_countB (EvS.fl fl_bool (es_list (ev_var (R := (rList rBool)) (a := some1) rfl))))) (ev_int))) (fun hb6 => have hb6p : ((((some1).count true : Nat) : Int) = (1 : Int)) := (by first | (intro z; rw [z] at hb6; cases hb6; done) | simpa using hb6); (((ev_ix (es_list (ev_var (R := (rList rBool)) (a := some1) rfl)) (((ev_var (R := rInt) (a := at_) rfl)).toh) (by rw [hsome1]; simp; omega))).toh)))) hR (fun r8 hr8 => ?_)
  replace hr8 : r8 = ((decide ((((some1).count true : Nat) : Int) = (1 : Int))) && (gt some1 at_)) := hr8
  show r8 = decide (gt [x_Unlike, x_Empty, x_TooMany, x_NoTree, x_NoTelling, x_NoPlace, x_NoNumber, x_NoPast, x_NoText, x_NoLine] at_ = e_)
  rw [hr8]
  rw [hsome1]; exact alone2_is hX.nd (by simp only [List.mem_cons, List.not_mem_nil, or_false] at hp0 ⊢; simp [hp0]) (by simpa using hp1)
abbrev s_law_alone : Stmt := topS 36
theorem sc_law_alone : FnScope ["e", "at", "some"] ["e", "at"] (defScope s_law_alone) := ⟨rfl, rfl, rfl, by decide +kernel, rfl, by decide +kernel, by decide +kernel⟩
theorem ok_law_alone {P : Program} {w : PySem.World} {K : PySem.W.Frag} {mg : Str → Option Value} {base : Heap} {x_DipError : Addr} {x_Empty : Addr} {x_NoLine : Addr} {x_NoNumber : Addr} {x_NoPast : Addr} {x_NoPlace : Addr} {x_NoTelling : Addr} {x_NoText : Addr} {x_NoTree : Addr} {x_TooMany : Addr} {x_Unlike : Addr} {f : Addr} {fd : FuncData} (F : Fun K "_law_alone" "_law_alone" s_law_alone f fd) (m_ValueError : mg "ValueError" = none) (m_isinstance : mg "isinstance" = none) (gx_DipError : mg "DipError" = some (.ref x_DipError)) (gx_Empty : mg "Empty" = some (.ref x_Empty)) (gx_NoLine : mg "NoLine" = some (.ref x_NoLine)) (gx_NoNumber : mg "NoNumber" = some (.ref x_NoNumber)) (gx_NoPast : mg "NoPast" = some (.ref x_NoPast)) (gx_NoPlace : mg "NoPlace" = some (.ref x_NoPlace)) (gx_NoTelling : mg "NoTelling" = some (.ref x_NoTelling)) (gx_NoText : mg "NoText" = some (.ref x_NoText)) (gx_NoTree : mg "NoTree" = some (.ref x_NoTree)) (gx_TooMany : mg "TooMany" = some (.ref x_TooMany)) (gx_Unlike : mg "Unlike" = some (.ref x_Unlike)) (hX : KitF K [x_Empty] [x_Unlike, x_Empty, x_TooMany, x_NoTree, x_NoTelling, x_NoPlace, x_NoNumber, x_NoPast, x_NoText, x_NoLine] x_DipError) : FnOk P w K mg base CX0 1 f fd ["e", "at"] (sp_law_alone x_Empty x_NoLine x_NoNumber x_NoPast x_NoPlace x_NoTelling x_NoText x_NoTree x_TooMany x_Unlike) := by
  have sc := sc_law_alone
  refine F.ok sc (fun vs H Q E h => ?_) (fun cdv A outer s H vs Q E hr h => ?_)
  · obtain ⟨a_, ha_, _⟩ := h
    obtain ⟨v1, _, rfl, _ha1, ⟨v2, _, rfl, _ha2, rfl⟩⟩ := ha_
    rfl
  · obtain ⟨⟨e_, at_, _⟩, ⟨v1, _, rfl, ha1, ⟨v2, _, rfl, ha2, rfl⟩⟩, ⟨hp0, hp1⟩, hR, hE⟩ := spF_open PIlaw (n := fun _ H' => Q .non H') h
    refine ⟨t_law_alone K E x_DipError x_Empty x_NoLine x_NoNumber x_NoPast x_NoPlace x_NoTelling x_NoText x_NoTree x_TooMany x_Unlike, ?_, go_law_alone (C := (Cn0 PIlaw H)) x_DipError x_Empty x_NoLine x_NoNumber x_NoPast x_NoPlace x_NoTelling x_NoText x_NoTree x_TooMany x_Unlike e_ at_ hp0 hp1 hR hX _ (W0 H []) (world_of (bok0 (PI := PIlaw) H) ⟨⟨by decide, v1, rfl, rExc.mono (mw0 (PI := PIlaw) H) ha1⟩, ⟨⟨by decide, v2, rfl, rInt.mono (mw0 (PI := PIlaw) H) ha2⟩, ⟨trivial, trivial⟩⟩⟩ rfl)⟩
    unfold t_law_alone
    exact (pss_cons (ps_set (i := 2) sc.nd rfl (Or.inl rfl) (pe_lst (pa_cons (pe_callB call_isX (by rfl) m_isinstance bt_isinstance (pa_cons (pv 0) (pa_cons (pe_glob rfl gx_Unlike rfl) pa_nil))) (pa_cons (pe_callB call_isX (by rfl) m_isinstance bt_isinstance (pa_cons (pv 0) (pa_cons (pe_glob rfl gx_Empty rfl) pa_nil))) (pa_cons (pe_callB call_isX (by rfl) m_isinstance bt_isinstance (pa_cons (pv 0) (pa_cons (pe_glob rfl gx_TooMany rfl) pa_nil))) (pa_cons (pe_callB call_isX (by rfl) m_isinstance bt_isinstance (pa_cons (pv 0) (pa_cons (pe_glob rfl gx_NoTree rfl) pa_nil))) (pa_cons (pe_callB call_isX (by rfl) m_isinstance bt_isinstance (pa_cons (pv 0) (pa_cons (pe_glob rfl gx_NoTelling rfl) pa_nil))) (pa_cons (pe_callB call_isX (by rfl) m_isinstance bt_isinstance (pa_cons (pv 0) (pa_cons (pe_glob rfl gx_NoPlace rfl) pa_nil))) (pa_cons (pe_callB call_isX (by rfl) m_isinstance bt_isinstance (pa_cons (pv 0) (pa_cons (pe_glob rfl gx_NoNumber rfl) pa_nil))) (pa_cons (pe_callB call_isX (by rfl) m_isinstance bt_isinstance (pa_cons (pv 0) (pa_cons (pe_glob rfl gx_NoPast rfl) pa_nil))) (pa_cons (pe_callB call_isX (by rfl) m_isinstance bt_isinstance (pa_cons (pv 0) (pa_cons (pe_glob rfl gx_NoText rfl) pa_nil))) (pa_cons (pe_callB call_isX (by rfl) m_isinstance bt_isinstance (pa_cons (pv 0) (pa_cons (pe_glob rfl gx_NoLine rfl) pa_nil))) pa_nil))))))))))))
(pss_cons (ps_if (PW.pt (pw_or (pt_not (pt_val (pe_callB call_isX (by rfl) m_isinstance bt_isinstance (pa_cons (pv 0) (pa_cons (pe_glob rfl gx_DipError rfl) pa_nil))))) (pw_or1 (pt_not (pt_val (pe_callB call_isX (by rfl) m_isinstance bt_isinstance (pa_cons (pv 0) (pa_cons (pe_bltn (v := .ty "ValueError") (by rfl) m_ValueError bt_ValueError rfl) pa_nil)))))))) (pss_cons (ps_ret pe_bl) pss_nil) pss_nil)
(pss_cons (ps_ret (pe_and (pe_cmpR op_eq (pe_bm PySem.F.plainAttrs_list PySem.F.slot_list_count PySem.F.type_list_count mt_countB (pv 2) (pa_cons pe_bl pa_nil)) pe_int (nomark _)) (pe_one (pe_ix ix_list (pv 2) (pv 1) (fun _ _ => rfl))))) pss_nil)))
def sp_law_right : Sp := spF (aCons (rSeq rInt) (aCons (rSeq rInt) (aCons (rPair (rList rInt) (rList (rTup rInt))) aNil))) (fun (a : (List Int) × (List Int) × ((List Int) × (List (List Int))) × Unit) => (a.1.length ≤ 1000 ∧ a.2.1.length ≤ 1000) ∧ (a.2.2.1.1.length ≤ 1000 ∧ a.2.2.1.2.length ≤ 1000 ∧ ∀ q_ ∈ a.2.2.1.2, q_.length = 3)) rBool (fun (a : (List Int) × (List Int) × ((List Int) × (List (List Int))) × Unit) b => b = true) (fun _ _ => False)
theorem call_law_right {C : Cn} {Γ : List Ent} {E : XK} {t1 : TE} {t2 : TE} {t3 : TE} {a1 : (List Int)} {a2 : (List Int)} {a3 : ((List Int) × (List (List Int)))} (h1 : Ev C t1 Γ .h (rSeq rInt) a1) (h2 : Ev C t2 Γ .h (rSeq rInt) a2) (h3 : Ev C t3 Γ .h (rPair (rList rInt) (rList (rTup rInt))) a3) (hp0 : a1.length ≤ 1000 ∧ a2.length ≤ 1000) (hp1 : a3.1.length ≤ 1000 ∧ a3.2.length ≤ 1000 ∧ ∀ q_ ∈ a3.2, q_.length = 3) : EvX C (tCall (sp_law_right) [] E (tCons t1 (tCons t2 (tCons t3 tNil)))) Γ (ResF C rBool (fun b => b = true)) := ed_call3 h1 h2 h3 ⟨hp0, hp1⟩ exc0 (fun _ z => z)
theorem callx_law_right {C : Cn} {Γ : List Ent} {E : XK} {t1 : TE} {t2 : TE} {t3 : TE} {P1 : (List Int) → Prop} {P2 : (List Int) → Prop} {P3 : ((List Int) × (List (List Int))) → Prop} (h1 : EvP C t1 Γ .h (rSeq rInt) P1) (h2 : EvP C t2 Γ .h (rSeq rInt) P2) (h3 : EvP C t3 Γ .h (rPair (rList rInt) (rList (rTup rInt))) P3) (hp0 : ∀ a1 a2 a3, P1 a1 → P2 a2 → P3 a3 → (a1.length ≤ 1000 ∧ a2.length ≤ 1000)) (hp1 : ∀ a1 a2 a3, P1 a1 → P2 a2 → P3 a3 → (a3.1.length ≤ 1000 ∧ a3.2.length ≤ 1000 ∧ ∀ q_ ∈ a3.2, q_.length = 3)) : EvX C (tCall (sp_law_right) [] E (tCons t1 (tCons t2 (tCons t3 tNil)))) Γ (ResF C rBool (fun b => ∃ a1 a2 a3, P1 a1 ∧ P2 a2 ∧ P3 a3 ∧ (b = true))) := ex_call3 h1 h2 h3 (fun a1 a2 a3 _p1 _p2 _p3 => ⟨hp0 a1 a2 a3 _p1 _p2 _p3, hp1 a1 a2 a3 _p1 _p2 _p3⟩) exc0 (fun a1 a2 a3 _p1 _p2 _p3 => fun _ z => z)
def t_law_right (K : PySem.W.Frag) (E : XK) (x_Empty : Addr) (x_NoLine : Addr) (x_NoNumber : Addr) (x_NoPast : Addr) (x_NoPlace : Addr) (x_NoTelling : Addr) (x_NoText : Addr) (x_NoTree : Addr) (x_TooMany : Addr) (x_Unlike : Addr) : TS :=
(tSeq (tFor (iRng1 (tCons (tC (.int 3)) tNil)) (gName 3)
(tSeq (tAsg (tCall (sp_law_heard x_Empty) [] E0 (tCons (tVar 3) (tCons (tVar 0) (tCons (tVar 1) (tCons (tVar 2) tNil))))) (gName 4))
(tSeq (tIfS (tTest (tOp rEq (tCB (rLenS K) (tCons (tVar 0) tNil)) (tC (.int 0)))) (tSeq (tIfS (tNot (tB (tCall (sp_law_alone x_Empty x_NoLine x_NoNumber x_NoPast x_NoPlace x_NoTelling x_NoText x_NoTree x_TooMany x_Unlike) [] E0 (tCons (tVar 4) (tCons (tC (.int 1)) tNil))))) (tSeq (tRet (tC (.bl false))) tNext) tNext)
tNext) (tSeq (tIfS (tOr (tAnd (tTest (tOp (rI0 fun i j => .bl (decide (i < j))) (tVar 3) (tC (.int 2)))) (tNot (tB (tCB (rIsi K) (tCons (tVar 4) (tCons (tC (.ty "list")) tNil)))))) (tAnd (tTest (tOp rEq (tVar 3) (tC (.int 2)))) (tNot (tB (tCB (rIsi K) (tCons (tVar 4) (tCons (tC (.ty "bool")) tNil))))))) (tSeq (tRet (tC (.bl false))) tNext) (tSeq (tIfS (tAnd (tTest (tOp (rI0 fun i j => .bl (decide (i < j))) (tCB (rLenS K) (tCons (tVar 1) tNil)) (tCB (rLenS K) (tCons (tVar 0) tNil)))) (tTest (tOp (rNeD K) (tVar 4) (tOp (rIxK K .t) (tTup (tCons (tLst tNil) (tCons (tLst tNil) (tCons (tOp (rEqD K) (tVar 2) (tTup (tCons (tLst tNil) (tCons (tLst tNil) tNil)))) tNil)))) (tVar 3))))) (tSeq (tRet (tC (.bl false))) tNext) tNext)
tNext))
tNext))
tNext)))
(tSeq (tRet (tC (.bl true))) tNext))
theorem go_law_right {K : PySem.W.Frag} {C : Cn} {D : Ends} {E : XK} (x_Empty : Addr) (x_NoLine : Addr) (x_NoNumber : Addr) (x_NoPast : Addr) (x_NoPlace : Addr) (x_NoTelling : Addr) (x_NoText : Addr) (x_NoTree : Addr) (x_TooMany : Addr) (x_Unlike : Addr) (row_ : (List Int)) (text_ : (List Int)) (paper_ : ((List Int) × (List (List Int)))) (hp0 : row_.length ≤ 1000 ∧ text_.length ≤ 1000) (hp1 : paper_.1.length ≤ 1000 ∧ paper_.2.length ≤ 1000 ∧ ∀ q_ ∈ paper_.2, q_.length = 3) (hR : RetOk C D rBool (fun b => b = true)) :
    Go C (t_law_right K E x_Empty x_NoLine x_NoNumber x_NoPast x_NoPlace x_NoTelling x_NoText x_NoTree x_TooMany x_Unlike) D [.val .m (rSeq rInt) row_, .val .m (rSeq rInt) text_, .val .m (rPair (rList rInt) (rList (rTup rInt))) paper_, .no, .no] := by
  unfold t_law_right
  refine q_forD (j := 3) (σS := Unit) (fun s => [.val .m (rSeq rInt) row_, .val .m (rSeq rInt) text_, .val .m (rPair (rList rInt) (rList (rTup rInt))) paper_, .no, .no]) (fun (i : Nat) (s : Unit) => True) () (ei_rg1d (b := true) (ℓ := .g) (ev_int) (by first | omega | assumption | (simp; done) | (constructor <;> omega) | (simp; omega))) trivial (LeG.k (LeG.k (LeG.k (LeG.f (LeG.f LeG.nil))))) (fun C1 hc1 i1 x1 s hx1 hI0 => ?_) (fun s hI0 => ?_)
  · have hR := hR.ex hc1
    have hx1l := at_lt hx1
    have hx1r := rg_at hx1
    rw [rg_len] at hx1l
    refine q_asg (i := 4) (ℓ := .g) ((ev_call (call_law_heard (((ev_var (R := rInt) (a := x1) rfl)).toh) (((ev_var (R := (rSeq rInt)) (a := row_) rfl)).toh) (((ev_var (R := (rSeq rInt)) (a := text_) rfl)).toh) (((ev_var (R := (rPair (rList rInt) (rList (rTup rInt)))) (a := paper_) rfl)).toh) (by first | omega | simp) (by first | omega | simp) (by exact hp1)))) (fun found2 hfound2 => ?_)
    replace hfound2 : found2 = (TM.heard42 x_Empty x1 row_ text_ paper_) := hfound2
    refine q_ifC (ec_tst (ev_eqI ((ev_len (es_seq (ev_var (R := (rSeq rInt)) (a := row_) rfl)))) (ev_int))) (fun h3 => ?_) (fun h3 => ?_)
    · refine q_view (i := 4) (S := rExc) (b := x_Empty) rfl (fun H v h => vw_exl H v (by rw [show found2 = some (Sum.inl x_Empty) from (by rw [hfound2]; exact TM.h42_e (List.length_eq_zero_iff.mp (by omega)))] at h; exact h)) ?_
      refine q_ifT (ec_not (ec_valB (((ev_call (call_law_alone (((ev_var (R := rExc) (a := x_Empty) rfl)).toh) (ev_int) (by first | omega | simp) (by first | omega | simp)))).toh))) (fun h4 => ?_) (fun h4 => ?_)
      · refine q_ret (ev_bl) hR (fun r5 hr5 => ?_)
        replace hr5 : r5 = false := hr5
        show r5 = true
        rw [hr5]
        exfalso
        first
        | exact (by assumption : ¬ _ = true) (decide_eq_true rfl)
        | (have hz := (by assumption : (_ < (2 : Int) ∧ _) ∨ _)
           rcases hz with z | z
           · exact z.2 (decide_eq_true (hk_.1 z.1 (by omega)))
           · exact z.2 (decide_eq_true (hk_.2 z.1)))
        | (have hz := (by assumption : _ ∧ (¬ PyData.eqv _ _ = true))
           exact hz.2 (TM.d42_short (by omega) (by omega)))
      refine q_next (?_ : Go _ tNext _ _)
      refine q_next (hol_in () ?_ (LeG.k (LeG.k (LeG.k (LeG.f (LeG.f LeG.nil))))))
      show True
      trivial
    · have hk_ := TM.d42_kind (way := x1) (row := row_) (text := text_) (paper := paper_)
      refine q_view (i := 4) (S := rDat) (b := (TM.d42 x1 row_ text_ paper_)) rfl (fun H v h => vw_exr H v (by rw [show found2 = some (Sum.inr (TM.d42 x1 row_ text_ paper_)) from (by rw [hfound2]; exact TM.h42_r (fun z => (by assumption : ¬ _ = (0 : Int)) (by rw [z]; rfl)))] at h; exact h)) ?_
      refine q_ifC (ec_or (ec_and (ec_tst (ev_lt (((ev_var (R := rInt) (a := x1) rfl)).toh) (ev_int))) (fun hb6 => (ec_not (ec_valB ((ev_isDat (m := "list") (((ev_var (R := rDat) (a := (TM.d42 x1 row_ text_ paper_)) rfl)).toh) (by decide +kernel))))))) (fun hb8 => (ec_and (ec_tst (ev_eqI (((ev_var (R := rInt) (a := x1) rfl)).toh) (ev_int))) (fun hb9 => (ec_not (ec_valB ((ev_isDat (m := "bool") (((ev_var (R := rDat) (a := (TM.d42 x1 row_ text_ paper_)) rfl)).toh) (by decide +kernel))))))))) (fun h12 => ?_) (fun h12 => ?_)
      · refine q_ret (ev_bl) hR (fun r13 hr13 => ?_)
        replace hr13 : r13 = false := hr13
        show r13 = true
        rw [hr13]
        exfalso
        first
        | exact (by assumption : ¬ _ = true) (decide_eq_true rfl)
        | (have hz := (by assumption : (_ < (2 : Int) ∧ _) ∨ _)
           rcases hz with z | z
           · exact z.2 (decide_eq_true (hk_.1 z.1 (by omega)))
           · exact z.2 (decide_eq_true (hk_.2 z.1)))
        | (have hz := (by assumption : _ ∧ (¬ PyData.eqv _ _ = true))
           exact hz.2 (TM.d42_short (by omega) (by omega)))
      · refine q_ifT (ec_and (ec_tst (ev_lt ((ev_len (es_seq (ev_var (R := (rSeq rInt)) (a := text_) rfl)))) ((ev_len (es_seq (ev_var (R := (rSeq rInt)) (a := row_) rfl)))))) (fun hb14 => (ec_tstN (ev_neDt (((ev_var (R := rDat) (a := (TM.d42 x1 row_ text_ paper_)) rfl)).toh) (((ev_ix (es_tup (ev_tup (ℓ := .g) (em_cons ((ev_dat (dt_list dt_int) (GdD.of (K := default) (eqr_list eqr_int) (Nat.le_of_ble_eq_true rfl)) (ev_new (ℓ := .g) (en_lstd (ℓ := .g) (R := rInt) em_nil)))) (em_cons ((ev_dat (dt_list dt_int) (GdD.of (K := default) (eqr_list eqr_int) (Nat.le_of_ble_eq_true rfl)) (ev_new (ℓ := .g) (en_lstd (ℓ := .g) (R := rInt) em_nil)))) (em_cons ((ev_dat dt_bool (GdD.of (K := default) eqr_bool (Nat.le_of_ble_eq_true rfl)) (ev_eqD (eqr_pair (eqr_list eqr_int) (eqr_list (eqr_tup eqr_int))) (Nat.le_of_ble_eq_true rfl) (((ev_var (R := (rPair (rList rInt) (rList (rTup rInt)))) (a := paper_) rfl)).toh) (((ev_paird ((ev_new (ℓ := .g) (en_lstd (ℓ := .g) (R := rInt) em_nil))) ((ev_new (ℓ := .g) (en_lstd (ℓ := .g) (R := (rTup rInt)) em_nil))))).toh)))) (em_nil (R := rDat))))) (fun _ e => by rw [e]; exact Nat.le_of_ble_eq_true rfl))) (((ev_var (R := rInt) (a := x1) rfl)).toh) (by exact ⟨by omega, by show _ < (3 : Int); omega⟩))).toh))))) (fun h16 => ?_) (fun h16 => ?_)
        · refine q_ret (ev_bl) hR (fun r17 hr17 => ?_)
          replace hr17 : r17 = false := hr17
          show r17 = true
          rw [hr17]
          exfalso
          first
          | exact (by assumption : ¬ _ = true) (decide_eq_true rfl)
          | (have hz := (by assumption : (_ < (2 : Int) ∧ _) ∨ _)
             rcases hz with z | z
             · exact z.2 (decide_eq_true (hk_.1 z.1 (by omega)))
             · exact z.2 (decide_eq_true (hk_.2 z.1)))
          | (have hz := (by assumption : _ ∧ (¬ PyData.eqv _ _ = true))
             exact hz.2 (TM.d42_short (by omega) (by omega)))
        refine q_next (?_ : Go _ tNext _ _)
        refine q_next (?_ : Go _ tNext _ _)
        refine q_next (hol_in () ?_ (LeG.k (LeG.k (LeG.k (LeG.f (LeG.f LeG.nil))))))
        show True
        trivial
  show Go _ _ _ [.val .m (rSeq rInt) row_, .val .m (rSeq rInt) text_, .val .m (rPair (rList rInt) (rList (rTup rInt))) paper_, .no, .no]
  refine q_ret (ev_bl) hR (fun r18 hr18 => ?_)
  replace hr18 : r18 = true := hr18
  show r18 = true
  rw [hr18]
  all_goals (first | rfl | assumption | omega | (simp; done))
abbrev s_law_right : Stmt := topS 38
theorem sc_law_right : FnScope ["row", "text", "paper", "way", "found"] ["row", "text", "paper"] (defScope s_law_right) := ⟨rfl, rfl, rfl, by decide +kernel, rfl, by decide +kernel, by decide +kernel⟩
theorem ok_law_right {P : Program} {w : PySem.World} {K : PySem.W.Frag} {mg : Str → Option Value} {base : Heap} {x_Empty : Addr} {x_NoLine : Addr} {x_NoNumber : Addr} {x_NoPast : Addr} {x_NoPlace : Addr} {x_NoTelling : Addr} {x_NoText : Addr} {x_NoTree : Addr} {x_TooMany : Addr} {x_Unlike : Addr} {f : Addr} {fd : FuncData} (F : Fun K "_law_right" "_law_right" s_law_right f fd) {f_law_heard : Addr} {d_law_heard : FuncData} (c_law_heard : Cal P w K mg base CX0 5 "_law_heard" ["way", "row", "text", "paper"] (sp_law_heard x_Empty) f_law_heard d_law_heard) {f_law_alone : Addr} {d_law_alone : FuncData} (c_law_alone : Cal P w K mg base CX0 1 "_law_alone" ["e", "at"] (sp_law_alone x_Empty x_NoLine x_NoNumber x_NoPast x_NoPlace x_NoTelling x_NoText x_NoTree x_TooMany x_Unlike) f_law_alone d_law_alone) (m_bool : mg "bool" = none) (m_isinstance : mg "isinstance" = none) (m_len : mg "len" = none) (m_list : mg "list" = none) (m_range : mg "range" = none) : FnOk P w K mg base CX0 6 f fd ["row", "text", "paper"] sp_law_right := by
  have sc := sc_law_right
  refine F.ok sc (fun vs H Q E h => ?_) (fun cdv A outer s H vs Q E hr h => ?_)
  · obtain ⟨a_, ha_, _⟩ := h
    obtain ⟨v1, _, rfl, _ha1, ⟨v2, _, rfl, _ha2, ⟨v3, _, rfl, _ha3, rfl⟩⟩⟩ := ha_
    rfl
  · obtain ⟨⟨row_, text_, paper_, _⟩, ⟨v1, _, rfl, ha1, ⟨v2, _, rfl, ha2, ⟨v3, _, rfl, ha3, rfl⟩⟩⟩, ⟨hp0, hp1⟩, hR, hE⟩ := spF_open PIlaw (n := fun _ H' => Q .non H') h
    refine ⟨t_law_right K E x_Empty x_NoLine x_NoNumber x_NoPast x_NoPlace x_NoTelling x_NoText x_NoTree x_TooMany x_Unlike, ?_, go_law_right (C := (Cn0 PIlaw H)) x_Empty x_NoLine x_NoNumber x_NoPast x_NoPlace x_NoTelling x_NoText x_NoTree x_TooMany x_Unlike row_ text_ paper_ hp0 hp1 hR _ (W0 H []) (world_of (bok0 (PI := PIlaw) H) ⟨⟨by decide, v1, rfl, (rSeq rInt).mono (mw0 (PI := PIlaw) H) ha1⟩, ⟨⟨by decide, v2, rfl, (rSeq rInt).mono (mw0 (PI := PIlaw) H) ha2⟩, ⟨⟨by decide, v3, rfl, (rPair (rList rInt) (rList (rTup rInt))).mono (mw0 (PI := PIlaw) H) ha3⟩, ⟨trivial, ⟨trivial, trivial⟩⟩⟩⟩⟩ rfl)⟩
    unfold t_law_right
    exact (pss_cons (ps_for PassesOwn.never rfl (pi_range1 rfl m_range (pa_cons pe_int pa_nil)) (pg_name (i := 3) sc.nd rfl (Or.inl rfl))
(pss_cons (ps_set (i := 4) sc.nd rfl (Or.inl rfl) (pe_call c_law_heard.ok (hr.mono (by decide)) (by rfl) c_law_heard.g c_law_heard.kp c_law_heard.b .nil pass0 (pa_cons (pv 3) (pa_cons (pv 0) (pa_cons (pv 1) (pa_cons (pv 2) pa_nil))))))
(pss_cons (ps_if (pt_cmpR op_eq (pe_callB call_len_seq (by rfl) m_len bt_len (pa_cons (pv 0) pa_nil)) pe_int (nomark _)) (pss_cons (ps_if (pt_not (pt_val (pe_call c_law_alone.ok (hr.mono (by decide)) (by rfl) c_law_alone.g c_law_alone.kp c_law_alone.b .nil pass0 (pa_cons (pv 4) (pa_cons pe_int pa_nil))))) (pss_cons (ps_ret pe_bl) pss_nil) pss_nil)
pss_nil) (pss_cons (ps_if (PW.pt (pw_or (PW.pt (pw_and (pt_cmpR op_lt (pv 3) pe_int (nomark _)) (pw_and1 (pt_not (pt_val (pe_callB call_isi (by rfl) m_isinstance bt_isinstance (pa_cons (pv 4) (pa_cons (pe_bltn (v := .ty "list") (by rfl) m_list bt_list rfl) pa_nil)))))))) (pw_or1 (PW.pt (pw_and (pt_cmpR op_eq (pv 3) pe_int (nomark _)) (pw_and1 (pt_not (pt_val (pe_callB call_isi (by rfl) m_isinstance bt_isinstance (pa_cons (pv 4) (pa_cons (pe_bltn (v := .ty "bool") (by rfl) m_bool bt_bool rfl) pa_nil))))))))))) (pss_cons (ps_ret pe_bl) pss_nil) (pss_cons (ps_if (PW.pt (pw_and (pt_cmpR op_lt (pe_callB call_len_seq (by rfl) m_len bt_len (pa_cons (pv 1) pa_nil)) (pe_callB call_len_seq (by rfl) m_len bt_len (pa_cons (pv 0) pa_nil)) (nomark _)) (pw_and1 (pt_cmpR (op_neD (roomUn hr)) (pv 4) (pe_ix ix_tup (pe_tup (pa_cons (pe_lst pa_nil) (pa_cons (pe_lst pa_nil) (pa_cons (pe_cmpR (op_eqD (roomUn hr)) (pv 2) (pe_tup (pa_cons (pe_lst pa_nil) (pa_cons (pe_lst pa_nil) pa_nil))) (nomark _)) pa_nil)))) (pv 3) (fun _ _ => rfl)) (nomark _))))) (pss_cons (ps_ret pe_bl) pss_nil) pss_nil)
pss_nil))
pss_nil))
pss_nil)))
(pss_cons (ps_ret pe_bl) pss_nil))
theorem hv_law_deal (xs : List V) (l : List Int) (h : ∃ x, l = [x]) (h2 : ∀ H, All2 (rInt.is H) xs l) : PIlaw (.lst xs) := by
  obtain ⟨x, rfl⟩ := h
  have h3 := h2 fun _ => none
  match xs, h3 with
  | [v], h3 => exact ⟨x, by rw [show v = .int x from h3.1]⟩
def sp_law (K : PySem.W.Frag) : Sp := spF (aCons (rScr K) aNil) (fun (a : (List Int) × Unit) => (a.1.length ≤ 63)) rBool (fun (a : (List Int) × Unit) b => b = true) (fun _ _ => False)
theorem call_law {C : Cn} {Γ : List Ent} {E : XK} {K : PySem.W.Frag} {t1 : TE} {a1 : (List Int)} (h1 : Ev C t1 Γ .h (rScr K) a1) (hp0 : a1.length ≤ 63) : EvX C (tCall (sp_law K) [] E (tCons t1 tNil)) Γ (ResF C rBool (fun (b : Bool) => b = true)) := ed_call1 h1 hp0 exc0 (fun _ z => z)
theorem callx_law {C : Cn} {Γ : List Ent} {E : XK} {K : PySem.W.Frag} {t1 : TE} {P1 : (List Int) → Prop} (h1 : EvP C t1 Γ .h (rScr K) P1) (hp0 : ∀ a1, P1 a1 → (a1.length ≤ 63)) : EvX C (tCall (sp_law K) [] E (tCons t1 tNil)) Γ (ResF C rBool (fun (b : Bool) => ∃ a1, P1 a1 ∧ (b = true))) := ex_call1 h1 (fun a1 _p1 => hp0 a1 _p1) exc0 (fun a1 _p1 => fun _ z => z)
def t_law (K : PySem.W.Frag) (E : XK) : TS :=
(tSeq (tFor (iList K (tOp rCat (tSl (rSlL K) (tVar 0) tNoPart (tPart (tC (.int 12)))) (tLst (tCons (tC (.int 0)) tNil)))) (gName 1)
(tSeq (tAsg (tCall sp_law_deal [] E0 (tCons (tVar 1) tNil)) (gName 2))
(tSeq (tAsg (tOp (rIxK K .l) (tLst (tCons (tCall sp_law_row [] E0 (tCons (tVar 2) (tCons (tC (.int 40)) tNil))) (tCons (tLst tNil) tNil))) (tCall sp_law_take [] E0 (tCons (tVar 2) (tCons (tC (.int 2)) tNil)))) (gName 3))
(tSeq (tAsg (tCall sp_law_row [] E0 (tCons (tVar 2) (tCons (tC (.int 40)) tNil))) (gName 4))
(tSeq (tAsg (tTup (tCons (tLc (iRng1 (tCons (tCall sp_law_take [] E0 (tCons (tVar 2) (tCons (tC (.int 3)) tNil))) tNil)) (gName 6) tYes (tCall sp_law_take [] E0 (tCons (tVar 2) (tCons (tC (.int 40)) tNil))) [6]) (tCons (tLst tNil) tNil))) (gName 5))
(tCut (tIfS (tTest (tOp rEq (tCall sp_law_take [] E0 (tCons (tVar 2) (tCons (tC (.int 3)) tNil))) (tC (.int 0)))) (tSeq (tDrop (tBM K "list" rAppend (tOp (rIxK K .t) (tVar 5) (tC (.int 1))) (tCons (tTup (tCons (tCall sp_law_take [] E0 (tCons (tVar 2) (tCons (tC (.int 40)) tNil))) (tCons (tC (.int 0)) (tCons (tC (.int 1)) tNil)))) tNil)))
tNext) tNext)
(tSeq (tIfS (tOr (tNot (tB (tCall sp_law_right [] E0 (tCons (tVar 3) (tCons (tVar 4) (tCons (tVar 5) tNil)))))) (tNot (tB (tCall sp_law_right [] E0 (tCons (tCB (rTupOf K) (tCons (tVar 3) tNil)) (tCons (tCB (rTupOf K) (tCons (tVar 4) tNil)) (tCons (tVar 5) tNil))))))) (tSeq (tRet (tC (.bl false))) tNext) tNext)
(tSeq (tIfS (tOr (tNot (tB (tCall sp_law_right [] E0 (tCons (tLst tNil) (tCons (tVar 4) (tCons (tVar 5) tNil)))))) (tNot (tB (tCall sp_law_right [] E0 (tCons (tSl (rSlL K) (tVar 3) tNoPart (tPart (tC (.int 1)))) (tCons (tLst tNil) (tCons (tTup (tCons (tLst tNil) (tCons (tLst tNil) tNil))) tNil))))))) (tSeq (tRet (tC (.bl false))) tNext) tNext)
tNext))))))))
(tSeq (tRet (tAndV (tOp (rEqD K) (tCall sp_borders_of [] E0 (tCons (tLst tNil) tNil)) (tLst tNil)) (tAndV (tOp (rEqD K) (tCall sp_steps_of [] E0 (tCons (tLst tNil) tNil)) (tLst tNil)) (tAndV (tOp (rEqD K) (tCall sp_borders_of [] E0 (tCons (tTup tNil) tNil)) (tLst tNil)) (tOp (rEqD K) (tCall sp_steps_of [] E0 (tCons (tTup tNil) tNil)) (tLst tNil)))))) tNext))
theorem go_law {K : PySem.W.Frag} {C : Cn} {D : Ends} {E : XK} (script_ : (List Int)) (hp0 : script_.length ≤ 63) (hR : RetOk C D rBool (fun (b : Bool) => b = true)) (hPI : C.PI = PIlaw) :
    Go C (t_law K E) D [.val .m (rScr K) script_, .no, .no, .no, .no, .no, .no] := by
  unfold t_law
  refine q_forD (j := 1) (σS := Unit) (fun s => [.val .m (rScr K) script_, .no, .no, .no, .no, .no, .no]) (fun (i : Nat) (s : Unit) => True) () (ei_list (b := true) (hc := (by intro _; decide)) (hl := (by intro _; decide)) (es_list (ev_new (ℓ := .g) (en_catd (es_list (ev_new (ℓ := .g) (en_slScrd ((ev_var (R := (rScr K)) (a := script_) rfl)).toh eo_no (eo_part (ev_int))))) (es_list (ev_new (ℓ := .g) (en_lstd (ℓ := .g) (em_cons (ev_int) em_nil) (Nat.le_of_ble_eq_true rfl)))) (by
        have hsl_ := sl_len_le (l := script_) none (some 12)
        simp only [List.length_cons, List.length_nil]; omega))))) trivial (LeG.k (LeG.f (LeG.f (LeG.f (LeG.f (LeG.f (LeG.f LeG.nil))))))) (fun C1 hc1 i1 x1 s hx1 hI0 => ?_) (fun s hI0 => ?_)
  · have hR := hR.ex hc1
    have hPI := hc1.pi.trans hPI
    have hx1l := at_lt hx1
    refine q_asgV (i := 2) fl_int (call_law_deal (((ev_var (R := rInt) (a := x1) rfl)).toh) ) (hPI ▸ hv_law_deal) (fun p3 hnt_p3 => ?_)
    refine q_asg (i := 3) (ℓ := .g) (evp_pick (es_list (ev_new (en_lst (ℓ := .g) (emp_cons (ev_call (vol_law_row (i := 2) rfl hPI (ev_int) (by
          omega))) (emp_cons ((ev_new (ℓ := .g) (en_lstd (ℓ := .g) (R := rInt) em_nil))) em_nilP)) (by intro l6 h5; obtain ⟨x9, l10, rfl, hx9, ⟨x7, l8, rfl, hx7, rfl⟩⟩ := h5; simp)))) ((ev_call (vol_law_take (i := 2) rfl hPI (ev_int) (by
          omega))).toh) (by
          intro l12 i13 h14 h15
          obtain ⟨x18, l19, rfl, hx18, ⟨x16, l17, rfl, hx16, rfl⟩⟩ := h14
          obtain h15 := h15
          subst_vars; simp; omega)) (fun row20 hrow20 => ?_)
    obtain ⟨l21, ⟨x25, l26, rfl, hx25, ⟨x23, l24, rfl, hx23, rfl⟩⟩, hrow20⟩ := hrow20
    have hmem_ := hrow20
    try simp only [List.mem_cons, List.not_mem_nil, or_false] at hrow20
    refine q_asg (i := 4) (ℓ := .g) (ev_call (vol_law_row (i := 2) rfl hPI (ev_int) (by
          omega))) (fun text28 htext28 => ?_)
    replace htext28 : (text28.length : Int) ≤ (40 : Int) := htext28
    refine q_asgPr (i := 5) ((ev_new (ℓ := .g) (en_lcR (ℓ' := .g) ((ev_call (vol_law_take (i := 2) rfl hPI (ev_int) (by
          omega))).toh) (by
          intro n34 hn35
          replace hn35 : _ := hn35
          omega) (fun n34 c30 hn35 hc31 => by
            have hc31_ := rg_mem.mp hc31
            exact (ev_call (vol_law_take (i := 2) rfl hPI (ev_int) (by
                      omega))))))) (en_lstd (ℓ := .g) (R := (rTup rInt)) em_nil) (fun v36 q37 paper38 paper39 hpaper38 hpaper39 => ?_)
    obtain ⟨hpaper38_n, hpaper38_nn, hpaper38_len, hpaper38_at⟩ := hpaper38
    replace hpaper39 : paper39 = ([] : List (List Int)) := hpaper39
    refine q_cut (S := ((List Int) × (List (List Int)))) (fun s => [.val .m (rScr K) script_, .val .g rInt x1, .vol p3, .val .g (rList rInt) row20, .val .g (rList rInt) text28, .ob v36 [q37] .g (obPr (rList rInt) (rTup rInt)) s, .no]) (fun s => (TM.J42 s (paper38, paper39))) (c_if (EvB.tt (eb_tst (evp_eqI ((ev_call (vol_law_take (i := 2) rfl hPI (ev_int) (by
          omega))).toh) (ev_int)))) (fun h41 => ?_) (fun h41 => ?_)) (fun s h41j => ?_)
    · refine q_appPr (i := 5) (R := (rList rInt)) (U := (rTup rInt)) (a := (paper38, paper39)) rfl (by rw [show (paper38, paper39).2 = ([] : List (List Int)) from by assumption]; decide) (ev_tup (ℓ := .g) (emp_cons (ev_call (vol_law_take (i := 2) rfl hPI (ev_int) (by
            omega))) (emp_cons (ev_int) (emp_cons (ev_int) em_nilP))) (by intro l44 h43; obtain ⟨x49, l50, rfl, hx49, ⟨x47, l48, rfl, hx47, ⟨x45, l46, rfl, hx45, rfl⟩⟩⟩ := h43; simp)) (fun e51 he51 => ?_)
      obtain ⟨x56, l57, he51, hx56, ⟨x54, l55, rfl, hx54, ⟨x52, l53, rfl, hx52, rfl⟩⟩⟩ := he51
      refine q_next (hol_in ((paper38, paper39).1, (paper38, paper39).2 ++ [e51]) ?_ (LeG.k (LeG.k (LeG.k (LeG.k (LeG.k (LeG.k (LeG.f LeG.nil))))))))
      show (TM.J42 ((paper38, paper39).1, (paper38, paper39).2 ++ [e51]) (paper38, paper39))
      refine ⟨rfl, ?_, ?_⟩ <;> simp_all
    · refine q_next (hol_in (paper38, paper39) ?_ (LeG.k (LeG.k (LeG.k (LeG.k (LeG.k (LeG.k (LeG.f LeG.nil))))))))
      show (TM.J42 (paper38, paper39) (paper38, paper39))
      refine ⟨rfl, ?_, ?_⟩ <;> simp_all
    revert s h41j; intro paper58 h41j
    replace h41j : (TM.J42 paper58 (paper38, paper39)) := h41j
    have hz_ := hrow20
    have hrl_ : (row20).length ≤ 40 := by
      rcases hz_ with z | z <;> rw [z]
      · omega
      · simp_all
    obtain ⟨hj0_, hj1_, hj2_⟩ := h41j
    have hpp_ : (paper58).1.length ≤ 1000 := by rw [hj0_]; dsimp only; simp only [rg_len] at *; omega
    refine q_ifT (ec_or (ec_not (ec_valB (((ev_call (call_law_right (((ev_seqL (ev_var (R := (rList rInt)) (a := row20) rfl))).toh) (((ev_seqL (ev_var (R := (rList rInt)) (a := text28) rfl))).toh) ((ev_prH (R := (rList rInt)) (U := (rTup rInt)) (a := paper58) rfl)) (by omega) (by exact ⟨hpp_, by omega, hj2_⟩)))).toh))) (fun hb59 => (ec_not (ec_valB (((ev_call (call_law_right (((ev_seqT (ev_tupL (ℓ := .g) (es_list (ev_var (R := (rList rInt)) (a := row20) rfl))))).toh) (((ev_seqT (ev_tupL (ℓ := .g) (es_list (ev_var (R := (rList rInt)) (a := text28) rfl))))).toh) ((ev_prH (R := (rList rInt)) (U := (rTup rInt)) (a := paper58) rfl)) (by omega) (by exact ⟨hpp_, by omega, hj2_⟩)))).toh))))) (fun h61 => ?_) (fun h61 => ?_)
    · refine q_ret (ev_bl) hR (fun r62 hr62 => ?_)
      replace hr62 : r62 = false := hr62
      show r62 = true
      (try rw [hr62])
      exfalso; first | contradiction | (simp_all; done)
    refine q_ifT (ec_or (ec_not (ec_valB (((ev_call (call_law_right (((ev_seqL (ev_new (ℓ := .g) (en_lstd (ℓ := .g) (R := rInt) em_nil)))).toh) (((ev_seqL (ev_var (R := (rList rInt)) (a := text28) rfl))).toh) ((ev_prH (R := (rList rInt)) (U := (rTup rInt)) (a := paper58) rfl)) (by simp only [List.length_nil]; omega) (by exact ⟨hpp_, by omega, hj2_⟩)))).toh))) (fun hb63 => (ec_not (ec_valB (((ev_call (call_law_right (((ev_seqL (ev_new (ℓ := .g) (en_slLd (es_list (ev_var (R := (rList rInt)) (a := row20) rfl)) eo_no (eo_part (ev_int)))))).toh) (((ev_seqL (ev_new (ℓ := .g) (en_lstd (ℓ := .g) (R := rInt) em_nil)))).toh) (((ev_paird ((ev_new (ℓ := .g) (en_lstd (ℓ := .g) (R := rInt) em_nil))) ((ev_new (ℓ := .g) (en_lstd (ℓ := .g) (R := (rTup rInt)) em_nil))))).toh) (by exact ⟨Nat.le_trans (sl_len_le _ _) (by omega), by simp⟩) (by simp)))).toh))))) (fun h65 => ?_) (fun h65 => ?_)
    · refine q_ret (ev_bl) hR (fun r66 hr66 => ?_)
      replace hr66 : r66 = false := hr66
      show r66 = true
      (try rw [hr66])
      exfalso; first | contradiction | (simp_all; done)
    refine q_next (hol_in () ?_ (LeG.k (LeG.f (LeG.f (LeG.f (LeG.f (LeG.f (LeG.f LeG.nil))))))))
    show True
    trivial
  show Go _ _ _ [.val .m (rScr K) script_, .no, .no, .no, .no, .no, .no]
  refine q_ret ((ev_andV ((ev_eqD (eqr_list eqr_int) (Nat.le_of_ble_eq_true rfl) (((ev_new (ℓ := .g) (en_call (ℓ := .g) fl_int (call_borders_of (((ev_seqL (ev_new (ℓ := .g) (en_lstd (ℓ := .g) (R := rInt) em_nil)))).toh) (by simp))))).toh) (((ev_new (ℓ := .g) (en_lstd (ℓ := .g) (R := rInt) em_nil))).toh))) (fun hb67 => have hb67p : ((TM.borders ([] : List Int)) = ([] : List Int)) := (by first | (intro z; rw [z] at hb67; cases hb67; done) | simpa using hb67); (ev_andV ((ev_eqD (eqr_list eqr_int) (Nat.le_of_ble_eq_true rfl) (((ev_new (ℓ := .g) (en_call (ℓ := .g) fl_int (call_steps_of (((ev_seqL (ev_new (ℓ := .g) (en_lstd (ℓ := .g) (R := rInt) em_nil)))).toh) (by simp))))).toh) (((ev_new (ℓ := .g) (en_lstd (ℓ := .g) (R := rInt) em_nil))).toh))) (fun hb68 => have hb68p : ((TM.steps ([] : List Int)) = ([] : List Int)) := (by first | (intro z; rw [z] at hb68; cases hb68; done) | simpa using hb68); (ev_andV ((ev_eqD (eqr_list eqr_int) (Nat.le_of_ble_eq_true rfl) (((ev_new (ℓ := .g) (en_call (ℓ := .g) fl_int (call_borders_of (((ev_seqT (ev_tup (ℓ := .g) (em_nil (R := rInt)) (fun _ e => by rw [e]; exact Nat.le_of_ble_eq_true rfl)))).toh) (by simp))))).toh) (((ev_new (ℓ := .g) (en_lstd (ℓ := .g) (R := rInt) em_nil))).toh))) (fun hb69 => have hb69p : ((TM.borders ([] : List Int)) = ([] : List Int)) := (by first | (intro z; rw [z] at hb69; cases hb69; done) | simpa using hb69); ((ev_eqD (eqr_list eqr_int) (Nat.le_of_ble_eq_true rfl) (((ev_new (ℓ := .g) (en_call (ℓ := .g) fl_int (call_steps_of (((ev_seqT (ev_tup (ℓ := .g) (em_nil (R := rInt)) (fun _ e => by rw [e]; exact Nat.le_of_ble_eq_true rfl)))).toh) (by simp))))).toh) (((ev_new (ℓ := .g) (en_lstd (ℓ := .g) (R := rInt) em_nil))).toh)))))))))) hR (fun r71 hr71 => ?_)
  replace hr71 : r71 = ((decide ((TM.borders ([] : List Int)) = ([] : List Int))) && ((decide ((TM.steps ([] : List Int)) = ([] : List Int))) && ((decide ((TM.borders ([] : List Int)) = ([] : List Int))) && (decide ((TM.steps ([] : List Int)) = ([] : List Int)))))) := hr71
  show r71 = true
  (try rw [hr71])
  all_goals (first | rfl | assumption | omega | (simp; done))
abbrev s_law : Stmt := topS 39
theorem sc_law : FnScope ["script", "cell", "pot", "row", "text", "paper", "turn"] ["script"] (defScope s_law) := ⟨rfl, rfl, rfl, by decide +kernel, rfl, by decide +kernel, by decide +kernel⟩
theorem ok_law {P : Program} {w : PySem.World} {K : PySem.W.Frag} {mg : Str → Option Value} {base : Heap} {f : Addr} {fd : FuncData} (F : Fun K "law" "law" s_law f fd) {f_law_deal : Addr} {d_law_deal : FuncData} (c_law_deal : Cal P w K mg base CX0 1 "_law_deal" ["cell"] sp_law_deal f_law_deal d_law_deal) {f_law_row : Addr} {d_law_row : FuncData} (c_law_row : Cal P w K mg base CX0 3 "_law_row" ["pot", "most"] sp_law_row f_law_row d_law_row) {f_law_take : Addr} {d_law_take : FuncData} (c_law_take : Cal P w K mg base CX0 1 "_law_take" ["pot", "many"] sp_law_take f_law_take d_law_take) {f_law_right : Addr} {d_law_right : FuncData} (c_law_right : Cal P w K mg base CX0 6 "_law_right" ["row", "text", "paper"] sp_law_right f_law_right d_law_right) {f_borders_of : Addr} {d_borders_of : FuncData} (c_borders_of : Cal P w K mg base CX0 2 "borders_of" ["row"] sp_borders_of f_borders_of d_borders_of) {f_steps_of : Addr} {d_steps_of : FuncData} (c_steps_of : Cal P w K mg base CX0 3 "steps_of" ["row"] sp_steps_of f_steps_of d_steps_of) (m_range : mg "range" = none) (m_tuple : mg "tuple" = none) : FnOk P w K mg base CX0 7 f fd ["script"] (sp_law K) := by
  have sc := sc_law
  refine F.ok sc (fun vs H Q E h => ?_) (fun cdv A outer s H vs Q E hr h => ?_)
  · obtain ⟨a_, ha_, _⟩ := h
    obtain ⟨v1, _, rfl, _ha1, rfl⟩ := ha_
    rfl
  · obtain ⟨⟨script_, _⟩, ⟨v1, _, rfl, ha1, rfl⟩, hp0, hR, hE⟩ := spF_open PIlaw (n := fun _ H' => Q .non H') h
    refine ⟨t_law K E, ?_, go_law (C := (Cn0 PIlaw H)) script_ hp0 hR rfl _ (W0 H []) (world_of (bok0 (PI := PIlaw) H) ⟨⟨by decide, v1, rfl, (rScr K).mono (mw0 (PI := PIlaw) H) ha1⟩, ⟨trivial, ⟨trivial, ⟨trivial, ⟨trivial, ⟨trivial, ⟨trivial, trivial⟩⟩⟩⟩⟩⟩⟩ rfl)⟩
    unfold t_law
    exact (pss_cons (ps_for PassesOwn.never rfl (pi_list (pe_op op_cat (pe_slice sl_list (pv 0) po_none (po_some pe_int)) (pe_lst (pa_cons pe_int pa_nil)))) (pg_name (i := 1) sc.nd rfl (Or.inl rfl))
(pss_cons (ps_set (i := 2) sc.nd rfl (Or.inr rfl) (pe_call c_law_deal.ok (hr.mono (by decide)) (by rfl) c_law_deal.g c_law_deal.kp c_law_deal.b .nil pass0 (pa_cons (pv 1) pa_nil)))
(pss_cons (ps_set (i := 3) sc.nd rfl (Or.inl rfl) (pe_ix ix_list (pe_lst (pa_cons (pe_call c_law_row.ok (hr.mono (by decide)) (by rfl) c_law_row.g c_law_row.kp c_law_row.b .nil pass0 (pa_cons (pv 2) (pa_cons pe_int pa_nil))) (pa_cons (pe_lst pa_nil) pa_nil))) (pe_call c_law_take.ok (hr.mono (by decide)) (by rfl) c_law_take.g c_law_take.kp c_law_take.b .nil pass0 (pa_cons (pv 2) (pa_cons pe_int pa_nil))) (fun _ _ => rfl)))
(pss_cons (ps_set (i := 4) sc.nd rfl (Or.inl rfl) (pe_call c_law_row.ok (hr.mono (by decide)) (by rfl) c_law_row.g c_law_row.kp c_law_row.b .nil pass0 (pa_cons (pv 2) (pa_cons pe_int pa_nil))))
(pss_cons (ps_set (i := 5) sc.nd rfl (Or.inl rfl) (pe_tup (pa_cons (pe_lc (own := [("turn", 6)]) (g := (gName 6)) rfl sc.nd (pi_range1 rfl m_range (pa_cons (pe_call c_law_take.ok (hr.mono (by decide)) (by rfl) c_law_take.g c_law_take.kp c_law_take.b .nil pass0 (pa_cons (pv 2) (pa_cons pe_int pa_nil))) pa_nil)) (blkOk_by (own := [("turn", 6)]) (N := ["script", "cell", "pot", "row", "text", "paper", "turn"]) (sc := defScope s_law) (by decide +kernel)) (fun _ _ _ _ _ => pg_name (i := 6) sc.nd rfl (Or.inl rfl)) (fun _ _ _ _ _ => pts_nil) (fun _ _ _ _ _ => (pe_call c_law_take.ok (hr.mono (by decide)) (by rfl) c_law_take.g c_law_take.kp c_law_take.b .nil pass0 (pa_cons (pv 2) (pa_cons pe_int pa_nil))))) (pa_cons (pe_lst pa_nil) pa_nil))))
(pss_cut (ps_if (pt_cmpR op_eq (pe_call c_law_take.ok (hr.mono (by decide)) (by rfl) c_law_take.g c_law_take.kp c_law_take.b .nil pass0 (pa_cons (pv 2) (pa_cons pe_int pa_nil))) pe_int (nomark _)) (pss_cons (ps_expr (pe_bm PySem.F.plainAttrs_list PySem.F.slot_list_append PySem.F.type_list_append mt_append (pe_ix ix_tup (pv 5) pe_int (fun _ _ => rfl)) (pa_cons (pe_tup (pa_cons (pe_call c_law_take.ok (hr.mono (by decide)) (by rfl) c_law_take.g c_law_take.kp c_law_take.b .nil pass0 (pa_cons (pv 2) (pa_cons pe_int pa_nil))) (pa_cons pe_int (pa_cons pe_int pa_nil)))) pa_nil)))
pss_nil) pss_nil)
(pss_cons (ps_if (PW.pt (pw_or (pt_not (pt_val (pe_call c_law_right.ok (hr.mono (by decide)) (by rfl) c_law_right.g c_law_right.kp c_law_right.b .nil pass0 (pa_cons (pv 3) (pa_cons (pv 4) (pa_cons (pv 5) pa_nil)))))) (pw_or1 (pt_not (pt_val (pe_call c_law_right.ok (hr.mono (by decide)) (by rfl) c_law_right.g c_law_right.kp c_law_right.b .nil pass0 (pa_cons (pe_callTy call_tuple_of (by rfl) m_tuple bt_tuple (pa_cons (pv 3) pa_nil)) (pa_cons (pe_callTy call_tuple_of (by rfl) m_tuple bt_tuple (pa_cons (pv 4) pa_nil)) (pa_cons (pv 5) pa_nil))))))))) (pss_cons (ps_ret pe_bl) pss_nil) pss_nil)
(pss_cons (ps_if (PW.pt (pw_or (pt_not (pt_val (pe_call c_law_right.ok (hr.mono (by decide)) (by rfl) c_law_right.g c_law_right.kp c_law_right.b .nil pass0 (pa_cons (pe_lst pa_nil) (pa_cons (pv 4) (pa_cons (pv 5) pa_nil)))))) (pw_or1 (pt_not (pt_val (pe_call c_law_right.ok (hr.mono (by decide)) (by rfl) c_law_right.g c_law_right.kp c_law_right.b .nil pass0 (pa_cons (pe_slice sl_list (pv 3) po_none (po_some pe_int)) (pa_cons (pe_lst pa_nil) (pa_cons (pe_tup (pa_cons (pe_lst pa_nil) (pa_cons (pe_lst pa_nil) pa_nil))) pa_nil))))))))) (pss_cons (ps_ret pe_bl) pss_nil) pss_nil)
pss_nil))))))))
(pss_cons (ps_ret (pe_and (pe_cmpR (op_eqD (roomUn hr)) (pe_call c_borders_of.ok (hr.mono (by decide)) (by rfl) c_borders_of.g c_borders_of.kp c_borders_of.b .nil pass0 (pa_cons (pe_lst pa_nil) pa_nil)) (pe_lst pa_nil) (nomark _)) (pe_and (pe_cmpR (op_eqD (roomUn hr)) (pe_call c_steps_of.ok (hr.mono (by decide)) (by rfl) c_steps_of.g c_steps_of.kp c_steps_of.b .nil pass0 (pa_cons (pe_lst pa_nil) pa_nil)) (pe_lst pa_nil) (nomark _)) (pe_and (pe_cmpR (op_eqD (roomUn hr)) (pe_call c_borders_of.ok (hr.mono (by decide)) (by rfl) c_borders_of.g c_borders_of.kp c_borders_of.b .nil pass0 (pa_cons (pe_tup pa_nil) pa_nil)) (pe_lst pa_nil) (nomark _)) (pe_one (pe_cmpR (op_eqD (roomUn hr)) (pe_call c_steps_of.ok (hr.mono (by decide)) (by rfl) c_steps_of.g c_steps_of.kp c_steps_of.b .nil pass0 (pa_cons (pe_tup pa_nil) pa_nil)) (pe_lst pa_nil) (nomark _))))))) pss_nil))
theorem all_mk {l : PySem.W.OpenLaw} {w : PySem.World} {K : PySem.W.Frag} {h : Heap} {mg : Str → Option Value} {fa : Addr} (X : K.In h) (G : h.Ns mainGlobals mg) (hfa : mg "law" = some (.ref fa))
    {f0 : Addr} {od0 an0 : Option Addr} {sl0 : Array (Option Value)} {oc0 kV0 dc0 pm0 cd0 ct0 : Value}
    (a0 : PySem.W.nsIn K mainGlobals "_law_deal" = some (some (.ref f0))) (l0 : K.lookup f0 = some ⟨oc0, od0, .func (PySem.W.fnOf "_law_deal" "_law_deal" (defArgs s_law_deal) (defBody s_law_deal) (defScope s_law_deal) .none kV0 dc0 pm0 an0 cd0 ct0), sl0⟩) (c0 : PySem.W.codeIn K cd0 "_law_deal" = true) (k0 : PySem.W.keepIn K (.ref f0) = true)
    {f1 : Addr} {od1 an1 : Option Addr} {sl1 : Array (Option Value)} {oc1 kV1 dc1 pm1 cd1 ct1 : Value}
    (a1 : PySem.W.nsIn K mainGlobals "_law_take" = some (some (.ref f1))) (l1 : K.lookup f1 = some ⟨oc1, od1, .func (PySem.W.fnOf "_law_take" "_law_take" (defArgs s_law_take) (defBody s_law_take) (defScope s_law_take) .none kV1 dc1 pm1 an1 cd1 ct1), sl1⟩) (c1 : PySem.W.codeIn K cd1 "_law_take" = true) (k1 : PySem.W.keepIn K (.ref f1) = true)
    {f2 : Addr} {od2 an2 : Option Addr} {sl2 : Array (Option Value)} {oc2 kV2 dc2 pm2 cd2 ct2 : Value}
    (a2 : PySem.W.nsIn K mainGlobals "_law_unlike" = some (some (.ref f2))) (l2 : K.lookup f2 = some ⟨oc2, od2, .func (PySem.W.fnOf "_law_unlike" "_law_unlike" (defArgs s_law_unlike) (defBody s_law_unlike) (defScope s_law_unlike) .none kV2 dc2 pm2 an2 cd2 ct2), sl2⟩) (c2 : PySem.W.codeIn K cd2 "_law_unlike" = true) (k2 : PySem.W.keepIn K (.ref f2) = true)
    {f3 : Addr} {od3 an3 : Option Addr} {sl3 : Array (Option Value)} {oc3 kV3 dc3 pm3 cd3 ct3 : Value}
    (a3 : PySem.W.nsIn K mainGlobals "_law_row" = some (some (.ref f3))) (l3 : K.lookup f3 = some ⟨oc3, od3, .func (PySem.W.fnOf "_law_row" "_law_row" (defArgs s_law_row) (defBody s_law_row) (defScope s_law_row) .none kV3 dc3 pm3 an3 cd3 ct3), sl3⟩) (c3 : PySem.W.codeIn K cd3 "_law_row" = true) (k3 : PySem.W.keepIn K (.ref f3) = true)
    {f4 : Addr} {od4 an4 : Option Addr} {sl4 : Array (Option Value)} {oc4 kV4 dc4 pm4 cd4 ct4 : Value}
    (a4 : PySem.W.nsIn K mainGlobals "backs_of" = some (some (.ref f4))) (l4 : K.lookup f4 = some ⟨oc4, od4, .func (PySem.W.fnOf "backs_of" "backs_of" (defArgs s_backs_of) (defBody s_backs_of) (defScope s_backs_of) .none kV4 dc4 pm4 an4 cd4 ct4), sl4⟩) (c4 : PySem.W.codeIn K cd4 "backs_of" = true) (k4 : PySem.W.keepIn K (.ref f4) = true)
    {f5 : Addr} {od5 an5 : Option Addr} {sl5 : Array (Option Value)} {oc5 kV5 dc5 pm5 cd5 ct5 : Value}
    (a5 : PySem.W.nsIn K mainGlobals "cut_back" = some (some (.ref f5))) (l5 : K.lookup f5 = some ⟨oc5, od5, .func (PySem.W.fnOf "cut_back" "cut_back" (defArgs s_cut_back) (defBody s_cut_back) (defScope s_cut_back) .none kV5 dc5 pm5 an5 cd5 ct5), sl5⟩) (c5 : PySem.W.codeIn K cd5 "cut_back" = true) (k5 : PySem.W.keepIn K (.ref f5) = true)
    {f6 : Addr} {od6 an6 : Option Addr} {sl6 : Array (Option Value)} {oc6 kV6 dc6 pm6 cd6 ct6 : Value}
    (a6 : PySem.W.nsIn K mainGlobals "borders_of" = some (some (.ref f6))) (l6 : K.lookup f6 = some ⟨oc6, od6, .func (PySem.W.fnOf "borders_of" "borders_of" (defArgs s_borders_of) (defBody s_borders_of) (defScope s_borders_of) .none kV6 dc6 pm6 an6 cd6 ct6), sl6⟩) (c6 : PySem.W.codeIn K cd6 "borders_of" = true) (k6 : PySem.W.keepIn K (.ref f6) = true)
    {f7 : Addr} {od7 an7 : Option Addr} {sl7 : Array (Option Value)} {oc7 kV7 dc7 pm7 cd7 ct7 : Value}
    (a7 : PySem.W.nsIn K mainGlobals "steps_of" = some (some (.ref f7))) (l7 : K.lookup f7 = some ⟨oc7, od7, .func (PySem.W.fnOf "steps_of" "steps_of" (defArgs s_steps_of) (defBody s_steps_of) (defScope s_steps_of) .none kV7 dc7 pm7 an7 cd7 ct7), sl7⟩) (c7 : PySem.W.codeIn K cd7 "steps_of" = true) (k7 : PySem.W.keepIn K (.ref f7) = true)
    {f8 : Addr} {od8 an8 : Option Addr} {sl8 : Array (Option Value)} {oc8 kV8 dc8 pm8 cd8 ct8 : Value}
    (a8 : PySem.W.nsIn K mainGlobals "look_at_row" = some (some (.ref f8))) (l8 : K.lookup f8 = some ⟨oc8, od8, .func (PySem.W.fnOf "look_at_row" "look_at_row" (defArgs s_look_at_row) (defBody s_look_at_row) (defScope s_look_at_row) .none kV8 dc8 pm8 an8 cd8 ct8), sl8⟩) (c8 : PySem.W.codeIn K cd8 "look_at_row" = true) (k8 : PySem.W.keepIn K (.ref f8) = true)
    {f9 : Addr} {od9 an9 : Option Addr} {sl9 : Array (Option Value)} {oc9 kV9 dc9 pm9 cd9 ct9 : Value}
    (a9 : PySem.W.nsIn K mainGlobals "starts_of" = some (some (.ref f9))) (l9 : K.lookup f9 = some ⟨oc9, od9, .func (PySem.W.fnOf "starts_of" "starts_of" (defArgs s_starts_of) (defBody s_starts_of) (defScope s_starts_of) .none kV9 dc9 pm9 an9 cd9 ct9), sl9⟩) (c9 : PySem.W.codeIn K cd9 "starts_of" = true) (k9 : PySem.W.keepIn K (.ref f9) = true)
    {f10 : Addr} {od10 an10 : Option Addr} {sl10 : Array (Option Value)} {oc10 kV10 dc10 pm10 cd10 ct10 : Value}
    (a10 : PySem.W.nsIn K mainGlobals "longer_lows" = some (some (.ref f10))) (l10 : K.lookup f10 = some ⟨oc10, od10, .func (PySem.W.fnOf "longer_lows" "longer_lows" (defArgs s_longer_lows) (defBody s_longer_lows) (defScope s_longer_lows) .none kV10 dc10 pm10 an10 cd10 ct10), sl10⟩) (c10 : PySem.W.codeIn K cd10 "longer_lows" = true) (k10 : PySem.W.keepIn K (.ref f10) = true)
    {f11 : Addr} {od11 an11 : Option Addr} {sl11 : Array (Option Value)} {oc11 kV11 dc11 pm11 cd11 ct11 : Value}
    (a11 : PySem.W.nsIn K mainGlobals "parted" = some (some (.ref f11))) (l11 : K.lookup f11 = some ⟨oc11, od11, .func (PySem.W.fnOf "parted" "parted" (defArgs s_parted) (defBody s_parted) (defScope s_parted) .none kV11 dc11 pm11 an11 cd11 ct11), sl11⟩) (c11 : PySem.W.codeIn K cd11 "parted" = true) (k11 : PySem.W.keepIn K (.ref f11) = true)
    {f12 : Addr} {od12 an12 : Option Addr} {sl12 : Array (Option Value)} {oc12 kV12 dc12 pm12 cd12 ct12 : Value}
    (a12 : PySem.W.nsIn K mainGlobals "parted_starts" = some (some (.ref f12))) (l12 : K.lookup f12 = some ⟨oc12, od12, .func (PySem.W.fnOf "parted_starts" "parted_starts" (defArgs s_parted_starts) (defBody s_parted_starts) (defScope s_parted_starts) .none kV12 dc12 pm12 an12 cd12 ct12), sl12⟩) (c12 : PySem.W.codeIn K cd12 "parted_starts" = true) (k12 : PySem.W.keepIn K (.ref f12) = true)
    {f13 : Addr} {od13 an13 : Option Addr} {sl13 : Array (Option Value)} {oc13 kV13 dc13 pm13 cd13 ct13 : Value}
    (a13 : PySem.W.nsIn K mainGlobals "rises" = some (some (.ref f13))) (l13 : K.lookup f13 = some ⟨oc13, od13, .func (PySem.W.fnOf "rises" "rises" (defArgs s_rises) (defBody s_rises) (defScope s_rises) .none kV13 dc13 pm13 an13 cd13 ct13), sl13⟩) (c13 : PySem.W.codeIn K cd13 "rises" = true) (k13 : PySem.W.keepIn K (.ref f13) = true)
    {f14 : Addr} {od14 an14 : Option Addr} {sl14 : Array (Option Value)} {oc14 kV14 dc14 pm14 cd14 ct14 : Value}
    (a14 : PySem.W.nsIn K mainGlobals "kin" = some (some (.ref f14))) (l14 : K.lookup f14 = some ⟨oc14, od14, .func (PySem.W.fnOf "kin" "kin" (defArgs s_kin) (defBody s_kin) (defScope s_kin) .none kV14 dc14 pm14 an14 cd14 ct14), sl14⟩) (c14 : PySem.W.codeIn K cd14 "kin" = true) (k14 : PySem.W.keepIn K (.ref f14) = true)
    {f15 : Addr} {od15 an15 : Option Addr} {sl15 : Array (Option Value)} {oc15 kV15 dc15 pm15 cd15 ct15 : Value}
    (a15 : PySem.W.nsIn K mainGlobals "look_at_stretch" = some (some (.ref f15))) (l15 : K.lookup f15 = some ⟨oc15, od15, .func (PySem.W.fnOf "look_at_stretch" "look_at_stretch" (defArgs s_look_at_stretch) (defBody s_look_at_stretch) (defScope s_look_at_stretch) .none kV15 dc15 pm15 an15 cd15 ct15), sl15⟩) (c15 : PySem.W.codeIn K cd15 "look_at_stretch" = true) (k15 : PySem.W.keepIn K (.ref f15) = true)
    {f16 : Addr} {od16 an16 : Option Addr} {sl16 : Array (Option Value)} {oc16 kV16 dc16 pm16 cd16 ct16 : Value}
    (a16 : PySem.W.nsIn K mainGlobals "least_place" = some (some (.ref f16))) (l16 : K.lookup f16 = some ⟨oc16, od16, .func (PySem.W.fnOf "least_place" "least_place" (defArgs s_least_place) (defBody s_least_place) (defScope s_least_place) .none kV16 dc16 pm16 an16 cd16 ct16), sl16⟩) (c16 : PySem.W.codeIn K cd16 "least_place" = true) (k16 : PySem.W.keepIn K (.ref f16) = true)
    {f17 : Addr} {od17 an17 : Option Addr} {sl17 : Array (Option Value)} {oc17 kV17 dc17 pm17 cd17 ct17 : Value}
    (a17 : PySem.W.nsIn K mainGlobals "low" = some (some (.ref f17))) (l17 : K.lookup f17 = some ⟨oc17, od17, .func (PySem.W.fnOf "low" "low" (defArgs s_low) (defBody s_low) (defScope s_low) .none kV17 dc17 pm17 an17 cd17 ct17), sl17⟩) (c17 : PySem.W.codeIn K cd17 "low" = true) (k17 : PySem.W.keepIn K (.ref f17) = true)
    {f18 : Addr} {od18 an18 : Option Addr} {sl18 : Array (Option Value)} {oc18 kV18 dc18 pm18 cd18 ct18 : Value}
    (a18 : PySem.W.nsIn K mainGlobals "parts_them" = some (some (.ref f18))) (l18 : K.lookup f18 = some ⟨oc18, od18, .func (PySem.W.fnOf "parts_them" "parts_them" (defArgs s_parts_them) (defBody s_parts_them) (defScope s_parts_them) .none kV18 dc18 pm18 an18 cd18 ct18), sl18⟩) (c18 : PySem.W.codeIn K cd18 "parts_them" = true) (k18 : PySem.W.keepIn K (.ref f18) = true)
    {f19 : Addr} {od19 an19 : Option Addr} {sl19 : Array (Option Value)} {oc19 kV19 dc19 pm19 cd19 ct19 : Value}
    (a19 : PySem.W.nsIn K mainGlobals "starts_right" = some (some (.ref f19))) (l19 : K.lookup f19 = some ⟨oc19, od19, .func (PySem.W.fnOf "starts_right" "starts_right" (defArgs s_starts_right) (defBody s_starts_right) (defScope s_starts_right) .none kV19 dc19 pm19 an19 cd19 ct19), sl19⟩) (c19 : PySem.W.codeIn K cd19 "starts_right" = true) (k19 : PySem.W.keepIn K (.ref f19) = true)
    {f20 : Addr} {od20 an20 : Option Addr} {sl20 : Array (Option Value)} {oc20 kV20 dc20 pm20 cd20 ct20 : Value}
    (a20 : PySem.W.nsIn K mainGlobals "_law_heard" = some (some (.ref f20))) (l20 : K.lookup f20 = some ⟨oc20, od20, .func (PySem.W.fnOf "_law_heard" "_law_heard" (defArgs s_law_heard) (defBody s_law_heard) (defScope s_law_heard) .none kV20 dc20 pm20 an20 cd20 ct20), sl20⟩) (c20 : PySem.W.codeIn K cd20 "_law_heard" = true) (k20 : PySem.W.keepIn K (.ref f20) = true)
    {f21 : Addr} {od21 an21 : Option Addr} {sl21 : Array (Option Value)} {oc21 kV21 dc21 pm21 cd21 ct21 : Value}
    (a21 : PySem.W.nsIn K mainGlobals "_law_alone" = some (some (.ref f21))) (l21 : K.lookup f21 = some ⟨oc21, od21, .func (PySem.W.fnOf "_law_alone" "_law_alone" (defArgs s_law_alone) (defBody s_law_alone) (defScope s_law_alone) .none kV21 dc21 pm21 an21 cd21 ct21), sl21⟩) (c21 : PySem.W.codeIn K cd21 "_law_alone" = true) (k21 : PySem.W.keepIn K (.ref f21) = true)
    {f22 : Addr} {od22 an22 : Option Addr} {sl22 : Array (Option Value)} {oc22 kV22 dc22 pm22 cd22 ct22 : Value}
    (a22 : PySem.W.nsIn K mainGlobals "_law_right" = some (some (.ref f22))) (l22 : K.lookup f22 = some ⟨oc22, od22, .func (PySem.W.fnOf "_law_right" "_law_right" (defArgs s_law_right) (defBody s_law_right) (defScope s_law_right) .none kV22 dc22 pm22 an22 cd22 ct22), sl22⟩) (c22 : PySem.W.codeIn K cd22 "_law_right" = true) (k22 : PySem.W.keepIn K (.ref f22) = true)
    {f23 : Addr} {od23 an23 : Option Addr} {sl23 : Array (Option Value)} {oc23 kV23 dc23 pm23 cd23 ct23 : Value}
    (a23 : PySem.W.nsIn K mainGlobals "law" = some (some (.ref f23))) (l23 : K.lookup f23 = some ⟨oc23, od23, .func (PySem.W.fnOf "law" "law" (defArgs s_law) (defBody s_law) (defScope s_law) .none kV23 dc23 pm23 an23 cd23 ct23), sl23⟩) (c23 : PySem.W.codeIn K cd23 "law" = true) (k23 : PySem.W.keepIn K (.ref f23) = true)
    (z_ValueError : PySem.W.nsIn K mainGlobals "ValueError" = some none)
    (z_all : PySem.W.nsIn K mainGlobals "all" = some none)
    (z_bool : PySem.W.nsIn K mainGlobals "bool" = some none)
    (z_enumerate : PySem.W.nsIn K mainGlobals "enumerate" = some none)
    (z_int : PySem.W.nsIn K mainGlobals "int" = some none)
    (z_isinstance : PySem.W.nsIn K mainGlobals "isinstance" = some none)
    (z_len : PySem.W.nsIn K mainGlobals "len" = some none)
    (z_list : PySem.W.nsIn K mainGlobals "list" = some none)
    (z_range : PySem.W.nsIn K mainGlobals "range" = some none)
    (z_sorted : PySem.W.nsIn K mainGlobals "sorted" = some none)
    (z_tuple : PySem.W.nsIn K mainGlobals "tuple" = some none)
    {x_Empty : Addr} (eg_Empty : PySem.W.nsIn K mainGlobals "Empty" = some (some (.ref x_Empty))) (ex_Empty : PySem.W.excIn K x_Empty veB "ValueError.__new__" = true) (ek_Empty : PySem.W.keepIn K (.ref x_Empty) = true) (eb_Empty : PySem.W.subIn K (.ref x_Empty) (.type "BaseException") = some true) (et_Empty : PySem.W.typeIn K (.ref x_Empty) = some (.type "type"))
    {x_Unlike : Addr} (eg_Unlike : PySem.W.nsIn K mainGlobals "Unlike" = some (some (.ref x_Unlike))) (ex_Unlike : PySem.W.excIn K x_Unlike veB "ValueError.__new__" = true) (ek_Unlike : PySem.W.keepIn K (.ref x_Unlike) = true) (eb_Unlike : PySem.W.subIn K (.ref x_Unlike) (.type "BaseException") = some true) (et_Unlike : PySem.W.typeIn K (.ref x_Unlike) = some (.type "type"))
    {x_NoPlace : Addr} (eg_NoPlace : PySem.W.nsIn K mainGlobals "NoPlace" = some (some (.ref x_NoPlace))) (ex_NoPlace : PySem.W.excIn K x_NoPlace veB "ValueError.__new__" = true) (ek_NoPlace : PySem.W.keepIn K (.ref x_NoPlace) = true) (eb_NoPlace : PySem.W.subIn K (.ref x_NoPlace) (.type "BaseException") = some true) (et_NoPlace : PySem.W.typeIn K (.ref x_NoPlace) = some (.type "type"))
    {x_DipError : Addr} (eg_DipError : PySem.W.nsIn K mainGlobals "DipError" = some (some (.ref x_DipError))) (ex_DipError : PySem.W.excIn K x_DipError veB "ValueError.__new__" = true) (ek_DipError : PySem.W.keepIn K (.ref x_DipError) = true) (eb_DipError : PySem.W.subIn K (.ref x_DipError) (.type "BaseException") = some true) (et_DipError : PySem.W.typeIn K (.ref x_DipError) = some (.type "type"))
    {x_NoLine : Addr} (eg_NoLine : PySem.W.nsIn K mainGlobals "NoLine" = some (some (.ref x_NoLine))) (ex_NoLine : PySem.W.excIn K x_NoLine veB "ValueError.__new__" = true) (ek_NoLine : PySem.W.keepIn K (.ref x_NoLine) = true) (eb_NoLine : PySem.W.subIn K (.ref x_NoLine) (.type "BaseException") = some true) (et_NoLine : PySem.W.typeIn K (.ref x_NoLine) = some (.type "type"))
    {x_NoNumber : Addr} (eg_NoNumber : PySem.W.nsIn K mainGlobals "NoNumber" = some (some (.ref x_NoNumber))) (ex_NoNumber : PySem.W.excIn K x_NoNumber veB "ValueError.__new__" = true) (ek_NoNumber : PySem.W.keepIn K (.ref x_NoNumber) = true) (eb_NoNumber : PySem.W.subIn K (.ref x_NoNumber) (.type "BaseException") = some true) (et_NoNumber : PySem.W.typeIn K (.ref x_NoNumber) = some (.type "type"))
    {x_NoPast : Addr} (eg_NoPast : PySem.W.nsIn K mainGlobals "NoPast" = some (some (.ref x_NoPast))) (ex_NoPast : PySem.W.excIn K x_NoPast veB "ValueError.__new__" = true) (ek_NoPast : PySem.W.keepIn K (.ref x_NoPast) = true) (eb_NoPast : PySem.W.subIn K (.ref x_NoPast) (.type "BaseException") = some true) (et_NoPast : PySem.W.typeIn K (.ref x_NoPast) = some (.type "type"))
    {x_NoTelling : Addr} (eg_NoTelling : PySem.W.nsIn K mainGlobals "NoTelling" = some (some (.ref x_NoTelling))) (ex_NoTelling : PySem.W.excIn K x_NoTelling veB "ValueError.__new__" = true) (ek_NoTelling : PySem.W.keepIn K (.ref x_NoTelling) = true) (eb_NoTelling : PySem.W.subIn K (.ref x_NoTelling) (.type "BaseException") = some true) (et_NoTelling : PySem.W.typeIn K (.ref x_NoTelling) = some (.type "type"))
    {x_NoText : Addr} (eg_NoText : PySem.W.nsIn K mainGlobals "NoText" = some (some (.ref x_NoText))) (ex_NoText : PySem.W.excIn K x_NoText veB "ValueError.__new__" = true) (ek_NoText : PySem.W.keepIn K (.ref x_NoText) = true) (eb_NoText : PySem.W.subIn K (.ref x_NoText) (.type "BaseException") = some true) (et_NoText : PySem.W.typeIn K (.ref x_NoText) = some (.type "type"))
    {x_NoTree : Addr} (eg_NoTree : PySem.W.nsIn K mainGlobals "NoTree" = some (some (.ref x_NoTree))) (ex_NoTree : PySem.W.excIn K x_NoTree veB "ValueError.__new__" = true) (ek_NoTree : PySem.W.keepIn K (.ref x_NoTree) = true) (eb_NoTree : PySem.W.subIn K (.ref x_NoTree) (.type "BaseException") = some true) (et_NoTree : PySem.W.typeIn K (.ref x_NoTree) = some (.type "type"))
    {x_TooMany : Addr} (eg_TooMany : PySem.W.nsIn K mainGlobals "TooMany" = some (some (.ref x_TooMany))) (ex_TooMany : PySem.W.excIn K x_TooMany veB "ValueError.__new__" = true) (ek_TooMany : PySem.W.keepIn K (.ref x_TooMany) = true) (eb_TooMany : PySem.W.subIn K (.ref x_TooMany) (.type "BaseException") = some true) (et_TooMany : PySem.W.typeIn K (.ref x_TooMany) = some (.type "type"))
    (kd_Unlike : PySem.W.hasDictIn K x_Unlike = true)
    (kd_Empty : PySem.W.hasDictIn K x_Empty = true)
    (kd_TooMany : PySem.W.hasDictIn K x_TooMany = true)
    (kd_NoTree : PySem.W.hasDictIn K x_NoTree = true)
    (kd_NoTelling : PySem.W.hasDictIn K x_NoTelling = true)
    (kd_NoPlace : PySem.W.hasDictIn K x_NoPlace = true)
    (kd_NoNumber : PySem.W.hasDictIn K x_NoNumber = true)
    (kd_NoPast : PySem.W.hasDictIn K x_NoPast = true)
    (kd_NoText : PySem.W.hasDictIn K x_NoText = true)
    (kd_NoLine : PySem.W.hasDictIn K x_NoLine = true)
    (kd_DipError : PySem.W.hasDictIn K x_DipError = true)
    (kb_DipError : PySem.W.subIn K (.ref x_DipError) (.type "BaseException") = some true)
    (kn1 : PySem.W.specialIn K (.builtin "object.__class__") "__get__" = some (some (.builtin "getset_descriptor.__get__"))) (kn2 : PySem.W.takesIn K (.builtin "object.__class__") = some true)
    (ka_Empty : PySem.W.findIn K (.ref x_Empty) "__getattribute__" = some (some (.builtin "BaseException.__getattribute__"))) (kk_Empty : PySem.W.findIn K (.ref x_Empty) "__getattr__" = some none) (kc_Empty : PySem.W.findIn K (.ref x_Empty) "__class__" = some (some (.builtin "object.__class__"))) (km_Empty : PySem.W.mroIn K x_Empty (.type "object") = some true) (ke_Empty : PySem.W.subIn K (.ref x_Empty) (.type "BaseException") = some true) (ks_Empty : PySem.W.subIn K (.ref x_Empty) (.ref x_DipError) = some true) (kv_Empty : PySem.W.subIn K (.ref x_Empty) (.type "ValueError") = some true)
    (kr_Empty_Unlike : PySem.W.subIn K (.ref x_Empty) (.ref x_Unlike) = some false)
    (kr_Empty_Empty : PySem.W.subIn K (.ref x_Empty) (.ref x_Empty) = some true)
    (kr_Empty_TooMany : PySem.W.subIn K (.ref x_Empty) (.ref x_TooMany) = some false)
    (kr_Empty_NoTree : PySem.W.subIn K (.ref x_Empty) (.ref x_NoTree) = some false)
    (kr_Empty_NoTelling : PySem.W.subIn K (.ref x_Empty) (.ref x_NoTelling) = some false)
    (kr_Empty_NoPlace : PySem.W.subIn K (.ref x_Empty) (.ref x_NoPlace) = some false)
    (kr_Empty_NoNumber : PySem.W.subIn K (.ref x_Empty) (.ref x_NoNumber) = some false)
    (kr_Empty_NoPast : PySem.W.subIn K (.ref x_Empty) (.ref x_NoPast) = some false)
    (kr_Empty_NoText : PySem.W.subIn K (.ref x_Empty) (.ref x_NoText) = some false)
    (kr_Empty_NoLine : PySem.W.subIn K (.ref x_Empty) (.ref x_NoLine) = some false)
    (knd : [x_Unlike, x_Empty, x_TooMany, x_NoTree, x_NoTelling, x_NoPlace, x_NoNumber, x_NoPast, x_NoText, x_NoLine].Nodup) :
    ∃ fd : FuncData, (∀ (s : Shared) (v : Value), BindsTo s fd ⟨[v], []⟩ [("script", v)]) ∧ ∀ base : Heap, K.In base → base.Ns mainGlobals mg → FnOk l.prog w K mg base CX0 7 fa fd ["script"] (sp_law K) := by
  have hX : KitF K [x_Empty] [x_Unlike, x_Empty, x_TooMany, x_NoTree, x_NoTelling, x_NoPlace, x_NoNumber, x_NoPast, x_NoText, x_NoLine] x_DipError := ⟨⟨⟨ka_Empty, kk_Empty, ke_Empty, kd_Empty, kc_Empty, kn1, kn2, km_Empty⟩, trivial⟩, ⟨⟨⟨false, kr_Empty_Unlike, (fun z => by cases z), (fun z => by rw [← z, kr_Empty_Empty] at kr_Empty_Unlike; cases kr_Empty_Unlike)⟩, ⟨⟨true, kr_Empty_Empty, fun _ => rfl, fun _ => rfl⟩, ⟨⟨false, kr_Empty_TooMany, (fun z => by cases z), (fun z => by rw [← z, kr_Empty_Empty] at kr_Empty_TooMany; cases kr_Empty_TooMany)⟩, ⟨⟨false, kr_Empty_NoTree, (fun z => by cases z), (fun z => by rw [← z, kr_Empty_Empty] at kr_Empty_NoTree; cases kr_Empty_NoTree)⟩, ⟨⟨false, kr_Empty_NoTelling, (fun z => by cases z), (fun z => by rw [← z, kr_Empty_Empty] at kr_Empty_NoTelling; cases kr_Empty_NoTelling)⟩, ⟨⟨false, kr_Empty_NoPlace, (fun z => by cases z), (fun z => by rw [← z, kr_Empty_Empty] at kr_Empty_NoPlace; cases kr_Empty_NoPlace)⟩, ⟨⟨false, kr_Empty_NoNumber, (fun z => by cases z), (fun z => by rw [← z, kr_Empty_Empty] at kr_Empty_NoNumber; cases kr_Empty_NoNumber)⟩, ⟨⟨false, kr_Empty_NoPast, (fun z => by cases z), (fun z => by rw [← z, kr_Empty_Empty] at kr_Empty_NoPast; cases kr_Empty_NoPast)⟩, ⟨⟨false, kr_Empty_NoText, (fun z => by cases z), (fun z => by rw [← z, kr_Empty_Empty] at kr_Empty_NoText; cases kr_Empty_NoText)⟩, ⟨⟨false, kr_Empty_NoLine, (fun z => by cases z), (fun z => by rw [← z, kr_Empty_Empty] at kr_Empty_NoLine; cases kr_Empty_NoLine)⟩, trivial⟩⟩⟩⟩⟩⟩⟩⟩⟩⟩, trivial⟩, ⟨ks_Empty, trivial⟩, ⟨kv_Empty, trivial⟩, ⟨⟨kd_Unlike, et_Unlike⟩, ⟨⟨kd_Empty, et_Empty⟩, ⟨⟨kd_TooMany, et_TooMany⟩, ⟨⟨kd_NoTree, et_NoTree⟩, ⟨⟨kd_NoTelling, et_NoTelling⟩, ⟨⟨kd_NoPlace, et_NoPlace⟩, ⟨⟨kd_NoNumber, et_NoNumber⟩, ⟨⟨kd_NoPast, et_NoPast⟩, ⟨⟨kd_NoText, et_NoText⟩, ⟨⟨kd_NoLine, et_NoLine⟩, trivial⟩⟩⟩⟩⟩⟩⟩⟩⟩⟩, ⟨kd_DipError, et_DipError, kb_DipError⟩, knd⟩
  have e := hfa.symm.trans (PySem.W.mg_of X G a23)
  cases e
  have F0 := fun_mk (st := s_law_deal) l0 c0 k0
  have b0 := F0.binds (ps := ["cell"]) fun _ _ _ _ _ _ us hl => match us, hl with | [_], _ => rfl
  have F1 := fun_mk (st := s_law_take) l1 c1 k1
  have b1 := F1.binds (ps := ["pot", "many"]) fun _ _ _ _ _ _ us hl => match us, hl with | [_, _], _ => rfl
  have F2 := fun_mk (st := s_law_unlike) l2 c2 k2
  have b2 := F2.binds (ps := ["pot", "many"]) fun _ _ _ _ _ _ us hl => match us, hl with | [_, _], _ => rfl
  have F3 := fun_mk (st := s_law_row) l3 c3 k3
  have b3 := F3.binds (ps := ["pot", "most"]) fun _ _ _ _ _ _ us hl => match us, hl with | [_, _], _ => rfl
  have F4 := fun_mk (st := s_backs_of) l4 c4 k4
  have b4 := F4.binds (ps := ["row"]) fun _ _ _ _ _ _ us hl => match us, hl with | [_], _ => rfl
  have F5 := fun_mk (st := s_cut_back) l5 c5 k5
  have b5 := F5.binds (ps := ["far", "many"]) fun _ _ _ _ _ _ us hl => match us, hl with | [_, _], _ => rfl
  have F6 := fun_mk (st := s_borders_of) l6 c6 k6
  have b6 := F6.binds (ps := ["row"]) fun _ _ _ _ _ _ us hl => match us, hl with | [_], _ => rfl
  have F7 := fun_mk (st := s_steps_of) l7 c7 k7
  have b7 := F7.binds (ps := ["row"]) fun _ _ _ _ _ _ us hl => match us, hl with | [_], _ => rfl
  have F8 := fun_mk (st := s_look_at_row) l8 c8 k8
  have b8 := F8.binds (ps := ["row"]) fun _ _ _ _ _ _ us hl => match us, hl with | [_], _ => rfl
  have F9 := fun_mk (st := s_starts_of) l9 c9 k9
  have b9 := F9.binds (ps := ["row", "text"]) fun _ _ _ _ _ _ us hl => match us, hl with | [_, _], _ => rfl
  have F10 := fun_mk (st := s_longer_lows) l10 c10 k10
  have b10 := F10.binds (ps := ["row", "lows", "size"]) fun _ _ _ _ _ _ us hl => match us, hl with | [_, _, _], _ => rfl
  have F11 := fun_mk (st := s_parted) l11 c11 k11
  have b11 := F11.binds (ps := ["one", "other"]) fun _ _ _ _ _ _ us hl => match us, hl with | [_, _], _ => rfl
  have F12 := fun_mk (st := s_parted_starts) l12 c12 k12
  have b12 := F12.binds (ps := ["row", "text"]) fun _ _ _ _ _ _ us hl => match us, hl with | [_, _], _ => rfl
  have F13 := fun_mk (st := s_rises) l13 c13 k13
  have b13 := F13.binds (ps := ["numbers"]) fun _ _ _ _ _ _ us hl => match us, hl with | [_], _ => rfl
  have F14 := fun_mk (st := s_kin) l14 c14 k14
  have b14 := F14.binds (ps := ["one", "other"]) fun _ _ _ _ _ _ us hl => match us, hl with | [_, _], _ => rfl
  have F15 := fun_mk (st := s_look_at_stretch) l15 c15 k15
  have b15 := F15.binds (ps := ["many", "a", "b"]) fun _ _ _ _ _ _ us hl => match us, hl with | [_, _, _], _ => rfl
  have F16 := fun_mk (st := s_least_place) l16 c16 k16
  have b16 := F16.binds (ps := ["row", "a", "b"]) fun _ _ _ _ _ _ us hl => match us, hl with | [_, _, _], _ => rfl
  have F17 := fun_mk (st := s_low) l17 c17 k17
  have b17 := F17.binds (ps := ["row", "a", "b"]) fun _ _ _ _ _ _ us hl => match us, hl with | [_, _, _], _ => rfl
  have F18 := fun_mk (st := s_parts_them) l18 c18 k18
  have b18 := F18.binds (ps := ["row", "other", "a", "b"]) fun _ _ _ _ _ _ us hl => match us, hl with | [_, _, _, _], _ => rfl
  have F19 := fun_mk (st := s_starts_right) l19 c19 k19
  have b19 := F19.binds (ps := ["row", "text", "starts", "others"]) fun _ _ _ _ _ _ us hl => match us, hl with | [_, _, _, _], _ => rfl
  have F20 := fun_mk (st := s_law_heard) l20 c20 k20
  have b20 := F20.binds (ps := ["way", "row", "text", "paper"]) fun _ _ _ _ _ _ us hl => match us, hl with | [_, _, _, _], _ => rfl
  have F21 := fun_mk (st := s_law_alone) l21 c21 k21
  have b21 := F21.binds (ps := ["e", "at"]) fun _ _ _ _ _ _ us hl => match us, hl with | [_, _], _ => rfl
  have F22 := fun_mk (st := s_law_right) l22 c22 k22
  have b22 := F22.binds (ps := ["row", "text", "paper"]) fun _ _ _ _ _ _ us hl => match us, hl with | [_, _, _], _ => rfl
  have F23 := fun_mk (st := s_law) l23 c23 k23
  refine ⟨PySem.W.fnOf "law" "law" (defArgs s_law) (defBody s_law) (defScope s_law) .none kV23 dc23 pm23 an23 cd23 ct23, fun s v => .of_eq rfl, fun base _ _ => ?_⟩
  have C0 : Cal l.prog w K mg base CX0 1 "_law_deal" ["cell"] sp_law_deal f0 _ := ⟨ok_law_deal F0 (PySem.W.mg_none_of X G z_range), k0, b0, PySem.W.mg_of X G a0⟩
  have C1 : Cal l.prog w K mg base CX0 1 "_law_take" ["pot", "many"] sp_law_take f1 _ := ⟨ok_law_take F1, k1, b1, PySem.W.mg_of X G a1⟩
  have C2 : Cal l.prog w K mg base CX0 2 "_law_unlike" ["pot", "many"] sp_law_unlike f2 _ := ⟨ok_law_unlike F2 (C1) (PySem.W.mg_none_of X G z_range), k2, b2, PySem.W.mg_of X G a2⟩
  have C3 : Cal l.prog w K mg base CX0 3 "_law_row" ["pot", "most"] sp_law_row f3 _ := ⟨ok_law_row F3 (C1) (C2) (PySem.W.mg_none_of X G z_int) (PySem.W.mg_none_of X G z_range), k3, b3, PySem.W.mg_of X G a3⟩
  have C4 : Cal l.prog w K mg base CX0 1 "backs_of" ["row"] sp_backs_of f4 _ := ⟨ok_backs_of F4 (PySem.W.mg_none_of X G z_enumerate), k4, b4, PySem.W.mg_of X G a4⟩
  have C5 : Cal l.prog w K mg base CX0 1 "cut_back" ["far", "many"] sp_cut_back f5 _ := ⟨ok_cut_back F5, k5, b5, PySem.W.mg_of X G a5⟩
  have C6 : Cal l.prog w K mg base CX0 2 "borders_of" ["row"] sp_borders_of f6 _ := ⟨ok_borders_of F6 (C4) (C5) (PySem.W.mg_none_of X G z_enumerate), k6, b6, PySem.W.mg_of X G a6⟩
  have C7 : Cal l.prog w K mg base CX0 3 "steps_of" ["row"] sp_steps_of f7 _ := ⟨ok_steps_of F7 (C6) (PySem.W.mg_none_of X G z_len), k7, b7, PySem.W.mg_of X G a7⟩
  have C8 : Cal l.prog w K mg base (L2.CX l.prog w) 1 "look_at_row" ["row"] (sp_look_at_row x_Empty) f8 _ := ⟨ok_look_at_row F8 (PySem.W.mg_none_of X G z_len) ⟨ex_Empty, PySem.W.mg_of X G eg_Empty, ek_Empty, eb_Empty, et_Empty⟩, k8, b8, PySem.W.mg_of X G a8⟩
  have C9 : Cal l.prog w K mg base (L2.CX l.prog w) 3 "starts_of" ["row", "text"] (sp_starts_of x_Empty) f9 _ := ⟨ok_starts_of F9 (C8) (C4) (C6) (C5) (PySem.W.mg_none_of X G z_enumerate) (PySem.W.mg_none_of X G z_len), k9, b9, PySem.W.mg_of X G a9⟩
  have C10 : Cal l.prog w K mg base CX0 1 "longer_lows" ["row", "lows", "size"] sp_longer_lows f10 _ := ⟨ok_longer_lows F10 (PySem.W.mg_none_of X G z_len) (PySem.W.mg_none_of X G z_range), k10, b10, PySem.W.mg_of X G a10⟩
  have C11 : Cal l.prog w K mg base (L2.CX l.prog w) 2 "parted" ["one", "other"] (sp_parted x_Unlike) f11 _ := ⟨ok_parted F11 (C10) (PySem.W.mg_none_of X G z_len) (PySem.W.mg_none_of X G z_list) (PySem.W.mg_none_of X G z_range) ⟨ex_Unlike, PySem.W.mg_of X G eg_Unlike, ek_Unlike, eb_Unlike, et_Unlike⟩, k11, b11, PySem.W.mg_of X G a11⟩
  have C12 : Cal l.prog w K mg base (L2.CX l.prog w) 4 "parted_starts" ["row", "text"] (sp_parted_starts x_Empty) f12 _ := ⟨ok_parted_starts F12 (C9) (C11) (PySem.W.mg_none_of X G z_len) (PySem.W.mg_none_of X G z_range), k12, b12, PySem.W.mg_of X G a12⟩
  have C13 : Cal l.prog w K mg base CX0 1 "rises" ["numbers"] sp_rises f13 _ := ⟨ok_rises F13 (PySem.W.mg_none_of X G z_all) (PySem.W.mg_none_of X G z_len) (PySem.W.mg_none_of X G z_range), k13, b13, PySem.W.mg_of X G a13⟩
  have C14 : Cal l.prog w K mg base CX0 3 "kin" ["one", "other"] sp_kin f14 _ := ⟨ok_kin F14 (C11) (PySem.W.mg_none_of X G z_len), k14, b14, PySem.W.mg_of X G a14⟩
  have C15 : Cal l.prog w K mg base (L2.CX l.prog w) 1 "look_at_stretch" ["many", "a", "b"] (sp_look_at_stretch x_NoPlace) f15 _ := ⟨ok_look_at_stretch F15 ⟨ex_NoPlace, PySem.W.mg_of X G eg_NoPlace, ek_NoPlace, eb_NoPlace, et_NoPlace⟩, k15, b15, PySem.W.mg_of X G a15⟩
  have C16 : Cal l.prog w K mg base CX0 1 "least_place" ["row", "a", "b"] sp_least_place f16 _ := ⟨ok_least_place F16 (PySem.W.mg_none_of X G z_range), k16, b16, PySem.W.mg_of X G a16⟩
  have C17 : Cal l.prog w K mg base (L2.CX l.prog w) 2 "low" ["row", "a", "b"] (sp_low x_NoPlace) f17 _ := ⟨ok_low F17 (C15) (C16) (PySem.W.mg_none_of X G z_len), k17, b17, PySem.W.mg_of X G a17⟩
  have C18 : Cal l.prog w K mg base CX0 3 "parts_them" ["row", "other", "a", "b"] sp_parts_them f18 _ := ⟨ok_parts_them F18 (C17) (PySem.W.mg_none_of X G z_len), k18, b18, PySem.W.mg_of X G a18⟩
  have C19 : Cal l.prog w K mg base (L2.CX l.prog w) 4 "starts_right" ["row", "text", "starts", "others"] (sp_starts_right x_Empty) f19 _ := ⟨ok_starts_right F19 (C8) (C13) (C14) (C18) (PySem.W.mg_none_of X G z_len) (PySem.W.mg_none_of X G z_list) (PySem.W.mg_none_of X G z_range) (PySem.W.mg_none_of X G z_sorted), k19, b19, PySem.W.mg_of X G a19⟩
  have C20 : Cal l.prog w K mg base CX0 5 "_law_heard" ["way", "row", "text", "paper"] (sp_law_heard x_Empty) f20 _ := ⟨ok_law_heard F20 (C9) (C12) (C19) (PySem.W.mg_of X G eg_DipError) hX, k20, b20, PySem.W.mg_of X G a20⟩
  have C21 : Cal l.prog w K mg base CX0 1 "_law_alone" ["e", "at"] (sp_law_alone x_Empty x_NoLine x_NoNumber x_NoPast x_NoPlace x_NoTelling x_NoText x_NoTree x_TooMany x_Unlike) f21 _ := ⟨ok_law_alone F21 (PySem.W.mg_none_of X G z_ValueError) (PySem.W.mg_none_of X G z_isinstance) (PySem.W.mg_of X G eg_DipError) (PySem.W.mg_of X G eg_Empty) (PySem.W.mg_of X G eg_NoLine) (PySem.W.mg_of X G eg_NoNumber) (PySem.W.mg_of X G eg_NoPast) (PySem.W.mg_of X G eg_NoPlace) (PySem.W.mg_of X G eg_NoTelling) (PySem.W.mg_of X G eg_NoText) (PySem.W.mg_of X G eg_NoTree) (PySem.W.mg_of X G eg_TooMany) (PySem.W.mg_of X G eg_Unlike) hX, k21, b21, PySem.W.mg_of X G a21⟩
  have C22 : Cal l.prog w K mg base CX0 6 "_law_right" ["row", "text", "paper"] sp_law_right f22 _ := ⟨ok_law_right F22 (C20) (C21) (PySem.W.mg_none_of X G z_bool) (PySem.W.mg_none_of X G z_isinstance) (PySem.W.mg_none_of X G z_len) (PySem.W.mg_none_of X G z_list) (PySem.W.mg_none_of X G z_range), k22, b22, PySem.W.mg_of X G a22⟩
  exact ok_law F23 (C0) (C3) (C1) (C22) (C6) (C7) (PySem.W.mg_none_of X G z_range) (PySem.W.mg_none_of X G z_tuple)
end Law
open PySem PySem.W PyProof.Rows
set_option maxHeartbeats 0 in
theorem PySem.Challenge.cw_dipkin_k42_nothing_sought_holds : PySem.Challenge.rw_dipkin_k42_nothing_sought.Holds := by
  w_on; o_law; k_head; (case hw => w_witness2)
  k_fill
  refine L2.walk_of (l := PySem.Challenge.rw_dipkin_k42_nothing_sought) (n := 63) (k := 7) (x := "script") (CX := fun _ => L2.CX0) (sp := fun w => Law.sp_law _) rfl (by decide) rfl ⟨rfl, by decide, by decide⟩ (fun w h Y => PySem.W.kIn_of Y) ?F (fun _ _ a ns hl _ hS => ⟨(ns, ()), ⟨_, [], rfl, ⟨a, rfl, hS⟩, rfl⟩, hl, fun v H' b _ hb hp => by cases hp; exact hb, fun _ _ _ z => z⟩) (fun _ _ _ _ _ h => h)
  case F =>
    intro w mg fa h KX G hmg
    refine' Law.all_mk KX G hmg ?a0 ?l0 ?c0 ?k0 ?a1 ?l1 ?c1 ?k1 ?a2 ?l2 ?c2 ?k2 ?a3 ?l3 ?c3 ?k3 ?a4 ?l4 ?c4 ?k4 ?a5 ?l5 ?c5 ?k5 ?a6 ?l6 ?c6 ?k6 ?a7 ?l7 ?c7 ?k7 ?a8 ?l8 ?c8 ?k8 ?a9 ?l9 ?c9 ?k9 ?a10 ?l10 ?c10 ?k10 ?a11 ?l11 ?c11 ?k11 ?a12 ?l12 ?c12 ?k12 ?a13 ?l13 ?c13 ?k13 ?a14 ?l14 ?c14 ?k14 ?a15 ?l15 ?c15 ?k15 ?a16 ?l16 ?c16 ?k16 ?a17 ?l17 ?c17 ?k17 ?a18 ?l18 ?c18 ?k18 ?a19 ?l19 ?c19 ?k19 ?a20 ?l20 ?c20 ?k20 ?a21 ?l21 ?c21 ?k21 ?a22 ?l22 ?c22 ?k22 ?a23 ?l23 ?c23 ?k23 ?z_ValueError ?z_all ?z_bool ?z_enumerate ?z_int ?z_isinstance ?z_len ?z_list ?z_range ?z_sorted ?z_tuple ?eg_Empty ?ex_Empty ?ek_Empty ?eb_Empty ?et_Empty ?eg_Unlike ?ex_Unlike ?ek_Unlike ?eb_Unlike ?et_Unlike ?eg_NoPlace ?ex_NoPlace ?ek_NoPlace ?eb_NoPlace ?et_NoPlace ?eg_DipError ?ex_DipError ?ek_DipError ?eb_DipError ?et_DipError ?eg_NoLine ?ex_NoLine ?ek_NoLine ?eb_NoLine ?et_NoLine ?eg_NoNumber ?ex_NoNumber ?ek_NoNumber ?eb_NoNumber ?et_NoNumber ?eg_NoPast ?ex_NoPast ?ek_NoPast ?eb_NoPast ?et_NoPast ?eg_NoTelling ?ex_NoTelling ?ek_NoTelling ?eb_NoTelling ?et_NoTelling ?eg_NoText ?ex_NoText ?ek_NoText ?eb_NoText ?et_NoText ?eg_NoTree ?ex_NoTree ?ek_NoTree ?eb_NoTree ?et_NoTree ?eg_TooMany ?ex_TooMany ?ek_TooMany ?eb_TooMany ?et_TooMany ?kd_Unlike ?kd_Empty ?kd_TooMany ?kd_NoTree ?kd_NoTelling ?kd_NoPlace ?kd_NoNumber ?kd_NoPast ?kd_NoText ?kd_NoLine ?kd_DipError ?kb_DipError ?kn1 ?kn2 ?ka_Empty ?kk_Empty ?kc_Empty ?km_Empty ?ke_Empty ?ks_Empty ?kv_Empty ?kr_Empty_Unlike ?kr_Empty_Empty ?kr_Empty_TooMany ?kr_Empty_NoTree ?kr_Empty_NoTelling ?kr_Empty_NoPlace ?kr_Empty_NoNumber ?kr_Empty_NoPast ?kr_Empty_NoText ?kr_Empty_NoLine ?knd
    (case a0 => k_is); (case l0 => k_is); (case c0 => k_is); (case k0 => k_is); (case a1 => k_is); (case l1 => k_is); (case c1 => k_is); (case k1 => k_is); (case a2 => k_is); (case l2 => k_is); (case c2 => k_is); (case k2 => k_is); (case a3 => k_is); (case l3 => k_is); (case c3 => k_is); (case k3 => k_is); (case a4 => k_is); (case l4 => k_is); (case c4 => k_is); (case k4 => k_is); (case a5 => k_is); (case l5 => k_is); (case c5 => k_is); (case k5 => k_is); (case a6 => k_is); (case l6 => k_is); (case c6 => k_is); (case k6 => k_is); (case a7 => k_is); (case l7 => k_is); (case c7 => k_is); (case k7 => k_is); (case a8 => k_is); (case l8 => k_is); (case c8 => k_is); (case k8 => k_is); (case a9 => k_is); (case l9 => k_is); (case c9 => k_is); (case k9 => k_is); (case a10 => k_is); (case l10 => k_is); (case c10 => k_is); (case k10 => k_is); (case a11 => k_is); (case l11 => k_is); (case c11 => k_is); (case k11 => k_is); (case a12 => k_is); (case l12 => k_is); (case c12 => k_is); (case k12 => k_is); (case a13 => k_is); (case l13 => k_is); (case c13 => k_is); (case k13 => k_is); (case a14 => k_is); (case l14 => k_is); (case c14 => k_is); (case k14 => k_is); (case a15 => k_is); (case l15 => k_is); (case c15 => k_is); (case k15 => k_is); (case a16 => k_is); (case l16 => k_is); (case c16 => k_is); (case k16 => k_is); (case a17 => k_is); (case l17 => k_is); (case c17 => k_is); (case k17 => k_is); (case a18 => k_is); (case l18 => k_is); (case c18 => k_is); (case k18 => k_is); (case a19 => k_is); (case l19 => k_is); (case c19 => k_is); (case k19 => k_is); (case a20 => k_is); (case l20 => k_is); (case c20 => k_is); (case k20 => k_is); (case a21 => k_is); (case l21 => k_is); (case c21 => k_is); (case k21 => k_is); (case a22 => k_is); (case l22 => k_is); (case c22 => k_is); (case k22 => k_is); (case a23 => k_is); (case l23 => k_is); (case c23 => k_is); (case k23 => k_is); (case z_ValueError => k_is); (case z_all => k_is); (case z_bool => k_is); (case z_enumerate => k_is); (case z_int => k_is); (case z_isinstance => k_is); (case z_len => k_is); (case z_list => k_is); (case z_range => k_is); (case z_sorted => k_is); (case z_tuple => k_is); (case eg_Empty => k_is); (case ex_Empty => k_exc); (case ek_Empty => k_is); (case eb_Empty => k_is); (case et_Empty => k_is); (case eg_Unlike => k_is); (case ex_Unlike => k_exc); (case ek_Unlike => k_is); (case eb_Unlike => k_is); (case et_Unlike => k_is); (case eg_NoPlace => k_is); (case ex_NoPlace => k_exc); (case ek_NoPlace => k_is); (case eb_NoPlace => k_is); (case et_NoPlace => k_is); (case eg_DipError => k_is); (case ex_DipError => k_exc); (case ek_DipError => k_is); (case eb_DipError => k_is); (case et_DipError => k_is); (case eg_NoLine => k_is); (case ex_NoLine => k_exc); (case ek_NoLine => k_is); (case eb_NoLine => k_is); (case et_NoLine => k_is); (case eg_NoNumber => k_is); (case ex_NoNumber => k_exc); (case ek_NoNumber => k_is); (case eb_NoNumber => k_is); (case et_NoNumber => k_is); (case eg_NoPast => k_is); (case ex_NoPast => k_exc); (case ek_NoPast => k_is); (case eb_NoPast => k_is); (case et_NoPast => k_is); (case eg_NoTelling => k_is); (case ex_NoTelling => k_exc); (case ek_NoTelling => k_is); (case eb_NoTelling => k_is); (case et_NoTelling => k_is); (case eg_NoText => k_is); (case ex_NoText => k_exc); (case ek_NoText => k_is); (case eb_NoText => k_is); (case et_NoText => k_is); (case eg_NoTree => k_is); (case ex_NoTree => k_exc); (case ek_NoTree => k_is); (case eb_NoTree => k_is); (case et_NoTree => k_is); (case eg_TooMany => k_is); (case ex_TooMany => k_exc); (case ek_TooMany => k_is); (case eb_TooMany => k_is); (case et_TooMany => k_is); (case kd_Unlike => k_is); (case kd_Empty => k_is); (case kd_TooMany => k_is); (case kd_NoTree => k_is); (case kd_NoTelling => k_is); (case kd_NoPlace => k_is); (case kd_NoNumber => k_is); (case kd_NoPast => k_is); (case kd_NoText => k_is); (case kd_NoLine => k_is); (case kd_DipError => k_is); (case kb_DipError => k_is); (case kn1 => k_is); (case kn2 => k_is); (case ka_Empty => k_is); (case kk_Empty => k_is); (case kc_Empty => k_is); (case km_Empty => k_is); (case ke_Empty => k_is); (case ks_Empty => k_is); (case kv_Empty => k_is); (case kr_Empty_Unlike => k_is); (case kr_Empty_Empty => k_is); (case kr_Empty_TooMany => k_is); (case kr_Empty_NoTree => k_is); (case kr_Empty_NoTelling => k_is); (case kr_Empty_NoPlace => k_is); (case kr_Empty_NoNumber => k_is); (case kr_Empty_NoPast => k_is); (case kr_Empty_NoText => k_is); (case kr_Empty_NoLine => k_is); (case knd => decide)
