import PyProof.Rows.All
import Wide.All
import OpenK.AllK
import Wide.FinOn
import HandS.ForMost
import HandS.Exc
import HandS.TryOnly
import HandS.ExcOwn
import HandS.WordsExc
import HandS.Codes
import HandS.Conv
import HandS.TupAny
import HandS.TupMul
import HandS.Zip
import HandS.Rev
import HandS.Style
import HandS.SetFor
import HandS.IsInst
import HandS.Wide
import HandS.Flow
import HandS.SortKw
import HandS.RevRange
import HandS.Lambda
import HandS.EndTab
import HandS.Walk
import KE.GoesEnum
import HandS.ExcIs
import KE.DataMinMax
import HandS.SortInts
import HandS.SortRule
import HandS.Flt
import PyProof.ZipIter
import KE.KItemsList
import HandS.ExcValue
import HandS.Text
import HandS.StrMore
import HandS.StrSplit
import KE.KTupSum
import HandS.WideBits
import HandS.Deep
import HandS.FltList
import HandS.Dict
import PyProof.Rows.RowBridgeK
import KE.GoesMore
import HandS.Iter
import HandS.Strs
import PySem.Challenge.RW_dipkin_k66_whole_none_stay_more
set_option Elab.async false
set_option linter.all false
set_option maxRecDepth 100000
set_option maxHeartbeats 1000000
/-! A layer of words over plain data: each name of a def holds a plain value. -/
namespace GL
open PySem L2
abbrev Sg := List (Option V)

/-- how a value stands for plain data, in a heap -/
structure Rl (α : Type) where
  is : Hp → V → α → Prop
  mono : ∀ {H H' : Hp} {v : V} {a : α}, Same H H' → is H v a → is H' v a

def All2 {α : Type} (p : V → α → Prop) : List V → List α → Prop
  | [], [] => True
  | x :: xs, a :: l => p x a ∧ All2 p xs l
  | _, _ => False
theorem All2.imp {α : Type} {p q : V → α → Prop} (h : ∀ v a, p v a → q v a) : ∀ {xs : List V} {l : List α}, All2 p xs l → All2 q xs l
  | [], [], _ => trivial
  | _ :: _, _ :: _, ⟨a, b⟩ => ⟨h _ _ a, All2.imp h b⟩
theorem All2.len {α : Type} {p : V → α → Prop} : ∀ {xs : List V} {l : List α}, All2 p xs l → xs.length = l.length
  | [], [], _ => rfl
  | _ :: _, _ :: _, ⟨_, b⟩ => by rw [List.length_cons, List.length_cons, All2.len b]
theorem All2.get {α : Type} {p : V → α → Prop} : ∀ {xs : List V} {l : List α} {i : Nat} {a : α}, All2 p xs l → l[i]? = some a → ∃ v, xs[i]? = some v ∧ p v a
  | [], [], _, _, _, e => by simp at e
  | x :: _, b :: _, 0, a, ⟨h, _⟩, e => by simp at e; subst e; exact ⟨x, rfl, h⟩
  | _ :: _, _ :: _, i + 1, a, ⟨_, t⟩, e => by
    obtain ⟨v, h1, h2⟩ := All2.get (i := i) (a := a) t (by simpa using e)
    exact ⟨v, by simpa using h1, h2⟩
theorem All2.app {α : Type} {p : V → α → Prop} : ∀ {xs ys : List V} {l m : List α}, All2 p xs l → All2 p ys m → All2 p (xs ++ ys) (l ++ m)
  | [], _, [], _, _, h => h
  | _ :: _, _, _ :: _, _, ⟨a, b⟩, h => ⟨a, All2.app b h⟩
theorem All2.set {α : Type} {p : V → α → Prop} {v : V} {a : α} (h : p v a) : ∀ {xs : List V} {l : List α} (i : Nat), All2 p xs l → All2 p (xs.set i v) (l.set i a)
  | [], [], _, _ => trivial
  | _ :: _, _ :: _, 0, ⟨_, b⟩ => ⟨h, b⟩
  | _ :: _, _ :: _, i + 1, ⟨x, b⟩ => ⟨x, All2.set h i b⟩
theorem All2.take {α : Type} {p : V → α → Prop} : ∀ {xs : List V} {l : List α} (n : Nat), All2 p xs l → All2 p (xs.take n) (l.take n)
  | [], [], n, _ => by simp [All2]
  | _ :: _, _ :: _, 0, _ => trivial
  | _ :: _, _ :: _, n + 1, ⟨a, b⟩ => ⟨a, All2.take n b⟩
theorem All2.drop {α : Type} {p : V → α → Prop} : ∀ {xs : List V} {l : List α} (n : Nat), All2 p xs l → All2 p (xs.drop n) (l.drop n)
  | [], [], n, _ => by simp [All2]
  | _ :: _, _ :: _, 0, h => h
  | _ :: _, _ :: _, n + 1, ⟨_, b⟩ => All2.drop n b
theorem All2.ins {α : Type} {p : V → α → Prop} {v : V} {a : α} (h : p v a) : ∀ {xs : List V} {l : List α} (i : Nat), All2 p xs l → All2 p (xs.take i ++ v :: xs.drop i) (l.take i ++ a :: l.drop i) :=
  fun i t => (t.take i).app ⟨h, t.drop i⟩
theorem All2.erase {α : Type} {p : V → α → Prop} : ∀ {xs : List V} {l : List α} (n : Nat), All2 p xs l → All2 p (xs.eraseIdx n) (l.eraseIdx n)
  | [], [], n, _ => trivial
  | _ :: _, _ :: _, 0, ⟨_, b⟩ => b
  | _ :: _, _ :: _, n + 1, ⟨a, b⟩ => ⟨a, All2.erase n b⟩
theorem All2.dropLast {α : Type} {p : V → α → Prop} {xs : List V} {l : List α} (h : All2 p xs l) : All2 p xs.dropLast l.dropLast := by
  rw [List.dropLast_eq_take, List.dropLast_eq_take, h.len]
  exact h.take _
/-- flat items: the values are a map -/
theorem All2.map_eq {α : Type} {p : V → α → Prop} {f : α → V} (h : ∀ v a, p v a → v = f a) : ∀ {xs : List V} {l : List α}, All2 p xs l → xs = l.map f
  | [], [], _ => rfl
  | x :: xs, a :: l, ⟨q, b⟩ => by rw [List.map_cons, h _ _ q, All2.map_eq h b]
theorem All2.of_map {α : Type} {p : V → α → Prop} {f : α → V} (h : ∀ a, p (f a) a) : ∀ (l : List α), All2 p (l.map f) l
  | [] => trivial
  | a :: l => ⟨h a, All2.of_map h l⟩

/-! ### kinds of data -/
def rInt : Rl Int := ⟨fun _ v i => v = .int i, fun _ h => h⟩
def rBool : Rl Bool := ⟨fun _ v b => v = .bl b, fun _ h => h⟩
def rStr : Rl Str := ⟨fun _ v b => v = .str b, fun _ h => h⟩
def rNone : Rl Unit := ⟨fun _ v _ => v = .non, fun _ h => h⟩
def rOpt {α : Type} (R : Rl α) : Rl (Option α) := ⟨fun H v o => match o with | none => v = .non | some a => R.is H v a ∧ v ≠ .non, fun {H H' v o} s h => by
  cases o with
  | none => exact h
  | some a => exact ⟨R.mono s h.1, h.2⟩⟩
def rList {α : Type} (R : Rl α) : Rl (List α) := ⟨fun H v l => ∃ p xs, v = .ref p ∧ H p = some (.lst xs) ∧ All2 (R.is H) xs l,
  fun s ⟨p, xs, e, h, t⟩ => ⟨p, xs, e, s _ _ h, t.imp fun _ _ => R.mono s⟩⟩
theorem rd_mono {H H' : Hp} {p : Addr} {u : HO} (s : ∀ q o, H q = some o → H' q = some o) (h : Rd H p u) : Rd H' p u := h.imp (s _ _) fun ⟨o, h⟩ => ⟨o, s _ _ h⟩
def rTup {α : Type} (R : Rl α) : Rl (List α) := ⟨fun H v l => ∃ p xs, v = .ref p ∧ Rd H p (.tup xs) ∧ All2 (R.is H) xs l,
  fun s ⟨p, xs, e, h, t⟩ => ⟨p, xs, e, rd_mono s h, t.imp fun _ _ => R.mono s⟩⟩
/-- a list or a tuple -/
def rSeq {α : Type} (R : Rl α) : Rl (List α) := ⟨fun H v l => ∃ p xs, v = .ref p ∧ (H p = some (.lst xs) ∨ Rd H p (.tup xs)) ∧ All2 (R.is H) xs l,
  fun s ⟨p, xs, e, h, t⟩ => ⟨p, xs, e, h.imp (s _ _) (rd_mono s), t.imp fun _ _ => R.mono s⟩⟩
def rPair {α β : Type} (R : Rl α) (S : Rl β) : Rl (α × β) := ⟨fun H v l => ∃ p x y, v = .ref p ∧ H p = some (.tup [x, y]) ∧ R.is H x l.1 ∧ S.is H y l.2,
  fun s ⟨p, x, y, e, h, t, u⟩ => ⟨p, x, y, e, s _ _ h, R.mono s t, S.mono s u⟩⟩
def rTrip {α β γ : Type} (R : Rl α) (S : Rl β) (T : Rl γ) : Rl (α × β × γ) := ⟨fun H v l => ∃ p x y z, v = .ref p ∧ Rd H p (.tup [x, y, z]) ∧ R.is H x l.1 ∧ S.is H y l.2.1 ∧ T.is H z l.2.2,
  fun s ⟨p, x, y, z, e, h, t, u, w⟩ => ⟨p, x, y, z, e, rd_mono s h, R.mono s t, S.mono s u, T.mono s w⟩⟩
/-- the heap does not matter -/
def Flat {α : Type} (R : Rl α) : Prop := ∀ H H' v a, R.is H v a → R.is H' v a
theorem fl_int : Flat rInt := fun _ _ _ _ h => h
theorem fl_bool : Flat rBool := fun _ _ _ _ h => h
theorem fl_opt {α : Type} {R : Rl α} (f : Flat R) : Flat (rOpt R) := fun H H' v o h => by
  cases o with
  | none => exact h
  | some a => exact ⟨f _ _ _ _ h.1, h.2⟩

/-! ### the world of a running def -/
structure Cn where
  H0 : Hp
  vs0 : List Addr
  PI : HO → Prop
  F : Hp
  /-- a table of code objects that grows, the name that those bear; the ones known at the entry -/
  tb : Option (Addr × Str)
  kn : Hp
def Cn.isT (C : Cn) (p : Addr) : Prop := ∃ q, C.tb = some (p, q)
/-- each code object that the table tells is known, by its name -/
def Cods (q : Str) (G : Hp) (ps : Array Value) : Prop := TriplesOk ps.toList ∧ ∀ (pos : Pos) (cv : Value), codeAmong pos ps.toList = some cv → ∃ c, cv = .ref c ∧ G c = some (LamX.CodeO c q)
theorem Cods.mono {q : Str} {G G' : Hp} {ps : Array Value} (s : Same G G') (h : Cods q G ps) : Cods q G' ps := ⟨h.1, fun pos cv e => by
  obtain ⟨c, e1, e2⟩ := h.2 pos cv e
  exact ⟨c, e1, s _ _ e2⟩⟩
structure Wd where
  H : Hp
  G : Hp
  vs : List Addr
inductive Lv where
  | g | m | h
  deriving DecidableEq
open Classical in
def hid (H : Hp) (vs : List Addr) : Hp := fun p => if p ∈ vs then none else H p
theorem hid_in {H : Hp} {vs : List Addr} {p : Addr} (h : p ∈ vs) : hid H vs p = none := by unfold hid; rw [if_pos h]
theorem hid_out {H : Hp} {vs : List Addr} {p : Addr} (h : p ∉ vs) : hid H vs p = H p := by unfold hid; rw [if_neg h]
theorem hid_some {H : Hp} {vs : List Addr} {p : Addr} {o : HO} (h : hid H vs p = some o) : p ∉ vs ∧ H p = some o := by
  by_cases q : p ∈ vs
  · rw [hid_in q] at h; cases h
  · rw [hid_out q] at h; exact ⟨q, h⟩
theorem hid_nil {H : Hp} : hid H [] = H := by
  funext p
  exact hid_out (by simp)
def jn (B G : Hp) : Hp := fun p => match B p with | some o => some o | none => G p
theorem jn_l {B G : Hp} : Same B (jn B G) := fun p o h => by unfold jn; rw [h]
theorem jn_some {B G : Hp} {p : Addr} {o : HO} (h : jn B G p = some o) : B p = some o ∨ (B p = none ∧ G p = some o) := by
  unfold jn at h
  cases q : B p with
  | some u => rw [q] at h; exact .inl h
  | none => rw [q] at h; exact .inr ⟨rfl, h⟩
theorem jn_r {B G : Hp} {p : Addr} (h : B p = none) : jn B G p = G p := by unfold jn; rw [h]
def Mw (C : Cn) (W : Wd) : Hp := jn (hid C.H0 C.vs0) W.G
def Hm (W : Wd) : Hp := hid W.H W.vs
def wl (C : Cn) (W : Wd) : Lv → Hp
  | .g => W.G
  | .m => Mw C W
  | .h => Hm W
structure Bok (C : Cn) (W : Wd) : Prop where
  base : ∀ p o, C.H0 p = some o → p ∉ C.vs0 → W.H p = some o
  vol : ∀ p ∈ W.vs, ∃ o, W.H p = some o ∧ (¬ C.isT p → C.PI o)
  vsub : ∀ p ∈ C.vs0, p ∈ W.vs
  vnew : ∀ p ∈ W.vs, p ∉ C.vs0 → C.H0 p = none
  v0 : ∀ p ∈ C.vs0, C.H0 p ≠ none
  gv : ∀ p ∈ W.vs, W.G p = none
  g : ∀ p o, W.G p = some o → W.H p = some o
  gn : ∀ p o, W.G p = some o → C.H0 p = none
  fl : Same C.F W.G
  tab : ∀ P q, C.tb = some (P, q) → P ∈ W.vs ∧ ∃ ps, W.H P = some (.tbl ps) ∧ Cods q (jn C.kn W.G) ps
  knb : Same C.kn (hid C.H0 C.vs0)
structure Stp (W W' : Wd) : Prop where
  vs : W'.vs = W.vs
  g : Same W.G W'.G
  h : Same (Hm W) (Hm W')
  new : ∀ p o, W'.G p = some o → W.G p = some o ∨ W.H p = none
theorem Stp.refl (W : Wd) : Stp W W := ⟨rfl, Same.refl _, Same.refl _, fun _ _ h => .inl h⟩
theorem Bok.back {C : Cn} {W W' : Wd} (b : Bok C W) (b' : Bok C W') (s : Stp W W') {p : Addr} (h : W'.H p = none) : W.H p = none := by
  cases q : W.H p with
  | none => rfl
  | some o =>
    by_cases hv : p ∈ W.vs
    · obtain ⟨u, hu, _⟩ := b'.vol p (by rw [s.vs]; exact hv)
      rw [h] at hu; cases hu
    · have e : Hm W p = some o := (hid_out hv).trans q
      have e' := (hid_some (s.h _ _ e)).2
      rw [h] at e'; cases e'
theorem Stp.trans {C : Cn} {W W1 W2 : Wd} (b : Bok C W) (b1 : Bok C W1) (s : Stp W W1) (t : Stp W1 W2) : Stp W W2 :=
  ⟨t.vs.trans s.vs, s.g.trans t.g, s.h.trans t.h, fun p o h => by
    rcases t.new p o h with h | h
    · exact s.new p o h
    · exact .inr (b.back b1 s h)⟩
theorem Bok.gm {C : Cn} {W : Wd} (b : Bok C W) : Same W.G (Mw C W) := fun p o h => by
  unfold Mw
  rw [jn_r ?_]
  · exact h
  · by_cases hv : p ∈ C.vs0
    · exact hid_in hv
    · rw [hid_out hv]; exact b.gn _ _ h
theorem Bok.novs {C : Cn} {W : Wd} (b : Bok C W) {p : Addr} {o : HO} (h : W.G p = some o) : p ∉ W.vs := fun q => by
  rw [b.gv p q] at h; cases h
theorem Bok.mh {C : Cn} {W : Wd} (b : Bok C W) : Same (Mw C W) (Hm W) := fun p o h => by
  rcases jn_some h with h | ⟨_, h⟩
  · obtain ⟨h1, h2⟩ := hid_some h
    have hn : p ∉ W.vs := fun q => by
      have := b.vnew p q h1
      rw [h2] at this; cases this
    unfold Hm
    rw [hid_out hn]
    exact b.base p o h2 h1
  · unfold Hm
    rw [hid_out (b.novs h)]
    exact b.g _ _ h
theorem Bok.up {C : Cn} {W : Wd} (b : Bok C W) : ∀ ℓ : Lv, Same (wl C W ℓ) (Hm W)
  | .g => b.gm.trans b.mh
  | .m => b.mh
  | .h => Same.refl _
theorem Stp.lv {C : Cn} {W W' : Wd} (b : Bok C W) (s : Stp W W') : ∀ ℓ : Lv, Same (wl C W ℓ) (wl C W' ℓ)
  | .g => s.g
  | .m => fun p o h => by
    rcases jn_some h with h | ⟨n, h⟩
    · exact jn_l _ _ h
    · show jn _ _ p = some o
      rw [jn_r n]
      exact s.g _ _ h
  | .h => s.h
theorem Bok.hm {C : Cn} {W : Wd} {p : Addr} {o : HO} (h : Hm W p = some o) : W.H p = some o := (hid_some h).2
theorem Bok.h0 {C : Cn} {W : Wd} (b : Bok C W) {p : Addr} (h : W.H p = none) : C.H0 p = none := by
  cases q : C.H0 p with
  | none => rfl
  | some o =>
    by_cases hv : p ∈ C.vs0
    · obtain ⟨u, hu, _⟩ := b.vol p (b.vsub p hv)
      rw [h] at hu; cases hu
    · rw [b.base p o q hv] at h; cases h
theorem Bok.nvs {C : Cn} {W : Wd} (b : Bok C W) {p : Addr} (h : W.H p = none) : p ∉ W.vs := fun q => by
  obtain ⟨u, hu, _⟩ := b.vol p q
  rw [h] at hu; cases hu
theorem Bok.g0 {C : Cn} {W : Wd} (b : Bok C W) {p : Addr} (h : W.H p = none) : W.G p = none := by
  cases q : W.G p with
  | none => rfl
  | some o => rw [b.g _ _ q] at h; cases h
/-- a new object, not tracked as ours -/
def Wd.lay (W : Wd) (p : Addr) (o : HO) : Wd := ⟨upd W.H p o, W.G, W.vs⟩
/-- .. put among what never changes -/
def Wd.put (W : Wd) (p : Addr) (o : HO) : Wd := ⟨upd W.H p o, upd W.G p o, W.vs⟩
theorem jn_mono {B G G' : Hp} (s : Same G G') : Same (jn B G) (jn B G') := fun p o h => by
  rcases jn_some h with h | ⟨n, h⟩
  · exact jn_l _ _ h
  · rw [jn_r n]; exact s _ _ h
theorem same_upd {G : Hp} {p : Addr} {o : HO} (h : G p = none) : Same G (upd G p o) := fun q u e => by
  rw [upd_ne (ne_of_none e h)]; exact e
theorem Bok.lay {C : Cn} {W : Wd} (b : Bok C W) {p : Addr} {o : HO} (h : C.H0 p = none) (hv : p ∉ W.vs) (hg : W.G p = none) : Bok C (W.lay p o) where
  base := fun q u e n => by
    have ne : q ≠ p := ne_of_none e h
    show upd W.H p o q = _
    rw [upd_ne ne]; exact b.base q u e n
  vol := fun q hq => by
    have ne : q ≠ p := fun z => hv (z ▸ hq)
    show ∃ u, upd W.H p o q = some u ∧ _
    rw [upd_ne ne]; exact b.vol q hq
  vsub := b.vsub
  vnew := b.vnew
  v0 := b.v0
  gv := b.gv
  g := fun q u e => by
    have ne : q ≠ p := ne_of_none e hg
    show upd W.H p o q = _
    rw [upd_ne ne]; exact b.g q u e
  gn := b.gn
  fl := b.fl
  tab := fun P q e => by
    obtain ⟨h1, ps, h2, h3⟩ := b.tab P q e
    refine ⟨h1, ps, ?_, h3⟩
    have ne : P ≠ p := fun z => hv (z ▸ h1)
    show upd W.H p o P = _
    rw [upd_ne ne]; exact h2
  knb := b.knb
theorem Bok.put {C : Cn} {W : Wd} (b : Bok C W) {p : Addr} {o : HO} (h : C.H0 p = none) (hv : p ∉ W.vs) (hg : W.G p = none) : Bok C (W.put p o) where
  base := (b.lay h hv hg).base
  vol := (b.lay h hv hg).vol
  vsub := b.vsub
  vnew := b.vnew
  v0 := b.v0
  gv := fun q hq => by
    have ne : q ≠ p := fun z => hv (z ▸ hq)
    show upd W.G p o q = none
    rw [upd_ne ne]; exact b.gv q hq
  g := fun q u e => by
    by_cases z : q = p
    · subst z
      have e' : upd W.G q o q = some u := e
      show upd W.H q o q = some u
      rw [upd_same] at e' ⊢; exact e'
    · have e' : upd W.G p o q = some u := e
      rw [upd_ne z] at e'
      exact (b.lay h hv hg).g q u e'
  gn := fun q u e => by
    by_cases z : q = p
    · rw [z]; exact h
    · have e' : upd W.G p o q = some u := e
      rw [upd_ne z] at e'
      exact b.gn q u e'
  fl := fun q u e => by
    have e' := b.fl q u e
    show upd W.G p o q = _
    rw [upd_ne (ne_of_none e' hg)]; exact e'
  tab := fun P q e => by
    obtain ⟨h1, ps, h2, h3⟩ := (b.lay (o := o) h hv hg).tab P q e
    exact ⟨h1, ps, h2, h3.mono (jn_mono (same_upd hg))⟩
  knb := b.knb
theorem Stp.lay {C : Cn} {W : Wd} (b : Bok C W) {p : Addr} {o : HO} (h : W.H p = none) : Stp W (W.lay p o) :=
  ⟨rfl, Same.refl _, fun q u e => by
    obtain ⟨e1, e2⟩ := hid_some e
    show hid (upd W.H p o) W.vs q = _
    rw [hid_out e1, upd_ne (ne_of_none e2 h)]; exact e2, fun _ _ e => .inl e⟩
theorem Stp.put {C : Cn} {W : Wd} (b : Bok C W) {p : Addr} {o : HO} (h : W.H p = none) : Stp W (W.put p o) :=
  ⟨rfl, fun q u e => by
    show upd W.G p o q = _
    rw [upd_ne (ne_of_none e (b.g0 h))]; exact e, (Stp.lay b h).h, fun q u e => by
    by_cases z : q = p
    · subst z; exact .inr h
    · have e' : upd W.G p o q = some u := e
      rw [upd_ne z] at e'
      exact .inl e'⟩
/-- what stands there already (not ours) is put among what never changes -/
def Wd.frz (W : Wd) (p : Addr) (o : HO) : Wd := ⟨W.H, upd W.G p o, W.vs⟩
theorem Bok.frz {C : Cn} {W : Wd} (b : Bok C W) {p : Addr} {o : HO} (h : C.H0 p = none) (hv : p ∉ W.vs) (hp : W.H p = some o) (hg : W.G p = none) : Bok C (W.frz p o) where
  base := b.base
  vol := b.vol
  vsub := b.vsub
  vnew := b.vnew
  v0 := b.v0
  gv := fun q hq => by
    have ne : q ≠ p := fun z => hv (z ▸ hq)
    show upd W.G p o q = none
    rw [upd_ne ne]; exact b.gv q hq
  g := fun q u e => by
    by_cases z : q = p
    · subst z
      have e' : upd W.G q o q = some u := e
      rw [upd_same] at e'
      show W.H q = _
      rw [hp]; exact e'
    · have e' : upd W.G p o q = some u := e
      rw [upd_ne z] at e'
      exact b.g q u e'
  gn := fun q u e => by
    by_cases z : q = p
    · rw [z]; exact h
    · have e' : upd W.G p o q = some u := e
      rw [upd_ne z] at e'
      exact b.gn q u e'
  fl := fun q u e => by
    have e' := b.fl q u e
    show upd W.G p o q = _
    rw [upd_ne (ne_of_none e' hg)]; exact e'
  tab := fun P q e => by
    obtain ⟨h1, ps, h2, h3⟩ := b.tab P q e
    exact ⟨h1, ps, h2, h3.mono (jn_mono (same_upd hg))⟩
  knb := b.knb

/-! ### what the names hold -/
/-- an object of ours, of any make, over the addresses ps: K what is known, A the heap itself -/
structure Ob (α : Type) where
  is : Hp → Hp → V → List Addr → α → Prop
  mono : ∀ {K K' A A' : Hp} {v : V} {ps : List Addr} {a : α}, Same K K' → (∀ p ∈ ps, A' p = A p) → is K A v ps a → is K' A' v ps a
inductive Ent : Type 1 where
  | no : Ent
  | val {α : Type} (ℓ : Lv) (R : Rl α) (a : α) : Ent
  | own {α : Type} (p : Addr) (ℓ : Lv) (R : Rl α) (l : List α) : Ent
  | vol (p : Addr) : Ent
  | raw (v : V) : Ent
  | ob {α : Type} (v : V) (ps : List Addr) (ℓ : Lv) (S : Ob α) (a : α) : Ent
def Ent.ads : Ent → List Addr
  | .own p _ _ _ => [p]
  | .ob _ ps _ _ _ => ps
  | _ => []
/-- p is an address of ours, held at the name i -/
def adAt (Γ : List Ent) (i : Nat) (p : Addr) : Prop := ∃ e, Γ[i]? = some e ∧ p ∈ e.ads
theorem adAt.own {Γ : List Ent} {i : Nat} {α : Type} {p : Addr} {ℓ : Lv} {R : Rl α} {l : List α} (h : Γ[i]? = some (.own p ℓ R l)) : adAt Γ i p := ⟨_, h, List.mem_singleton.mpr rfl⟩
theorem adAt.ob {Γ : List Ent} {i : Nat} {α : Type} {v : V} {ps : List Addr} {q : Addr} {ℓ : Lv} {S : Ob α} {l : α} (h : Γ[i]? = some (.ob v ps ℓ S l)) (hq : q ∈ ps) : adAt Γ i q := ⟨_, h, hq⟩
def EntOk (C : Cn) (W : Wd) (x : Option V) : Ent → Prop
  | .no => True
  | .val ℓ R a => ℓ ≠ .h ∧ ∃ v, x = some v ∧ R.is (wl C W ℓ) v a
  | .own p ℓ R l => ℓ ≠ .h ∧ x = some (.ref p) ∧ p ∉ W.vs ∧ C.H0 p = none ∧ W.G p = none ∧ ∃ xs, W.H p = some (.lst xs) ∧ All2 (R.is (wl C W ℓ)) xs l
  | .vol p => x = some (.ref p) ∧ p ∈ W.vs ∧ ¬ C.isT p
  | .raw v => x = some v
  | .ob v ps ℓ S a => ℓ ≠ .h ∧ x = some v ∧ (∀ p ∈ ps, p ∉ W.vs ∧ C.H0 p = none ∧ W.G p = none ∧ W.H p ≠ none) ∧ S.is (wl C W ℓ) W.H v ps a
structure World (C : Cn) (σ : Sg) (W : Wd) (Γ : List Ent) : Prop where
  b : Bok C W
  len : σ.length = Γ.length
  ent : ∀ (i : Nat) (e : Ent), Γ[i]? = some e → ∃ x, σ[i]? = some x ∧ EntOk C W x e
  dis : ∀ (i j : Nat) (p q : Addr), i ≠ j → adAt Γ i p → adAt Γ j q → p ≠ q
/-- what is ours and not yet known stays so -/
theorem Stp.ours {W W' : Wd} (s : Stp W W') {p : Addr} (hv : p ∉ W.vs) (hg : W.G p = none) (hn : W.H p ≠ none) : W'.H p = W.H p ∧ W'.G p = none := by
  cases e : W.H p with
  | none => exact absurd e hn
  | some o =>
    have e1 : Hm W p = some o := (hid_out hv).trans e
    refine ⟨(hid_some (s.h _ _ e1)).2, ?_⟩
    cases q : W'.G p with
    | none => rfl
    | some u =>
      rcases s.new p u q with z | z
      · rw [hg] at z; cases z
      · rw [e] at z; cases z
theorem EntOk.stp {C : Cn} {W W' : Wd} {x : Option V} (b : Bok C W) (b' : Bok C W') (s : Stp W W') : ∀ {e : Ent}, EntOk C W x e → EntOk C W' x e
  | .no, _ => trivial
  | .val ℓ R a, ⟨n, v, e, h⟩ => ⟨n, v, e, R.mono (s.lv b ℓ) h⟩
  | .own p ℓ R l, ⟨n, e, hv, h0, hg, xs, hx, t⟩ => by
    have e1 : Hm W p = some (.lst xs) := (hid_out hv).trans hx
    refine ⟨n, e, by rw [s.vs]; exact hv, h0, ?_, xs, (hid_some (s.h _ _ e1)).2, t.imp fun _ _ => R.mono (s.lv b ℓ)⟩
    cases q : W'.G p with
    | none => rfl
    | some o =>
      rcases s.new p o q with z | z
      · rw [hg] at z; cases z
      · rw [hx] at z; cases z
  | .vol p, ⟨e, h⟩ => ⟨e, by rw [s.vs]; exact h⟩
  | .raw v, h => h
  | .ob v ps ℓ S a, ⟨n, e, hp, r⟩ => ⟨n, e, fun p m => by
      obtain ⟨h1, h2, h3, h4⟩ := hp p m
      obtain ⟨k1, k2⟩ := s.ours h1 h3 h4
      exact ⟨by rw [s.vs]; exact h1, h2, k2, by rw [k1]; exact h4⟩, S.mono (s.lv b ℓ) (fun p m => (s.ours (hp p m).1 (hp p m).2.2.1 (hp p m).2.2.2).1) r⟩
theorem World.stp {C : Cn} {σ : Sg} {W W' : Wd} {Γ : List Ent} (w : World C σ W Γ) (b' : Bok C W') (s : Stp W W') : World C σ W' Γ :=
  ⟨b', w.len, fun i e h => by
    obtain ⟨x, h1, h2⟩ := w.ent i e h
    exact ⟨x, h1, h2.stp w.b b' s⟩, w.dis⟩
theorem World.get {C : Cn} {σ : Sg} {W : Wd} {Γ : List Ent} (w : World C σ W Γ) {i : Nat} {e : Ent} (h : Γ[i]? = some e) : ∃ x, σ[i]? = some x ∧ EntOk C W x e := w.ent i e h
theorem World.lt {C : Cn} {σ : Sg} {W : Wd} {Γ : List Ent} (w : World C σ W Γ) {i : Nat} {e : Ent} (h : Γ[i]? = some e) : i < σ.length := by
  rw [w.len]
  exact (List.getElem?_eq_some_iff.mp h).1
theorem World.set {C : Cn} {σ : Sg} {W : Wd} {Γ : List Ent} (w : World C σ W Γ) (i : Nat) {x : Option V} {e : Ent} (h : EntOk C W x e) (hd : ∀ p, p ∈ e.ads → ∀ j q, j ≠ i → adAt Γ j q → p ≠ q) : World C (σ.set i x) W (Γ.set i e) := by
  refine ⟨w.b, by rw [List.length_set, List.length_set, w.len], fun j u hj => ?_, fun j k p q hjk hp hq => ?_⟩
  · by_cases z : i = j
    · subst z
      by_cases hl : i < Γ.length
      · rw [List.getElem?_set_self hl] at hj
        cases hj
        exact ⟨x, List.getElem?_set_self (by rw [w.len]; exact hl), h⟩
      · rw [List.getElem?_eq_none (by rw [List.length_set]; omega)] at hj
        cases hj
    · rw [List.getElem?_set_ne z] at hj
      obtain ⟨y, h1, h2⟩ := w.ent j u hj
      exact ⟨y, by rw [List.getElem?_set_ne z]; exact h1, h2⟩
  · have key : ∀ (j : Nat) (p : Addr), adAt (Γ.set i e) j p → (i = j ∧ p ∈ e.ads) ∨ (i ≠ j ∧ adAt Γ j p) := fun j p ⟨u, hu, hm⟩ => by
      by_cases z : i = j
      · subst z
        by_cases hl : i < Γ.length
        · rw [List.getElem?_set_self hl] at hu
          cases hu
          exact .inl ⟨rfl, hm⟩
        · rw [List.getElem?_eq_none (by rw [List.length_set]; omega)] at hu
          cases hu
      · rw [List.getElem?_set_ne z] at hu
        exact .inr ⟨z, u, hu, hm⟩
    rcases key j p hp with ⟨zj, mj⟩ | ⟨zj, aj⟩
    · rcases key k q hq with ⟨zk, _⟩ | ⟨zk, ak⟩
      · exact absurd (zj.symm.trans zk) hjk
      · exact hd p mj k q (Ne.symm zk) ak
    · rcases key k q hq with ⟨zk, mk⟩ | ⟨zk, ak⟩
      · exact Ne.symm (hd q mk j p (Ne.symm zj) aj)
      · exact w.dis j k p q hjk aj ak
/-- own addresses stand in the heap -/
theorem World.adH {C : Cn} {σ : Sg} {W : Wd} {Γ : List Ent} (w : World C σ W Γ) {j : Nat} {q : Addr} (h : adAt Γ j q) : W.H q ≠ none ∧ W.G q = none := by
  obtain ⟨u, e, hm⟩ := h
  obtain ⟨x, h1, h2⟩ := w.ent j u e
  cases u with
  | own p ℓ R l =>
    cases List.mem_singleton.mp hm
    obtain ⟨_, _, _, _, hg, xs, hx, _⟩ := h2
    exact ⟨(by rw [hx]; intro z; cases z), hg⟩
  | ob v ps ℓ S a => exact ⟨(h2.2.2.1 q hm).2.2.2, (h2.2.2.1 q hm).2.2.1⟩
  | no => cases hm
  | val _ _ _ => cases hm
  | vol _ => cases hm
  | raw _ => cases hm
end GL


set_option Elab.async false
set_option linter.all false
set_option maxRecDepth 100000
set_option maxHeartbeats 1000000
namespace GL
open PySem L2
/-! ### what an expression comes to -/
section
variable (C : Cn)
def EvP {α : Type} (te : TE) (Γ : List Ent) (ℓ : Lv) (R : Rl α) (P : α → Prop) : Prop :=
  ∀ σ W, World C σ W Γ → ∀ Q : VK, (∀ v W' a, Stp W W' → Bok C W' → R.is (wl C W' ℓ) v a → P a → Q v W'.H) → te σ W.H Q
abbrev Ev {α : Type} (te : TE) (Γ : List Ent) (ℓ : Lv) (R : Rl α) (a : α) : Prop := EvP C te Γ ℓ R (fun x => x = a)
inductive Kd where
  | l | t | e
def seqAt (k : Kd) (H : Hp) (p : Addr) (xs : List V) : Prop := match k with
  | .l => H p = some (.lst xs)
  | .t => Rd H p (.tup xs)
  | .e => H p = some (.lst xs) ∨ Rd H p (.tup xs)
/-- a list or tuple to be read; c: where it stands, ℓ: where its items stand -/
def EvS {α : Type} (te : TE) (Γ : List Ent) (k : Kd) (c ℓ : Lv) (R : Rl α) (P : List α → Prop) : Prop :=
  ∀ σ W, World C σ W Γ → ∀ Q : VK, (∀ p W' xs l, Stp W W' → Bok C W' → seqAt k (wl C W' c) p xs → All2 (R.is (wl C W' ℓ)) xs l → P l → Q (.ref p) W'.H) → te σ W.H Q
/-- a new list -/
def EvN {α : Type} (te : TE) (Γ : List Ent) (ℓ : Lv) (R : Rl α) (P : List α → Prop) : Prop :=
  ∀ σ W, World C σ W Γ → ∀ Q : VK, (∀ p W' xs l, Stp W W' → Bok C W' → W.H p = none → W'.H p = some (.lst xs) → W'.G p = none → All2 (R.is (wl C W' ℓ)) xs l → P l → Q (.ref p) W'.H) → te σ W.H Q
/-- a test -/
def EvB (tt : TT) (Γ : List Ent) (P : Bool → Prop) : Prop :=
  ∀ σ W, World C σ W Γ → ∀ Q : Bool → Hp → Prop, (∀ b W', Stp W W' → Bok C W' → P b → Q b W'.H) → tt σ W.H Q
abbrev EvC (tt : TT) (Γ : List Ent) (T : Prop) : Prop := EvB C tt Γ (fun b => b = true ↔ T)
/-- arguments -/
inductive Tel : Type 1 where
  | nil : Tel
  | cons {α : Type} (ℓ : Lv) (R : Rl α) (P : α → Prop) (t : Tel) : Tel
  | vol (p : Addr) (t : Tel) : Tel
def Tel.ok (C : Cn) (W : Wd) : Tel → List V → Prop
  | .nil, vs => vs = []
  | .cons ℓ R P t, vs => ∃ v r a, vs = v :: r ∧ R.is (wl C W ℓ) v a ∧ P a ∧ t.ok C W r
  | .vol p t, vs => ∃ r, vs = .ref p :: r ∧ p ∈ W.vs ∧ t.ok C W r
def EvA (ta : TA) (Γ : List Ent) (T : Tel) : Prop :=
  ∀ σ W, World C σ W Γ → ∀ Q : List V → Hp → Prop, (∀ vs W', Stp W W' → Bok C W' → T.ok C W' vs → Q vs W'.H) → ta σ W.H Q
end
section
variable {C : Cn} {Γ : List Ent} {α β γ δ : Type} {R : Rl α} {S : Rl β} {T : Rl γ} {U : Rl δ} {P : α → Prop} {P' : β → Prop} {P3 : γ → Prop} {ta tb tc te : TE} {ℓ ℓ' c c' : Lv} {K : PySem.W.Frag}
theorem Tel.stp {W W' : Wd} (b : Bok C W) (s : Stp W W') : ∀ {t : Tel} {vs : List V}, t.ok C W vs → t.ok C W' vs
  | .nil, _, h => h
  | .cons ℓ R P t, _, ⟨v, r, a, e, h, p, q⟩ => ⟨v, r, a, e, R.mono (s.lv b ℓ) h, p, Tel.stp b s q⟩
  | .vol p t, _, ⟨r, e, h, q⟩ => ⟨r, e, by rw [s.vs]; exact h, Tel.stp b s q⟩
theorem EvP.imp {P2 : α → Prop} (h : EvP C te Γ ℓ R P) (i : ∀ a, P a → P2 a) : EvP C te Γ ℓ R P2 := fun σ W w Q q => h σ W w Q fun v W' a s b r p => q v W' a s b r (i a p)
theorem EvP.toh (h : EvP C te Γ ℓ R P) : EvP C te Γ .h R P := fun σ W w Q q => h σ W w Q fun v W' a s b r p => q v W' a s b (R.mono (b.up ℓ) r) p
theorem EvP.fl (f : Flat R) (h : EvP C te Γ ℓ R P) : EvP C te Γ ℓ' R P := fun σ W w Q q => h σ W w Q fun v W' a s b r p => q v W' a s b (f _ _ _ _ r) p
theorem Ev.eq {a a' : α} (h : Ev C te Γ ℓ R a) (e : a = a') : Ev C te Γ ℓ R a' := h.imp fun x hx => hx.trans e
theorem EvS.imp {k : Kd} {P P2 : List α → Prop} (h : EvS C te Γ k c ℓ R P) (i : ∀ a, P a → P2 a) : EvS C te Γ k c ℓ R P2 := fun σ W w Q q => h σ W w Q fun p W' xs l s b e r z => q p W' xs l s b e r (i l z)
theorem EvN.imp {P P2 : List α → Prop} (h : EvN C te Γ ℓ R P) (i : ∀ a, P a → P2 a) : EvN C te Γ ℓ R P2 := fun σ W w Q q => h σ W w Q fun p W' xs l s b n hH hG r z => q p W' xs l s b n hH hG r (i l z)
theorem EvB.imp {tt : TT} {P P2 : Bool → Prop} (h : EvB C tt Γ P) (i : ∀ b, P b → P2 b) : EvB C tt Γ P2 := fun σ W w Q q => h σ W w Q fun b W' s bk p => q b W' s bk (i b p)
theorem seqAt.mono {k : Kd} {H H' : Hp} {p : Addr} {xs : List V} (s : Same H H') (h : seqAt k H p xs) : seqAt k H' p xs := by
  cases k with
  | l => exact s _ _ h
  | t => exact rd_mono s h
  | e => exact h.imp (s _ _) (rd_mono s)
theorem EvS.toh {k : Kd} {P : List α → Prop} (h : EvS C te Γ k c ℓ R P) : EvS C te Γ k .h .h R P := fun σ W w Q q => h σ W w Q fun p W' xs l s b e r z => q p W' xs l s b (e.mono (b.up c)) (r.imp fun _ _ => R.mono (b.up ℓ)) z
theorem EvS.fl {k : Kd} {P : List α → Prop} (f : Flat R) (h : EvS C te Γ k c ℓ R P) : EvS C te Γ k c ℓ' R P := fun σ W w Q q => h σ W w Q fun p W' xs l s b e r z => q p W' xs l s b e (r.imp fun _ _ => f _ _ _ _) z
theorem es_list {P : List α → Prop} (h : EvP C te Γ ℓ (rList R) P) : EvS C te Γ .l ℓ ℓ R P := fun σ W w Q q => h σ W w Q fun v W' a s b ⟨p, xs, e, h1, h2⟩ z => by subst e; exact q p W' xs a s b h1 h2 z
theorem es_tup {P : List α → Prop} (h : EvP C te Γ ℓ (rTup R) P) : EvS C te Γ .t ℓ ℓ R P := fun σ W w Q q => h σ W w Q fun v W' a s b ⟨p, xs, e, h1, h2⟩ z => by subst e; exact q p W' xs a s b h1 h2 z
theorem es_seq {P : List α → Prop} (h : EvP C te Γ ℓ (rSeq R) P) : EvS C te Γ .e ℓ ℓ R P := fun σ W w Q q => h σ W w Q fun v W' a s b ⟨p, xs, e, h1, h2⟩ z => by subst e; exact q p W' xs a s b h1 h2 z
/-- read as a row of any kind -/
theorem ev_seqL {P : List α → Prop} (h : EvP C te Γ ℓ (rList R) P) : EvP C te Γ ℓ (rSeq R) P := fun σ W w Q q => h σ W w Q fun v W' a s b ⟨p, xs, e, h1, h2⟩ z => q v W' a s b ⟨p, xs, e, .inl h1, h2⟩ z
theorem ev_seqT {P : List α → Prop} (h : EvP C te Γ ℓ (rTup R) P) : EvP C te Γ ℓ (rSeq R) P := fun σ W w Q q => h σ W w Q fun v W' a s b ⟨p, xs, e, h1, h2⟩ z => q v W' a s b ⟨p, xs, e, .inr h1, h2⟩ z
/-! names and constants -/
theorem ev_var {i : Nat} {a : α} (h : Γ[i]? = some (.val ℓ R a)) : Ev C (tVar i) Γ ℓ R a := fun σ W w Q q => by
  obtain ⟨x, h1, _, v, h2, h3⟩ := w.get h
  subst h2
  exact ⟨v, h1, q v W a (Stp.refl W) w.b h3 rfl⟩
theorem es_own {i : Nat} {p : Addr} {l : List α} (h : Γ[i]? = some (.own p ℓ R l)) : EvS C (tVar i) Γ .l .h ℓ R (fun x => x = l) := fun σ W w Q q => by
  obtain ⟨x, h1, _, h2, hv, _, _, xs, h3, h4⟩ := w.get h
  subst h2
  exact ⟨_, h1, q p W xs l (Stp.refl W) w.b ((hid_out hv).trans h3) h4 rfl⟩
/-- a row of ours as an argument -/
theorem ev_own {i : Nat} {p : Addr} {l : List α} (h : Γ[i]? = some (.own p ℓ R l)) : Ev C (tVar i) Γ .h (rList R) l := fun σ W w Q q => by
  obtain ⟨x, h1, _, h2, hv, _, _, xs, h3, h4⟩ := w.get h
  subst h2
  exact ⟨_, h1, q _ W l (Stp.refl W) w.b ⟨p, xs, rfl, (hid_out hv).trans h3, h4.imp fun _ _ => R.mono (w.b.up ℓ)⟩ rfl⟩
theorem ev_int {i : Int} : Ev C (tC (.int i)) Γ ℓ rInt i := fun σ W w Q q => q _ W i (Stp.refl W) w.b rfl rfl
theorem ev_bl {i : Bool} : Ev C (tC (.bl i)) Γ ℓ rBool i := fun σ W w Q q => q _ W i (Stp.refl W) w.b rfl rfl
theorem ev_non {α : Type} {R : Rl α} : Ev C (tC .non) Γ ℓ (rOpt R) none := fun σ W w Q q => q _ W none (Stp.refl W) w.b rfl rfl
/-! two operands -/
theorem evp_bin {r : R2} {P3 : γ → Prop} (ha : EvP C ta Γ .h R P) (hb : EvP C tb Γ .h S P')
    (hr : ∀ σ W x y a b (Q : VK), World C σ W Γ → R.is (Hm W) x a → S.is (Hm W) y b → P a → P' b → (∀ v W' z, Stp W W' → Bok C W' → T.is (wl C W' ℓ) v z → P3 z → Q v W'.H) → r x y W.H Q) : EvP C (tOp r ta tb) Γ ℓ T P3 := fun σ W w Q q =>
  ha σ W w _ fun x W1 a s1 b1 r1 p1 => hb σ W1 (w.stp b1 s1) _ fun y W2 b s2 b2 r2 p2 =>
    hr σ W2 x y a b Q ((w.stp b1 s1).stp b2 s2) (R.mono (s2.lv b1 .h) r1) r2 p1 p2 fun v W' z s3 b3 r3 p3 =>
      q v W' z ((s1.trans w.b b1 s2).trans w.b b2 s3) b3 r3 p3
theorem evp_I {g : Int → Int → V} {cd : Int → Int → Prop} {P P' : Int → Prop} {T : Rl γ} {f : Int → Int → γ} {P3 : γ → Prop} (ha : EvP C ta Γ .h rInt P) (hb : EvP C tb Γ .h rInt P') (hc : ∀ i j, P i → P' j → cd i j) (hg : ∀ H i j, T.is H (g i j) (f i j)) (hp : ∀ i j, P i → P' j → P3 (f i j)) :
    EvP C (tOp (rI cd g) ta tb) Γ ℓ T P3 := evp_bin ha hb fun σ W x y a b Q w r1 r2 p1 p2 q => ⟨a, b, r1, r2, hc a b p1 p2, q _ W _ (Stp.refl W) w.b (hg _ a b) (hp a b p1 p2)⟩
theorem evp_I0 {g : Int → Int → V} {P P' : Int → Prop} {T : Rl γ} {f : Int → Int → γ} {P3 : γ → Prop} (ha : EvP C ta Γ .h rInt P) (hb : EvP C tb Γ .h rInt P') (hg : ∀ H i j, T.is H (g i j) (f i j)) (hp : ∀ i j, P i → P' j → P3 (f i j)) :
    EvP C (tOp (rI0 g) ta tb) Γ ℓ T P3 := evp_bin ha hb fun σ W x y a b Q w r1 r2 p1 p2 q => ⟨a, b, r1, r2, q _ W _ (Stp.refl W) w.b (hg _ a b) (hp a b p1 p2)⟩
section
variable {i j : Int} {Pi Pj : Int → Prop}
theorem ev_add (ha : Ev C ta Γ .h rInt i) (hb : Ev C tb Γ .h rInt j) : Ev C (tOp (rI0 fun i j => .int (i + j)) ta tb) Γ ℓ rInt (i + j) := evp_I0 (f := fun i j => i + j) ha hb (fun _ _ _ => rfl) fun _ _ p q => by rw [p, q]
theorem ev_sub (ha : Ev C ta Γ .h rInt i) (hb : Ev C tb Γ .h rInt j) : Ev C (tOp (rI0 fun i j => .int (i - j)) ta tb) Γ ℓ rInt (i - j) := evp_I0 (f := fun i j => i - j) ha hb (fun _ _ _ => rfl) fun _ _ p q => by rw [p, q]
theorem ev_mul (ha : Ev C ta Γ .h rInt i) (hb : Ev C tb Γ .h rInt j) (hc : CMul i j) : Ev C (tOp (rI CMul fun i j => .int (i * j)) ta tb) Γ ℓ rInt (i * j) := evp_I (f := fun i j => i * j) ha hb (fun _ _ p q => by rw [p, q]; exact hc) (fun _ _ _ => rfl) fun _ _ p q => by rw [p, q]
theorem ev_mod (ha : Ev C ta Γ .h rInt i) (hb : Ev C tb Γ .h rInt j) (hc : 0 < j) : Ev C (tOp (rI (fun _ j => 0 < j) fun i j => .int (i % j)) ta tb) Γ ℓ rInt (i % j) := evp_I (f := fun i j => i % j) ha hb (fun _ _ p q => by rw [q]; exact hc) (fun _ _ _ => rfl) fun _ _ p q => by rw [p, q]
theorem ev_pow (ha : Ev C ta Γ .h rInt i) (hb : Ev C tb Γ .h rInt j) (hc : CPow i j) : Ev C (tOp (rI CPow fun i j => .int (i ^ j.toNat)) ta tb) Γ ℓ rInt (i ^ j.toNat) := evp_I (f := fun i j => i ^ j.toNat) ha hb (fun _ _ p q => by rw [p, q]; exact hc) (fun _ _ _ => rfl) fun _ _ p q => by rw [p, q]
theorem evp_add (ha : EvP C ta Γ .h rInt Pi) (hb : EvP C tb Γ .h rInt Pj) : EvP C (tOp (rI0 fun i j => .int (i + j)) ta tb) Γ ℓ rInt (fun z => ∃ x y, Pi x ∧ Pj y ∧ z = x + y) := evp_I0 (f := fun i j => i + j) ha hb (fun _ _ _ => rfl) fun x y p q => ⟨x, y, p, q, rfl⟩
theorem evp_sub (ha : EvP C ta Γ .h rInt Pi) (hb : EvP C tb Γ .h rInt Pj) : EvP C (tOp (rI0 fun i j => .int (i - j)) ta tb) Γ ℓ rInt (fun z => ∃ x y, Pi x ∧ Pj y ∧ z = x - y) := evp_I0 (f := fun i j => i - j) ha hb (fun _ _ _ => rfl) fun x y p q => ⟨x, y, p, q, rfl⟩
theorem evp_mul (ha : EvP C ta Γ .h rInt Pi) (hb : EvP C tb Γ .h rInt Pj) (hc : ∀ x y, Pi x → Pj y → CMul x y) : EvP C (tOp (rI CMul fun i j => .int (i * j)) ta tb) Γ ℓ rInt (fun z => ∃ x y, Pi x ∧ Pj y ∧ z = x * y) := evp_I (f := fun i j => i * j) ha hb hc (fun _ _ _ => rfl) fun x y p q => ⟨x, y, p, q, rfl⟩
theorem evp_fdiv (ha : EvP C ta Γ .h rInt Pi) (hb : EvP C tb Γ .h rInt Pj) (hc : ∀ x y, Pi x → Pj y → CDiv x y) : EvP C (tOp (rI CDiv fun i j => .int (i / j)) ta tb) Γ ℓ rInt (fun z => ∃ x y, Pi x ∧ Pj y ∧ z = x / y) := evp_I (f := fun i j => i / j) ha hb hc (fun _ _ _ => rfl) fun x y p q => ⟨x, y, p, q, rfl⟩
/-! comparisons of ints, as values -/
theorem ev_lt (ha : Ev C ta Γ .h rInt i) (hb : Ev C tb Γ .h rInt j) : Ev C (tOp (rI0 fun i j => .bl (decide (i < j))) ta tb) Γ ℓ rBool (decide (i < j)) := evp_I0 (f := fun i j => decide (i < j)) ha hb (fun _ _ _ => rfl) fun _ _ p q => by rw [p, q]
theorem ev_le (ha : Ev C ta Γ .h rInt i) (hb : Ev C tb Γ .h rInt j) : Ev C (tOp (rI0 fun i j => .bl (decide (i ≤ j))) ta tb) Γ ℓ rBool (decide (i ≤ j)) := evp_I0 (f := fun i j => decide (i ≤ j)) ha hb (fun _ _ _ => rfl) fun _ _ p q => by rw [p, q]
theorem ev_gt (ha : Ev C ta Γ .h rInt i) (hb : Ev C tb Γ .h rInt j) : Ev C (tOp (rI0 fun i j => .bl (decide (j < i))) ta tb) Γ ℓ rBool (decide (j < i)) := evp_I0 (f := fun i j => decide (j < i)) ha hb (fun _ _ _ => rfl) fun _ _ p q => by rw [p, q]
theorem ev_ge (ha : Ev C ta Γ .h rInt i) (hb : Ev C tb Γ .h rInt j) : Ev C (tOp (rI0 fun i j => .bl (decide (j ≤ i))) ta tb) Γ ℓ rBool (decide (j ≤ i)) := evp_I0 (f := fun i j => decide (j ≤ i)) ha hb (fun _ _ _ => rfl) fun _ _ p q => by rw [p, q]
theorem evp_eqI (ha : EvP C ta Γ .h rInt Pi) (hb : EvP C tb Γ .h rInt Pj) : EvP C (tOp rEq ta tb) Γ ℓ rBool (fun z => ∃ x y, Pi x ∧ Pj y ∧ z = decide (x = y)) := evp_bin ha hb fun σ W x y a b Q w r1 r2 p1 p2 q => by
  cases (show x = .int a from r1)
  cases (show y = .int b from r2)
  refine ⟨rfl, q _ W (decide (a = b)) (Stp.refl W) w.b ?_ ⟨a, b, p1, p2, rfl⟩⟩
  show V.bl _ = V.bl _
  congr 1
  exact decide_eq_decide.mpr ⟨fun h => V.int.inj h, fun h => by rw [h]⟩
theorem evp_neI (ha : EvP C ta Γ .h rInt Pi) (hb : EvP C tb Γ .h rInt Pj) : EvP C (tOp rNe ta tb) Γ ℓ rBool (fun z => ∃ x y, Pi x ∧ Pj y ∧ z = !decide (x = y)) := evp_bin ha hb fun σ W x y a b Q w r1 r2 p1 p2 q => by
  cases (show x = .int a from r1)
  cases (show y = .int b from r2)
  refine ⟨rfl, q _ W (!decide (a = b)) (Stp.refl W) w.b ?_ ⟨a, b, p1, p2, rfl⟩⟩
  show V.bl _ = V.bl _
  congr 2
  exact decide_eq_decide.mpr ⟨fun h => V.int.inj h, fun h => by rw [h]⟩
theorem ev_eqI (ha : Ev C ta Γ .h rInt i) (hb : Ev C tb Γ .h rInt j) : Ev C (tOp rEq ta tb) Γ ℓ rBool (decide (i = j)) := (evp_eqI ha hb).imp fun _ ⟨_, _, p, q, e⟩ => by rw [e, p, q]
theorem ev_neI (ha : Ev C ta Γ .h rInt i) (hb : Ev C tb Γ .h rInt j) : Ev C (tOp rNe ta tb) Γ ℓ rBool (!decide (i = j)) := (evp_neI ha hb).imp fun _ ⟨_, _, p, q, e⟩ => by rw [e, p, q]
theorem ev_neg (ha : Ev C ta Γ .h rInt i) : Ev C (tUn (rU fun i => .int (-i)) ta) Γ ℓ rInt (-i) := fun σ W w Q q => ha σ W w _ fun x W1 a s b r p => ⟨a, r, q _ W1 _ s b rfl (by rw [p])⟩
end
/-! None -/
theorem ev_isN {o : Option α} (ha : Ev C ta Γ ℓ (rOpt R) o) : Ev C (tOp (fun x y H Q => y = .non ∧ Q (.bl (decide (x = .non))) H) ta (tC .non)) Γ ℓ' rBool o.isNone := fun σ W w Q q => ha σ W w _ fun x W1 a s b r p => ⟨rfl, q _ W1 _ s b (by
  subst p
  show V.bl _ = V.bl _
  congr 1
  cases a with
  | none => cases (show x = .non from r); rfl
  | some a => exact decide_eq_false r.2) rfl⟩
theorem ev_notN {o : Option α} (ha : Ev C ta Γ ℓ (rOpt R) o) : Ev C (tOp (fun x y H Q => y = .non ∧ Q (.bl (!decide (x = .non))) H) ta (tC .non)) Γ ℓ' rBool o.isSome := fun σ W w Q q => ha σ W w _ fun x W1 a s b r p => ⟨rfl, q _ W1 _ s b (by
  subst p
  show V.bl _ = V.bl _
  congr 1
  cases a with
  | none => cases (show x = .non from r); rfl
  | some a => rw [decide_eq_false r.2]; rfl) rfl⟩
/-! tests -/
theorem eb_tst {P : Bool → Prop} (h : EvP C te Γ .h rBool P) : EvB C (tTest te) Γ P := fun σ W w Q q => h σ W w _ fun x W1 a s b r p => ⟨a, r, q a W1 s b p⟩
theorem eb_val {P : Bool → Prop} (h : EvP C te Γ .h rBool P) : EvB C (tB te) Γ P := fun σ W w Q q => h σ W w _ fun x W1 a s b r p => ⟨a, r, q a W1 s b p⟩
theorem ec_tst {p : Prop} [Decidable p] (h : Ev C te Γ .h rBool (decide p)) : EvC C (tTest te) Γ p := (eb_tst h).imp fun b e => by rw [e]; exact decide_eq_true_iff
theorem ec_tstN {p : Prop} [Decidable p] (h : Ev C te Γ .h rBool (!decide p)) : EvC C (tTest te) Γ (¬ p) := (eb_tst h).imp fun b e => by rw [e]; simp
theorem ec_valB {c : Bool} (h : Ev C te Γ .h rBool c) : EvC C (tB te) Γ (c = true) := (eb_val h).imp fun b e => by rw [e]
theorem ec_and {t u : TT} {p q : Prop} (h1 : EvC C t Γ p) (h2 : p → EvC C u Γ q) : EvC C (tAnd t u) Γ (p ∧ q) := fun σ W w Q k => h1 σ W w _ fun b W1 s1 b1 e1 => by
  cases b with
  | true =>
    have hp : p := e1.mp rfl
    show u σ W1.H Q
    exact h2 hp σ W1 (w.stp b1 s1) Q fun c W2 s2 b2 e2 => k c W2 (s1.trans w.b b1 s2) b2 ⟨(fun h => ⟨hp, e2.mp h⟩), fun h => e2.mpr h.2⟩
  | false =>
    show Q false W1.H
    exact k false W1 s1 b1 ⟨(fun h => by cases h), fun h => e1.mpr h.1⟩
theorem ec_or {t u : TT} {p q : Prop} (h1 : EvC C t Γ p) (h2 : ¬ p → EvC C u Γ q) : EvC C (tOr t u) Γ (p ∨ q) := fun σ W w Q k => h1 σ W w _ fun b W1 s1 b1 e1 => by
  cases b with
  | true =>
    show Q true W1.H
    exact k true W1 s1 b1 ⟨fun _ => .inl (e1.mp rfl), fun _ => rfl⟩
  | false =>
    have hp : ¬ p := fun h => by have := e1.mpr h; cases this
    show u σ W1.H Q
    exact h2 hp σ W1 (w.stp b1 s1) Q fun c W2 s2 b2 e2 => k c W2 (s1.trans w.b b1 s2) b2 ⟨fun h => .inr (e2.mp h), fun h => e2.mpr (h.resolve_left hp)⟩
theorem ec_not {t : TT} {p : Prop} (h1 : EvC C t Γ p) : EvC C (tNot t) Γ (¬ p) := fun σ W w Q k => h1 σ W w _ fun b W1 s1 b1 e1 => k _ W1 s1 b1 (by
  cases b with
  | true => exact ⟨(fun h => by cases h), fun h => absurd (e1.mp rfl) h⟩
  | false => exact ⟨(fun _ h => by have := e1.mpr h; cases this), fun _ => rfl⟩)
theorem eb_and {t u : TT} {P P2 : Bool → Prop} (h1 : EvB C t Γ P) (h2 : P true → EvB C u Γ P2) : EvB C (tAnd t u) Γ (fun b => (P false ∧ b = false) ∨ (P true ∧ P2 b)) := fun σ W w Q k => h1 σ W w _ fun b W1 s1 b1 e1 => by
  cases b with
  | false => exact k false W1 s1 b1 (.inl ⟨e1, rfl⟩)
  | true => exact h2 e1 σ W1 (w.stp b1 s1) Q fun c W2 s2 b2 e2 => k c W2 (s1.trans w.b b1 s2) b2 (.inr ⟨e1, e2⟩)
/-! and, or, not as values; the conditional expression -/
theorem ev_andV {a b : Bool} (h1 : Ev C ta Γ .h rBool a) (h2 : a = true → Ev C tb Γ .h rBool b) : Ev C (tAndV ta tb) Γ c rBool (a && b) := fun σ W w Q q => h1 σ W w _ fun x W1 a' s1 b1 r p => ⟨a', r, by
  subst p
  cases a' with
  | true => exact h2 rfl σ W1 (w.stp b1 s1) Q fun y W2 z s2 b2 r2 p2 => q y W2 z (s1.trans w.b b1 s2) b2 r2 (by rw [p2]; rfl)
  | false => exact q _ W1 false s1 b1 rfl rfl⟩
/-! arguments, displays -/
theorem World.adne {σ : Sg} {W : Wd} (w : World C σ W Γ) {p : Addr} (h : W.H p = none) (j : Nat) (q : Addr) (e : adAt Γ j q) : p ≠ q := fun z => by
  subst z
  exact (w.adH e).1 h
/-- a new list from a heap where it is laid -/
theorem fresh_go {σ : Sg} {W : Wd} {Q : VK} {xs : List V} {l : List α} {P : List α → Prop} (w : World C σ W Γ) {W1 : Wd} (s1 : Stp W W1) (b1 : Bok C W1)
    (q : ∀ p W' xs l, Stp W W' → Bok C W' → W.H p = none → W'.H p = some (.lst xs) → W'.G p = none → All2 (R.is (wl C W' ℓ)) xs l → P l → Q (.ref p) W'.H)
    (r : All2 (R.is (wl C W1 ℓ)) xs l) (hp : P l) : ∀ p, W1.H p = none → Q (.ref p) (upd W1.H p (.lst xs)) := fun p n => by
  have n0 := w.b.back b1 s1 n
  have sl := Stp.lay b1 (o := .lst xs) n
  exact q p (W1.lay p (.lst xs)) xs l (s1.trans w.b b1 sl) (b1.lay (b1.h0 n) (b1.nvs n) (b1.g0 n)) n0 upd_same (b1.g0 n) (r.imp fun _ _ => R.mono (sl.lv b1 ℓ)) hp
/-- what stands newly is put among what never changes -/
theorem frz_stp {W W' : Wd} {p : Addr} {o : HO} (s : Stp W W') (n : W.H p = none) (hG : W'.G p = none) : Stp W (W'.frz p o) :=
  ⟨s.vs, s.g.trans fun a u e => by
    show upd W'.G p _ a = _
    rw [upd_ne (ne_of_none e hG)]; exact e, s.h, fun a u e => by
    by_cases y : a = p
    · subst y
      exact .inr n
    · have e' : upd W'.G p o a = some u := e
      rw [upd_ne y] at e'
      exact s.new a u e'⟩
theorem frz_lv {W : Wd} {p : Addr} {o : HO} (b : Bok C W) (hG : W.G p = none) : ∀ ℓ : Lv, Same (wl C W ℓ) (wl C (W.frz p o) ℓ)
  | .g => fun a u e => by
    show upd W.G p _ a = _
    rw [upd_ne (ne_of_none e hG)]; exact e
  | .m => fun a u h => by
    rcases jn_some h with h | ⟨n, h⟩
    · exact jn_l _ _ h
    · show jn _ _ a = some u
      rw [jn_r n]
      show upd W.G p _ a = _
      rw [upd_ne (ne_of_none h hG)]; exact h
  | .h => Same.refl _
theorem frz_at {W : Wd} {p : Addr} {o : HO} (b : Bok C W) (h0 : C.H0 p = none) (hv : p ∉ W.vs) (hH : W.H p = some o) : ∀ ℓ : Lv, wl C (W.frz p o) ℓ p = some o
  | .g => upd_same
  | .m => by
    show jn _ _ p = some o
    rw [jn_r ?_]
    · exact upd_same
    · by_cases z : p ∈ C.vs0
      · exact hid_in z
      · rw [hid_out z]; exact h0
  | .h => (hid_out hv).trans hH
theorem ev_new {P : List α → Prop} (h : EvN C te Γ ℓ R P) : EvP C te Γ ℓ (rList R) P := fun σ W w Q q => h σ W w Q fun p W' xs l s b n hH hG r z => by
  have h0 := w.b.h0 n
  have hv : p ∉ W'.vs := by rw [s.vs]; exact w.b.nvs n
  have bf := b.frz (o := .lst xs) h0 hv hH hG
  exact q _ (W'.frz p (.lst xs)) l (frz_stp s n hG) bf ⟨p, xs, rfl, frz_at b h0 hv hH ℓ, r.imp fun _ _ => R.mono (frz_lv b hG ℓ)⟩ z
/-- a new tuple -/
theorem tup_go {σ : Sg} {W W1 : Wd} {Q : VK} {xs : List V} (w : World C σ W Γ) (s1 : Stp W W1) (b1 : Bok C W1)
    (q : ∀ p W', Stp W W' → Bok C W' → (∀ ℓ, Same (wl C W1 ℓ) (wl C W' ℓ)) → (∀ ℓ, wl C W' ℓ p = some (.tup xs)) → Q (.ref p) W'.H) : ∀ p, W1.H p = none → Q (.ref p) (upd W1.H p (.tup xs)) := fun p n => by
  have n0 := w.b.back b1 s1 n
  have bl := b1.put (o := .tup xs) (b1.h0 n) (b1.nvs n) (b1.g0 n)
  have sl := Stp.put b1 (o := .tup xs) n
  refine q p (W1.put p (.tup xs)) (s1.trans w.b b1 sl) bl (sl.lv b1) fun ℓ => ?_
  cases ℓ with
  | g => exact upd_same
  | m =>
    show jn _ _ p = _
    rw [jn_r ?_]
    · exact upd_same
    · by_cases z : p ∈ C.vs0
      · exact hid_in z
      · rw [hid_out z]; exact b1.h0 n
  | h => exact (hid_out (b1.nvs n)).trans upd_same
/-- argument lists of one kind of item -/
def Lis (C : Cn) (W : Wd) (ℓ : Lv) (R : Rl α) (vs : List V) (l : List α) : Prop := All2 (R.is (wl C W ℓ)) vs l
def EvM (C : Cn) (ta : TA) (Γ : List Ent) (ℓ : Lv) (R : Rl α) (P : List α → Prop) : Prop :=
  ∀ σ W, World C σ W Γ → ∀ Q : List V → Hp → Prop, (∀ vs W' l, Stp W W' → Bok C W' → All2 (R.is (wl C W' ℓ)) vs l → P l → Q vs W'.H) → ta σ W.H Q
theorem em_nil : EvM C tNil Γ ℓ R (fun l => l = []) := fun σ W w Q q => q [] W [] (Stp.refl W) w.b trivial rfl
theorem em_cons {tr : TA} {a : α} {l : List α} (h : Ev C te Γ ℓ R a) (hr : EvM C tr Γ ℓ R (fun x => x = l)) : EvM C (tCons te tr) Γ ℓ R (fun x => x = a :: l) := fun σ W w Q q =>
  h σ W w _ fun v W1 a' s1 b1 r p => hr σ W1 (w.stp b1 s1) _ fun vs W2 l' s2 b2 r2 p2 => q _ W2 (a' :: l') (s1.trans w.b b1 s2) b2 ⟨R.mono (s2.lv b1 ℓ) r, r2⟩ (by rw [p, p2])
theorem emp_cons {tr : TA} {Pr : List α → Prop} (h : EvP C te Γ ℓ R P) (hr : EvM C tr Γ ℓ R Pr) : EvM C (tCons te tr) Γ ℓ R (fun x => ∃ a l, x = a :: l ∧ P a ∧ Pr l) := fun σ W w Q q =>
  h σ W w _ fun v W1 a' s1 b1 r p => hr σ W1 (w.stp b1 s1) _ fun vs W2 l' s2 b2 r2 p2 => q _ W2 (a' :: l') (s1.trans w.b b1 s2) b2 ⟨R.mono (s2.lv b1 ℓ) r, r2⟩ ⟨a', l', rfl, p, p2⟩
theorem sizeLine_big : 1000000 ≤ sizeLine := by decide
theorem en_lst {ta : TA} {Pl : List α → Prop} (h : EvM C ta Γ ℓ R Pl) (hz : ∀ l, Pl l → l.length ≤ 1000000) : EvN C (tLst ta) Γ ℓ R Pl := fun σ W w Q q =>
  h σ W w _ fun vs W1 l s1 b1 r p => ⟨by rw [r.len]; exact Nat.le_trans (hz l p) sizeLine_big, fresh_go w s1 b1 q r p⟩
theorem ev_tup {ta : TA} {Pl : List α → Prop} (h : EvM C ta Γ ℓ R Pl) (hz : ∀ l, Pl l → l.length ≤ 1000000) : EvP C (tTup ta) Γ ℓ (rTup R) Pl := fun σ W w Q q =>
  h σ W w _ fun vs W1 l s1 b1 r p => ⟨by rw [r.len]; exact Nat.le_trans (hz l p) sizeLine_big, tup_go w s1 b1 fun a W' s b sm at_ => q _ W' l s b ⟨a, vs, rfl, .inl (at_ ℓ), r.imp fun _ _ => R.mono (sm ℓ)⟩ p⟩
theorem ev_pair (h : EvP C ta Γ ℓ R P) (h2 : EvP C tb Γ ℓ S P') : EvP C (tTup (tCons ta (tCons tb tNil))) Γ ℓ (rPair R S) (fun x => P x.1 ∧ P' x.2) := fun σ W w Q q =>
  h σ W w _ fun v W1 a s1 b1 r1 p1 => h2 σ W1 (w.stp b1 s1) _ fun u W2 b s2 b2 r2 p2 => ⟨by show 2 ≤ sizeLine; decide,
    tup_go w (s1.trans w.b b1 s2) b2 fun d W' s b' sm at_ => q _ W' (a, b) s b' ⟨d, v, u, rfl, at_ ℓ, R.mono (sm ℓ) (R.mono (s2.lv b1 ℓ) r1), S.mono (sm ℓ) r2⟩ ⟨p1, p2⟩⟩
theorem ev_trip (h : EvP C ta Γ ℓ R P) (h2 : EvP C tb Γ ℓ S P') (h3 : EvP C tc Γ ℓ T P3) : EvP C (tTup (tCons ta (tCons tb (tCons tc tNil)))) Γ ℓ (rTrip R S T) (fun x => P x.1 ∧ P' x.2.1 ∧ P3 x.2.2) := fun σ W w Q q =>
  h σ W w _ fun v W1 a s1 b1 r1 p1 => h2 σ W1 (w.stp b1 s1) _ fun u W2 b s2 b2 r2 p2 => h3 σ W2 ((w.stp b1 s1).stp b2 s2) _ fun z W3 c s3 b3 r3 p3 => ⟨by show 3 ≤ sizeLine; decide,
    tup_go w ((s1.trans w.b b1 s2).trans w.b b2 s3) b3 fun d W' s b' sm at_ => q _ W' (a, b, c) s b' ⟨d, v, u, z, rfl, .inl (at_ ℓ), R.mono (sm ℓ) (R.mono (s3.lv b2 ℓ) (R.mono (s2.lv b1 ℓ) r1)), S.mono (sm ℓ) (S.mono (s3.lv b2 ℓ) r2), T.mono (sm ℓ) r3⟩ ⟨p1, p2, p3⟩⟩
end
end GL


set_option Elab.async false
set_option linter.all false
set_option maxRecDepth 100000
set_option maxHeartbeats 1000000
namespace GL
open PySem L2
/-! ### places -/
def gt {α : Type} [Inhabited α] (l : List α) (i : Int) : α := l.getD i.toNat default
def gtB {α : Type} [Inhabited α] (l : List α) (k : Nat) : α := l.getD (l.length - k) default
theorem gt_get {α : Type} [Inhabited α] {l : List α} {i : Int} (h : 0 ≤ i ∧ i < l.length) : l[i.toNat]? = some (gt l i) := by
  unfold gt
  rw [List.getD_eq_getElem?_getD]
  have : i.toNat < l.length := by omega
  rw [List.getElem?_eq_getElem this]
  rfl
theorem gtB_get {α : Type} [Inhabited α] {l : List α} {k : Nat} (h : 0 < k ∧ k ≤ l.length) : l[l.length - k]? = some (gtB l k) := by
  unfold gtB
  rw [List.getD_eq_getElem?_getD]
  have : l.length - k < l.length := by omega
  rw [List.getElem?_eq_getElem this]
  rfl
theorem atI_of {xs : List V} {i : Int} {v : V} (h0 : 0 ≤ i) (h : xs[i.toNat]? = some v) : atI xs i = some v := by
  have := atI_nat (j := i.toNat) h
  rwa [Int.toNat_of_nonneg h0] at this
theorem atI_back {xs : List V} {k : Nat} {v : V} (h : 0 < k ∧ k ≤ xs.length) (g : xs[xs.length - k]? = some v) : atI xs (-(k : Int)) = some v := by
  unfold atI ixN
  rw [if_neg (by omega), if_pos (by omega)]
  show xs[(-(k : Int) + (xs.length : Int)).toNat]? = some v
  rw [show (-(k : Int) + (xs.length : Int)).toNat = xs.length - k by omega]
  exact g
def sl {α : Type} (l : List α) (lo hi : Option Int) : List α := (l.drop (HT.sIx l.length 0 lo)).take (HT.sIx l.length l.length hi - HT.sIx l.length 0 lo)
section
variable {C : Cn} {Γ : List Ent} {α β γ δ : Type} {R : Rl α} {S : Rl β} {T : Rl γ} {P : α → Prop} {Pl : List α → Prop} {P' : β → Prop} {ta tb tc te : TE} {ℓ ℓ' c c' : Lv} {K : PySem.W.Frag}
theorem sqL_of {W : Wd} {p : Addr} {xs : List V} (b : Bok C W) {c : Lv} (h : seqAt .l (wl C W c) p xs) : SqL K W.H p xs := .inl (.inl (hid_some (b.up c _ _ h)).2)
theorem sqT_of {W : Wd} {p : Addr} {xs : List V} (b : Bok C W) {c : Lv} (h : seqAt .t (wl C W c) p xs) : SqT K W.H p xs := .inl (rd_mono (fun _ _ h => (hid_some (b.up c _ _ h)).2) h)
theorem sqE_of {W : Wd} {p : Addr} {xs : List V} (b : Bok C W) {c : Lv} (h : seqAt .e (wl C W c) p xs) : SqL K W.H p xs ∨ SqT K W.H p xs := h.imp (fun h => .inl (.inl (hid_some (b.up c _ _ h)).2)) fun h => .inl (rd_mono (fun _ _ h => (hid_some (b.up c _ _ h)).2) h)
theorem sqA_of {W : Wd} {k : Kd} {p : Addr} {xs : List V} (b : Bok C W) {c : Lv} (h : seqAt k (wl C W c) p xs) : SqL K W.H p xs ∨ SqT K W.H p xs := by
  cases k with
  | l => exact .inl (sqL_of b h)
  | t => exact .inr (sqT_of b h)
  | e => exact sqE_of b h
/-- the reading of a subscript by kind -/
def rIxK (K : PySem.W.Frag) : Kd → R2
  | .l => rIxL K
  | .t => rIxT K
  | .e => rIx K
theorem rIxK_go {k : Kd} {W : Wd} {p : Addr} {xs : List V} {i : Int} {v : V} {Q : VK} (b : Bok C W) {c : Lv} (h : seqAt k (wl C W c) p xs) (ha : atI xs i = some v) (q : Q v W.H) : rIxK K k (.ref p) (.int i) W.H Q := by
  cases k with
  | l => exact ⟨p, xs, i, v, rfl, rfl, sqL_of b h, ha, q⟩
  | t => exact ⟨p, xs, i, v, rfl, rfl, sqT_of b h, ha, q⟩
  | e =>
    rcases sqE_of b h with h | h
    · exact .inl ⟨p, xs, i, v, rfl, rfl, h, ha, q⟩
    · exact .inr (.inl ⟨p, xs, i, v, rfl, rfl, h, ha, q⟩)
theorem evp_ix {k : Kd} [Inhabited α] {Pi : Int → Prop} {P3 : α → Prop} (ha : EvS C ta Γ k c ℓ R Pl) (hb : EvP C tb Γ .h rInt Pi) (hc : ∀ l i, Pl l → Pi i → (0 ≤ i ∧ i < l.length) ∧ P3 (gt l i)) : EvP C (tOp (rIxK K k) ta tb) Γ ℓ R P3 := fun σ W w Q q =>
  ha σ W w _ fun p W1 xs l s1 b1 e1 r1 p1 => hb σ W1 (w.stp b1 s1) _ fun y W2 i s2 b2 r2 p2 => by
    cases (show y = .int i from r2)
    obtain ⟨h, h3⟩ := hc l i p1 p2
    obtain ⟨v, hv, rv⟩ := All2.get r1 (gt_get h)
    exact rIxK_go b2 (e1.mono (s2.lv b1 c)) (atI_of h.1 hv) (q v W2 _ (s1.trans w.b b1 s2) b2 (R.mono (s2.lv b1 ℓ) rv) h3)
theorem ev_ix {k : Kd} [Inhabited α] {l : List α} {i : Int} (ha : EvS C ta Γ k c ℓ R (fun x => x = l)) (hb : Ev C tb Γ .h rInt i) (hc : 0 ≤ i ∧ i < l.length) : Ev C (tOp (rIxK K k) ta tb) Γ ℓ R (gt l i) := evp_ix ha hb fun l' i' e1 e2 => by rw [e1, e2]; exact ⟨hc, rfl⟩
/-- from behind, a written place -/
theorem ev_ixB {k : Kd} [Inhabited α] {l : List α} {n : Nat} (ha : EvS C ta Γ k c ℓ R (fun x => x = l)) (hc : 0 < n ∧ n ≤ l.length) : Ev C (tOp (rIxK K k) ta (tUn (rU fun i => .int (-i)) (tC (.int (n : Int))))) Γ ℓ R (gtB l n) := fun σ W w Q q =>
  ha σ W w _ fun p W1 xs l' s1 b1 e1 r1 p1 => ⟨(n : Int), rfl, by
    subst p1
    have hl := r1.len
    obtain ⟨v, hv, rv⟩ := All2.get r1 (gtB_get hc)
    rw [← hl] at hv
    exact rIxK_go b1 e1 (atI_back (by rw [hl]; exact hc) hv) (q v W1 _ s1 b1 rv rfl)⟩
/-! len, list, tuple -/
abbrev rLenS (K : PySem.W.Frag) : List V → Hp → VK → Prop := fun xs H Q => ∃ p ys, xs = [.ref p] ∧ (SqL K H p ys ∨ SqT K H p ys) ∧ Q (.int ys.length) H
theorem evp_len {k : Kd} (ha : EvS C ta Γ k c ℓ R Pl) : EvP C (tCB (rLenS K) (tCons ta tNil)) Γ ℓ' rInt (fun z => ∃ l, Pl l ∧ z = l.length) := fun σ W w Q q =>
  ha σ W w _ fun p W1 xs l s b e r pl => ⟨p, xs, rfl, sqA_of b e, q _ W1 _ s b (by rw [r.len]; rfl) ⟨l, pl, rfl⟩⟩
theorem ev_len {k : Kd} {l : List α} (ha : EvS C ta Γ k c ℓ R (fun x => x = l)) : Ev C (tCB (rLenS K) (tCons ta tNil)) Γ ℓ' rInt (l.length : Int) := (evp_len ha).imp fun _ ⟨_, e, h⟩ => by rw [h, e]
abbrev rListOf (K : PySem.W.Frag) : List V → Hp → VK → Prop := fun xs H Q => ∃ p ys, xs = [.ref p] ∧ (SqL K H p ys ∨ SqT K H p ys) ∧ ∀ l, H l = none → Q (.ref l) (upd H l (.lst ys))
theorem en_list {k : Kd} (ha : EvS C ta Γ k c ℓ R Pl) : EvN C (tCB (rListOf K) (tCons ta tNil)) Γ ℓ R Pl := fun σ W w Q q =>
  ha σ W w _ fun p W1 xs l s b e r pl => ⟨p, xs, rfl, sqA_of b e, fresh_go w s b q r pl⟩
abbrev rTupOf (K : PySem.W.Frag) : List V → Hp → VK → Prop := fun xs H Q => ∃ p ys, xs = [.ref p] ∧ ((SqL K H p ys ∧ ∀ l, H l = none → Q (.ref l) (upd H l (.tup ys))) ∨ (SqT K H p ys ∧ Q (.ref p) H))
/-- tuple(x) of a list -/
theorem ev_tupL (ha : EvS C ta Γ .l c ℓ R Pl) : EvP C (tCB (rTupOf K) (tCons ta tNil)) Γ ℓ (rTup R) Pl := fun σ W w Q q =>
  ha σ W w _ fun p W1 xs l s b e r pl => ⟨p, xs, rfl, .inl ⟨sqL_of b e, tup_go w s b fun d W' s' b' sm at_ => q _ W' l s' b' ⟨d, xs, rfl, .inl (at_ ℓ), r.imp fun _ _ => R.mono (sm ℓ)⟩ pl⟩⟩
/-! slices -/
theorem All2.sl {p : V → α → Prop} {xs : List V} {l : List α} (h : All2 p xs l) (lo hi : Option Int) : All2 p (cutV xs lo hi) (sl l lo hi) := by
  unfold cutV GL.sl
  rw [h.len]
  exact (h.drop _).take _
def EvO (C : Cn) (to : TO) (Γ : List Ent) (P : Option Int → Prop) : Prop :=
  ∀ σ W, World C σ W Γ → ∀ Q : Option Int → Hp → Prop, (∀ o W', Stp W W' → Bok C W' → P o → Q o W'.H) → to σ W.H Q
theorem eo_no : EvO C tNoPart Γ (fun o => o = none) := fun σ W w Q q => q none W (Stp.refl W) w.b rfl
theorem eo_part {i : Int} (h : Ev C te Γ .h rInt i) : EvO C (tPart te) Γ (fun o => o = some i) := fun σ W w Q q => h σ W w _ fun x W1 a s b r p => ⟨a, r, q _ W1 s b (by rw [p])⟩
theorem en_slL {tl th : TO} {P1 P2 : Option Int → Prop} (ha : EvS C ta Γ .l c ℓ R Pl) (h1 : EvO C tl Γ P1) (h2 : EvO C th Γ P2) : EvN C (tSl (rSlL K) ta tl th) Γ ℓ R (fun z => ∃ l o1 o2, Pl l ∧ P1 o1 ∧ P2 o2 ∧ z = sl l o1 o2) := fun σ W w Q q =>
  ha σ W w _ fun p W1 xs l s1 b1 e1 r pl => h1 σ W1 (w.stp b1 s1) _ fun o1 W2 s2 b2 p1 => h2 σ W2 ((w.stp b1 s1).stp b2 s2) _ fun o2 W3 s3 b3 p2 =>
    ⟨p, xs, rfl, sqL_of b3 ((e1.mono (s2.lv b1 c)).mono (s3.lv b2 c)), fresh_go w ((s1.trans w.b b1 s2).trans w.b b2 s3) b3 q ((r.imp fun _ _ h => R.mono (s3.lv b2 ℓ) (R.mono (s2.lv b1 ℓ) h)).sl o1 o2) ⟨l, o1, o2, pl, p1, p2, rfl⟩⟩
/-- of either kind -/
def rSlE (K : PySem.W.Frag) : V → Option Int → Option Int → Hp → VK → Prop := fun x lo hi H Q => rSlL K x lo hi H Q ∨ rSlA K x lo hi H Q
/-! + and * of lists, + of tuples -/
theorem en_cat {Pm : List α → Prop} (ha : EvS C ta Γ .l c ℓ R Pl) (hb : EvS C tb Γ .l c' ℓ R Pm) (hz : ∀ l m, Pl l → Pm m → l.length + m.length ≤ 1000000) : EvN C (tOp rCat ta tb) Γ ℓ R (fun z => ∃ l m, Pl l ∧ Pm m ∧ z = l ++ m) := fun σ W w Q q =>
  ha σ W w _ fun p W1 xs l s1 b1 e1 r1 p1 => hb σ W1 (w.stp b1 s1) _ fun p' W2 ys m s2 b2 e2 r2 p2 =>
    ⟨p, p', xs, ys, rfl, rfl, (hid_some (b2.up c _ _ ((s2.lv b1 c) _ _ e1))).2, (hid_some (b2.up c' _ _ e2)).2, by rw [r1.len, r2.len]; exact Nat.le_trans (hz l m p1 p2) sizeLine_big,
      fresh_go w (s1.trans w.b b1 s2) b2 q ((r1.imp fun _ _ => R.mono (s2.lv b1 ℓ)).app r2) ⟨l, m, p1, p2, rfl⟩⟩
theorem All2.flat {p : V → α → Prop} {xs : List V} {l : List α} (h : All2 p xs l) : ∀ n : Nat, All2 p (List.replicate n xs).flatten (List.replicate n l).flatten
  | 0 => trivial
  | n + 1 => by
    rw [List.replicate_succ, List.replicate_succ, List.flatten_cons, List.flatten_cons]
    exact h.app (All2.flat h n)
theorem en_rep {Pi : Int → Prop} (ha : EvS C ta Γ .l c ℓ R Pl) (hb : EvP C tb Γ .h rInt Pi) (hz : ∀ l i, Pl l → Pi i → (-(2 ^ 63) ≤ i ∧ i < 2 ^ 63) ∧ l.length * i.toNat ≤ 1000000) : EvN C (tOp rRep ta tb) Γ ℓ R (fun z => ∃ l i, Pl l ∧ Pi i ∧ z = (List.replicate i.toNat l).flatten) := fun σ W w Q q =>
  ha σ W w _ fun p W1 xs l s1 b1 e1 r1 p1 => hb σ W1 (w.stp b1 s1) _ fun y W2 i s2 b2 r2 p2 => by
    obtain ⟨⟨z1, z2⟩, z3⟩ := hz l i p1 p2
    exact ⟨p, i, xs, rfl, r2, (hid_some (b2.up c _ _ ((s2.lv b1 c) _ _ e1))).2, z1, z2, by rw [r1.len]; exact Nat.le_trans z3 sizeLine_big,
      fresh_go w (s1.trans w.b b1 s2) b2 q ((r1.imp fun _ _ => R.mono (s2.lv b1 ℓ)).flat _) ⟨l, i, p1, p2, rfl⟩⟩
/-! sums, least, greatest of ints -/
theorem All2.ints {H : Hp} {xs : List V} {l : List Int} (h : All2 (rInt.is H) xs l) : xs = l.map V.int := h.map_eq fun _ _ e => e
theorem evp_max {Pl : List Int → Prop} (ha : EvS C ta Γ .l c .h rInt Pl) (hn : ∀ l, Pl l → l ≠ []) : EvP C (tCB (rMax K) (tCons ta tNil)) Γ ℓ rInt (fun z => ∃ l, Pl l ∧ z ∈ l ∧ ∀ y ∈ l, y ≤ z) := fun σ W w Q q =>
  ha σ W w _ fun p W1 xs l s b e r pl => ⟨p, l, rfl, by rw [← r.ints]; exact sqL_of b e, List.length_pos_iff.mpr (hn l pl), fun m hm hy => q _ W1 m s b rfl ⟨l, pl, hm, hy⟩⟩
theorem evp_max2 {Pi Pj : Int → Prop} (ha : EvP C ta Γ .h rInt Pi) (hb : EvP C tb Γ .h rInt Pj) : EvP C (tCB (fun xs H Q => ∃ i j, xs = [.int i, .int j] ∧ Q (.int (if j > i then j else i)) H) (tCons ta (tCons tb tNil))) Γ ℓ rInt (fun z => ∃ x y, Pi x ∧ Pj y ∧ z = max x y) := fun σ W w Q q =>
  ha σ W w _ fun v W1 a s1 b1 r1 p1 => hb σ W1 (w.stp b1 s1) _ fun u W2 b s2 b2 r2 p2 => ⟨a, b, by rw [show v = .int a from r1, show u = .int b from r2], q _ W2 _ (s1.trans w.b b1 s2) b2 rfl ⟨a, b, p1, p2, by split <;> omega⟩⟩
theorem evp_min2 {Pi Pj : Int → Prop} (ha : EvP C ta Γ .h rInt Pi) (hb : EvP C tb Γ .h rInt Pj) : EvP C (tCB (fun xs H Q => ∃ i j, xs = [.int i, .int j] ∧ Q (.int (if j < i then j else i)) H) (tCons ta (tCons tb tNil))) Γ ℓ rInt (fun z => ∃ x y, Pi x ∧ Pj y ∧ z = min x y) := fun σ W w Q q =>
  ha σ W w _ fun v W1 a s1 b1 r1 p1 => hb σ W1 (w.stp b1 s1) _ fun u W2 b s2 b2 r2 p2 => ⟨a, b, by rw [show v = .int a from r1, show u = .int b from r2], q _ W2 _ (s1.trans w.b b1 s2) b2 rfl ⟨a, b, p1, p2, by split <;> omega⟩⟩
theorem ev_max2 {i j : Int} (ha : Ev C ta Γ .h rInt i) (hb : Ev C tb Γ .h rInt j) : Ev C (tCB (fun xs H Q => ∃ i j, xs = [.int i, .int j] ∧ Q (.int (if j > i then j else i)) H) (tCons ta (tCons tb tNil))) Γ ℓ rInt (max i j) := (evp_max2 ha hb).imp fun _ ⟨_, _, p, q, e⟩ => by rw [e, p, q]
theorem ev_min2 {i j : Int} (ha : Ev C ta Γ .h rInt i) (hb : Ev C tb Γ .h rInt j) : Ev C (tCB (fun xs H Q => ∃ i j, xs = [.int i, .int j] ∧ Q (.int (if j < i then j else i)) H) (tCons ta (tCons tb tNil))) Γ ℓ rInt (min i j) := (evp_min2 ha hb).imp fun _ ⟨_, _, p, q, e⟩ => by rw [e, p, q]
/-- int(a bool) -/
theorem evp_intB {Pb : Bool → Prop} (ha : EvP C ta Γ .h rBool Pb) : EvP C (tCB (fun xs H Q => (∃ i, xs = [.int i] ∧ Q (.int i) H) ∨ ∃ k, xs = [.bl k] ∧ Q (.int (if k then 1 else 0)) H) (tCons ta tNil)) Γ ℓ rInt (fun z => ∃ b, Pb b ∧ z = if b = true then 1 else 0) := fun σ W w Q q =>
  ha σ W w _ fun v W1 a s1 b1 r1 p1 => .inr ⟨a, by rw [show v = .bl a from r1], q _ W1 _ s1 b1 rfl ⟨a, p1, rfl⟩⟩
/-! == and != of data -/
structure Eqr (K : PySem.W.Frag) {α : Type} (R : Rl α) where
  enc : α → PyData
  dp : ∀ H v a, R.is H v a → Dp K H v (enc a)
  can : ∀ a, (enc a).canLay0 = true
  n : Nat
  dep : ∀ a, (enc a).depth ≤ n
  eqv : ∀ a b, PyData.eqv (enc a) (enc b) = true ↔ a = b
def eqr_int : Eqr K rInt := ⟨PyData.int, fun _ v a h => by cases (show v = .int a from h); exact .int a, fun _ => by simp [PyData.canLay0], 0, fun _ => by simp [PyData.depth], fun a b => by simp [PyData.eqv]⟩
def eqr_bool : Eqr K rBool := ⟨PyData.bool, fun _ v a h => by cases (show v = .bl a from h); exact .bl a, fun _ => by simp [PyData.canLay0], 0, fun _ => by simp [PyData.depth], fun a b => by simp [PyData.eqv]⟩
/-- what is never None -/
def eqr_optI : Eqr K (rOpt rInt) := ⟨fun o => match o with | none => .none | some i => .int i, fun _ v o h => by
  cases o with
  | none => cases (show v = .non from h); exact .non
  | some i => cases (show v = .int i from h.1); exact .int i, fun o => by cases o <;> simp [PyData.canLay0], 0, fun o => by cases o <;> simp [PyData.depth], fun a b => by cases a <;> cases b <;> simp [PyData.eqv]⟩
theorem dpAll {R : Rl α} (E : Eqr K R) {H : Hp} : ∀ {xs : List V} {l : List α}, All2 (R.is H) xs l → DpAll K H xs (l.map E.enc)
  | [], [], _ => .nil
  | _ :: _, _ :: _, ⟨h, t⟩ => .cons (E.dp _ _ _ h) (dpAll E t)
theorem eqvAll_iff {R : Rl α} (E : Eqr K R) : ∀ l m : List α, PyData.eqvAll (l.map E.enc) (m.map E.enc) = true ↔ l = m
  | [], [] => by simp [PyData.eqvAll]
  | [], _ :: _ => by simp [PyData.eqvAll]
  | _ :: _, [] => by simp [PyData.eqvAll]
  | a :: l, b :: m => by
    rw [List.map_cons, List.map_cons, PyData.eqvAll, Bool.and_eq_true, E.eqv, eqvAll_iff E l m, List.cons.injEq]
theorem canAll {R : Rl α} (E : Eqr K R) : ∀ l : List α, PyData.canLayAll0 (l.map E.enc) = true
  | [] => by simp [PyData.canLayAll0]
  | a :: l => by simp [PyData.canLayAll0, E.can a, canAll E l]
theorem depAll {R : Rl α} (E : Eqr K R) : ∀ l : List α, PyData.depthAll (l.map E.enc) ≤ E.n
  | [] => by simp [PyData.depthAll]
  | a :: l => by
    rw [List.map_cons, PyData.depthAll]
    exact Nat.max_le.mpr ⟨E.dep a, depAll E l⟩
def eqr_list {R : Rl α} (E : Eqr K R) : Eqr K (rList R) := ⟨fun l => .list (l.map E.enc), fun H v l ⟨p, xs, e, h, t⟩ => by subst e; exact .lst (.inl (.inl h)) (dpAll E t), fun l => by rw [PyData.canLay0]; exact canAll E l, E.n + 1,
  fun l => by rw [PyData.depth]; exact Nat.succ_le_succ (depAll E l), fun l m => by rw [PyData.eqv]; exact eqvAll_iff E l m⟩
def eqr_tup {R : Rl α} (E : Eqr K R) : Eqr K (rTup R) := ⟨fun l => .tuple (l.map E.enc), fun H v l ⟨p, xs, e, h, t⟩ => by subst e; exact .tup (.inl h) (dpAll E t), fun l => by rw [PyData.canLay0]; exact canAll E l, E.n + 1,
  fun l => by rw [PyData.depth]; exact Nat.succ_le_succ (depAll E l), fun l m => by rw [PyData.eqv]; exact eqvAll_iff E l m⟩
def eqr_pair {R : Rl α} {S : Rl β} (E : Eqr K R) (F : Eqr K S) : Eqr K (rPair R S) := ⟨fun l => .tuple [E.enc l.1, F.enc l.2], fun H v l ⟨p, x, y, e, h, t, u⟩ => by subst e; exact .tup (.inl (.inl h)) (.cons (E.dp _ _ _ t) (.cons (F.dp _ _ _ u) .nil)),
  fun l => by simp [PyData.canLay0, PyData.canLayAll0, E.can, F.can], max E.n F.n + 1, fun l => by
    have h1 := E.dep l.1
    have h2 := F.dep l.2
    simp only [PyData.depth, PyData.depthAll]
    omega, fun l m => by simp [PyData.eqv, PyData.eqvAll, E.eqv, F.eqv, Prod.ext_iff]⟩
def eqr_trip {R : Rl α} {S : Rl β} {T : Rl γ} (E : Eqr K R) (F : Eqr K S) (G : Eqr K T) : Eqr K (rTrip R S T) := ⟨fun l => .tuple [E.enc l.1, F.enc l.2.1, G.enc l.2.2], fun H v l ⟨p, x, y, z, e, h, t, u, w⟩ => by subst e; exact .tup (.inl h) (.cons (E.dp _ _ _ t) (.cons (F.dp _ _ _ u) (.cons (G.dp _ _ _ w) .nil))),
  fun l => by simp [PyData.canLay0, PyData.canLayAll0, E.can, F.can, G.can], max E.n (max F.n G.n) + 1, fun l => by
    have h1 := E.dep l.1
    have h2 := F.dep l.2.1
    have h3 := G.dep l.2.2
    simp only [PyData.depth, PyData.depthAll]
    omega, fun l m => by simp [PyData.eqv, PyData.eqvAll, E.eqv, F.eqv, G.eqv, Prod.ext_iff]⟩
theorem Eqr.sh {R : Rl α} (E : Eqr K R) (hn : E.n ≤ 64) (a : α) : SeqAt.shaped (E.enc a) = true := by
  unfold SeqAt.shaped
  rw [E.can a, Bool.true_and]
  exact decide_eq_true (Nat.le_trans (E.dep a) hn)
theorem evp_eqD {P1 P2 : α → Prop} (E : Eqr K R) (hn : E.n ≤ 64) (ha : EvP C ta Γ .h R P1) (hb : EvP C tb Γ .h R P2) : EvP C (tOp (rEqD K) ta tb) Γ ℓ rBool (fun z => ∃ a b, P1 a ∧ P2 b ∧ (z = true ↔ a = b)) := evp_bin ha hb fun σ W x y a b Q w r1 r2 p1 p2 q =>
  ⟨E.enc a, E.enc b, E.dp _ _ _ (R.mono (fun _ _ h => (hid_some h).2) r1), E.dp _ _ _ (R.mono (fun _ _ h => (hid_some h).2) r2), E.sh hn a, E.sh hn b, q _ W _ (Stp.refl W) w.b rfl ⟨a, b, p1, p2, E.eqv a b⟩⟩
theorem evp_neD {P1 P2 : α → Prop} (E : Eqr K R) (hn : E.n ≤ 64) (ha : EvP C ta Γ .h R P1) (hb : EvP C tb Γ .h R P2) : EvP C (tOp (rNeD K) ta tb) Γ ℓ rBool (fun z => ∃ a b, P1 a ∧ P2 b ∧ (z = true ↔ a ≠ b)) := evp_bin ha hb fun σ W x y a b Q w r1 r2 p1 p2 q =>
  ⟨E.enc a, E.enc b, E.dp _ _ _ (R.mono (fun _ _ h => (hid_some h).2) r1), E.dp _ _ _ (R.mono (fun _ _ h => (hid_some h).2) r2), E.sh hn a, E.sh hn b, q _ W _ (Stp.refl W) w.b rfl ⟨a, b, p1, p2, by
    have := E.eqv a b
    cases h : PyData.eqv (E.enc a) (E.enc b) with
    | true => rw [h] at this; simp [this.mp rfl]
    | false => rw [h] at this; simp; intro z; have := this.mpr z; cases this⟩⟩
theorem ev_eqD [DecidableEq α] {a b : α} (E : Eqr K R) (hn : E.n ≤ 64) (ha : Ev C ta Γ .h R a) (hb : Ev C tb Γ .h R b) : Ev C (tOp (rEqD K) ta tb) Γ ℓ rBool (decide (a = b)) := (evp_eqD E hn ha hb).imp fun z ⟨_, _, p, q, e⟩ => by
  subst p q
  rw [Bool.eq_iff_iff, e]; simp
theorem ev_neD [DecidableEq α] {a b : α} (E : Eqr K R) (hn : E.n ≤ 64) (ha : Ev C ta Γ .h R a) (hb : Ev C tb Γ .h R b) : Ev C (tOp (rNeD K) ta tb) Γ ℓ rBool (!decide (a = b)) := (evp_neD E hn ha hb).imp fun z ⟨_, _, p, q, e⟩ => by
  subst p q
  rw [Bool.eq_iff_iff, e]; simp
/-! in, index -/
theorem inV_int (x : Int) (l : List Int) : inV (.int x) (l.map V.int) = l.contains x := by
  unfold inV
  rw [List.any_map, List.contains_eq_any_beq]
  congr 1
  funext y
  show (y == x) = (x == y)
  exact Bool.beq_comm
theorem flat_ints (l : List Int) : (l.map V.int).all flatV = true := by
  rw [List.all_map]
  exact List.all_eq_true.mpr fun _ _ => rfl
theorem evp_in {k : Kd} {Pi : Int → Prop} {Pl : List Int → Prop} (ha : EvP C ta Γ .h rInt Pi) (hb : EvS C tb Γ k c .h rInt Pl) : EvP C (tOp (rIn K false) ta tb) Γ ℓ rBool (fun z => ∃ x l, Pi x ∧ Pl l ∧ (z = true ↔ x ∈ l)) := fun σ W w Q q =>
  ha σ W w _ fun v W1 x s1 b1 r1 p1 => hb σ W1 (w.stp b1 s1) _ fun p W2 xs l s2 b2 e r2 p2 => ⟨p, xs, rfl, sqA_of b2 e, by rw [show v = .int x from r1]; rfl, by rw [r2.ints]; exact flat_ints l, q _ W2 (inV v xs) (s1.trans w.b b1 s2) b2 rfl ⟨x, l, p1, p2, by
    rw [show v = .int x from r1, r2.ints, inV_int]; simp⟩⟩
theorem evp_nin {k : Kd} {Pi : Int → Prop} {Pl : List Int → Prop} (ha : EvP C ta Γ .h rInt Pi) (hb : EvS C tb Γ k c .h rInt Pl) : EvP C (tOp (rIn K true) ta tb) Γ ℓ rBool (fun z => ∃ x l, Pi x ∧ Pl l ∧ (z = true ↔ x ∉ l)) := fun σ W w Q q =>
  ha σ W w _ fun v W1 x s1 b1 r1 p1 => hb σ W1 (w.stp b1 s1) _ fun p W2 xs l s2 b2 e r2 p2 => ⟨p, xs, rfl, sqA_of b2 e, by rw [show v = .int x from r1]; rfl, by rw [r2.ints]; exact flat_ints l, q _ W2 (!inV v xs) (s1.trans w.b b1 s2) b2 rfl ⟨x, l, p1, p2, by
    rw [show v = .int x from r1, r2.ints, inV_int]; simp⟩⟩
theorem ev_in {k : Kd} {x : Int} {l : List Int} (ha : Ev C ta Γ .h rInt x) (hb : EvS C tb Γ k c .h rInt (fun z => z = l)) : Ev C (tOp (rIn K false) ta tb) Γ ℓ rBool (decide (x ∈ l)) := (evp_in ha hb).imp fun z ⟨_, _, p, q, e⟩ => by
  subst p q
  rw [Bool.eq_iff_iff, e]; simp
theorem ev_nin {k : Kd} {x : Int} {l : List Int} (ha : Ev C ta Γ .h rInt x) (hb : EvS C tb Γ k c .h rInt (fun z => z = l)) : Ev C (tOp (rIn K true) ta tb) Γ ℓ rBool (!decide (x ∈ l)) := (evp_nin ha hb).imp fun z ⟨_, _, p, q, e⟩ => by
  subst p q
  rw [Bool.eq_iff_iff, e]; simp
end
end GL


set_option Elab.async false
set_option linter.all false
set_option maxRecDepth 100000
set_option maxHeartbeats 1000000
namespace GL
open PySem L2
/-! ### what is walked -/
/-- how far a fact about a heap carries: through deeds of the def itself (its own lists change), or through an expression alone -/
def per (C : Cn) (b : Bool) (W W' : Wd) : Prop := match b with
  | true => Same W.G W'.G
  | false => Stp W W'
theorem per.refl {C : Cn} {b : Bool} (W : Wd) : per C b W W := by
  cases b with
  | true => exact Same.refl _
  | false => exact Stp.refl W
theorem mw_same {C : Cn} {W W' : Wd} (h : Same W.G W'.G) : Same (Mw C W) (Mw C W') := fun p o e => by
  rcases jn_some e with e | ⟨n, e⟩
  · exact jn_l _ _ e
  · show jn _ _ p = some o
    rw [jn_r n]
    exact h _ _ e
structure Goes (C : Cn) {α : Type} (J : It) (ok : Wd → Prop) (ℓ : Lv) (R : Rl α) (l : List α) : Prop where
  go : ∀ V i, Bok C V → ok V → i < l.length → J.go i V.H
  stop : ∀ V, Bok C V → ok V → J.stop l.length V.H
  yld : ∀ V i x H' a, Bok C V → ok V → l[i]? = some a → J.yld i V.H x H' → ∃ V', V'.H = H' ∧ Bok C V' ∧ Stp V V' ∧ R.is (wl C V' ℓ) x a
def EvI (C : Cn) {α : Type} (b : Bool) (wi : TI) (Γ : List Ent) (ℓ : Lv) (R : Rl α) (P : List α → Prop) : Prop :=
  ∀ σ W, World C σ W Γ → ∀ Rk : It → Hp → Prop, (∀ J W' l (ok : Wd → Prop), Stp W W' → Bok C W' → ok W' → (∀ V1 V2, Bok C V1 → Bok C V2 → per C b V1 V2 → ok V1 → ok V2) → Goes C J ok ℓ R l → P l → Rk J W'.H) → wi σ W.H Rk
section
variable {C : Cn} {Γ : List Ent} {α β γ δ : Type} {R : Rl α} {S : Rl β} {T : Rl γ} {P : α → Prop} {Pl : List α → Prop} {P' : β → Prop} {ta tb tc te : TE} {ℓ ℓ' c c' : Lv} {K : PySem.W.Frag}
theorem EvI.imp {b : Bool} {wi : TI} {Pm : List α → Prop} (h : EvI C b wi Γ ℓ R Pl) (i : ∀ l, Pl l → Pm l) : EvI C b wi Γ ℓ R Pm := fun σ W w Rk k => h σ W w Rk fun J W' l ok s b o p g z => k J W' l ok s b o p g (i l z)
theorem Same.per {W W' : Wd} (s : Stp W W') : Same W.G W'.G := s.g
/-- where the container stands: c for a loop must be g or m -/
theorem per_wl {b : Bool} {c : Lv} (hc : b = true → c ≠ .h) {V1 V2 : Wd} (k1 : Bok C V1) (k : per C b V1 V2) : Same (wl C V1 c) (wl C V2 c) := by
  cases b with
  | true =>
    cases c with
    | g => exact k
    | m => exact mw_same k
    | h => exact absurd rfl (hc rfl)
  | false => exact Stp.lv k1 k c
theorem ei_list {b : Bool} (hc : b = true → c ≠ .h := by first | (intro h; exact absurd h (by decide)) | (intro _; decide)) (hl : b = true → ℓ ≠ .h := by first | (intro h; exact absurd h (by decide)) | (intro _; decide)) (ha : EvS C ta Γ .l c ℓ R Pl) : EvI C b (iList K ta) Γ ℓ R Pl := fun σ W w Rk k =>
  ha σ W w _ fun p W1 xs l s b1 e r pl => ⟨p, rfl, ⟨xs, sqL_of b1 e⟩, k _ W1 l (fun V => seqAt .l (wl C V c) p xs ∧ All2 (R.is (wl C V ℓ)) xs l) s b1 ⟨e, r⟩ (fun V1 V2 k1 k2 pr ⟨h1, h2⟩ => ⟨h1.mono (per_wl hc k1 pr), h2.imp fun _ _ => R.mono (per_wl hl k1 pr)⟩)
    ⟨fun V i bk ⟨h1, h2⟩ hi => ⟨xs, xs[i]'(by rw [h2.len]; exact hi), sqL_of bk h1, List.getElem?_eq_getElem _⟩, fun V bk ⟨h1, h2⟩ => ⟨xs, sqL_of bk h1, by rw [h2.len]; exact Nat.le_refl _⟩,
      fun V i x H' a bk ⟨h1, h2⟩ ha ⟨y1, y2⟩ => by
        obtain ⟨v, hv, rv⟩ := h2.get ha
        have := y2 xs (sqL_of bk h1)
        rw [hv] at this
        cases this
        exact ⟨V, y1.symm, bk, Stp.refl V, rv⟩⟩ pl⟩
/-- either -/
def iEith (K : PySem.W.Frag) (tl : TE) : TI := fun σ H R => tl σ H fun x H1 => ∃ a, x = .ref a ∧ (((∃ xs, SqL K H1 a xs) ∧ R (Itl K a) H1) ∨ ((∃ xs, SqT K H1 a xs) ∧ R (Itt K a) H1))
theorem ei_eith {b : Bool} (hc : b = true → ℓ ≠ .h := by first | (intro h; exact absurd h (by decide)) | (intro _; decide)) (ha : EvP C ta Γ ℓ (rSeq R) Pl) : EvI C b (iEith K ta) Γ ℓ R Pl := fun σ W w Rk k =>
  ha σ W w _ fun v W1 l s b1 ⟨p, xs, e, h, r⟩ pl => ⟨p, e, by
    rcases h with h | h
    · exact .inl ⟨⟨xs, sqL_of (c := ℓ) b1 h⟩, k _ W1 l (fun V => seqAt .l (wl C V ℓ) p xs ∧ All2 (R.is (wl C V ℓ)) xs l) s b1 ⟨h, r⟩ (fun V1 V2 k1 k2 pr ⟨h1, h2⟩ => ⟨h1.mono (per_wl hc k1 pr), h2.imp fun _ _ => R.mono (per_wl hc k1 pr)⟩)
        ⟨fun V i bk ⟨h1, h2⟩ hi => ⟨xs, xs[i]'(by rw [h2.len]; exact hi), sqL_of bk h1, List.getElem?_eq_getElem _⟩, fun V bk ⟨h1, h2⟩ => ⟨xs, sqL_of bk h1, by rw [h2.len]; exact Nat.le_refl _⟩,
          fun V i x H' a bk ⟨h1, h2⟩ ha ⟨y1, y2⟩ => by
            obtain ⟨v, hv, rv⟩ := h2.get ha
            have := y2 xs (sqL_of bk h1)
            rw [hv] at this
            cases this
            exact ⟨V, y1.symm, bk, Stp.refl V, rv⟩⟩ pl⟩
    · exact .inr ⟨⟨xs, sqT_of (c := ℓ) b1 h⟩, k _ W1 l (fun V => seqAt .t (wl C V ℓ) p xs ∧ All2 (R.is (wl C V ℓ)) xs l) s b1 ⟨h, r⟩ (fun V1 V2 k1 k2 pr ⟨h1, h2⟩ => ⟨h1.mono (per_wl hc k1 pr), h2.imp fun _ _ => R.mono (per_wl hc k1 pr)⟩)
        ⟨fun V i bk ⟨h1, h2⟩ hi => ⟨xs, xs[i]'(by rw [h2.len]; exact hi), sqT_of bk h1, List.getElem?_eq_getElem _⟩, fun V bk ⟨h1, h2⟩ => ⟨xs, sqT_of bk h1, by rw [h2.len]; exact Nat.le_refl _⟩,
          fun V i x H' a bk ⟨h1, h2⟩ ha ⟨y1, y2⟩ => by
            obtain ⟨v, hv, rv⟩ := h2.get ha
            have := y2 xs (sqT_of bk h1)
            rw [hv] at this
            cases this
            exact ⟨V, y1.symm, bk, Stp.refl V, rv⟩⟩ pl⟩⟩
/-- the ints lo, lo + 1, .. below hi -/
def rg (lo hi : Int) : List Int := (List.range (hi - lo).toNat).map fun (i : Nat) => lo + (i : Int)
theorem rg_len (lo hi : Int) : (rg lo hi).length = (hi - lo).toNat := by simp [rg]
theorem rg_get (lo hi : Int) (i : Nat) (h : i < (hi - lo).toNat) : (rg lo hi)[i]? = some (lo + (i : Int)) := by
  unfold rg
  rw [List.getElem?_map, List.getElem?_range h]; rfl
theorem goes_rg (lo hi : Int) : Goes C (Itr lo (hi - lo).toNat) (fun _ => True) ℓ rInt (rg lo hi) :=
  ⟨fun V i _ _ h => by rw [rg_len] at h; exact h, fun V _ _ => by rw [rg_len]; exact Nat.le_refl _, fun V i x H' a bk _ ha ⟨y1, y2⟩ => ⟨V, y1.symm, bk, Stp.refl V, by
    have hl : i < (hi - lo).toNat := by
      have := (List.getElem?_eq_some_iff.mp ha).1
      rwa [rg_len] at this
    rw [rg_get lo hi i hl] at ha
    cases ha
    exact y2⟩⟩
theorem ei_rg1 {b : Bool} {Pi : Int → Prop} (ha : EvP C ta Γ .h rInt Pi) (hz : ∀ i, Pi i → -(2 ^ 62) ≤ i ∧ i < 2 ^ 62) : EvI C b (iRng1 (tCons ta tNil)) Γ ℓ rInt (fun l => ∃ n, Pi n ∧ l = rg 0 n) := fun σ W w Rk k =>
  ha σ W w _ fun v W1 n s b1 r p => ⟨n, by rw [show v = .int n from r], (hz n p).1, (hz n p).2, k _ W1 (rg 0 n) (fun _ => True) s b1 trivial (fun _ _ _ _ _ _ => trivial) (by
    have := goes_rg (C := C) (ℓ := ℓ) 0 n
    rwa [Int.sub_zero] at this) ⟨n, p, rfl⟩⟩
theorem ei_rg2 {b : Bool} {Pi Pj : Int → Prop} (ha : EvP C ta Γ .h rInt Pi) (hb : EvP C tb Γ .h rInt Pj) (hz : ∀ i j, Pi i → Pj j → (-(2 ^ 62) ≤ i ∧ i < 2 ^ 62) ∧ (-(2 ^ 62) ≤ j ∧ j < 2 ^ 62)) : EvI C b (iRng2 (tCons ta (tCons tb tNil))) Γ ℓ rInt (fun l => ∃ i j, Pi i ∧ Pj j ∧ l = rg i j) := fun σ W w Rk k =>
  ha σ W w _ fun v W1 i s1 b1 r1 p1 => hb σ W1 (w.stp b1 s1) _ fun u W2 j s2 b2 r2 p2 => ⟨i, j, by rw [show v = .int i from r1, show u = .int j from r2], ⟨(hz i j p1 p2).1.1, (hz i j p1 p2).1.2, (hz i j p1 p2).2.1, (hz i j p1 p2).2.2⟩,
    k _ W2 (rg i j) (fun _ => True) (s1.trans w.b b1 s2) b2 trivial (fun _ _ _ _ _ _ => trivial) (goes_rg i j) ⟨i, j, p1, p2, rfl⟩⟩
/-- a new pair at each turn -/
theorem pair_yld {Z : Wd} {T : Addr} {x y : V} {a : α} {b : β} (bk : Bok C Z) (hT : Z.H T = none) (r1 : R.is (wl C Z ℓ) x a) (r2 : S.is (wl C Z ℓ) y b) : ∃ V' : Wd, V'.H = upd Z.H T (.tup [x, y]) ∧ Bok C V' ∧ Stp Z V' ∧ (rPair R S).is (wl C V' ℓ) (.ref T) (a, b) := by
  have bl := bk.put (o := .tup [x, y]) (bk.h0 hT) (bk.nvs hT) (bk.g0 hT)
  have sl := Stp.put bk (o := .tup [x, y]) hT
  refine ⟨Z.put T (.tup [x, y]), rfl, bl, sl, T, x, y, rfl, ?_, R.mono (sl.lv bk ℓ) r1, S.mono (sl.lv bk ℓ) r2⟩
  cases ℓ with
  | g => exact upd_same
  | m =>
    show jn _ _ T = _
    rw [jn_r ?_]
    · exact upd_same
    · by_cases z : T ∈ C.vs0
      · exact hid_in z
      · rw [hid_out z]; exact bk.h0 hT
  | h => exact (hid_out (bk.nvs hT)).trans upd_same
def enu {α : Type} (l : List α) : List (Int × α) := l.zipIdx.map fun p => ((p.2 : Int), p.1)
theorem enu_len {α : Type} (l : List α) : (enu l).length = l.length := by simp [enu]
theorem enu_get {α : Type} (l : List α) (i : Nat) : (enu l)[i]? = (l[i]?).map fun a => ((i : Int), a) := by
  unfold enu
  rw [List.getElem?_map, List.getElem?_zipIdx]
  cases l[i]? <;> simp
theorem ei_enum {b : Bool} (hc : b = true → c ≠ .h := by first | (intro h; exact absurd h (by decide)) | (intro _; decide)) (hl : b = true → ℓ ≠ .h := by first | (intro h; exact absurd h (by decide)) | (intro _; decide)) (ha : EvS C ta Γ .l c ℓ R Pl) : EvI C b (iEnum K (tCons ta tNil)) Γ ℓ (rPair rInt R) (fun z => ∃ l, Pl l ∧ z = enu l) := fun σ W w Rk k =>
  ha σ W w _ fun p W1 xs l s b1 e r pl => ⟨p, xs, rfl, sqL_of b1 e, k _ W1 (enu l) (fun V => seqAt .l (wl C V c) p xs ∧ All2 (R.is (wl C V ℓ)) xs l) s b1 ⟨e, r⟩ (fun V1 V2 k1 k2 pr ⟨h1, h2⟩ => ⟨h1.mono (per_wl hc k1 pr), h2.imp fun _ _ => R.mono (per_wl hl k1 pr)⟩)
    ⟨fun V i bk ⟨h1, h2⟩ hi => ⟨xs, xs[i]'(by rw [h2.len]; rwa [enu_len] at hi), sqL_of bk h1, List.getElem?_eq_getElem _⟩, fun V bk ⟨h1, h2⟩ => ⟨xs, sqL_of bk h1, by rw [enu_len, h2.len]; exact Nat.le_refl _⟩,
      fun V i x H' a bk ⟨h1, h2⟩ ha ⟨T, x', y1, y2, y3, y4⟩ => by
        rw [enu_get] at ha
        cases e : l[i]? with
        | none => rw [e] at ha; cases ha
        | some a' =>
          rw [e] at ha
          cases ha
          obtain ⟨v, hv, rv⟩ := h2.get e
          have := y4 xs (sqL_of bk h1)
          rw [hv] at this
          cases this
          subst y1 y3
          exact pair_yld bk y2 rfl rv⟩ ⟨l, pl, rfl⟩⟩
theorem EvI.fl {b : Bool} {wi : TI} (f : Flat R) (h : EvI C b wi Γ ℓ R Pl) : EvI C b wi Γ ℓ' R Pl := fun σ W w Rk k => h σ W w Rk fun J W' l ok s bk o p g z => k J W' l ok s bk o p ⟨g.go, g.stop, fun V i x H' a b1 o1 e y => by
  obtain ⟨V', h1, h2, h3, h4⟩ := g.yld V i x H' a b1 o1 e y
  exact ⟨V', h1, h2, h3, f _ _ _ _ h4⟩⟩ z
/-! ### comprehensions -/
def RL {α β : Type} (p : α → β → Prop) : List α → List β → Prop
  | [], [] => True
  | a :: l, b :: m => p a b ∧ RL p l m
  | _, _ => False
theorem RL.app {p : α → β → Prop} : ∀ {l l' : List α} {m m' : List β}, RL p l m → RL p l' m' → RL p (l ++ l') (m ++ m')
  | [], _, [], _, _, h => h
  | _ :: _, _, _ :: _, _, ⟨a, b⟩, h => ⟨a, RL.app b h⟩
theorem RL.len {p : α → β → Prop} : ∀ {l : List α} {m : List β}, RL p l m → l.length = m.length
  | [], [], _ => rfl
  | _ :: _, _ :: _, ⟨_, b⟩ => by rw [List.length_cons, List.length_cons, RL.len b]
theorem RL.eq {f : α → β} : ∀ {l : List α} {m : List β}, RL (fun a b => b = f a) l m → m = l.map f
  | [], [], _ => rfl
  | _ :: _, _ :: _, ⟨a, b⟩ => by rw [List.map_cons, a, RL.eq b]
theorem RL.get {p : α → β → Prop} : ∀ {l : List α} {m : List β} {i : Nat} {b : β}, RL p l m → m[i]? = some b → ∃ a, l[i]? = some a ∧ p a b
  | [], [], _, _, _, h => by simp at h
  | a :: _, _ :: _, 0, b, ⟨q, _⟩, h => by simp at h; subst h; exact ⟨a, rfl, q⟩
  | _ :: _, _ :: _, i + 1, b, ⟨_, t⟩, h => by
    obtain ⟨a, h1, h2⟩ := RL.get (i := i) (b := b) t (by simpa using h)
    exact ⟨a, by simpa using h1, h2⟩
theorem RL.mem {p : α → β → Prop} {l : List α} {m : List β} (h : RL p l m) {b : β} (hb : b ∈ m) : ∃ a, a ∈ l ∧ p a b := by
  obtain ⟨i, hi, e⟩ := List.getElem_of_mem hb
  obtain ⟨a, h1, h2⟩ := h.get (i := i) (b := b) (by rw [List.getElem?_eq_getElem hi, e])
  exact ⟨a, List.mem_of_getElem? h1, h2⟩
def wipeG (Γ : List Ent) : List Nat → List Ent
  | [] => Γ
  | v :: vs => (wipeG Γ vs).set v .no
theorem World.wipe {σ : Sg} {W : Wd} (w : World C σ W Γ) : ∀ vs : List Nat, World C (wipe σ vs) W (wipeG Γ vs)
  | [] => w
  | v :: vs => (World.wipe w vs).set v trivial fun p h => by cases h
theorem World.setv {σ : Sg} {W : Wd} (w : World C σ W Γ) (i : Nat) {v : V} {a : α} (hl : ℓ ≠ .h) (h : R.is (wl C W ℓ) v a) : World C (σ.set i (some v)) W (Γ.set i (.val ℓ R a)) :=
  w.set i ⟨hl, v, rfl, h⟩ fun p h => by cases h
theorem wipe1 {σ : Sg} {j : Nat} {x : Option V} : wipe ((wipe σ [j]).set j x) [j] = wipe σ [j] := by
  unfold wipe
  rw [show wipe σ [] = σ from rfl]
  show ((σ.set j none).set j x).set j none = σ.set j none
  rw [List.set_set, List.set_set]
/-- the core: g binds the item to slots as Γ' says -/
theorem en_lcG {wi : TI} {g : TG} {tt : TT} {vs : List Nat} {p : α → Bool} {Pe : α → β → Prop} (Γ' : α → List Ent) (hi : EvI C false wi Γ ℓ R Pl) (hlv : ℓ' ≠ .h := by decide) (hz : ∀ l, Pl l → l.length ≤ 1000000)
    (hg : ∀ (σ : Sg) W x a (Q : Sg → Hp → Prop), World C σ W Γ → R.is (wl C W ℓ) x a → (∀ σ2, World C σ2 W (Γ' a) → wipe σ2 vs = wipe σ vs → Q σ2 W.H) → g x (wipe σ vs) W.H Q)
    (ht : ∀ l a, Pl l → a ∈ l → EvB C tt (Γ' a) (fun b => b = p a)) (he : ∀ l a, Pl l → a ∈ l → p a = true → EvP C te (Γ' a) ℓ' S (fun b => Pe a b)) :
    EvN C (tLc wi g tt te vs) Γ ℓ' S (fun z => ∃ l, Pl l ∧ RL Pe (l.filter p) z) := fun σ W w Q q =>
  hi σ W w _ fun J W1 l ok s1 b1 o1 po gs pl D hD => by
    have w1 := w.stp b1 s1
    have n0 := w.b.back b1 s1 hD
    have hD0 := w.b.h0 n0
    have hDv : D ∉ W1.vs := by rw [s1.vs]; exact w.b.nvs n0
    -- a world within
    let Pv : Nat → Hp → Prop := fun i H => ∃ (Z : Wd) (acc : List V) (z : List β), Z.H = H ∧ Bok C Z ∧ Stp W1 Z ∧ Z.H D = some (.lst acc) ∧ Z.G D = none ∧ All2 (S.is (wl C Z ℓ')) acc z ∧ RL Pe ((l.take i).filter p) z
    have lay : ∀ (Z : Wd) (acc : List V), Bok C Z → Stp W1 Z → Z.G D = none → Bok C (Z.lay D (.lst acc)) ∧ Stp W1 (Z.lay D (.lst acc)) := fun Z acc bz sz hG => by
      have hv : D ∉ Z.vs := by rw [sz.vs]; exact hDv
      refine ⟨bz.lay hD0 hv hG, ⟨sz.vs, sz.g, fun a o e => ?_, sz.new⟩⟩
      have ne : a ≠ D := ne_of_none (hid_some e).2 hD
      have e' := sz.h a o e
      obtain ⟨e1, e2⟩ := hid_some e'
      show hid (upd Z.H D _) Z.vs a = _
      rw [hid_out e1, upd_ne ne]; exact e2
    have lvl : ∀ (Z : Wd) (acc : List V), Z.G D = none → ∀ ℓ'' : Lv, ℓ'' ≠ .h → Same (wl C Z ℓ'') (wl C (Z.lay D (.lst acc)) ℓ'') := fun Z acc hG ℓ'' hn => by
      cases ℓ'' with
      | g => exact Same.refl _
      | m => exact Same.refl _
      | h => exact absurd rfl hn
    refine ⟨fun i m H => m = l.length - i ∧ i ≤ l.length ∧ Pv i H, ⟨l.length, by omega, Nat.zero_le _, ?_⟩, ?_⟩
    · obtain ⟨b2, s2⟩ := lay W1 [] b1 (Stp.refl W1) (b1.g0 hD)
      exact ⟨W1.lay D (.lst []), [], [], rfl, b2, s2, upd_same, b1.g0 hD, trivial, trivial⟩
    · rintro i m H ⟨rfl, hil, Z, acc, z, rfl, bz, sz, hZ, hG, ha, hr⟩
      have okz := po W1 Z b1 bz sz o1
      by_cases hlt : i < l.length
      · refine .inr ⟨gs.go Z i bz okz hlt, Pv (i + 1), fun H' p' => ⟨l.length - (i + 1), by omega, rfl, hlt, p'⟩, fun x H' y => ?_⟩
        obtain ⟨Z', rfl, bz', sz', rx⟩ := gs.yld Z i x H' l[i] bz okz (List.getElem?_eq_getElem hlt) y
        have w' := (w1.stp bz sz).stp bz' sz'
        have hmem : l[i] ∈ l := List.getElem_mem hlt
        have keepD : ∀ {Z2 : Wd}, Bok C Z2 → Stp Z Z2 → Z2.H D = some (.lst acc) ∧ Z2.G D = none ∧ D ∉ Z2.vs := fun {Z2} b2 s2 => by
          have hv : D ∉ Z.vs := by rw [sz.vs]; exact hDv
          refine ⟨(hid_some (s2.h _ _ ((hid_out hv).trans hZ))).2, ?_, by rw [s2.vs]; exact hv⟩
          cases q : Z2.G D with
          | none => rfl
          | some o =>
            rcases s2.new D o q with e | e
            · rw [hG] at e; cases e
            · rw [hZ] at e; cases e
        refine hg σ Z' x l[i] _ w' rx fun σ2 w2 hw => ⟨hw, ?_⟩
        refine ht l l[i] pl hmem σ2 Z' w2 _ fun b Z3 s3 b3 hb => ?_
        have tk : (l.take (i + 1)).filter p = (l.take i).filter p ++ (if p l[i] = true then [l[i]] else []) := by
          rw [List.take_succ_eq_append_getElem hlt, List.filter_append]
          congr 1
          by_cases hp : p l[i] = true <;> simp [hp]
        cases b with
        | true =>
          have hp : p l[i] = true := hb.symm
          show te σ2 Z3.H _
          refine he l l[i] pl hmem hp σ2 Z3 (w2.stp b3 s3) _ fun y Z4 c s4 b4 r4 p4 => ?_
          have s34 := (sz'.trans bz bz' s3).trans bz b3 s4
          obtain ⟨k1, k2, k3⟩ := keepD b4 s34
          obtain ⟨b5, s5⟩ := lay Z4 (acc ++ [y]) b4 (sz.trans b1 bz s34) k2
          have hlen : z.length ≤ i := by
            have h1 := hr.len
            have h2 := List.length_filter_le p (l.take i)
            rw [List.length_take] at h2
            omega
          have hzl := hz l pl
          have sb := sizeLine_big
          refine ⟨acc, k1, by rw [ha.len]; omega, Z4.lay D (.lst (acc ++ [y])), acc ++ [y], z ++ [c], rfl, b5, s5, upd_same, k2, ?_, ?_⟩
          · refine All2.app (ha.imp fun _ _ h => S.mono (lvl Z4 _ k2 ℓ' hlv) (S.mono (s34.lv bz ℓ') h)) ⟨S.mono (lvl Z4 _ k2 ℓ' hlv) r4, trivial⟩
          · rw [tk, if_pos hp]
            exact hr.app ⟨p4, trivial⟩
        | false =>
          have hp : p l[i] = false := hb.symm
          show Pv (i + 1) Z3.H
          have s3' := sz'.trans bz bz' s3
          obtain ⟨k1, k2, k3⟩ := keepD b3 s3'
          refine ⟨Z3, acc, z, rfl, b3, sz.trans b1 bz s3', k1, k2, ha.imp fun _ _ h => S.mono (s3'.lv bz ℓ') h, ?_⟩
          rw [tk, if_neg (by rw [hp]; decide), List.append_nil]
          exact hr
      · have e : i = l.length := by omega
        subst e
        refine .inl ⟨gs.stop Z bz okz, ?_⟩
        rw [List.take_length] at hr
        exact q D Z acc z (s1.trans w.b b1 sz) bz n0 hZ hG ha ⟨l, pl, hr⟩
/-- the item in one name -/
theorem en_lc {wi : TI} {tt : TT} {j : Nat} {p : α → Bool} {Pe : α → β → Prop} (hi : EvI C false wi Γ ℓ R Pl) (hz : ∀ l, Pl l → l.length ≤ 1000000) (ht : ∀ l a, Pl l → a ∈ l → EvB C tt ((wipeG Γ [j]).set j (.val ℓ R a)) (fun b => b = p a))
    (he : ∀ l a, Pl l → a ∈ l → p a = true → EvP C te ((wipeG Γ [j]).set j (.val ℓ R a)) ℓ' S (fun b => Pe a b)) (hl : ℓ ≠ .h := by decide) (hlv : ℓ' ≠ .h := by decide) : EvN C (tLc wi (gName j) tt te [j]) Γ ℓ' S (fun z => ∃ l, Pl l ∧ RL Pe (l.filter p) z) :=
  en_lcG (fun a => (wipeG Γ [j]).set j (.val ℓ R a)) hi hlv hz (fun σ W x a Q w r k => k _ ((w.wipe [j]).setv j hl r) wipe1) ht he
theorem eb_yes : EvB C tYes Γ (fun b => b = true) := fun σ W w Q q => q true W (Stp.refl W) w.b rfl
/-- without a test, a function of the item -/
theorem en_map {wi : TI} {j : Nat} (f : α → β) (hi : EvI C false wi Γ ℓ R Pl) (hz : ∀ l, Pl l → l.length ≤ 1000000) (he : ∀ l a, Pl l → a ∈ l → Ev C te ((wipeG Γ [j]).set j (.val ℓ R a)) ℓ' S (f a)) (hl : ℓ ≠ .h := by decide) (hlv : ℓ' ≠ .h := by decide) :
    EvN C (tLc wi (gName j) tYes te [j]) Γ ℓ' S (fun z => ∃ l, Pl l ∧ z = l.map f) :=
  (en_lc (p := fun _ => true) (Pe := fun a b => b = f a) hi hz (fun _ _ _ _ => eb_yes) (fun l a h m _ => he l a h m) hl hlv).imp fun z ⟨l, h, r⟩ => ⟨l, h, by
    have := r.eq
    rwa [List.filter_eq_self.mpr (fun _ _ => rfl)] at this⟩
/-- with a test -/
theorem en_filt {wi : TI} {tt : TT} {j : Nat} (p : α → Prop) [DecidablePred p] (f : α → β) (hi : EvI C false wi Γ ℓ R Pl) (hz : ∀ l, Pl l → l.length ≤ 1000000) (ht : ∀ l a, Pl l → a ∈ l → EvC C tt ((wipeG Γ [j]).set j (.val ℓ R a)) (p a)) (he : ∀ l a, Pl l → a ∈ l → p a → Ev C te ((wipeG Γ [j]).set j (.val ℓ R a)) ℓ' S (f a)) (hl : ℓ ≠ .h := by decide) (hlv : ℓ' ≠ .h := by decide) :
    EvN C (tLc wi (gName j) tt te [j]) Γ ℓ' S (fun z => ∃ l, Pl l ∧ z = (l.filter fun a => decide (p a)).map f) :=
  (en_lc (p := fun a => decide (p a)) (Pe := fun a b => b = f a) hi hz (fun l a h m => (ht l a h m).imp fun b e => by rw [Bool.eq_iff_iff, e]; simp) (fun l a h m hp => he l a h m (of_decide_eq_true hp)) hl hlv).imp fun z ⟨l, h, r⟩ => ⟨l, h, r.eq⟩
/-- a pair in two names -/
theorem wipe2 {σ : Sg} {i j : Nat} (hij : i ≠ j) {x y : Option V} : wipe (((wipe σ [i, j]).set i x).set j y) [i, j] = wipe σ [i, j] := by
  show ((((((σ.set j none).set i none)).set i x).set j y).set j none).set i none = (σ.set j none).set i none
  have e1 : (((σ.set j none).set i none).set i x) = (σ.set j none).set i x := List.set_set ..
  rw [e1, List.set_set, List.set_comm x none hij, List.set_set, List.set_set]
theorem en_lc2 {wi : TI} {tt : TT} {i j : Nat} {p : α × γ → Bool} {Pe : α × γ → β → Prop} {Pq : List (α × γ) → Prop} (hij : i ≠ j) (hi : EvI C false wi Γ ℓ (rPair R T) Pq) (hz : ∀ l, Pq l → l.length ≤ 1000000) (ht : ∀ l a, Pq l → a ∈ l → EvB C tt (((wipeG Γ [i, j]).set i (.val ℓ R a.1)).set j (.val ℓ T a.2)) (fun b => b = p a))
    (he : ∀ l a, Pq l → a ∈ l → p a = true → EvP C te (((wipeG Γ [i, j]).set i (.val ℓ R a.1)).set j (.val ℓ T a.2)) ℓ' S (fun b => Pe a b)) (hl : ℓ ≠ .h := by decide) (hlv : ℓ' ≠ .h := by decide) : EvN C (tLc wi (gTup K 2 (gCons (gName i) (gCons (gName j) gNil))) tt te [i, j]) Γ ℓ' S (fun z => ∃ l, Pq l ∧ RL Pe (l.filter p) z) :=
  en_lcG (fun a => ((wipeG Γ [i, j]).set i (.val ℓ R a.1)).set j (.val ℓ T a.2)) hi hlv hz (fun σ W x a Q w ⟨q, y, z, e, h, r1, r2⟩ k =>
    ⟨q, [y, z], e, sqT_of (c := ℓ) w.b (.inl h), rfl, y, [z], rfl, z, [], rfl, rfl, k _ (((w.wipe [i, j]).setv i hl r1).setv j hl r2) (wipe2 hij)⟩) ht he
theorem en_map2 {wi : TI} {i j : Nat} {Pq : List (α × γ) → Prop} (f : α × γ → β) (hij : i ≠ j) (hi : EvI C false wi Γ ℓ (rPair R T) Pq) (hz : ∀ l, Pq l → l.length ≤ 1000000) (he : ∀ l a, Pq l → a ∈ l → Ev C te (((wipeG Γ [i, j]).set i (.val ℓ R a.1)).set j (.val ℓ T a.2)) ℓ' S (f a)) (hl : ℓ ≠ .h := by decide) (hlv : ℓ' ≠ .h := by decide) :
    EvN C (tLc wi (gTup K 2 (gCons (gName i) (gCons (gName j) gNil))) tYes te [i, j]) Γ ℓ' S (fun z => ∃ l, Pq l ∧ z = l.map f) :=
  (en_lc2 (p := fun _ => true) (Pe := fun a b => b = f a) hij hi hz (fun _ _ _ _ => eb_yes) (fun l a h m _ => he l a h m) hl hlv).imp fun z ⟨l, h, r⟩ => ⟨l, h, by
    have := r.eq
    rwa [List.filter_eq_self.mpr (fun _ _ => rfl)] at this⟩
end
end GL


set_option Elab.async false
set_option linter.all false
set_option maxRecDepth 100000
set_option maxHeartbeats 1000000
namespace GL
open PySem L2
/-! ### statements -/
def Go (C : Cn) (t : TS) (D : Ends) (Γ : List Ent) : Prop := ∀ σ W, World C σ W Γ → t D σ W.H
def Nx (C : Cn) (k : Sg → Hp → Prop) (Γ : List Ent) : Prop := ∀ σ W, World C σ W Γ → k σ W.H
/-- some state of these forms -/
def Hol (C : Cn) {S : Type} (Γs : S → List Ent) (J : S → Prop) : Sg → Hp → Prop := fun σ H => ∃ s W, W.H = H ∧ World C σ W (Γs s) ∧ J s
/-- one may forget what a name holds -/
def LeG : List Ent → List Ent → Prop
  | [], [] => True
  | e :: Γ, e' :: Γ' => (e' = .no ∨ e' = e) ∧ LeG Γ Γ'
  | _, _ => False
theorem LeG.len : ∀ {Γ Γ' : List Ent}, LeG Γ Γ' → Γ.length = Γ'.length
  | [], [], _ => rfl
  | _ :: _, _ :: _, ⟨_, h⟩ => by rw [List.length_cons, List.length_cons, LeG.len h]
theorem LeG.get : ∀ {Γ Γ' : List Ent} {i : Nat} {e : Ent}, LeG Γ Γ' → Γ'[i]? = some e → e = .no ∧ i < Γ.length ∨ Γ[i]? = some e
  | [], [], _, _, _, h => by simp at h
  | a :: _, b :: _, 0, e, ⟨h, _⟩, k => by
    have k' : b = e := by simpa using k
    rcases h with h | h
    · exact .inl ⟨k' ▸ h, Nat.succ_pos _⟩
    · exact .inr (by show some a = some e; rw [← h, k'])
  | a :: Γ, b :: _, i + 1, e, ⟨_, h⟩, k => by
    rcases LeG.get (i := i) (e := e) h (by simpa using k) with ⟨h1, h2⟩ | h1
    · exact .inl ⟨h1, Nat.succ_lt_succ h2⟩
    · exact .inr (by simpa using h1)
theorem LeG.refl : ∀ (Γ : List Ent), LeG Γ Γ
  | [] => trivial
  | _ :: Γ => ⟨.inr rfl, LeG.refl Γ⟩
theorem World.le {C : Cn} {σ : Sg} {W : Wd} {Γ Γ' : List Ent} (w : World C σ W Γ) (h : LeG Γ Γ') : World C σ W Γ' := by
  refine ⟨w.b, w.len.trans h.len, fun i e k => ?_, fun i j p q hij hp hq => ?_⟩
  · rcases h.get k with ⟨rfl, hl⟩ | h1
    · obtain ⟨x, h2, _⟩ := w.ent i _ (List.getElem?_eq_getElem hl)
      exact ⟨x, h2, trivial⟩
    · exact w.ent i e h1
  · have back : ∀ (i : Nat) (p : Addr), adAt Γ' i p → adAt Γ i p := fun i p ⟨u, hu, hm⟩ => by
      rcases h.get hu with ⟨rfl, _⟩ | h1
      · cases hm
      · exact ⟨u, h1, hm⟩
    exact w.dis i j p q hij (back i p hp) (back j q hq)
/-- the same run, a later floor -/
structure Cex (C C' : Cn) : Prop where
  h0 : C'.H0 = C.H0
  vs0 : C'.vs0 = C.vs0
  pi : C'.PI = C.PI
  fl : Same C.F C'.F
  tb : C'.tb = C.tb
  kn : C'.kn = C.kn
theorem Cex.refl (C : Cn) : Cex C C := ⟨rfl, rfl, rfl, Same.refl _, rfl, rfl⟩
theorem Cex.trans {C C' C2 : Cn} (a : Cex C C') (b : Cex C' C2) : Cex C C2 := ⟨b.h0.trans a.h0, b.vs0.trans a.vs0, b.pi.trans a.pi, a.fl.trans b.fl, b.tb.trans a.tb, b.kn.trans a.kn⟩
theorem Bok.down {C C' : Cn} {W : Wd} (x : Cex C C') (b : Bok C' W) : Bok C W := by
  obtain ⟨h0, v0, pi, f0, tb0, kn0⟩ := C
  obtain ⟨h1, v1, pi1, f1, tb1, kn1⟩ := C'
  obtain ⟨e1, e2, e3, e4, e5, e6⟩ := x
  subst e1 e2 e3 e5 e6
  exact ⟨b.base, b.vol, b.vsub, b.vnew, b.v0, b.gv, b.g, b.gn, e4.trans b.fl, b.tab, b.knb⟩
theorem wl_ex {C C' : Cn} {W : Wd} (x : Cex C C') : ∀ ℓ, wl C' W ℓ = wl C W ℓ
  | .g => rfl
  | .m => by
    show jn (hid C'.H0 C'.vs0) W.G = jn (hid C.H0 C.vs0) W.G
    rw [x.h0, x.vs0]
  | .h => rfl
theorem EntOk.ex {C C' : Cn} {W : Wd} {y : Option V} (x : Cex C C') : ∀ {e : Ent}, EntOk C' W y e ↔ EntOk C W y e
  | .no => Iff.rfl
  | .val ℓ R a => by
    show (ℓ ≠ .h ∧ ∃ v, y = some v ∧ R.is (wl C' W ℓ) v a) ↔ (ℓ ≠ .h ∧ ∃ v, y = some v ∧ R.is (wl C W ℓ) v a)
    rw [wl_ex x]
  | .own p ℓ R l => by
    show (ℓ ≠ .h ∧ y = some (.ref p) ∧ p ∉ W.vs ∧ C'.H0 p = none ∧ W.G p = none ∧ ∃ xs, W.H p = some (.lst xs) ∧ All2 (R.is (wl C' W ℓ)) xs l) ↔ (ℓ ≠ .h ∧ y = some (.ref p) ∧ p ∉ W.vs ∧ C.H0 p = none ∧ W.G p = none ∧ ∃ xs, W.H p = some (.lst xs) ∧ All2 (R.is (wl C W ℓ)) xs l)
    rw [wl_ex x, x.h0]
  | .vol p => by
    show (y = some (.ref p) ∧ p ∈ W.vs ∧ ¬ C'.isT p) ↔ (y = some (.ref p) ∧ p ∈ W.vs ∧ ¬ C.isT p)
    unfold Cn.isT
    rw [x.tb]
  | .raw v => Iff.rfl
  | .ob v ps ℓ S a => by
    show (ℓ ≠ .h ∧ y = some v ∧ (∀ p ∈ ps, p ∉ W.vs ∧ C'.H0 p = none ∧ W.G p = none ∧ W.H p ≠ none) ∧ S.is (wl C' W ℓ) W.H v ps a) ↔ (ℓ ≠ .h ∧ y = some v ∧ (∀ p ∈ ps, p ∉ W.vs ∧ C.H0 p = none ∧ W.G p = none ∧ W.H p ≠ none) ∧ S.is (wl C W ℓ) W.H v ps a)
    rw [wl_ex x, x.h0]
theorem World.down {C C' : Cn} {σ : Sg} {W : Wd} {Γ : List Ent} (x : Cex C C') (w : World C' σ W Γ) : World C σ W Γ :=
  ⟨w.b.down x, w.len, fun i e h => by
    obtain ⟨y, h1, h2⟩ := w.ent i e h
    exact ⟨y, h1, (EntOk.ex x).mp h2⟩, w.dis⟩
/-- .. from a world whose own part holds the floor -/
theorem World.raise {C : Cn} {σ : Sg} {W : Wd} {Γ : List Ent} (w : World C σ W Γ) {F : Hp} (hF : Same C.F F) (h : Same F W.G) : World { C with F := F } σ W Γ := by
  have x : Cex C { C with F := F } := ⟨rfl, rfl, rfl, hF, rfl, rfl⟩
  exact ⟨⟨w.b.base, w.b.vol, w.b.vsub, w.b.vnew, w.b.v0, w.b.gv, w.b.g, w.b.gn, h, w.b.tab, w.b.knb⟩, w.len, fun i e k => by
    obtain ⟨y, h1, h2⟩ := w.ent i e k
    exact ⟨y, h1, (EntOk.ex x).mpr h2⟩, w.dis⟩
/-- what is wanted of a return | of an exception -/
def RetOk (C : Cn) (D : Ends) {β : Type} (R : Rl β) (P : β → Prop) : Prop := ∀ v W b, Bok C W → R.is W.G v b → P b → D.rt v W.H
def ExcOk (C : Cn) (E : XK) (P : Addr → Prop) : Prop := ∀ c W, Bok C W → P c → E (.ref c) none W.H
theorem RetOk.ex {C C' : Cn} {D : Ends} {β : Type} {R : Rl β} {P : β → Prop} (h : RetOk C D R P) (x : Cex C C') : RetOk C' D R P := fun v W b k => h v W b (k.down x)
theorem ExcOk.ex {C C' : Cn} {E : XK} {P : Addr → Prop} (h : ExcOk C E P) (x : Cex C C') : ExcOk C' E P := fun c W k => h c W (k.down x)
theorem exc0 {C : Cn} {E : XK} : ExcOk C E (fun _ => False) := fun _ _ _ h => h.elim
def tCut (t u : TS) : TS := fun D σ H => ∃ Mid : L2.St → Hp → Prop, t { D with nx := Mid } σ H ∧ ∀ σ' H', Mid σ' H' → u D σ' H'
theorem pss_cut {X : Cx} {st : Stmt} {rest : List Stmt} {t u : TS} (h1 : PS X st t) (h2 : PSs X rest u) : PSs X (st :: rest) (tCut t u) := by
  refine ⟨fun pins s σ H D I h => ?_⟩
  obtain ⟨Mid, hm, hu⟩ := h
  refine wpAny_execs_cons (thn (h1.run pins s σ H { D with nx := Mid } I hm) fun f s1 q => ?_)
  cases f with
  | next =>
    obtain ⟨σ', H', I', q⟩ := q
    exact h2.run pins s1 σ' H' D I' (hu σ' H' q)
  | ret v => exact q
  | brk => exact q
  | cont => exact q
section
variable {C : Cn} {Γ : List Ent} {α β γ δ : Type} {R : Rl α} {S : Rl β} {T : Rl γ} {P : α → Prop} {Pl : List α → Prop} {P' : β → Prop} {ta tb tc te : TE} {ℓ ℓ' c c' : Lv} {K : PySem.W.Frag} {D : Ends} {t u u' : TS}
theorem Go.le {Γ' : List Ent} (h : LeG Γ Γ') (g : Go C t D Γ') : Go C t D Γ := fun σ W w => g σ W (w.le h)
theorem hol_in {S : Type} {Γs : S → List Ent} {J : S → Prop} (s : S) (hJ : J s) (h : LeG Γ (Γs s)) : Nx C (Hol C Γs J) Γ := fun σ W w => ⟨s, W, rfl, w.le h, hJ⟩
theorem q_next (h : Nx C D.nx Γ) : Go C tNext D Γ := h
/-- x = e -/
theorem q_asg {i : Nat} (h : EvP C te Γ ℓ R P) (k : ∀ a, P a → Go C u D (Γ.set i (.val ℓ R a))) (hl : ℓ ≠ .h := by decide) : Go C (tSeq (tAsg te (gName i)) u) D Γ := fun σ W w =>
  h σ W w _ fun v W' a s b r p => k a p _ W' ((w.stp b s).setv i hl r)
/-- x = a new list, ours -/
theorem q_asgN {i : Nat} (h : EvN C te Γ ℓ R Pl) (k : ∀ p l, Pl l → Go C u D (Γ.set i (.own p ℓ R l))) (hl : ℓ ≠ .h := by decide) : Go C (tSeq (tAsg te (gName i)) u) D Γ := fun σ W w =>
  h σ W w _ fun p W' xs l s b n hH hG r z => k p l z _ W' ((w.stp b s).set i ⟨hl, rfl, by rw [s.vs]; exact w.b.nvs n, w.b.h0 n, hG, xs, hH, r⟩ fun q hq j q' hj e => by
    cases List.mem_singleton.mp hq
    exact w.adne n j q' e)
theorem q_drop (h : EvP C te Γ ℓ R P) (k : ∀ a, P a → Go C u D Γ) : Go C (tSeq (tDrop te) u) D Γ := fun σ W w => h σ W w _ fun v W' a s b r p => k a p _ W' (w.stp b s)
/-- our list is ours no more -/
theorem q_frz {i : Nat} {p : Addr} {l : List α} (h : Γ[i]? = some (.own p ℓ R l)) (k : Go C u D (Γ.set i (.val ℓ (rList R) l))) : Go C u D Γ := fun σ W w => by
  obtain ⟨x, h1, hl, h2, hv, h0, hG, xs, hH, r⟩ := w.get h
  subst h2
  have bf := w.b.frz (o := .lst xs) h0 hv hH hG
  have lv := frz_lv (C := C) w.b (p := p) (o := .lst xs) hG
  have ef : σ = σ.set i (some (.ref p)) := by
    refine List.ext_getElem? fun j => ?_
    by_cases e : i = j
    · subst e
      rw [List.getElem?_set_self (w.lt h), h1]
    · rw [List.getElem?_set_ne e]
  have wf : World C σ (W.frz p (.lst xs)) (Γ.set i .no) := by
    have w0 := w.set i (x := some (.ref p)) (e := .no) trivial fun q hq => by cases hq
    rw [← ef] at w0
    refine ⟨bf, w0.len, fun j e hj => ?_, w0.dis⟩
    obtain ⟨y, y1, y2⟩ := w0.ent j e hj
    refine ⟨y, y1, ?_⟩
    cases e with
    | no => trivial
    | val ℓ' R' a => exact ⟨y2.1, let ⟨v, e, q⟩ := y2.2; ⟨v, e, R'.mono (lv ℓ') q⟩⟩
    | own q ℓ' R' l' =>
      obtain ⟨z1, z2, z3, z4, z5, ys, z6, z7⟩ := y2
      refine ⟨z1, z2, z3, z4, ?_, ys, z6, z7.imp fun _ _ => R'.mono (lv ℓ')⟩
      have ne : q ≠ p := by
        by_cases e : i = j
        · subst e
          rw [List.getElem?_set_self (by rw [← w.len]; exact w.lt h)] at hj
          cases hj
        · rw [List.getElem?_set_ne e] at hj
          exact Ne.symm (w.dis i j p q e (.own h) (.own hj))
      show upd W.G p _ q = none
      rw [upd_ne ne]; exact z5
    | vol q => exact y2
    | raw v => exact y2
    | ob v ps ℓ' S' a' =>
      obtain ⟨z1, z2, z3, z4⟩ := y2
      refine ⟨z1, z2, fun q m => ?_, S'.mono (lv ℓ') (fun _ _ => rfl) z4⟩
      obtain ⟨k1, k2, k3, k4⟩ := z3 q m
      have ne : q ≠ p := by
        by_cases e : i = j
        · subst e
          rw [List.getElem?_set_self (by rw [← w.len]; exact w.lt h)] at hj
          cases hj
        · rw [List.getElem?_set_ne e] at hj
          exact Ne.symm (w.dis i j p q e (.own h) (.ob hj m))
      refine ⟨k1, k2, ?_, k4⟩
      show upd W.G p _ q = none
      rw [upd_ne ne]; exact k3
  have w1 := wf.setv i (ℓ := ℓ) (R := rList R) (v := .ref p) (a := l) hl ⟨p, xs, rfl, frz_at w.b h0 hv hH ℓ, r.imp fun _ _ => R.mono (lv ℓ)⟩
  rw [← ef, List.set_set] at w1
  exact k σ (W.frz p (.lst xs)) w1
/-- our list changes -/
theorem World.own_set {σ : Sg} {W : Wd} (w : World C σ W Γ) {i : Nat} {p : Addr} {l l' : List α} {xs' : List V} (h : Γ[i]? = some (.own p ℓ R l)) (r : All2 (R.is (wl C W ℓ)) xs' l') : World C σ (W.lay p (.lst xs')) (Γ.set i (.own p ℓ R l')) := by
  obtain ⟨x, h1, hl, h2, hv, h0, hG, xs, hH, _⟩ := w.get h
  subst h2
  have lv : ∀ ℓ' : Lv, ℓ' ≠ .h → Same (wl C W ℓ') (wl C (W.lay p (.lst xs')) ℓ') := fun ℓ' hn => by
    cases ℓ' with
    | g => exact Same.refl _
    | m => exact Same.refl _
    | h => exact absurd rfl hn
  refine ⟨w.b.lay h0 hv hG, by rw [List.length_set]; exact w.len, fun j e hj => ?_, ?_⟩
  · by_cases e' : i = j
    · subst e'
      rw [List.getElem?_set_self (by rw [← w.len]; exact w.lt h)] at hj
      cases hj
      exact ⟨_, h1, hl, rfl, hv, h0, hG, xs', upd_same, r.imp fun _ _ => R.mono (lv ℓ hl)⟩
    · rw [List.getElem?_set_ne e'] at hj
      obtain ⟨y, y1, y2⟩ := w.ent j e hj
      refine ⟨y, y1, ?_⟩
      cases e with
      | no => trivial
      | val ℓ' R' a => exact ⟨y2.1, let ⟨v, e, q⟩ := y2.2; ⟨v, e, R'.mono (lv ℓ' y2.1) q⟩⟩
      | own q ℓ' R' l' =>
        obtain ⟨z1, z2, z3, z4, z5, ys, z6, z7⟩ := y2
        have ne : q ≠ p := Ne.symm (w.dis i j p q e' (.own h) (.own hj))
        exact ⟨z1, z2, z3, z4, z5, ys, by show upd W.H p _ q = _; rw [upd_ne ne]; exact z6, z7.imp fun _ _ => R'.mono (lv ℓ' z1)⟩
      | vol q => exact y2
      | raw v => exact y2
      | ob v ps ℓ' S' a' =>
        obtain ⟨z1, z2, z3, z4⟩ := y2
        have ne : ∀ q ∈ ps, q ≠ p := fun q m => Ne.symm (w.dis i j p q e' (.own h) (.ob hj m))
        refine ⟨z1, z2, fun q m => ?_, S'.mono (lv ℓ' z1) (fun q m => upd_ne (ne q m)) z4⟩
        obtain ⟨k1, k2, k3, k4⟩ := z3 q m
        exact ⟨k1, k2, k3, by show upd W.H p _ q ≠ none; rw [upd_ne (ne q m)]; exact k4⟩
  · have key : ∀ (j : Nat) (q : Addr), adAt (Γ.set i (.own p ℓ R l')) j q → adAt Γ j q := fun j q ⟨u, hu, hm⟩ => by
      by_cases e : i = j
      · subst e
        rw [List.getElem?_set_self (by rw [← w.len]; exact w.lt h)] at hu
        cases hu
        exact ⟨_, h, hm⟩
      · rw [List.getElem?_set_ne e] at hu
        exact ⟨u, hu, hm⟩
    exact fun a b q q' hab hq hq' => w.dis a b q q' hab (key a q hq) (key b q' hq')
theorem own_lit {σ : Sg} {W : Wd} (w : World C σ W Γ) {i : Nat} {p : Addr} {l : List α} (h : Γ[i]? = some (.own p ℓ R l)) : σ[i]? = some (some (.ref p)) ∧ ∃ xs, W.H p = some (.lst xs) ∧ All2 (R.is (wl C W ℓ)) xs l := by
  obtain ⟨x, h1, hl, h2, hv, h0, hG, xs, hH, r⟩ := w.get h
  subst h2
  exact ⟨h1, xs, hH, r⟩
/-- x.append(e) -/
theorem q_app {i : Nat} {p : Addr} {l : List α} (h : Γ[i]? = some (.own p ℓ R l)) (he : EvP C te Γ ℓ R P) (hz : l.length < 1000000) (k : ∀ a, P a → Go C u D (Γ.set i (.own p ℓ R (l ++ [a])))) :
    Go C (tSeq (tDrop (tBM K "list" rAppend (tVar i) (tCons te tNil))) u) D Γ := fun σ W w => by
  obtain ⟨h1, xs, hH, r⟩ := own_lit w h
  refine ⟨_, h1, .inl ⟨rfl, _, .inl (.inl hH)⟩, he σ W w _ fun v W' a s b rv pa => ?_⟩
  have w' := w.stp b s
  obtain ⟨_, xs', hH', r'⟩ := own_lit w' h
  exact ⟨p, xs', v, rfl, rfl, hH', by rw [r'.len]; exact Nat.lt_of_lt_of_le hz sizeLine_big, k a pa σ _ (w'.own_set h (r'.app (ys := [v]) ⟨rv, trivial⟩))⟩
/-- x.pop(), as a value of a name -/
theorem q_pop {i j : Nat} {p : Addr} {l : List α} [Inhabited α] (h : Γ[i]? = some (.own p ℓ R l)) (hz : l ≠ []) (hij : i ≠ j) (k : Go C u D ((Γ.set i (.own p ℓ R l.dropLast)).set j (.val ℓ R (gtB l 1)))) :
    Go C (tSeq (tAsg (tBM0 K "list" rPop (tVar i)) (gName j)) u) D Γ := fun σ W w => by
  obtain ⟨h1, xs, hH, r⟩ := own_lit w h
  have hp : 0 < l.length := List.length_pos_iff.mpr hz
  obtain ⟨v, hv, rv⟩ := r.get (gtB_get (l := l) (k := 1) (by omega))
  refine ⟨_, h1, .inl ⟨rfl, _, .inl (.inl hH)⟩, p, xs, v, rfl, rfl, hH, by rw [r.len]; exact hv, ?_⟩
  have w1 := w.own_set (l' := l.dropLast) h r.dropLast
  have hl : ℓ ≠ .h := by
    obtain ⟨_, _, hl, _⟩ := w.get h
    exact hl
  refine k _ _ (w1.setv j hl ?_)
  cases ℓ with
  | g => exact rv
  | m => exact rv
  | h => exact absurd rfl hl
theorem q_popD {i : Nat} {p : Addr} {l : List α} [Inhabited α] (h : Γ[i]? = some (.own p ℓ R l)) (hz : l ≠ []) (k : Go C u D (Γ.set i (.own p ℓ R l.dropLast))) :
    Go C (tSeq (tDrop (tBM0 K "list" rPop (tVar i))) u) D Γ := fun σ W w => by
  obtain ⟨h1, xs, hH, r⟩ := own_lit w h
  have hp : 0 < l.length := List.length_pos_iff.mpr hz
  obtain ⟨v, hv, rv⟩ := r.get (gtB_get (l := l) (k := 1) (by omega))
  exact ⟨_, h1, .inl ⟨rfl, _, .inl (.inl hH)⟩, p, xs, v, rfl, rfl, hH, by rw [r.len]; exact hv, k _ _ (w.own_set (l' := l.dropLast) h r.dropLast)⟩
theorem ixN_of {n : Nat} {i : Int} (h : 0 ≤ i ∧ i < n) : ixN n i = some i.toNat := by
  unfold ixN
  rw [if_pos h.1, if_pos h.2]
/-- x[e] = v -/
theorem q_set {i : Nat} {p : Addr} {l : List α} {Pi : Int → Prop} (h : Γ[i]? = some (.own p ℓ R l)) (he : EvP C te Γ ℓ R P) (hx : EvP C ta Γ .h rInt Pi) (hz : ∀ n, Pi n → 0 ≤ n ∧ n < l.length) (k : ∀ a n, P a → Pi n → Go C u D (Γ.set i (.own p ℓ R (l.set n.toNat a)))) :
    Go C (tSeq (tAsg te (gSub (tVar i) ta rSetL)) u) D Γ := fun σ W w => he σ W w _ fun v W1 a s1 b1 r1 p1 => by
  have w1 := w.stp b1 s1
  obtain ⟨h1, xs, hH, r⟩ := own_lit w1 h
  refine ⟨_, h1, hx σ W1 w1 _ fun y W2 n s2 b2 r2 p2 => ?_⟩
  have w2 := w1.stp b2 s2
  obtain ⟨_, xs', hH', r'⟩ := own_lit w2 h
  exact ⟨p, xs', n, n.toNat, rfl, r2, hH', ixN_of (by rw [r'.len]; exact hz n p2), k a n p1 p2 σ _ (w2.own_set h (r'.set (R.mono (s2.lv b1 ℓ) r1) n.toNat))⟩
/-- if -/
theorem q_if {tt : TT} {Pb : Bool → Prop} (h : EvB C tt Γ Pb) (h1 : Pb true → Go C t { D with nx := u D } Γ) (h2 : Pb false → Go C u' { D with nx := u D } Γ) : Go C (tSeq (tIfS tt t u') u) D Γ := fun σ W w => h σ W w _ fun b W' s bk p => by
  cases b with
  | true => exact h1 p σ W' (w.stp bk s)
  | false => exact h2 p σ W' (w.stp bk s)
theorem q_ifC {tt : TT} {p : Prop} (h : EvC C tt Γ p) (h1 : p → Go C t { D with nx := u D } Γ) (h2 : ¬ p → Go C u' { D with nx := u D } Γ) : Go C (tSeq (tIfS tt t u') u) D Γ :=
  q_if h (fun e => h1 (e.mp rfl)) fun e => h2 fun z => by have := e.mpr z; cases this
/-- an if, its branches joined behind it -/
theorem q_cut {S : Type} (Γs : S → List Ent) (J : S → Prop) (h : Go C t { D with nx := Hol C Γs J } Γ) (k : ∀ s, J s → Go C u D (Γs s)) : Go C (tCut t u) D Γ := fun σ W w =>
  ⟨_, h σ W w, fun σ' H' ⟨s, W', e, w', hJ⟩ => by subst e; exact k s hJ σ' W' w'⟩
theorem c_if {tt : TT} {Pb : Bool → Prop} (h : EvB C tt Γ Pb) (h1 : Pb true → Go C t D Γ) (h2 : Pb false → Go C u' D Γ) : Go C (tIfS tt t u') D Γ := fun σ W w => h σ W w _ fun b W' s bk p => by
  cases b with
  | true => exact h1 p σ W' (w.stp bk s)
  | false => exact h2 p σ W' (w.stp bk s)
theorem c_ifC {tt : TT} {p : Prop} (h : EvC C tt Γ p) (h1 : p → Go C t D Γ) (h2 : ¬ p → Go C u' D Γ) : Go C (tIfS tt t u') D Γ :=
  c_if h (fun e => h1 (e.mp rfl)) fun e => h2 fun z => by have := e.mpr z; cases this
/-- return -/
theorem q_ret (h : EvP C te Γ .g R P) {Pr : α → Prop} (hR : RetOk C D R Pr) (k : ∀ a, P a → Pr a) : Go C (tSeq (tRet te) u) D Γ := fun σ W w => h σ W w _ fun v W' a s b r p => hR v W' a b r (k a p)
/-- a def without a return: its end -/
theorem q_retE {Pr : Unit → Prop} (hR : RetOk C D rNone Pr) (hn : ∀ H, D.rt .non H → ∀ σ, D.nx σ H) (k : Pr ()) : Go C tNext D Γ := fun σ W w => hn _ (hR _ W () w.b rfl k) _
/-- raise -/
theorem q_raise {E : XK} {c : Addr} {Pe : Addr → Prop} (hE : ExcOk C E Pe) (k : Pe c) : Go C (tSeq (fun _ σ H => E (.ref c) none H) u) D Γ := fun σ W w => hE c W w.b k
/-- for x in .. -/
theorem q_forG {S : Type} {wi : TI} {g : TG} (Γs : S → List Ent) (I : List α → Nat → S → Prop) (Γ' : S → α → List Ent) (hi : EvI C true wi Γ ℓ R Pl) (h0 : ∀ l, Pl l → ∃ s, I l 0 s ∧ LeG Γ (Γs s))
    (hg : ∀ (C' : Cn) (σ : Sg) W x a s (Q : Sg → Hp → Prop), World C' σ W (Γs s) → R.is (wl C' W ℓ) x a → (∀ σ2, World C' σ2 W (Γ' s a) → Q σ2 W.H) → g x σ W.H Q)
    (hs : ∀ C', Cex C C' → ∀ l i a s, Pl l → l[i]? = some a → I l i s → Go C' t { D with nx := Hol C' Γs (I l (i + 1)), ct := Hol C' Γs (I l (i + 1)), bk := u D } (Γ' s a)) (hd : ∀ l s, Pl l → I l l.length s → Go C u D (Γs s)) : Go C (tSeq (tFor wi g t) u) D Γ := fun σ W w =>
  hi σ W w _ fun J W1 l ok s1 b1 o1 po gs pl => by
    obtain ⟨s0, i0, le0⟩ := h0 l pl
    have w1 := (w.stp b1 s1).le le0
    have x1 : Cex C { C with F := W1.G } := ⟨rfl, rfl, rfl, b1.fl, rfl, rfl⟩
    refine ⟨fun i m σ H => m = l.length - i ∧ i ≤ l.length ∧ Hol { C with F := W1.G } Γs (I l i) σ H, ⟨l.length, by omega, Nat.zero_le _, s0, W1, rfl, w1.raise b1.fl (Same.refl _), i0⟩, ?_⟩
    rintro i m σ' H ⟨rfl, hil, s, Z, rfl, wz, hI⟩
    have bz : Bok C Z := wz.b.down x1
    have okz := po W1 Z b1 bz wz.b.fl o1
    by_cases hlt : i < l.length
    · refine .inr ⟨gs.go Z i bz okz hlt, Hol { C with F := W1.G } Γs (I l (i + 1)), fun σ2 H2 p' => ⟨l.length - (i + 1), by omega, rfl, hlt, p'⟩, fun x H' y => ?_⟩
      obtain ⟨Z', rfl, bz', sz', rx⟩ := gs.yld Z i x H' l[i] bz okz (List.getElem?_eq_getElem hlt) y
      have bz2 : Bok { C with F := W1.G } Z' := ⟨bz'.base, bz'.vol, bz'.vsub, bz'.vnew, bz'.v0, bz'.gv, bz'.g, bz'.gn, wz.b.fl.trans sz'.g, bz'.tab, bz'.knb⟩
      have w' := wz.stp bz2 sz'
      exact hg _ σ' Z' x l[i] s _ w' rx fun σ2 w2 => hs _ x1 l i l[i] s pl (List.getElem?_eq_getElem hlt) hI σ2 Z' w2
    · have e : i = l.length := by omega
      subst e
      exact .inl ⟨gs.stop Z bz okz, hd l s pl hI σ' Z (wz.down x1)⟩
theorem q_for {S : Type} {wi : TI} {j : Nat} (Γs : S → List Ent) (I : List α → Nat → S → Prop) (hi : EvI C true wi Γ ℓ R Pl) (h0 : ∀ l, Pl l → ∃ s, I l 0 s ∧ LeG Γ (Γs s))
    (hs : ∀ C', Cex C C' → ∀ l i a s, Pl l → l[i]? = some a → I l i s → Go C' t { D with nx := Hol C' Γs (I l (i + 1)), ct := Hol C' Γs (I l (i + 1)), bk := u D } ((Γs s).set j (.val ℓ R a))) (hd : ∀ l s, Pl l → I l l.length s → Go C u D (Γs s)) (hl : ℓ ≠ .h := by decide) : Go C (tSeq (tFor wi (gName j) t) u) D Γ :=
  q_forG Γs I (fun s a => (Γs s).set j (.val ℓ R a)) hi h0 (fun C' σ W x a s Q w r k => k _ (w.setv j hl r)) hs hd
theorem q_for2 {S : Type} {wi : TI} {i j : Nat} {Pq : List (α × β) → Prop} {S' : Rl β} (Γs : S → List Ent) (I : List (α × β) → Nat → S → Prop) (hi : EvI C true wi Γ ℓ (rPair R S') Pq) (h0 : ∀ l, Pq l → ∃ s, I l 0 s ∧ LeG Γ (Γs s))
    (hs : ∀ C', Cex C C' → ∀ l n a s, Pq l → l[n]? = some a → I l n s → Go C' t { D with nx := Hol C' Γs (I l (n + 1)), ct := Hol C' Γs (I l (n + 1)), bk := u D } (((Γs s).set i (.val ℓ R a.1)).set j (.val ℓ S' a.2))) (hd : ∀ l s, Pq l → I l l.length s → Go C u D (Γs s)) (hl : ℓ ≠ .h := by decide) :
    Go C (tSeq (tFor wi (gTup K 2 (gCons (gName i) (gCons (gName j) gNil))) t) u) D Γ :=
  q_forG Γs I (fun s a => ((Γs s).set i (.val ℓ R a.1)).set j (.val ℓ S' a.2)) hi h0 (fun C' σ W x a s Q w ⟨q, y, z, e, h, r1, r2⟩ k =>
    ⟨q, [y, z], e, sqT_of (c := ℓ) w.b (.inl h), rfl, y, [z], rfl, z, [], rfl, rfl, k _ ((w.setv i hl r1).setv j hl r2)⟩) hs hd
/-- while -/
theorem q_while {S : Type} {tt : TT} (Γs : S → List Ent) (I : S → Prop) (μ : S → Nat) (p : S → Prop) (s0 : S) (i0 : I s0) (le0 : LeG Γ (Γs s0)) (hc : ∀ s, I s → EvC C tt (Γs s) (p s))
    (hs : ∀ s, I s → p s → Go C t { D with nx := Hol C Γs (fun s' => I s' ∧ μ s' < μ s), ct := Hol C Γs (fun s' => I s' ∧ μ s' < μ s), bk := u D } (Γs s)) (hd : ∀ s, I s → ¬ p s → Go C u D (Γs s)) : Go C (tSeq (tWhile tt t) u) D Γ := fun σ W w => by
  refine ⟨fun m σ H => Hol C Γs (fun s => I s ∧ μ s = m) σ H, ⟨μ s0, s0, W, rfl, w.le le0, i0, rfl⟩, ?_⟩
  rintro m σ' H ⟨s, Z, rfl, wz, hI, rfl⟩
  refine hc s hI σ' Z wz _ fun b Z' sz bz e => ?_
  cases b with
  | true =>
    show ∃ N, _
    exact ⟨_, fun σ2 H2 ⟨s', Z2, e2, w2, i2, hm⟩ => ⟨μ s', hm, s', Z2, e2, w2, i2, rfl⟩, hs s hI (e.mp rfl) σ' Z' (wz.stp bz sz)⟩
  | false => exact hd s hI (fun z => by have := e.mpr z; cases this) σ' Z' (wz.stp bz sz)
end
end GL


set_option Elab.async false
set_option linter.all false
set_option maxRecDepth 100000
set_option maxHeartbeats 1000000
namespace GL
open PySem L2
/-! ### promises -/
/-- what is new in H' -/
def fresh (H H' : Hp) : Hp := fun p => match H p with
  | none => H' p
  | some _ => none
theorem fresh_some {H H' : Hp} {p : Addr} {o : HO} (h : fresh H H' p = some o) : H p = none ∧ H' p = some o := by
  unfold fresh at h
  cases e : H p with
  | none => rw [e] at h; exact ⟨rfl, h⟩
  | some u => rw [e] at h; cases h
theorem fresh_of {H H' : Hp} {p : Addr} (h : H p = none) : fresh H H' p = H' p := by unfold fresh; rw [h]
abbrev Args (α : Type) := List V → Hp → α → Prop
def aNil : Args Unit := fun vs _ _ => vs = []
def aCons {α β : Type} (R : Rl α) (A : Args β) : Args (α × β) := fun vs H a => ∃ v r, vs = v :: r ∧ R.is H v a.1 ∧ A r H a.2
/-- called with such arguments it hands back a value that is new as a whole, or raises; what stood stands -/
def spF {α β : Type} (A : Args α) (pre : α → Prop) (R : Rl β) (post : α → β → Prop) (exc : α → Addr → Prop) : Sp := fun vs H Q E =>
  ∃ a, A vs H a ∧ pre a ∧ (∀ v H' b, Same H H' → R.is (fresh H H') v b → post a b → Q v H') ∧ (∀ c H', Same H H' → exc a c → E (.ref c) none H')
/-- the same, the first argument a row that it changes, keeping PI -/
def spV {α β : Type} (PI : HO → Prop) (A : Args α) (pre : α → Prop) (R : Rl β) (post : α → β → Prop) : Sp := fun vs H Q _ =>
  ∃ p r a o, vs = .ref p :: r ∧ H p = some o ∧ PI o ∧ A r (hid H [p]) a ∧ pre a ∧ (∀ v H' b, Same (hid H [p]) (hid H' [p]) → (∃ o', H' p = some o' ∧ PI o') → R.is (fresh H H') v b → post a b → Q v H')
def EvX (C : Cn) (te : TE) (Γ : List Ent) (Res : Wd → V → Hp → Prop) : Prop :=
  ∀ σ W, World C σ W Γ → ∀ Q : VK, (∀ W1 v H', Stp W W1 → Bok C W1 → Res W1 v H' → Q v H') → te σ W.H Q
/-- W1, then a call that has left v and H' -/
structure ResF {β : Type} (C : Cn) (R : Rl β) (P : β → Prop) (W : Wd) (v : V) (H' : Hp) : Prop where
  keep : ∀ p o, W.H p = some o → p ∉ W.vs → H' p = some o
  vol : ∀ p ∈ W.vs, ∃ o, H' p = some o ∧ (¬ C.isT p → C.PI o)
  tab : ∀ P q, C.tb = some (P, q) → ∃ ps, H' P = some (.tbl ps) ∧ Cods q (jn C.kn W.G) ps
  val : ∃ b, R.is (fresh W.H H') v b ∧ P b
section
variable {C : Cn} {Γ : List Ent} {α β γ δ : Type} {R : Rl α} {S : Rl β} {P : α → Prop} {te : TE} {ta : TA} {ℓ : Lv}
/-- the heap as it is, what is new put among what never changes (whole) or not (bare) -/
theorem bare_ok {W : Wd} (b : Bok C W) {H' : Hp} (k : ∀ p o, W.H p = some o → p ∉ W.vs → H' p = some o) (kv : ∀ p ∈ W.vs, ∃ o, H' p = some o ∧ (¬ C.isT p → C.PI o)) (kt : ∀ P q, C.tb = some (P, q) → ∃ ps, H' P = some (.tbl ps) ∧ Cods q (jn C.kn W.G) ps) : Bok C ⟨H', W.G, W.vs⟩ ∧ Stp W ⟨H', W.G, W.vs⟩ :=
  ⟨⟨(fun p o e n => by
      have h1 := b.base p o e n
      refine k p o h1 fun q => ?_
      have := b.vnew p q n
      rw [e] at this; cases this), kv, b.vsub, b.vnew, b.v0, b.gv, fun p o e => k p o (b.g p o e) (b.novs e), b.gn, b.fl, fun P q e => ⟨(b.tab P q e).1, kt P q e⟩, b.knb⟩,
   ⟨rfl, Same.refl _, fun p o e => by
      obtain ⟨e1, e2⟩ := hid_some e
      exact (hid_out e1).trans (k p o e2 e1), fun _ _ e => .inl e⟩⟩
theorem whole_ok {W : Wd} (b : Bok C W) {H' : Hp} (k : ∀ p o, W.H p = some o → p ∉ W.vs → H' p = some o) (kv : ∀ p ∈ W.vs, ∃ o, H' p = some o ∧ (¬ C.isT p → C.PI o)) (kt : ∀ P q, C.tb = some (P, q) → ∃ ps, H' P = some (.tbl ps) ∧ Cods q (jn C.kn W.G) ps) : Bok C ⟨H', jn W.G (fresh W.H H'), W.vs⟩ ∧ Stp W ⟨H', jn W.G (fresh W.H H'), W.vs⟩ ∧ Same (fresh W.H H') (jn W.G (fresh W.H H')) := by
  obtain ⟨b1, s1⟩ := bare_ok b k kv kt
  refine ⟨⟨b1.base, b1.vol, b1.vsub, b1.vnew, b1.v0, fun p hp => ?_, fun p o e => ?_, fun p o e => ?_, b.fl.trans jn_l, fun P q e => ⟨(b.tab P q e).1, let ⟨ps, h1, h2⟩ := kt P q e; ⟨ps, h1, h2.mono (jn_mono jn_l)⟩⟩, b.knb⟩, ⟨rfl, jn_l, s1.h, fun p o e => ?_⟩, fun p o e => ?_⟩
  · show jn _ _ p = none
    rw [jn_r (b.gv p hp)]
    obtain ⟨o, ho, _⟩ := b.vol p hp
    unfold fresh
    rw [ho]
  · rcases jn_some e with e | ⟨_, e⟩
    · exact b1.g p o e
    · exact (fresh_some e).2
  · rcases jn_some e with e | ⟨_, e⟩
    · exact b.gn p o e
    · exact b.h0 (fresh_some e).1
  · rcases jn_some e with e | ⟨_, e⟩
    · exact .inl e
    · exact .inr (fresh_some e).1
  · rw [jn_r (b.g0 (fresh_some e).1)]
    exact e
theorem ev_call (h : EvX C te Γ (ResF C R P)) : EvP C te Γ .g R P := fun σ W w Q q => h σ W w Q fun W1 v H' s1 b1 r => by
  obtain ⟨b, rb, pb⟩ := r.val
  obtain ⟨b2, s2, sm⟩ := whole_ok b1 r.keep r.vol r.tab
  exact q v _ b (s1.trans w.b b1 s2) b2 (R.mono sm rb) pb
/-- a new list of flat items, ours -/
theorem en_call {Pl : List α → Prop} (f : Flat R) (h : EvX C te Γ (ResF C (rList R) Pl)) : EvN C te Γ ℓ R Pl := fun σ W w Q q => h σ W w Q fun W1 v H' s1 b1 r => by
  obtain ⟨b, ⟨p, xs, e, hp, t⟩, pb⟩ := r.val
  subst e
  obtain ⟨b2, s2⟩ := bare_ok b1 r.keep r.vol r.tab
  obtain ⟨h1, h2⟩ := fresh_some hp
  exact q p ⟨H', W1.G, W1.vs⟩ xs b (s1.trans w.b b1 s2) b2 (w.b.back b1 s1 h1) h2 (b1.g0 h1) (t.imp fun _ _ h => f _ _ _ _ h) pb
theorem tab_same {W : Wd} (b : Bok C W) {H' : Hp} (s : Same W.H H') : ∀ P q, C.tb = some (P, q) → ∃ ps, H' P = some (.tbl ps) ∧ Cods q (jn C.kn W.G) ps := fun P q e =>
  let ⟨_, ps, h1, h2⟩ := b.tab P q e; ⟨ps, s _ _ h1, h2⟩
/-- ours from now on: what PI says of it -/
theorem exc_up {E : XK} {Pe : Addr → Prop} (hE : ExcOk C E Pe) {W : Wd} (b : Bok C W) (c : Addr) {H' : Hp} (s : Same W.H H') (p : Pe c) : E (.ref c) none H' := by
  obtain ⟨b1, _⟩ := bare_ok b (fun p o e _ => s p o e) (fun p hp => by
    obtain ⟨o, h1, h2⟩ := b.vol p hp
    exact ⟨o, s p o h1, h2⟩) (tab_same b s)
  exact hE c ⟨H', W.G, W.vs⟩ b1 p
theorem resF_of {W : Wd} (b : Bok C W) {v : V} {H' : Hp} (s : Same W.H H') {z : α} (r : R.is (fresh W.H H') v z) (p : P z) : ResF C R P W v H' :=
  ⟨fun q o e _ => s q o e, fun q hq => by
    obtain ⟨o, h1, h2⟩ := b.vol q hq
    exact ⟨o, s q o h1, h2⟩, tab_same b s, z, r, p⟩

theorem ex_call1 {α1 : Type} {R1 : Rl α1} {t1 : TE} {P1 : α1 → Prop} {R : Rl β} {pre : α1 × Unit → Prop} {post : α1 × Unit → β → Prop} {exc : α1 × Unit → Addr → Prop} {E : XK} {Pe : Addr → Prop} (h1 : EvP C t1 Γ .h R1 P1) (hp : ∀ a1, P1 a1 → pre (a1, ())) (hE : ExcOk C E Pe) (he : ∀ a1, P1 a1 → ∀ c, exc (a1, ()) c → Pe c) :
    EvX C (tCall (spF (aCons R1 aNil) pre R post exc) [] E (tCons t1 tNil)) Γ (ResF C R (fun b => ∃ a1, P1 a1 ∧ post (a1, ()) b)) := fun σ W w Q q =>
  h1 σ W w _ fun v1 W1 a1 s1 b1 r1 p1 =>
  have w1 := w.stp b1 s1
  ⟨(a1, ()), ⟨v1, _, rfl, (R1.mono (fun _ _ h => (hid_some h).2) r1), rfl⟩, hp a1 p1, fun v H' b sm rb po => q W1 v H' (s1) w1.b (resF_of w1.b sm rb ⟨a1, p1, po⟩), fun c H' sm ec => exc_up hE w1.b c sm (he a1 p1 c ec)⟩
theorem ed_call1 {α1 : Type} {R1 : Rl α1} {t1 : TE} {a1 : α1} {R : Rl β} {pre : α1 × Unit → Prop} {post : α1 × Unit → β → Prop} {exc : α1 × Unit → Addr → Prop} {E : XK} {Pe : Addr → Prop} (h1 : Ev C t1 Γ .h R1 a1) (hp : pre (a1, ())) (hE : ExcOk C E Pe) (he : ∀ c, exc (a1, ()) c → Pe c) :
    EvX C (tCall (spF (aCons R1 aNil) pre R post exc) [] E (tCons t1 tNil)) Γ (ResF C R (fun b => post (a1, ()) b)) := fun σ W w Q q =>
  ex_call1 h1 (fun x1 e1 => by subst e1; exact hp) hE (fun x1 e1 => by subst e1; exact he) σ W w Q fun W1 v H' s1 b1 r => q W1 v H' s1 b1 ⟨r.keep, r.vol, r.tab, by
    obtain ⟨b, rb, x1, e1, po⟩ := r.val
    subst e1
    exact ⟨b, rb, po⟩⟩
theorem ex_call2 {α1 : Type} {α2 : Type} {R1 : Rl α1} {t1 : TE} {P1 : α1 → Prop} {R2 : Rl α2} {t2 : TE} {P2 : α2 → Prop} {R : Rl β} {pre : α1 × α2 × Unit → Prop} {post : α1 × α2 × Unit → β → Prop} {exc : α1 × α2 × Unit → Addr → Prop} {E : XK} {Pe : Addr → Prop} (h1 : EvP C t1 Γ .h R1 P1) (h2 : EvP C t2 Γ .h R2 P2) (hp : ∀ a1 a2, P1 a1 → P2 a2 → pre (a1, a2, ())) (hE : ExcOk C E Pe) (he : ∀ a1 a2, P1 a1 → P2 a2 → ∀ c, exc (a1, a2, ()) c → Pe c) :
    EvX C (tCall (spF (aCons R1 (aCons R2 aNil)) pre R post exc) [] E (tCons t1 (tCons t2 tNil))) Γ (ResF C R (fun b => ∃ a1 a2, P1 a1 ∧ P2 a2 ∧ post (a1, a2, ()) b)) := fun σ W w Q q =>
  h1 σ W w _ fun v1 W1 a1 s1 b1 r1 p1 =>
  have w1 := w.stp b1 s1
  h2 σ W1 w1 _ fun v2 W2 a2 s2 b2 r2 p2 =>
  have w2 := w1.stp b2 s2
  ⟨(a1, a2, ()), ⟨v1, _, rfl, (R1.mono (fun _ _ h => (hid_some h).2) (R1.mono (s2.lv w1.b .h) r1)), ⟨v2, _, rfl, (R2.mono (fun _ _ h => (hid_some h).2) r2), rfl⟩⟩, hp a1 a2 p1 p2, fun v H' b sm rb po => q W2 v H' ((s1.trans w.b w1.b s2)) w2.b (resF_of w2.b sm rb ⟨a1, a2, p1, p2, po⟩), fun c H' sm ec => exc_up hE w2.b c sm (he a1 a2 p1 p2 c ec)⟩
theorem ed_call2 {α1 : Type} {α2 : Type} {R1 : Rl α1} {t1 : TE} {a1 : α1} {R2 : Rl α2} {t2 : TE} {a2 : α2} {R : Rl β} {pre : α1 × α2 × Unit → Prop} {post : α1 × α2 × Unit → β → Prop} {exc : α1 × α2 × Unit → Addr → Prop} {E : XK} {Pe : Addr → Prop} (h1 : Ev C t1 Γ .h R1 a1) (h2 : Ev C t2 Γ .h R2 a2) (hp : pre (a1, a2, ())) (hE : ExcOk C E Pe) (he : ∀ c, exc (a1, a2, ()) c → Pe c) :
    EvX C (tCall (spF (aCons R1 (aCons R2 aNil)) pre R post exc) [] E (tCons t1 (tCons t2 tNil))) Γ (ResF C R (fun b => post (a1, a2, ()) b)) := fun σ W w Q q =>
  ex_call2 h1 h2 (fun x1 x2 e1 e2 => by subst e1 e2; exact hp) hE (fun x1 x2 e1 e2 => by subst e1 e2; exact he) σ W w Q fun W1 v H' s1 b1 r => q W1 v H' s1 b1 ⟨r.keep, r.vol, r.tab, by
    obtain ⟨b, rb, x1, x2, e1, e2, po⟩ := r.val
    subst e1 e2
    exact ⟨b, rb, po⟩⟩
theorem ex_call3 {α1 : Type} {α2 : Type} {α3 : Type} {R1 : Rl α1} {t1 : TE} {P1 : α1 → Prop} {R2 : Rl α2} {t2 : TE} {P2 : α2 → Prop} {R3 : Rl α3} {t3 : TE} {P3 : α3 → Prop} {R : Rl β} {pre : α1 × α2 × α3 × Unit → Prop} {post : α1 × α2 × α3 × Unit → β → Prop} {exc : α1 × α2 × α3 × Unit → Addr → Prop} {E : XK} {Pe : Addr → Prop} (h1 : EvP C t1 Γ .h R1 P1) (h2 : EvP C t2 Γ .h R2 P2) (h3 : EvP C t3 Γ .h R3 P3) (hp : ∀ a1 a2 a3, P1 a1 → P2 a2 → P3 a3 → pre (a1, a2, a3, ())) (hE : ExcOk C E Pe) (he : ∀ a1 a2 a3, P1 a1 → P2 a2 → P3 a3 → ∀ c, exc (a1, a2, a3, ()) c → Pe c) :
    EvX C (tCall (spF (aCons R1 (aCons R2 (aCons R3 aNil))) pre R post exc) [] E (tCons t1 (tCons t2 (tCons t3 tNil)))) Γ (ResF C R (fun b => ∃ a1 a2 a3, P1 a1 ∧ P2 a2 ∧ P3 a3 ∧ post (a1, a2, a3, ()) b)) := fun σ W w Q q =>
  h1 σ W w _ fun v1 W1 a1 s1 b1 r1 p1 =>
  have w1 := w.stp b1 s1
  h2 σ W1 w1 _ fun v2 W2 a2 s2 b2 r2 p2 =>
  have w2 := w1.stp b2 s2
  h3 σ W2 w2 _ fun v3 W3 a3 s3 b3 r3 p3 =>
  have w3 := w2.stp b3 s3
  ⟨(a1, a2, a3, ()), ⟨v1, _, rfl, (R1.mono (fun _ _ h => (hid_some h).2) (R1.mono (s3.lv w2.b .h) (R1.mono (s2.lv w1.b .h) r1))), ⟨v2, _, rfl, (R2.mono (fun _ _ h => (hid_some h).2) (R2.mono (s3.lv w2.b .h) r2)), ⟨v3, _, rfl, (R3.mono (fun _ _ h => (hid_some h).2) r3), rfl⟩⟩⟩, hp a1 a2 a3 p1 p2 p3, fun v H' b sm rb po => q W3 v H' (((s1.trans w.b w1.b s2).trans w.b w2.b s3)) w3.b (resF_of w3.b sm rb ⟨a1, a2, a3, p1, p2, p3, po⟩), fun c H' sm ec => exc_up hE w3.b c sm (he a1 a2 a3 p1 p2 p3 c ec)⟩
theorem ed_call3 {α1 : Type} {α2 : Type} {α3 : Type} {R1 : Rl α1} {t1 : TE} {a1 : α1} {R2 : Rl α2} {t2 : TE} {a2 : α2} {R3 : Rl α3} {t3 : TE} {a3 : α3} {R : Rl β} {pre : α1 × α2 × α3 × Unit → Prop} {post : α1 × α2 × α3 × Unit → β → Prop} {exc : α1 × α2 × α3 × Unit → Addr → Prop} {E : XK} {Pe : Addr → Prop} (h1 : Ev C t1 Γ .h R1 a1) (h2 : Ev C t2 Γ .h R2 a2) (h3 : Ev C t3 Γ .h R3 a3) (hp : pre (a1, a2, a3, ())) (hE : ExcOk C E Pe) (he : ∀ c, exc (a1, a2, a3, ()) c → Pe c) :
    EvX C (tCall (spF (aCons R1 (aCons R2 (aCons R3 aNil))) pre R post exc) [] E (tCons t1 (tCons t2 (tCons t3 tNil)))) Γ (ResF C R (fun b => post (a1, a2, a3, ()) b)) := fun σ W w Q q =>
  ex_call3 h1 h2 h3 (fun x1 x2 x3 e1 e2 e3 => by subst e1 e2 e3; exact hp) hE (fun x1 x2 x3 e1 e2 e3 => by subst e1 e2 e3; exact he) σ W w Q fun W1 v H' s1 b1 r => q W1 v H' s1 b1 ⟨r.keep, r.vol, r.tab, by
    obtain ⟨b, rb, x1, x2, x3, e1, e2, e3, po⟩ := r.val
    subst e1 e2 e3
    exact ⟨b, rb, po⟩⟩
theorem ex_vol1 {α1 : Type} {R1 : Rl α1} {t1 : TE} {P1 : α1 → Prop} {R : Rl β} {PI : HO → Prop} {pre : α1 × Unit → Prop} {post : α1 × Unit → β → Prop} {E : XK} {i : Nat} {p : Addr} (hv : Γ[i]? = some (.vol p)) (hPI : C.PI = PI) (h1 : EvP C t1 Γ .h R1 P1) (hp : ∀ a1, P1 a1 → pre (a1, ())) :
    EvX C (tCall (spV PI (aCons R1 aNil) pre R post) [] E (tCons (tVar i) (tCons t1 tNil))) Γ (ResF C R (fun b => ∃ a1, P1 a1 ∧ post (a1, ()) b)) := fun σ W w Q q => by
  obtain ⟨x, h1x, h2x, h3x, hnt⟩ := w.get hv
  subst h2x
  refine ⟨_, h1x, ?_⟩
  refine h1 σ W w _ fun v1 W1 a1 s1 b1 r1 p1 => ?_
  have w1 := w.stp b1 s1
  have hin : p ∈ W1.vs := by
    obtain ⟨x, z1, z2, z3, _⟩ := w1.get hv
    exact z3
  obtain ⟨o, ho, hpi⟩ := w1.b.vol p hin
  have hm : Same (Hm W1) (hid W1.H [p]) := fun q u e => by
    obtain ⟨e1, e2⟩ := hid_some e
    rw [hid_out (by intro z; rw [List.mem_singleton] at z; subst z; exact e1 hin)]; exact e2
  refine ⟨p, _, (a1, ()), o, rfl, ho, hPI ▸ (hpi hnt), ⟨v1, _, rfl, (R1.mono hm r1), rfl⟩, hp a1 p1, fun v H' b sm kv rb po => q W1 v H' (s1) w1.b ⟨fun q u e hq => ?_, fun q hq => ?_, fun P q e => ?_, b, rb, ⟨a1, p1, po⟩⟩⟩
  · have ne : q ≠ p := fun z => hq (z ▸ hin)
    have e1 : hid W1.H [p] q = some u := (hid_out (by intro z; rw [List.mem_singleton] at z; exact ne z)).trans e
    exact (hid_some (sm q u e1)).2
  · by_cases z : q = p
    · subst z
      obtain ⟨o', h1, h2⟩ := kv
      exact ⟨o', h1, fun _ => hPI ▸ h2⟩
    · obtain ⟨u, h1, h2⟩ := w1.b.vol q hq
      have e1 : hid W1.H [p] q = some u := (hid_out (by intro y; rw [List.mem_singleton] at y; exact z y)).trans h1
      exact ⟨u, (hid_some (sm q u e1)).2, h2⟩
  · obtain ⟨_, ps, h1, h2⟩ := w1.b.tab P q e
    have ne : P ≠ p := fun z => hnt ⟨q, z ▸ e⟩
    have e1 : hid W1.H [p] P = some (.tbl ps) := (hid_out (by intro y; rw [List.mem_singleton] at y; exact ne y)).trans h1
    exact ⟨ps, (hid_some (sm P _ e1)).2, h2⟩
end
/-! ### a def's start -/
def Cn0 (PI : HO → Prop) (H : Hp) : Cn := ⟨H, [], PI, fun _ => none, none, fun _ => none⟩
def CnV (H : Hp) (p : Addr) (PI : HO → Prop) : Cn := ⟨H, [p], PI, fun _ => none, none, fun _ => none⟩
def W0 (H : Hp) (vs : List Addr) : Wd := ⟨H, fun _ => none, vs⟩
theorem bok0 {PI : HO → Prop} (H : Hp) : Bok (Cn0 PI H) (W0 H []) :=
  ⟨fun _ _ e _ => e, (fun _ h => by cases h), (fun _ h => h), (fun _ h => by cases h), (fun _ h => by cases h), (fun _ h => by cases h), (fun _ _ e => by cases e), (fun _ _ e => by cases e), (fun _ _ e => by cases e), (fun _ _ e => by cases e), (fun _ _ e => by cases e)⟩
theorem bokV {H : Hp} {p : Addr} {PI : HO → Prop} {o : HO} (h : H p = some o) (hp : PI o) : Bok (CnV H p PI) (W0 H [p]) :=
  ⟨fun _ _ e _ => e, (fun q hq => by have e : q = p := List.mem_singleton.mp hq; subst e; exact ⟨o, h, fun _ => hp⟩), (fun _ h => h), (fun _ h n => absurd h n), (fun q hq => by have e : q = p := List.mem_singleton.mp hq; subst e; show H q ≠ none; rw [h]; intro z; cases z), (fun _ _ => rfl), (fun _ _ e => by cases e), (fun _ _ e => by cases e), (fun _ _ e => by cases e), (fun _ _ e => by cases e), (fun _ _ e => by cases e)⟩
def Pw (C : Cn) (W : Wd) : Sg → List Ent → Prop
  | [], [] => True
  | x :: σ, e :: Γ => EntOk C W x e ∧ Pw C W σ Γ
  | _, _ => False
theorem Pw.len {C : Cn} {W : Wd} : ∀ {σ : Sg} {Γ : List Ent}, Pw C W σ Γ → σ.length = Γ.length
  | [], [], _ => rfl
  | _ :: _, _ :: _, ⟨_, h⟩ => by rw [List.length_cons, List.length_cons, Pw.len h]
theorem Pw.get {C : Cn} {W : Wd} : ∀ {σ : Sg} {Γ : List Ent} {i : Nat} {e : Ent}, Pw C W σ Γ → Γ[i]? = some e → ∃ x, σ[i]? = some x ∧ EntOk C W x e
  | [], [], _, _, _, h => by simp at h
  | x :: _, _ :: _, 0, e, ⟨a, _⟩, h => by simp at h; subst h; exact ⟨x, rfl, a⟩
  | _ :: _, _ :: _, i + 1, e, ⟨_, b⟩, h => by
    obtain ⟨x, h1, h2⟩ := Pw.get (i := i) (e := e) b (by simpa using h)
    exact ⟨x, by simpa using h1, h2⟩
def noAd : List Ent → Bool
  | [] => true
  | e :: Γ => e.ads.isEmpty && noAd Γ
theorem noAd_get : ∀ {Γ : List Ent}, noAd Γ = true → ∀ (i : Nat) (p : Addr), adAt Γ i p → False
  | [], _, i, p, ⟨_, h, _⟩ => by simp at h
  | e :: Γ, hn, 0, p, ⟨u, h, hm⟩ => by
    have h1 : e = u := by simpa using h
    subst h1
    unfold noAd at hn
    rw [Bool.and_eq_true, List.isEmpty_iff] at hn
    rw [hn.1] at hm
    cases hm
  | e :: Γ, hn, i + 1, p, ⟨u, h, hm⟩ => by
    unfold noAd at hn
    rw [Bool.and_eq_true] at hn
    exact noAd_get hn.2 i p ⟨u, by simpa using h, hm⟩
theorem world_of {C : Cn} {W : Wd} {σ : Sg} {Γ : List Ent} (b : Bok C W) (h : Pw C W σ Γ) (hn : noAd Γ = true) : World C σ W Γ :=
  ⟨b, h.len, fun _ _ e => h.get e, fun i j p q _ hp _ => (noAd_get hn i p hp).elim⟩
theorem mw0 {PI : HO → Prop} (H : Hp) : Same H (wl (Cn0 PI H) (W0 H []) .m) := fun p o e => jn_l _ _ (by rw [show (Cn0 PI H).vs0 = [] from rfl, hid_nil]; exact e)
theorem mwV (H : Hp) (p : Addr) (PI : HO → Prop) : Same (hid H [p]) (wl (CnV H p PI) (W0 H [p]) .m) := fun _ _ e => jn_l _ _ e
theorem spF_open (PI : HO → Prop) {α β : Type} {A : Args α} {pre : α → Prop} {R : Rl β} {post : α → β → Prop} {exc : α → Addr → Prop} {vs : List V} {H : Hp} {Q : VK} {E : XK} {n : Sg → Hp → Prop} (h : spF A pre R post exc vs H Q E) :
    ∃ a, A vs H a ∧ pre a ∧ RetOk (Cn0 PI H) { nx := n, rt := Q } R (post a) ∧ ExcOk (Cn0 PI H) E (exc a) := by
  obtain ⟨a, ha, hp, hq, he⟩ := h
  refine ⟨a, ha, hp, fun v W b k r p => hq v W.H b (fun q o e => k.base q o e (by simp [Cn0])) (R.mono (fun q o e => ?_) r) p, fun c W k p => he c W.H (fun q o e => k.base q o e (by simp [Cn0])) p⟩
  rw [show fresh H W.H q = W.H q from fresh_of (k.gn q o e)]
  exact k.g q o e
theorem spV_open {α β : Type} {PI : HO → Prop} {A : Args α} {pre : α → Prop} {R : Rl β} {post : α → β → Prop} {vs : List V} {H : Hp} {Q : VK} {E : XK} {n : Sg → Hp → Prop} (h : spV PI A pre R post vs H Q E) :
    ∃ p r a, vs = .ref p :: r ∧ Bok (CnV H p PI) (W0 H [p]) ∧ A r (hid H [p]) a ∧ pre a ∧ RetOk (CnV H p PI) { nx := n, rt := Q } R (post a) := by
  obtain ⟨p, r, a, o, ev, ho, hpi, ha, hp, hq⟩ := h
  refine ⟨p, r, a, ev, bokV ho hpi, ha, hp, fun v W b k rb pb => hq v W.H b (fun q o e => ?_) ?_ (R.mono (fun q o e => ?_) rb) pb⟩
  · obtain ⟨e1, e2⟩ := hid_some e
    exact (hid_out e1).trans (k.base q o e2 e1)
  · obtain ⟨o', h1, h2⟩ := k.vol p (k.vsub p (List.mem_singleton.mpr rfl))
    exact ⟨o', h1, h2 fun ⟨_, z⟩ => by cases z⟩
  · rw [show fresh H W.H q = W.H q from fresh_of (k.gn q o e)]
    exact k.g q o e
end GL

set_option Elab.async false
set_option linter.all false
set_option maxRecDepth 100000
set_option maxHeartbeats 1000000
namespace GL
open PySem L2
/-! ### forms for printed proofs -/
theorem LeG.nil : LeG [] [] := trivial
theorem LeG.cons {e e' : Ent} {Γ Γ' : List Ent} (h : e' = .no ∨ e' = e) (t : LeG Γ Γ') : LeG (e :: Γ) (e' :: Γ') := ⟨h, t⟩
theorem LeG.f {e : Ent} {Γ Γ' : List Ent} (t : LeG Γ Γ') : LeG (e :: Γ) (.no :: Γ') := ⟨.inl rfl, t⟩
theorem LeG.k {e : Ent} {Γ Γ' : List Ent} (t : LeG Γ Γ') : LeG (e :: Γ) (e :: Γ') := ⟨.inr rfl, t⟩
section
variable {C : Cn} {Γ : List Ent} {α β γ δ : Type} {R : Rl α} {S : Rl β} {T : Rl γ} {P : α → Prop} {Pl : List α → Prop} {P' : β → Prop} {ta tb tc te : TE} {ℓ ℓ' c c' : Lv} {K : PySem.W.Frag} {D : Ends} {t u u' : TS}
theorem q_ifT {tt : TT} {p : Prop} (h : EvC C tt Γ p) (h1 : p → Go C t { D with nx := u D } Γ) (h2 : ¬ p → Go C u D Γ) : Go C (tSeq (tIfS tt t tNext) u) D Γ := q_ifC h h1 fun n => q_next (h2 n)
/-- one list, told -/
theorem q_forD {σS : Type} {wi : TI} {j : Nat} {l : List α} (Γs : σS → List Ent) (I : Nat → σS → Prop) (s0 : σS) (hi : EvI C true wi Γ ℓ R (fun x => x = l)) (i0 : I 0 s0) (le0 : LeG Γ (Γs s0))
    (hs : ∀ C', Cex C C' → ∀ i a s, l[i]? = some a → I i s → Go C' t { D with nx := Hol C' Γs (I (i + 1)), ct := Hol C' Γs (I (i + 1)), bk := u D } ((Γs s).set j (.val ℓ R a))) (hd : ∀ s, I l.length s → Go C u D (Γs s)) (hl : ℓ ≠ .h := by decide) : Go C (tSeq (tFor wi (gName j) t) u) D Γ :=
  q_for Γs (fun _ => I) hi (fun _ _ => ⟨s0, i0, le0⟩) (fun C' x l' i a s e => by subst e; exact hs C' x i a s) (fun l' s e => by subst e; exact hd s) hl
theorem q_forD2 {σS : Type} {wi : TI} {i j : Nat} {l : List (α × β)} {S' : Rl β} (Γs : σS → List Ent) (I : Nat → σS → Prop) (s0 : σS) (hi : EvI C true wi Γ ℓ (rPair R S') (fun x => x = l)) (i0 : I 0 s0) (le0 : LeG Γ (Γs s0))
    (hs : ∀ C', Cex C C' → ∀ n a s, l[n]? = some a → I n s → Go C' t { D with nx := Hol C' Γs (I (n + 1)), ct := Hol C' Γs (I (n + 1)), bk := u D } (((Γs s).set i (.val ℓ R a.1)).set j (.val ℓ S' a.2))) (hd : ∀ s, I l.length s → Go C u D (Γs s)) (hl : ℓ ≠ .h := by decide) :
    Go C (tSeq (tFor wi (gTup K 2 (gCons (gName i) (gCons (gName j) gNil))) t) u) D Γ :=
  q_for2 Γs (fun _ => I) hi (fun _ _ => ⟨s0, i0, le0⟩) (fun C' x l' i a s e => by subst e; exact hs C' x i a s) (fun l' s e => by subst e; exact hd s) hl
/-! told exactly -/
theorem ei_rg1d {b : Bool} {n : Int} (ha : Ev C ta Γ .h rInt n) (hz : -(2 ^ 62) ≤ n ∧ n < 2 ^ 62) : EvI C b (iRng1 (tCons ta tNil)) Γ ℓ rInt (fun l => l = rg 0 n) := (ei_rg1 ha (fun i e => by rw [e]; exact hz)).imp fun _ ⟨_, e, h⟩ => by rw [h, e]
theorem ei_rg2d {b : Bool} {i j : Int} (ha : Ev C ta Γ .h rInt i) (hb : Ev C tb Γ .h rInt j) (hz : (-(2 ^ 62) ≤ i ∧ i < 2 ^ 62) ∧ (-(2 ^ 62) ≤ j ∧ j < 2 ^ 62)) : EvI C b (iRng2 (tCons ta (tCons tb tNil))) Γ ℓ rInt (fun l => l = rg i j) := (ei_rg2 ha hb (fun _ _ e e' => by rw [e, e']; exact hz)).imp fun _ ⟨_, _, e, e', h⟩ => by rw [h, e, e']
theorem ei_enumd {b : Bool} {l : List α} (hc : b = true → c ≠ .h := by first | (intro h; exact absurd h (by decide)) | (intro _; decide)) (hl : b = true → ℓ ≠ .h := by first | (intro h; exact absurd h (by decide)) | (intro _; decide)) (ha : EvS C ta Γ .l c ℓ R (fun x => x = l)) : EvI C b (iEnum K (tCons ta tNil)) Γ ℓ (rPair rInt R) (fun x => x = enu l) := (ei_enum hc hl ha).imp fun _ ⟨_, e, h⟩ => by rw [h, e]
theorem en_mapd {wi : TI} {j : Nat} {l : List α} (f : α → β) (hi : EvI C false wi Γ ℓ R (fun x => x = l)) (hz : l.length ≤ 1000000) (he : ∀ a, a ∈ l → Ev C te ((wipeG Γ [j]).set j (.val ℓ R a)) ℓ' S (f a)) (hl : ℓ ≠ .h := by decide) (hlv : ℓ' ≠ .h := by decide) : EvN C (tLc wi (gName j) tYes te [j]) Γ ℓ' S (fun z => z = l.map f) :=
  (en_map f hi (fun _ e => by rw [e]; exact hz) (fun _ a e m => he a (e ▸ m)) hl hlv).imp fun _ ⟨_, e, h⟩ => by rw [h, e]
theorem en_filtd {wi : TI} {tt : TT} {j : Nat} {l : List α} (p : α → Prop) [DecidablePred p] (f : α → β) (hi : EvI C false wi Γ ℓ R (fun x => x = l)) (hz : l.length ≤ 1000000) (ht : ∀ a, a ∈ l → EvC C tt ((wipeG Γ [j]).set j (.val ℓ R a)) (p a)) (he : ∀ a, a ∈ l → p a → Ev C te ((wipeG Γ [j]).set j (.val ℓ R a)) ℓ' S (f a)) (hl : ℓ ≠ .h := by decide) (hlv : ℓ' ≠ .h := by decide) :
    EvN C (tLc wi (gName j) tt te [j]) Γ ℓ' S (fun z => z = (l.filter fun a => decide (p a)).map f) :=
  (en_filt p f hi (fun _ e => by rw [e]; exact hz) (fun _ a e m => ht a (e ▸ m)) (fun _ a e m => he a (e ▸ m)) hl hlv).imp fun _ ⟨_, e, h⟩ => by rw [h, e]
theorem en_map2d {wi : TI} {i j : Nat} {l : List (α × γ)} (f : α × γ → β) (hij : i ≠ j) (hi : EvI C false wi Γ ℓ (rPair R T) (fun x => x = l)) (hz : l.length ≤ 1000000) (he : ∀ a, a ∈ l → Ev C te (((wipeG Γ [i, j]).set i (.val ℓ R a.1)).set j (.val ℓ T a.2)) ℓ' S (f a)) (hl : ℓ ≠ .h := by decide) (hlv : ℓ' ≠ .h := by decide) :
    EvN C (tLc wi (gTup K 2 (gCons (gName i) (gCons (gName j) gNil))) tYes te [i, j]) Γ ℓ' S (fun z => z = l.map f) :=
  (en_map2 f hij hi (fun _ e => by rw [e]; exact hz) (fun _ a e m => he a (e ▸ m)) hl hlv).imp fun _ ⟨_, e, h⟩ => by rw [h, e]
theorem en_catd {l m : List α} (ha : EvS C ta Γ .l c ℓ R (fun x => x = l)) (hb : EvS C tb Γ .l c' ℓ R (fun x => x = m)) (hz : l.length + m.length ≤ 1000000) : EvN C (tOp rCat ta tb) Γ ℓ R (fun z => z = l ++ m) := (en_cat ha hb (fun _ _ e e' => by rw [e, e']; exact hz)).imp fun _ ⟨_, _, e, e', h⟩ => by rw [h, e, e']
theorem flat1 {a : α} : ∀ n : Nat, (List.replicate n [a]).flatten = List.replicate n a
  | 0 => rfl
  | n + 1 => by rw [List.replicate_succ, List.flatten_cons, flat1 n]; rfl
theorem en_repd {a : α} {i : Int} (ha : EvS C ta Γ .l c ℓ R (fun x => x = [a])) (hb : Ev C tb Γ .h rInt i) (hz : i ≤ 1000000 ∧ -(2 ^ 63) ≤ i) : EvN C (tOp rRep ta tb) Γ ℓ R (fun z => z = List.replicate i.toNat a) := (en_rep ha hb (fun l n e e' => by
  subst e e'
  simp only [List.length_cons, List.length_nil, Nat.zero_add, Nat.one_mul]
  omega)).imp fun _ ⟨_, _, e, e', h⟩ => by rw [h, e, e', flat1]
theorem en_slLd {tl th : TO} {o1 o2 : Option Int} {l : List α} (ha : EvS C ta Γ .l c ℓ R (fun x => x = l)) (h1 : EvO C tl Γ (fun x => x = o1)) (h2 : EvO C th Γ (fun x => x = o2)) : EvN C (tSl (rSlL K) ta tl th) Γ ℓ R (fun z => z = sl l o1 o2) := (en_slL ha h1 h2).imp fun _ ⟨_, _, _, e, e1, e2, h⟩ => by rw [h, e, e1, e2]
theorem en_lstd {ta : TA} {l : List α} (h : EvM C ta Γ ℓ R (fun x => x = l)) (hz : l.length ≤ 1000000 := by decide) : EvN C (tLst ta) Γ ℓ R (fun x => x = l) := en_lst h (fun _ e => by rw [e]; exact hz)
theorem ev_paird {a : α} {b : β} (h : Ev C ta Γ ℓ R a) (h2 : Ev C tb Γ ℓ S b) : Ev C (tTup (tCons ta (tCons tb tNil))) Γ ℓ (rPair R S) (a, b) := (ev_pair h h2).imp fun x ⟨p, q⟩ => Prod.ext p q
theorem ev_some {a : α} (h : Ev C te Γ ℓ R a) (hn : ∀ H a, ¬ R.is H .non a) : Ev C te Γ ℓ (rOpt R) (some a) := fun σ W w Q q => h σ W w Q fun v W' x s b r p => q v W' (some x) s b ⟨r, fun z => by subst z; exact hn _ _ r⟩ (by rw [p])
theorem nn_int (H : Hp) (a : Int) : ¬ rInt.is H .non a := fun h => by cases (show V.non = .int a from h)
theorem nn_list (H : Hp) (a : List α) : ¬ (rList R).is H .non a := fun ⟨_, _, e, _⟩ => by cases e
theorem nn_tup (H : Hp) (a : List α) : ¬ (rTup R).is H .non a := fun ⟨_, _, e, _⟩ => by cases e
/-- an option known to be something -/
theorem ev_the {o : Option α} {a : α} (h : Ev C te Γ ℓ (rOpt R) o) (ho : o = some a) : Ev C te Γ ℓ R a := fun σ W w Q q => h σ W w Q fun v W' x s b r p => by
  subst p
  subst ho
  exact q v W' a s b r.1 rfl
end
theorem rg_at {lo hi : Int} {i : Nat} {a : Int} (h : (rg lo hi)[i]? = some a) : a = lo + (i : Int) ∧ lo + (i : Int) < hi := by
  have hl : i < (hi - lo).toNat := by
    have := (List.getElem?_eq_some_iff.mp h).1
    rwa [rg_len] at this
  rw [rg_get lo hi i hl] at h
  exact ⟨(Option.some.inj h).symm, by omega⟩
theorem rg_mem {lo hi a : Int} : a ∈ rg lo hi ↔ lo ≤ a ∧ a < hi := by
  unfold rg
  rw [List.mem_map]
  constructor
  · rintro ⟨i, h, e⟩
    rw [List.mem_range] at h
    omega
  · intro h
    exact ⟨(a - lo).toNat, by rw [List.mem_range]; omega, by omega⟩
theorem enu_at {α : Type} {l : List α} {i : Nat} {a : Int × α} (h : (enu l)[i]? = some a) : a.1 = (i : Int) ∧ l[i]? = some a.2 := by
  rw [enu_get] at h
  cases e : l[i]? with
  | none => rw [e] at h; cases h
  | some b =>
    rw [e] at h
    have := Option.some.inj h
    subst this
    exact ⟨rfl, rfl⟩
theorem at_lt {α : Type} {l : List α} {i : Nat} {a : α} (h : l[i]? = some a) : i < l.length := (List.getElem?_eq_some_iff.mp h).1
/-! ### a def that is called -/
structure Cal (P : Program) (w : PySem.World) (K : PySem.W.Frag) (mg : Str → Option Value) (base : Heap) (CX : CXT) (k : Nat) (x : Str) (ps : List Str) (sp : Sp) (f : Addr) (fd : FuncData) : Prop where
  ok : FnOk P w K mg base CX k f fd ps sp
  kp : PySem.W.keepIn K (.ref f) = true
  b : Binds K fd ps []
  g : mg x = some (.ref f)
end GL


set_option Elab.async false
set_option linter.all false
set_option maxRecDepth 100000
set_option maxHeartbeats 1000000
namespace GL
open PySem L2
theorem bt_len : bootBuiltins "len" = some (.builtin "len") := by decide +kernel
theorem bt_list : bootBuiltins "list" = some (.type "list") := by decide +kernel
theorem bt_tuple : bootBuiltins "tuple" = some (.type "tuple") := by decide +kernel
theorem bt_int : bootBuiltins "int" = some (.type "int") := by decide +kernel
theorem bt_max : bootBuiltins "max" = some (.builtin "max") := by decide +kernel
theorem bt_min : bootBuiltins "min" = some (.builtin "min") := by decide +kernel
section
variable {X : Cx}
theorem pi_eith {tg l : Expr} {tl : TE} (hl : PE X l tl) : PI X tg l (iEith X.K tl) := by
  refine ⟨fun pins s σ H R I h => ?_⟩
  refine thn (hl.run pins s σ H _ I h) fun v s1 ⟨x, H1, I1, r1, q1⟩ => ?_
  obtain ⟨a, e, ⟨⟨xs, hq⟩, q⟩ | ⟨⟨xs, hq⟩, q⟩⟩ := q1
  · subst e
    cases r1
    obtain ⟨its, rv, p, hz⟩ := I1.list hq
    refine wpAny_pyIter_list p.isList ?_
    refine ⟨s1.heap.objs.size, [s1.heap.objs.size], _, _, H1, rfl, I1.kept (t' := s1.toks) fun b o e => Heap.get?_push_of_some _ e, turn_list a _, ⟨_, Heap.get?_push_size _ rfl, rfl, rfl⟩, fun b hb => ?_, q⟩
    have e : b = s1.heap.objs.size := by simpa using hb
    subst e
    exact I1.fpOk (Nat.le_refl _) (I1.hok.fresh (Nat.le_refl _))
  · subst e
    cases r1
    obtain ⟨its, rv, p, hz⟩ := I1.tuple hq
    refine wpAny_pyIter_tuple (show s1.heap.IsTuple a its.toArray from p) ?_
    refine ⟨s1.heap.objs.size, [s1.heap.objs.size], _, _, H1, rfl, I1.kept (t' := s1.toks) fun b o e => Heap.get?_push_of_some _ e, turn_tuple a _, ⟨_, Heap.get?_push_size _ rfl, rfl, rfl⟩, fun b hb => ?_, q⟩
    have e : b = s1.heap.objs.size := by simpa using hb
    subst e
    exact I1.fpOk (Nat.le_refl _) (I1.hok.fresh (Nat.le_refl _))
end
section
variable {C : Cn} {Γ : List Ent} {α β γ δ : Type} {R : Rl α} {S : Rl β} {T : Rl γ} {P : α → Prop} {Pl : List α → Prop} {P' : β → Prop} {ta tb tc te : TE} {ℓ ℓ' c c' : Lv} {K : PySem.W.Frag} {D : Ends} {t u u' : TS}
theorem ec_isN {o : Option α} (ha : Ev C ta Γ ℓ (rOpt R) o) : EvC C (tTest (tOp (fun x y H Q => y = .non ∧ Q (.bl (decide (x = .non))) H) ta (tC .non))) Γ (o = none) := (eb_tst (ev_isN (ℓ' := .h) ha)).imp fun b e => by rw [e]; cases o <;> simp
theorem ec_notN {o : Option α} (ha : Ev C ta Γ ℓ (rOpt R) o) : EvC C (tTest (tOp (fun x y H Q => y = .non ∧ Q (.bl (!decide (x = .non))) H) ta (tC .non))) Γ (¬ o = none) := (eb_tst (ev_notN (ℓ' := .h) ha)).imp fun b e => by rw [e]; cases o <;> simp
theorem ev_intB' {b : Bool} (ha : Ev C ta Γ .h rBool b) : Ev C (tCB (fun xs H Q => (∃ i, xs = [.int i] ∧ Q (.int i) H) ∨ ∃ k, xs = [.bl k] ∧ Q (.int (if k then 1 else 0)) H) (tCons ta tNil)) Γ ℓ rInt (if b = true then (1 : Int) else 0) := (evp_intB ha).imp fun _ ⟨_, e, h⟩ => by rw [h, e]
end
end GL


set_option Elab.async false
set_option linter.all false
set_option maxRecDepth 100000
set_option maxHeartbeats 2000000
namespace PySem
open Sem (wp)
theorem meets_enumerate_gl {v : Value} {o : Obj} {H : Heap → Prop} (B : Begins v o H) :
    Meets (Builtin.«enumerate.__new__» ⟨[.type "enumerate", v], []⟩) (fun _ R s => H s.heap ∧
      R (.ok (.ret (.ref (s.heap.push o).objs.size))) { s with heap := (s.heap.push o).push { cls := .type "enumerate", data := .fields #[.none, .bool false, .ref s.heap.objs.size, rawInt 0, .none, .none] } }) :=
  .of_wp fun prog w A R s h => by
    obtain ⟨hp, g, d, tk, os⟩ := s; obtain ⟨h1, h⟩ := h
    have hsub := sub_enumerate
    have q1 : ∀ {A' : Around} {E : Value → Shared → Prop} {Q : Value → Shared → Prop}, Q (.ref hp.objs.size) ⟨hp.push o, g, d, tk, os⟩ → wpAny (model prog w) A' (pyIter v) Q E ⟨hp, g, d, tk, os⟩ :=
      fun q => B.iter prog w _ _ ⟨hp, g, d, tk, os⟩ _ h1 q
    wp_walk using q1
    refine wpAny_stack_any fun st => wpAny_pure ?_
    split
    · rename_i c _ _ _ _ _
      cases (c == Value.type "enumerate")
      · wp_walk using q1
        exact ⟨_, rfl, h⟩
      · wp_walk using q1
        exact ⟨_, rfl, h⟩
    · wp_walk using q1
      exact ⟨_, rfl, h⟩
section
variable {prog : Program} {w : World} {A : Around} {E : Value → Shared → Prop} {s : Shared}
theorem enum_begins_gl {v : Value} {o : Obj} {H : Heap → Prop} {Q : Value → Shared → Prop} (B : Begins v o H) (h1 : H s.heap)
    (h : ∀ h', IsEnum h' (s.heap.objs.size + 1) s.heap.objs.size 0 .none → h'.get? s.heap.objs.size = some o → h'.objs.size = s.heap.objs.size + 2 →
      (∀ b o, s.heap.get? b = some o → h'.get? b = some o) → Q (.ref (s.heap.objs.size + 1)) { s with heap := h' }) :
    wpAny (model prog w) A (call (.type "enumerate") [v]) Q E s := by
  refine callType_new F.called_enumerate (by decide) (F.typeCall_enumerate_1 _) (F.newCall_enumerate_1 _) (fun obj => F.args_object_init_2 obj _) F.entry_enumerate_new
    (meets_enumerate_gl B) ⟨h1, ?_⟩
  have hz : (s.heap.push o).objs.size = s.heap.objs.size + 1 := Heap.size_push ..
  show _ ∧ _
  rw [hz]
  have he : IsEnum ((s.heap.push o).push { cls := .type "enumerate", data := .fields #[.none, .bool false, .ref s.heap.objs.size, rawInt 0, .none, .none] }) (s.heap.objs.size + 1) s.heap.objs.size 0 .none := by
    have := Heap.get?_push_size (s.heap.push o) (o := { cls := .type "enumerate", data := .fields #[.none, .bool false, .ref s.heap.objs.size, rawInt 0, .none, .none] }) rfl
    rw [hz] at this; exact this
  refine ⟨⟨_, he, rfl⟩, h _ he (Heap.get?_push_of_some _ (Heap.get?_push_size _ B.free)) (by rw [Heap.size_push, hz]) fun b o x => Heap.get?_push_of_some _ (Heap.get?_push_of_some _ x)⟩
end
end PySem
namespace L2
open PySem PySem.Spec PyProof.Rows
/-! ### enumerate(tuple) -/
def IteT (K : PySem.W.Frag) (a : Addr) : It :=
  ⟨fun i H => ∃ (xs : List V) (x : V), SqT K H a xs ∧ xs[i]? = some x, fun i H v H' => ∃ T x, v = .ref T ∧ H T = none ∧ H' = upd H T (.tup [.int (i : Nat), x]) ∧ ∀ xs, SqT K H a xs → xs[i]? = some x, fun i H => ∃ xs : List V, SqT K H a xs ∧ xs.length ≤ i⟩
theorem turn_enumT {P : Program} {w : World} {K : PySem.W.Frag} {elts : List Expr} {kk : Nat} {tpos : Pos} (a e it : Addr) :
    Turn P w K (.Tuple elts kk tpos) (IteT K a) [e, it] e (fun i h => (∃ old, IsEnum h e it ((i : Nat) : Int) old) ∧ h.IsTupleIter it a i ∧ e ≠ it) where
  mem := by simp
  obj := fun i h st b hb => by
    obtain ⟨⟨old, he⟩, ⟨o, ho, hc, hd⟩, _⟩ := st
    have e' : b = e ∨ b = it := by simpa using hb
    rcases e' with z | z
    · rw [z]; exact ⟨_, he, fun v q => nomatch q⟩
    · rw [z]; exact ⟨o, ho, fun v q => by rw [hd] at q; cases q⟩
  keep := fun i h h' st k => let ⟨⟨old, he⟩, hi, hne⟩ := st; ⟨⟨old, k e (by simp) _ he⟩, hi.at fun o q => k it (by simp) o q, hne⟩
  item := by
    intro X hP hw hK hc i pins s σ H E I hf st hg
    subst hP hw hK
    obtain ⟨⟨old, he⟩, hit, hne⟩ := st
    obtain ⟨xs, x, hq, hx⟩ := hg
    obtain ⟨its, rv, p, hz⟩ := I.tuple hq
    obtain ⟨u, hu, ru⟩ := rv.get hx
    have hel : e < s.heap.objs.size := Heap.lt_size he
    have hil : it < s.heap.objs.size := by obtain ⟨_, q, _⟩ := hit; exact Heap.lt_size q
    have pt : s.heap.IsTuple a its.toArray := p
    have hat : a ≠ it := fun z => by
      obtain ⟨o1, q1, c1, _⟩ := hit
      obtain ⟨o2, q2, c2, _⟩ := pt
      rw [z, q1] at q2; cases q2
      rw [c1] at c2; exact absurd c2 (by decide)
    have hae : e ∉ [it, a] := fun z => by
      rcases List.mem_cons.mp z with z | z
      · exact hne z
      · have z' : e = a := by simpa using z
        obtain ⟨o2, q2, c2, _⟩ := pt
        rw [← z', show s.heap.get? e = some _ from he] at q2
        cases q2
        have c3 : Value.type "enumerate" = Value.type "tuple" := c2
        exact absurd c3 (by decide)
    have hd1 : X.A.in1.handled = none := I.ok.hd hc
    refine wpAny_pyNext_enum_itemD (Draws.tuple hd1 it a hat its.toArray) he ⟨hit, pt⟩ (i := i) (by
      have := (List.getElem?_eq_some_iff.mp hu).1
      simpa using this) hne hae fun x' h' tk hPx ho hst' hT hsz hk => ?_
    have ex : x' = u := by
      have h1 : its[i]? = some x' := by simpa using hPx
      rw [hu] at h1; exact (Option.some.inj h1).symm
    subst ex
    have hit' := hst'.1
    refine ⟨_, rfl, wpAny_letOwnedTupleGo_enum (s := { s with heap := h', toks := tk + 1 }) ho fun h'' he' sb => ?_⟩
    have hT2 : h''.get? s.heap.objs.size = some { cls := .type "tuple", data := .seq #[.int i tk, x'] } := (sb.2 _ (Nat.ne_of_gt hel)).trans hT
    have new : ObjOk X.prog X.w (upd H s.heap.objs.size (.tup [.int (i : Nat), x])) h'' s.heap.objs.size (.tup [.int (i : Nat), x]) :=
      ⟨by show 2 ≤ sizeLine; decide, [.int i tk, x'], .cons ⟨_, rfl⟩ (.cons ru .nil), ⟨_, hT2, rfl, _, rfl⟩⟩
    have I1 : Inv X pins σ (upd H s.heap.objs.size (.tup [.int (i : Nat), x])) { s with heap := h'', toks := tk + 1 } :=
      I.turnedNew (ch := [e, it]) (fun b ob hb q => (sb.2 b (fun z => hb (by simp [z]))).trans (hk b ob (fun z => hb (by simp [z])) (fun z => hb (by simp [z])) q)) hf (Nat.le_refl _) new
    refine ⟨.ref s.heap.objs.size, _, I1, rfl, ⟨_, x, rfl, I.hok.fresh (Nat.le_refl _), rfl, fun ys hy => by rw [I.tuple_inj hy hq]; exact hx⟩, ⟨⟨x', ?_⟩, hit'.at fun o q => (sb.2 it (Ne.symm hne)).trans q, hne⟩, fun b hb => ?_⟩
    · have e1 : ((i + 1 : Nat) : Int) = (i : Int) + 1 := by omega
      rw [e1]; exact he'
    · have hb' : b < s.heap.objs.size := by
        have e' : b = e ∨ b = it := by simpa using hb
        rcases e' with z | z
        · rw [z]; exact hel
        · rw [z]; exact hil
      rw [upd_ne (Nat.ne_of_lt hb')]
      exact (hf b hb).1
  done := by
    intro X hP hw hK hc i pins s σ H E I hf st hg
    subst hP hw hK
    obtain ⟨⟨old, he⟩, hit, hne⟩ := st
    obtain ⟨xs, hq, hx⟩ := hg
    obtain ⟨its, rv, p, hz⟩ := I.tuple hq
    obtain ⟨f0, f1, f2, f3, f4, f5⟩ := hf it (by simp)
    have hl := rv.length
    have pt : s.heap.IsTuple a its.toArray := p
    have hd1 : X.A.in1.handled = none := I.ok.hd hc
    have hT : s.TypeIs (.ref e) "enumerate" := ⟨_, he, rfl⟩
    unfold pyNext
    refine wpAny_bind (wpAny_attempt (wpAny_callSpecial?_slot (name := Str.ofString "__next__") hT F.slot_enumerate_next
      (wpAny_call_entry F.slot_enumerate_next hT F.entry_enumerate_next ?_ (F.args_enumerate_next_1 _))))
    show wpAny _ _ (field (.ref e) 2 >>= _) _ _ _
    refine wpAny_bind (wpAny_field he rfl (x := .ref it) rfl ?_)
    refine wpAny_bind (wpAny_nextOf_tuple_end hd1 hit pt (by simp; omega) fun h' x he' hx' => ?_)
    obtain ⟨o, ho, hc'⟩ := hx'
    refine wpAny_bind (wpAny_isInstance (T := "StopIteration") (b := true) ⟨o, ho, hc'⟩ isSubtype_stop ?_)
    exact wpAny_pure ⟨rfl, I.turned (t' := s.toks) (fun b o hb q => he' b o hb q) f0 f1 f3 f4 f5⟩
  self := fun A i s Q E st h => let ⟨⟨_, he⟩, _⟩ := st; wpAny_pyIter_enum he h
def iEnumT (K : PySem.W.Frag) (ta : TA) : TI := fun σ H R => ta σ H fun vs H1 => ∃ a xs, vs = [.ref a] ∧ SqT K H1 a xs ∧ R (IteT K a) H1
def iEnumE (K : PySem.W.Frag) (ta : TA) : TI := fun σ H R => ta σ H fun vs H1 => ∃ a xs, vs = [.ref a] ∧ ((SqL K H1 a xs ∧ R (Ite K a) H1) ∨ (SqT K H1 a xs ∧ R (IteT K a) H1))
theorem pi_enumE {X : Cx} {e : Expr} {ta : TA} {p pos tpos : Pos} {elts : List Expr} {kk : Nat} (hg : Gl X "enumerate") (hm : X.mg "enumerate" = none) (ha : PA X [e] ta) (hs : starEach [e] X.env = [(false, eval e X.env)] := by rfl) :
    PI X (.Tuple elts kk tpos) (.Call (.Name "enumerate" p) [e] [] pos) (iEnumE X.K ta) := by
  refine ⟨fun pins s σ H R I h => ?_⟩
  refine Call_ (ld_blt I hg hm boot_enumerate (PyProof.Rows.callWith_type1 (thn (ha.run pos pins s σ H _ I h) fun us s1 ⟨vs, H1, I1, r1, q1⟩ => ?_) hs rfl))
  obtain ⟨a, xs, ex, ⟨hq, q⟩ | ⟨hq, q⟩⟩ := q1
  · subst ex
    cases r1 with
    | cons r rr =>
      cases rr
      cases r
      obtain ⟨its, rv, p', hz⟩ := I1.list hq
      refine call_enumerate_list p'.isList fun h' he hit hsz hk => wpAny_pyIter_enum he ?_
      have I2 : Inv X pins σ H1 { s1 with heap := h' } := I1.kept (t' := s1.toks) hk
      refine ⟨s1.heap.objs.size + 1, [s1.heap.objs.size + 1, s1.heap.objs.size], _, _, H1, rfl, I2, turn_enum a (s1.heap.objs.size + 1) s1.heap.objs.size, ⟨⟨.none, he⟩, hit, Nat.succ_ne_self _⟩, fun b hb => ?_, q⟩
      have e' : b = s1.heap.objs.size + 1 ∨ b = s1.heap.objs.size := by simpa using hb
      have hle : s1.heap.objs.size ≤ b := by
        rcases e' with z | z
        · rw [z]; exact Nat.le_add_right _ _
        · rw [z]; exact Nat.le_refl _
      exact I1.fpOk hle (I1.hok.fresh hle)
  · subst ex
    cases r1 with
    | cons r rr =>
      cases rr
      cases r
      obtain ⟨its, rv, p', hz⟩ := I1.tuple hq
      refine enum_begins_gl (begins_tuple a its.toArray) (show s1.heap.IsTuple a its.toArray from p') fun h' he hit hsz hk => wpAny_pyIter_enum he ?_
      have I2 : Inv X pins σ H1 { s1 with heap := h' } := I1.kept (t' := s1.toks) hk
      refine ⟨s1.heap.objs.size + 1, [s1.heap.objs.size + 1, s1.heap.objs.size], _, _, H1, rfl, I2, turn_enumT a (s1.heap.objs.size + 1) s1.heap.objs.size, ⟨⟨.none, he⟩, ⟨_, hit, rfl, rfl⟩, Nat.succ_ne_self _⟩, fun b hb => ?_, q⟩
      have e' : b = s1.heap.objs.size + 1 ∨ b = s1.heap.objs.size := by simpa using hb
      have hle : s1.heap.objs.size ≤ b := by
        rcases e' with z | z
        · rw [z]; exact Nat.le_add_right _ _
        · rw [z]; exact Nat.le_refl _
      exact I1.fpOk hle (I1.hok.fresh hle)
end L2

namespace GL
open PySem L2
theorem bt_all : bootBuiltins "all" = some (.builtin "all") := by decide +kernel
theorem bt_any : bootBuiltins "any" = some (.builtin "any") := by decide +kernel
section
variable {C : Cn} {Γ : List Ent} {α β γ δ : Type} {R : Rl α} {S : Rl β} {T : Rl γ} {P : α → Prop} {Pl : List α → Prop} {P' : β → Prop} {ta tb tc te : TE} {ℓ ℓ' c c' : Lv} {K : PySem.W.Frag} {D : Ends} {t u u' : TS}
theorem ei_enumEd {b : Bool} {l : List α} (hc : b = true → ℓ ≠ .h := by first | (intro h; exact absurd h (by decide)) | (intro _; decide)) (ha : Ev C ta Γ ℓ (rSeq R) l) : EvI C b (iEnumE K (tCons ta tNil)) Γ ℓ (rPair rInt R) (fun x => x = enu l) := fun σ W w Rk k =>
  ha σ W w _ fun v W1 l' s b1 ⟨p, xs, e, h, r⟩ pl => ⟨p, xs, by rw [e], by
    subst pl
    rcases h with h | h
    · refine .inl ⟨sqL_of (c := ℓ) b1 h, k _ W1 (enu l') (fun V => seqAt .l (wl C V ℓ) p xs ∧ All2 (R.is (wl C V ℓ)) xs l') s b1 ⟨h, r⟩ (fun V1 V2 k1 k2 pr ⟨h1, h2⟩ => ⟨h1.mono (per_wl hc k1 pr), h2.imp fun _ _ => R.mono (per_wl hc k1 pr)⟩)
        ⟨fun V i bk ⟨h1, h2⟩ hi => ⟨xs, xs[i]'(by rw [h2.len]; rwa [enu_len] at hi), sqL_of bk h1, List.getElem?_eq_getElem _⟩, fun V bk ⟨h1, h2⟩ => ⟨xs, sqL_of bk h1, by rw [enu_len, h2.len]; exact Nat.le_refl _⟩,
          fun V i x H' a bk ⟨h1, h2⟩ ha ⟨T, x', y1, y2, y3, y4⟩ => ?_⟩ rfl⟩
      obtain ⟨e1, e2⟩ := enu_at ha
      obtain ⟨v, hv, rv⟩ := h2.get e2
      have := y4 xs (sqL_of bk h1)
      rw [hv] at this
      cases this
      subst y1 y3
      obtain ⟨a1, a2⟩ := a
      have e1' : a1 = (i : Int) := e1
      subst e1'
      exact pair_yld bk y2 rfl rv
    · refine .inr ⟨sqT_of (c := ℓ) b1 h, k _ W1 (enu l') (fun V => seqAt .t (wl C V ℓ) p xs ∧ All2 (R.is (wl C V ℓ)) xs l') s b1 ⟨h, r⟩ (fun V1 V2 k1 k2 pr ⟨h1, h2⟩ => ⟨h1.mono (per_wl hc k1 pr), h2.imp fun _ _ => R.mono (per_wl hc k1 pr)⟩)
        ⟨fun V i bk ⟨h1, h2⟩ hi => ⟨xs, xs[i]'(by rw [h2.len]; rwa [enu_len] at hi), sqT_of bk h1, List.getElem?_eq_getElem _⟩, fun V bk ⟨h1, h2⟩ => ⟨xs, sqT_of bk h1, by rw [enu_len, h2.len]; exact Nat.le_refl _⟩,
          fun V i x H' a bk ⟨h1, h2⟩ ha ⟨T, x', y1, y2, y3, y4⟩ => ?_⟩ rfl⟩
      obtain ⟨e1, e2⟩ := enu_at ha
      obtain ⟨v, hv, rv⟩ := h2.get e2
      have := y4 xs (sqT_of bk h1)
      rw [hv] at this
      cases this
      subst y1 y3
      obtain ⟨a1, a2⟩ := a
      have e1' : a1 = (i : Int) := e1
      subst e1'
      exact pair_yld bk y2 rfl rv⟩
/-! isinstance -/
structure Tyd (K : PySem.W.Frag) {α : Type} (R : Rl α) (n : String) : Prop where
  ty : ∀ H v a, R.is H v a → TyX K H v (.type n)
/-! all, any of bools -/
theorem All2.bools {H : Hp} {xs : List V} {l : List Bool} (h : All2 (rBool.is H) xs l) : xs = l.map V.bl := h.map_eq fun _ _ e => e
theorem ev_all {l : List Bool} (ha : EvS C ta Γ .l c .h rBool (fun x => x = l)) : Ev C (tCB (rAll K) (tCons ta tNil)) Γ ℓ rBool (l.all id) := fun σ W w Q q =>
  ha σ W w _ fun p W1 xs l' s b e r pl => ⟨p, l', rfl, by rw [← r.bools]; exact sqL_of b e, q _ W1 _ s b rfl (by rw [pl])⟩
theorem ev_any {l : List Bool} (ha : EvS C ta Γ .l c .h rBool (fun x => x = l)) : Ev C (tCB (rAny K) (tCons ta tNil)) Γ ℓ rBool (l.any id) := fun σ W w Q q =>
  ha σ W w _ fun p W1 xs l' s b e r pl => ⟨p, l', rfl, by rw [← r.bools]; exact sqL_of b e, q _ W1 _ s b rfl (by rw [pl])⟩
/-! min, max, index as functions -/
def lmin : List Int → Int
  | [] => 0
  | [x] => x
  | x :: y :: l => min x (lmin (y :: l))
def lmax : List Int → Int
  | [] => 0
  | [x] => x
  | x :: y :: l => max x (lmax (y :: l))
theorem lmin_spec : ∀ (l : List Int), l ≠ [] → lmin l ∈ l ∧ ∀ y ∈ l, lmin l ≤ y
  | [], h => absurd rfl h
  | [x], _ => by simp [lmin]
  | x :: y :: l, _ => by
    obtain ⟨h1, h2⟩ := lmin_spec (y :: l) (by simp)
    unfold lmin
    refine ⟨?_, fun z hz => ?_⟩
    · rcases Int.le_total x (lmin (y :: l)) with h | h
      · rw [Int.min_eq_left h]; simp
      · rw [Int.min_eq_right h]; exact List.mem_cons_of_mem _ h1
    · rcases List.mem_cons.mp hz with rfl | hz
      · omega
      · have := h2 z hz; omega
theorem lmax_spec : ∀ (l : List Int), l ≠ [] → lmax l ∈ l ∧ ∀ y ∈ l, y ≤ lmax l
  | [], h => absurd rfl h
  | [x], _ => by simp [lmax]
  | x :: y :: l, _ => by
    obtain ⟨h1, h2⟩ := lmax_spec (y :: l) (by simp)
    unfold lmax
    refine ⟨?_, fun z hz => ?_⟩
    · rcases Int.le_total x (lmax (y :: l)) with h | h
      · rw [Int.max_eq_right h]; exact List.mem_cons_of_mem _ h1
      · rw [Int.max_eq_left h]; simp
    · rcases List.mem_cons.mp hz with rfl | hz
      · omega
      · have := h2 z hz; omega
theorem lmin_uniq {l : List Int} {m : Int} (h1 : m ∈ l) (h2 : ∀ y ∈ l, m ≤ y) : m = lmin l := by
  obtain ⟨a, b⟩ := lmin_spec l (by intro e; rw [e] at h1; cases h1)
  exact Int.le_antisymm (h2 _ a) (b _ h1)
theorem lmax_uniq {l : List Int} {m : Int} (h1 : m ∈ l) (h2 : ∀ y ∈ l, y ≤ m) : m = lmax l := by
  obtain ⟨a, b⟩ := lmax_spec l (by intro e; rw [e] at h1; cases h1)
  exact Int.le_antisymm (b _ h1) (h2 _ a)
theorem ev_max {l : List Int} (ha : EvS C ta Γ .l c .h rInt (fun x => x = l)) (hn : l ≠ []) : Ev C (tCB (rMax K) (tCons ta tNil)) Γ ℓ rInt (lmax l) := (evp_max ha (fun _ e => by rw [e]; exact hn)).imp fun z ⟨l', e, h1, h2⟩ => by subst e; exact lmax_uniq h1 h2
/-- x.insert(n, e) -/
abbrev rIns : V → List V → Hp → VK → Prop := fun x vs H Q => ∃ (l : Addr) (xs : List V) (i : Int) (y : V), x = .ref l ∧ vs = [.int i, y] ∧ H l = some (.lst xs) ∧ xs.length < sizeLine ∧ 0 ≤ i ∧ i < 2 ^ 63 ∧
    Q .non (upd H l (.lst (xs.take i.toNat ++ [y] ++ xs.drop i.toNat)))
/-! a row of ours that any def may change as long as PI holds of it -/
theorem q_asgV {i : Nat} {Pl : List α → Prop} (f : Flat R) (h : EvX C te Γ (ResF C (rList R) Pl)) (hv : ∀ xs l, Pl l → (∀ H, All2 (R.is H) xs l) → C.PI (.lst xs)) (k : ∀ p, ¬ C.isT p → Go C u D (Γ.set i (.vol p))) : Go C (tSeq (tAsg te (gName i)) u) D Γ := fun σ W w =>
  h σ W w _ fun W1 v H' s1 b1 r => by
    obtain ⟨l, ⟨p, xs, e, hp, t⟩, pl⟩ := r.val
    obtain ⟨n1, ho⟩ := fresh_some hp
    have hPI := hv xs l pl (fun H => t.imp fun _ _ h => f _ _ _ _ h)
    subst e
    have w1 := w.stp b1 s1
    have hv : p ∉ W1.vs := b1.nvs n1
    obtain ⟨b2, s2⟩ := bare_ok b1 r.keep r.vol r.tab
    have w2 := w1.stp b2 s2
    have b3 : Bok C ⟨H', W1.G, p :: W1.vs⟩ := ⟨b2.base, fun q hq => by
      rcases List.mem_cons.mp hq with e | hq
      · subst e; exact ⟨_, ho, fun _ => hPI⟩
      · exact b2.vol q hq, fun q hq => List.mem_cons_of_mem _ (b2.vsub q hq), fun q hq n => by
      rcases List.mem_cons.mp hq with e | hq
      · subst e; exact b1.h0 n1
      · exact b2.vnew q hq n, b2.v0, fun q hq => by
      rcases List.mem_cons.mp hq with e | hq
      · subst e; exact b1.g0 n1
      · exact b2.gv q hq, b2.g, b2.gn, b2.fl, fun P q e => ⟨List.mem_cons_of_mem _ (b2.tab P q e).1, (b2.tab P q e).2⟩, b2.knb⟩
    have w3 : World C σ ⟨H', W1.G, p :: W1.vs⟩ Γ := ⟨b3, w2.len, fun j e hj => by
      obtain ⟨y, y1, y2⟩ := w2.ent j e hj
      refine ⟨y, y1, ?_⟩
      have lv : ∀ ℓ' : Lv, ℓ' ≠ .h → Same (wl C ⟨H', W1.G, W1.vs⟩ ℓ') (wl C ⟨H', W1.G, p :: W1.vs⟩ ℓ') := fun ℓ' hn => by
        cases ℓ' with
        | g => exact Same.refl _
        | m => exact Same.refl _
        | h => exact absurd rfl hn
      cases e with
      | no => trivial
      | val ℓ' R' a => exact ⟨y2.1, let ⟨v, e, q⟩ := y2.2; ⟨v, e, R'.mono (lv ℓ' y2.1) q⟩⟩
      | own q ℓ' R' l' =>
        obtain ⟨z1, z2, z3, z4, z5, ys, z6, z7⟩ := y2
        have ne : q ≠ p := fun z => by
          subst z
          have := (w1.adH (j := j) (q := q) (.own hj)).1
          exact this n1
        exact ⟨z1, z2, fun z => by rcases List.mem_cons.mp z with z | z; exact ne z; exact z3 z, z4, z5, ys, z6, z7.imp fun _ _ => R'.mono (lv ℓ' z1)⟩
      | vol q => exact ⟨y2.1, List.mem_cons_of_mem _ y2.2.1, y2.2.2⟩
      | raw v => exact y2
      | ob v ps ℓ' S' a' =>
        obtain ⟨z1, z2, z3, z4⟩ := y2
        refine ⟨z1, z2, fun q m => ?_, S'.mono (lv ℓ' z1) (fun _ _ => rfl) z4⟩
        obtain ⟨k1, k2, k3, k4⟩ := z3 q m
        have ne : q ≠ p := fun z => by
          subst z
          exact (w1.adH (j := j) (q := q) (.ob hj m)).1 n1
        exact ⟨fun z => by rcases List.mem_cons.mp z with z | z; exact ne z; exact k1 z, k2, k3, k4⟩, w2.dis⟩
    have hnt : ¬ C.isT p := fun ⟨q, z⟩ => by
      obtain ⟨_, ps, h1, _⟩ := b1.tab p q z
      rw [h1] at n1; cases n1
    exact k p hnt _ _ (w3.set i ⟨rfl, List.mem_cons_self, hnt⟩ fun q hq => by cases hq)
end
end GL


set_option Elab.async false
set_option linter.all false
set_option maxRecDepth 100000
set_option maxHeartbeats 2000000
namespace GL
open PySem L2
/-! ### values that are not told exactly -/
theorem gt_mem {α : Type} [Inhabited α] {l : List α} {i : Int} (h : 0 ≤ i ∧ i < l.length) : gt l i ∈ l := List.mem_of_getElem? (gt_get h)
theorem gtB_mem {α : Type} [Inhabited α] {l : List α} {n : Nat} (h : 0 < n ∧ n ≤ l.length) : gtB l n ∈ l := List.mem_of_getElem? (gtB_get h)
/-- the script -/
def rScr (K : PySem.W.Frag) : Rl (List Int) := ⟨fun H v l => ∃ p, v = .ref p ∧ SqL K H p (l.map V.int), fun s ⟨p, e, h⟩ => ⟨p, e, s.seq h⟩⟩
section
variable {C : Cn} {Γ : List Ent} {α β γ δ : Type} {R : Rl α} {S : Rl β} {T : Rl γ} {P : α → Prop} {Pl : List α → Prop} {P' : β → Prop} {ta tb tc te : TE} {ℓ ℓ' c c' : Lv} {K : PySem.W.Frag} {D : Ends} {t u u' : TS}
/-- an item of a written row -/
theorem evp_pick {k : Kd} [Inhabited α] {Pi : Int → Prop} (ha : EvS C ta Γ k c ℓ R Pl) (hb : EvP C tb Γ .h rInt Pi) (hc : ∀ l i, Pl l → Pi i → 0 ≤ i ∧ i < l.length) : EvP C (tOp (rIxK K k) ta tb) Γ ℓ R (fun z => ∃ l, Pl l ∧ z ∈ l) :=
  evp_ix ha hb fun l i h1 h2 => ⟨hc l i h1 h2, l, h1, gt_mem (hc l i h1 h2)⟩
theorem em_nilP : EvM C tNil Γ ℓ R (fun l => l = []) := em_nil
theorem eb_andT {t u : TT} (h1 : EvB C t Γ (fun _ => True)) (h2 : EvB C u Γ (fun _ => True)) : EvB C (tAnd t u) Γ (fun _ => True) := (eb_and h1 fun _ => h2).imp fun _ _ => trivial
theorem EvB.tt {tt : TT} {Pb : Bool → Prop} (h : EvB C tt Γ Pb) : EvB C tt Γ (fun _ => True) := h.imp fun _ _ => trivial
theorem evp_cmp {g : Int → Int → Bool} {Pi Pj : Int → Prop} (ha : EvP C ta Γ .h rInt Pi) (hb : EvP C tb Γ .h rInt Pj) : EvP C (tOp (rI0 fun i j => .bl (g i j)) ta tb) Γ ℓ rBool (fun _ => True) := evp_I0 (f := g) ha hb (fun _ _ _ => rfl) fun _ _ _ _ => trivial
theorem ev_mulW {i j : Int} (ha : Ev C ta Γ .h rInt i) (hb : Ev C tb Γ .h rInt j) (hc : CMulW i j) : Ev C (tOp (rI CMulW fun i j => .int (i * j)) ta tb) Γ ℓ rInt (i * j) := evp_I (f := fun i j => i * j) ha hb (fun _ _ p q => by rw [p, q]; exact hc) (fun _ _ _ => rfl) fun _ _ p q => by rw [p, q]
theorem ev_lenScr {l : List Int} (ha : Ev C ta Γ .h (rScr K) l) : Ev C (tCB (rLenS K) (tCons ta tNil)) Γ ℓ' rInt (l.length : Int) := fun σ W w Q q =>
  ha σ W w _ fun v W1 l' s b ⟨p, e, h⟩ pl => ⟨p, _, by rw [e], .inl (Same.seq (fun _ _ h => (hid_some h).2) h), q _ W1 _ s b (by rw [List.length_map]; rfl) (by rw [pl])⟩
theorem ev_ixScr {l : List Int} {i : Int} (ha : Ev C ta Γ .h (rScr K) l) (hb : Ev C tb Γ .h rInt i) (hc : 0 ≤ i ∧ i < l.length) : Ev C (tOp (rIxK K .l) ta tb) Γ ℓ rInt (gt l i) := fun σ W w Q q =>
  ha σ W w _ fun v W1 l' s1 b1 r1 p1 => hb σ W1 (w.stp b1 s1) _ fun y W2 i' s2 b2 r2 p2 => by
    subst p1 p2
    obtain ⟨p, e, h⟩ := (rScr K).mono (s2.lv b1 .h) r1
    exact ⟨p, _, i', _, e, r2, Same.seq (fun _ _ h => (hid_some h).2) h, atI_of hc.1 (by rw [List.getElem?_map, gt_get hc]; rfl), q _ W2 _ (s1.trans w.b b1 s2) b2 rfl rfl⟩
theorem ex_voln1 {α1 : Type} {R1 : Rl α1} {t1 : TE} {P1 : α1 → Prop} {R0 : Rl β} {PI : HO → Prop} {pre : α1 × Unit → Prop} {post : α1 × Unit → β → Prop} {E : XK} {S0 : Rl γ} {Pz : List γ → Prop} (f0 : Flat S0) (h0 : EvX C te Γ (ResF C (rList S0) Pz)) (hv : ∀ xs l, Pz l → (∀ H, All2 (S0.is H) xs l) → PI (.lst xs)) (h1 : EvP C t1 Γ .h R1 P1) (g1 : Flat R1) (hp : ∀ a1, P1 a1 → pre (a1, ())) :
    EvX C (tCall (spV PI (aCons R1 aNil) pre R0 post) [] E (tCons te (tCons t1 tNil))) Γ (ResF C R0 (fun b => ∃ a1, P1 a1 ∧ post (a1, ()) b)) := fun σ W w Q q => by
  refine h0 σ W w _ fun Wz vz Hz sz bz rz => ?_
  obtain ⟨lz, ⟨pz, xz, ez, hz, tz⟩, plz⟩ := rz.val
  obtain ⟨nz, hoz⟩ := fresh_some hz
  have hPIz := hv xz lz plz (fun H => tz.imp fun _ _ h => f0 _ _ _ _ h)
  subst ez
  obtain ⟨b0, sb0⟩ := bare_ok bz rz.keep rz.vol rz.tab
  have s0 := sz.trans w.b bz sb0
  have w0 := w.stp b0 s0
  have nW : W.H pz = none := w.b.back bz sz nz
  have gz : (⟨Hz, Wz.G, Wz.vs⟩ : Wd).G pz = none := bz.g0 nz
  have vz' : pz ∉ (⟨Hz, Wz.G, Wz.vs⟩ : Wd).vs := bz.nvs nz
  refine h1 σ _ w0 _ fun v1 W1 a1 s1 b1 r1 p1 => ?_
  have w1 := w0.stp b1 s1
  have sn := s1
  have hpz : W1.H pz = some (.lst xz) := (hid_some (sn.h _ _ ((hid_out vz').trans hoz))).2
  have gpz : W1.G pz = none := by
    cases e : W1.G pz with
    | none => rfl
    | some o =>
      rcases sn.new pz o e with h | h
      · rw [gz] at h; cases h
      · rw [show (⟨Hz, Wz.G, Wz.vs⟩ : Wd).H pz = some (.lst xz) from hoz] at h; cases h
  have vpz : pz ∉ W1.vs := by rw [sn.vs]; exact vz'
  have hh : ∀ q u, (hid W1.H [pz]) q = some u → q ≠ pz ∧ W1.H q = some u := fun q u e => by
    obtain ⟨e1, e2⟩ := hid_some e
    exact ⟨fun z => e1 (z ▸ List.mem_singleton.mpr rfl), e2⟩
  have ho : ∀ q, q ≠ pz → (hid W1.H [pz]) q = W1.H q := fun q z => hid_out (by intro y; rw [List.mem_singleton] at y; exact z y)
  have bn := w1.b
  have s9 := (s0.trans w.b w0.b s1)
  have b9 : Bok C ⟨hid W1.H [pz], W1.G, W1.vs⟩ := ⟨(fun q u e n => by
      have z : q ≠ pz := fun z => by rw [z, w.b.h0 nW] at e; cases e
      show hid _ _ q = _
      rw [ho q z]; exact bn.base q u e n), (fun q hq => by
      have z : q ≠ pz := fun z => vpz (z ▸ hq)
      show ∃ o, hid _ _ q = some o ∧ _
      rw [ho q z]; exact bn.vol q hq), bn.vsub, bn.vnew, bn.v0, bn.gv, (fun q u e => by
      have z : q ≠ pz := fun z => by rw [z, gpz] at e; cases e
      show hid _ _ q = _
      rw [ho q z]; exact bn.g q u e), bn.gn, bn.fl, (fun P q e => by
      obtain ⟨h1, ps, h2, h3⟩ := bn.tab P q e
      have z : P ≠ pz := fun z => vpz (z ▸ h1)
      exact ⟨h1, ps, (ho P z).trans h2, h3⟩), bn.knb⟩
  have s10 : Stp W ⟨hid W1.H [pz], W1.G, W1.vs⟩ := ⟨s9.vs, s9.g, (fun q u e => by
      have z : q ≠ pz := fun z => by rw [z] at e; rw [(hid_some e).2] at nW; cases nW
      obtain ⟨e1, e2⟩ := hid_some (s9.h q u e)
      show hid (hid _ _) _ q = _
      rw [hid_out e1, ho q z]; exact e2), s9.new⟩
  refine ⟨pz, _, (a1, ()), _, rfl, hpz, hPIz, ⟨v1, _, rfl, (g1 _ _ _ _ r1), rfl⟩, hp a1 p1, fun v H' b sm kv rb po => ?_⟩
  refine q _ v H' s10 b9 ⟨fun q u e hq => ?_, fun q hq => ?_, fun P q e => ?_, b, R0.mono (fun q u e => ?_) rb, ⟨a1, p1, po⟩⟩
  · exact (hid_some (sm q u e)).2
  · obtain ⟨u, h1, h2⟩ := b9.vol q hq
    exact ⟨u, (hid_some (sm q u h1)).2, h2⟩
  · obtain ⟨_, ps, h1, h2⟩ := b9.tab P q e
    exact ⟨ps, (hid_some (sm P _ h1)).2, h2⟩
  · obtain ⟨e1, e2⟩ := fresh_some e
    have z : q ≠ pz := fun z => by
      rw [z] at e1
      cases hpz.symm.trans e1
    rw [fresh_of (show (hid W1.H [pz]) q = none by rw [ho q z]; exact e1)]; exact e2
theorem ResF.imp {Pb Pc : β → Prop} {S' : Rl β} {W : Wd} {v : V} {H' : Hp} (r : ResF C S' Pb W v H') (h : ∀ b, Pb b → Pc b) : ResF C S' Pc W v H' := ⟨r.keep, r.vol, r.tab, let ⟨b, x, y⟩ := r.val; ⟨b, x, h b y⟩⟩
theorem EvX.imp {Pb Pc : β → Prop} {S' : Rl β} (r : EvX C te Γ (ResF C S' Pb)) (h : ∀ b, Pb b → Pc b) : EvX C te Γ (ResF C S' Pc) := fun σ W w Q q => r σ W w Q fun W1 v H' s b x => q W1 v H' s b (x.imp h)
/-- what a name holds is something -/
theorem q_some {i : Nat} {a : α} (h : Γ[i]? = some (.val ℓ R a)) (hn : ∀ H a, ¬ R.is H .non a) (k : Go C u D (Γ.set i (.val ℓ (rOpt R) (some a)))) : Go C u D Γ := fun σ W w => by
  obtain ⟨x, h1, hl, v, h2, r⟩ := w.get h
  subst h2
  have ef : σ = σ.set i (some v) := by
    refine List.ext_getElem? fun j => ?_
    by_cases e : i = j
    · subst e
      rw [List.getElem?_set_self (w.lt h), h1]
    · rw [List.getElem?_set_ne e]
  have w1 := w.setv i (ℓ := ℓ) (R := rOpt R) (v := v) (a := some a) hl ⟨r, fun z => by subst z; exact hn _ _ r⟩
  rw [← ef] at w1
  exact k σ W w1
end
end GL

set_option Elab.async false
set_option linter.all false
set_option maxRecDepth 100000
set_option maxHeartbeats 1000000
namespace GL
open PySem L2
/-! ### more words -/
section
variable {C : Cn} {Γ : List Ent} {α β γ δ : Type} {R : Rl α} {S : Rl β} {T : Rl γ} {P : α → Prop} {Pl : List α → Prop} {te ta tb tc : TE} {u : TS} {D : Ends} {ℓ ℓ' c : Lv} {K : PySem.W.Frag}
/-- part of what is new put among what never changes -/
theorem part_ok {W : Wd} (b : Bok C W) {H' F : Hp} (hF : Same F (fresh W.H H')) (k : ∀ p o, W.H p = some o → p ∉ W.vs → H' p = some o) (kv : ∀ p ∈ W.vs, ∃ o, H' p = some o ∧ (¬ C.isT p → C.PI o)) (kt : ∀ P q, C.tb = some (P, q) → ∃ ps, H' P = some (.tbl ps) ∧ Cods q (jn C.kn W.G) ps) : Bok C ⟨H', jn W.G F, W.vs⟩ ∧ Stp W ⟨H', jn W.G F, W.vs⟩ ∧ Same F (jn W.G F) := by
  obtain ⟨b1, s1⟩ := bare_ok b k kv kt
  have fF : ∀ {p o}, F p = some o → W.H p = none ∧ H' p = some o := fun e => fresh_some (hF _ _ e)
  refine ⟨⟨b1.base, b1.vol, b1.vsub, b1.vnew, b1.v0, fun p hp => ?_, fun p o e => ?_, fun p o e => ?_, b.fl.trans jn_l, fun P q e => ⟨(b.tab P q e).1, let ⟨ps, h1, h2⟩ := kt P q e; ⟨ps, h1, h2.mono (jn_mono jn_l)⟩⟩, b.knb⟩, ⟨rfl, jn_l, s1.h, fun p o e => ?_⟩, fun p o e => ?_⟩
  · show jn _ _ p = none
    rw [jn_r (b.gv p hp)]
    obtain ⟨o, ho, _⟩ := b.vol p hp
    cases e : F p with
    | none => rfl
    | some z => have := (fF e).1; rw [ho] at this; cases this
  · rcases jn_some e with e | ⟨_, e⟩
    · exact b1.g p o e
    · exact (fF e).2
  · rcases jn_some e with e | ⟨_, e⟩
    · exact b.gn p o e
    · exact b.h0 (fF e).1
  · rcases jn_some e with e | ⟨_, e⟩
    · exact .inl e
    · exact .inr (fF e).1
  · rw [jn_r (b.g0 (fF e).1)]
    exact e
/-- such data stand without a list's own place -/
def but (H : Hp) (p : Addr) : Hp := fun q => if q = p then none else H q
def NoL (R : Rl α) : Prop := ∀ H p xs v a, H p = some (.lst xs) → R.is H v a → R.is (but H p) v a
theorem nol_fl (f : Flat R) : NoL R := fun H p xs v a _ h => f H _ v a h
theorem but_tupE {H : Hp} {p q : Addr} {xs ys : List V} (h : H p = some (.lst xs)) (h2 : H q = some (.tup ys)) : but H p q = some (.tup ys) := by
  unfold but
  rw [if_neg]
  · exact h2
  · intro z; subst z; rw [h] at h2; cases h2
theorem nol_pair (n : NoL R) (m : NoL S) : NoL (rPair R S) := fun H p xs v a h ⟨q, x, y, e, h2, t, w⟩ => ⟨q, x, y, e, but_tupE h h2, n H p xs _ _ h t, m H p xs _ _ h w⟩
/-- a new list of such items, ours -/
theorem en_callN {Pl : List α → Prop} (n : NoL R) (h : EvX C te Γ (ResF C (rList R) Pl)) : EvN C te Γ .g R Pl := fun σ W w Q q => h σ W w Q fun W1 v H' s1 b1 r => by
  obtain ⟨b, ⟨p, xs, e, hp, t⟩, pb⟩ := r.val
  subst e
  have hF : Same (but (fresh W1.H H') p) (fresh W1.H H') := fun q o e => by
    unfold but at e
    split at e
    · cases e
    · exact e
  obtain ⟨b2, s2, sm⟩ := part_ok b1 hF r.keep r.vol r.tab
  obtain ⟨h1, h2⟩ := fresh_some hp
  refine q p ⟨H', jn W1.G (but (fresh W1.H H') p), W1.vs⟩ xs b (s1.trans w.b b1 s2) b2 (w.b.back b1 s1 h1) h2 ?_ (t.imp fun _ _ r => R.mono sm (n _ p xs _ _ hp r)) pb
  show jn _ _ p = none
  rw [jn_r (b1.g0 h1)]
  unfold but
  rw [if_pos rfl]
/-- for x in range(n), n not told exactly -/
theorem q_forR {σS : Type} {j : Nat} {t : TS} {Pi : Int → Prop} (Γs : σS → List Ent) (I : List Int → Nat → σS → Prop) (s0 : σS) (ha : EvP C te Γ .h rInt Pi) (hz : ∀ i, Pi i → -(2 ^ 62) ≤ i ∧ i < 2 ^ 62) (i0 : ∀ n, Pi n → I (rg 0 n) 0 s0) (le0 : LeG Γ (Γs s0))
    (hs : ∀ C', Cex C C' → ∀ n, Pi n → ∀ i a s, (rg 0 n)[i]? = some a → I (rg 0 n) i s → Go C' t { D with nx := Hol C' Γs (I (rg 0 n) (i + 1)), ct := Hol C' Γs (I (rg 0 n) (i + 1)), bk := u D } ((Γs s).set j (.val .g rInt a))) (hd : ∀ n, Pi n → ∀ s, I (rg 0 n) (rg 0 n).length s → Go C u D (Γs s)) : Go C (tSeq (tFor (iRng1 (tCons te tNil)) (gName j) t) u) D Γ :=
  q_for (ℓ := .g) Γs I (ei_rg1 ha hz) (fun l ⟨n, hn, e⟩ => ⟨s0, by rw [e]; exact i0 n hn, le0⟩) (fun C' x l i a s ⟨n, hn, e⟩ ha' hI => by subst e; exact hs C' x n hn i a s ha' hI) (fun l s ⟨n, hn, e⟩ hI => by subst e; exact hd n hn s hI)
theorem ev_eqc {x c : Int} (h : Ev C te Γ ℓ rInt x) (e : x = c) : Ev C te Γ ℓ rInt c := by rw [← e]; exact h
end
end GL


set_option Elab.async false
set_option linter.all false
set_option maxRecDepth 100000
set_option maxHeartbeats 1000000
/-! ### an exception that is caught and kept -/
namespace L2
open PySem PySem.Spec PyProof.Rows
/-- a caught exception of the class cls at a, without own dict -/
def ExH (cls : Value) (a : Addr) : HO := .ext fun h => ∃ (oe : Obj) (vs : Array Value), h.get? a = some oe ∧ Zc cls none oe ∧ oe.data = .fields vs
section
variable {X : Cx} {pins : List (Addr × Obj)} {σ : St} {H : Hp} {s : Shared}
end
/-- what the clause 'except x as n' wishes: the exception is tracked from then on; slot i is n's -/
def wKeep (K : PySem.W.Frag) (c : Value) (i : Nat) (ts : TS) (D : Ends) : WX := fun cls d σ H =>
  d = none ∧ PySem.W.exmOne K cls c = some true ∧ ∀ a, H a = none → ts { nx := fun σ' H' => D.nx (σ'.set i none) H', rt := D.rt, bk := fun σ' H' => D.bk (σ'.set i none) H', ct := fun σ' H' => D.ct (σ'.set i none) H' } (σ.set i (some (.ref a))) (upd H a (ExH cls a))
/-- a try whose exception is kept -/
def tTry (K : PySem.W.Frag) (c : Value) (i : Nat) (tb : WX → TS) (ts : TS) : TS := fun D σ H => tb (wKeep K c i ts D) D σ H
section
variable {X : Cx} {ps : List (Addr × Obj)} {σ : St} {H : Hp} {D : Ends}
variable {x n : Str} {c : Value} {i : Nat} {body suite : List Stmt} {b₀ : Stmt} {np pos pos' : Pos} {tb : WX → TS} {ts : TS}
/-- the class that the clause names is found -/
theorem named (hc : Names X x c) {a : Addr} {t : Shared} {Q E : Value → Shared → Prop} (J : Inv (X.suite a (X.pn ++ ps)) [] σ H t) (q : Q c t) : wpAny (model X.prog X.w) (X.A.mark (some (.ref a))) (eval (.Name x np) X.env) Q E t := by
  rcases hc with ⟨g, nd, e | ⟨e, b, nn⟩⟩
  · exact ld_glob (X := X.suite a (X.pn ++ ps)) J g e q nd
  · exact ld_blt (X := X.suite a (X.pn ++ ps)) J g e b q nn nd
end
/-- isinstance(e, c), e an exception that is kept -/
def rIsX (K : PySem.W.Frag) : List V → Hp → VK → Prop := fun xs H Q => ∃ (a D : Addr) (c : V) (cv : Value) (b : Bool), xs = [.ref a, c] ∧ (∀ u, RelV c u → u = cv) ∧ H a = some (ExH (.ref D) a) ∧ ExcC K D ∧ PySem.W.kitOne K (.ref D) cv = some b ∧ Q (.bl b) H
end L2
namespace GL
open PySem L2
/-- a kept exception, by its class -/
def rExc : Rl Addr := ⟨fun H v c => ∃ a, v = .ref a ∧ H a = some (ExH (.ref c) a), fun s ⟨a, e, h⟩ => ⟨a, e, s _ _ h⟩⟩
/-- a kept exception, or a value -/
def rEx {α : Type} (R : Rl α) : Rl (Sum Addr α) := ⟨fun H v s => match s with | .inl c => rExc.is H v c | .inr a => R.is H v a, fun {H H' v s} h k => by
  cases s with
  | inl c => exact rExc.mono h k
  | inr a => exact R.mono h k⟩
def ExcOkG (C : Cn) (W : WX) (Γ : List Ent) (Pe : Addr → Prop) : Prop := ∀ c σ Wd, World C σ Wd Γ → Pe c → W (.ref c) none σ Wd.H
section
variable {C : Cn} {Γ : List Ent} {α β γ δ : Type} {R : Rl α} {S : Rl β} {P : α → Prop} {ta tb te : TE} {ℓ ℓ' : Lv} {K : PySem.W.Frag} {D : Ends} {t u : TS}
/-- raises within a try's body -/
theorem excG_up {W : WX} {Pe : Addr → Prop} (hE : ExcOkG C W Γ Pe) {σ : Sg} {Wd : GL.Wd} (w : World C σ Wd Γ) (c : Addr) {H' : Hp} (s : Same Wd.H H') (p : Pe c) : W (.ref c) none σ H' := by
  obtain ⟨b1, s1⟩ := bare_ok w.b (fun p o e _ => s p o e) (fun p hp => by
    obtain ⟨o, h1, h2⟩ := w.b.vol p hp
    exact ⟨o, s p o h1, h2⟩) (tab_same w.b s)
  exact hE c σ ⟨H', Wd.G, Wd.vs⟩ (w.stp b1 s1) p
/-! classes of exceptions -/
def AllP {α : Type} (p : α → Prop) : List α → Prop
  | [] => True
  | a :: l => p a ∧ AllP p l
theorem AllP.of {α : Type} {p : α → Prop} : ∀ {l : List α}, AllP p l → ∀ a, a ∈ l → p a
  | b :: l, h, a, m => by
    rcases List.mem_cons.mp m with e | m
    · subst e; exact h.1
    · exact AllP.of h.2 a m
/-- what the classes L of errors that are caught answer when they are asked after the classes Ls, and d, that is over all -/
structure KitF (K : PySem.W.Frag) (L Ls : List Addr) (d : Addr) : Prop where
  c : AllP (fun a => ExcC K a) L
  k : AllP (fun a => AllP (fun b => ∃ r, PySem.W.subIn K (.ref a) (.ref b) = some r ∧ (r = true ↔ a = b)) Ls) L
  ld : AllP (fun a => PySem.W.subIn K (.ref a) (.ref d) = some true) L
  v : AllP (fun a => PySem.W.subIn K (.ref a) (.type "ValueError") = some true) L
  t : AllP (fun b => PySem.W.hasDictIn K b = true ∧ PySem.W.typeIn K (.ref b) = some (.type "type")) Ls
  td : PySem.W.hasDictIn K d = true ∧ PySem.W.typeIn K (.ref d) = some (.type "type") ∧ PySem.W.subIn K (.ref d) (.type "BaseException") = some true
  nd : Ls.Nodup
variable {L Ls : List Addr} {d : Addr}
/-- one class alone -/
def alone (Ls : List Addr) (e : Option Addr) (at_ : Int) : Bool := match e with
  | none => false
  | some c => decide ((Ls.map fun a => decide (c = a)) ++ [true, true] = ((rg 0 10).map fun k => decide (k = at_)) ++ [true, true])
/-- the same, as the other laws ask it -/
def alone2 (Ls : List Addr) (e : Option Addr) (at_ : Int) : Bool := match e with
  | none => false
  | some c => decide ((((Ls.map fun a => decide (c = a)).count true : Nat) : Int) = 1) && gt (Ls.map fun a => decide (c = a)) at_
end
end GL


set_option Elab.async false
set_option linter.all false
set_option maxRecDepth 100000
set_option maxHeartbeats 1000000
namespace GL
open PySem L2
section
variable {C : Cn} {Γ : List Ent} {β : Type}

theorem es_call1 {α1 : Type} {R1 : Rl α1} {t1 : TE} {P1 : α1 → Prop} {R : Rl β} {pre : α1 × Unit → Prop} {post : α1 × Unit → β → Prop} {exc : α1 × Unit → Addr → Prop} {W0 : WX} {Pe : Addr → Prop} (h1 : EvP C t1 Γ .h R1 P1) (hp : ∀ a1, P1 a1 → pre (a1, ())) (hE : ExcOkG C W0 Γ Pe) (he : ∀ a1, P1 a1 → ∀ c, exc (a1, ()) c → Pe c) :
    EvX C (tCallS (spF (aCons R1 aNil) pre R post exc) (WE W0) (tCons t1 tNil)) Γ (ResF C R (fun b => ∃ a1, P1 a1 ∧ post (a1, ()) b)) := fun σ W w Q q =>
  h1 σ W w _ fun v1 W1 a1 s1 b1 r1 p1 =>
  have w1 := w.stp b1 s1
  ⟨(a1, ()), ⟨v1, _, rfl, (R1.mono (fun _ _ h => (hid_some h).2) r1), rfl⟩, hp a1 p1, fun v H' b sm rb po => q W1 v H' (s1) w1.b (resF_of w1.b sm rb ⟨a1, p1, po⟩), fun c H' sm ec => excG_up hE w1 c sm (he a1 p1 c ec)⟩
theorem esd_call1 {α1 : Type} {R1 : Rl α1} {t1 : TE} {a1 : α1} {R : Rl β} {pre : α1 × Unit → Prop} {post : α1 × Unit → β → Prop} {exc : α1 × Unit → Addr → Prop} {W0 : WX} {Pe : Addr → Prop} (h1 : Ev C t1 Γ .h R1 a1) (hp : pre (a1, ())) (hE : ExcOkG C W0 Γ Pe) (he : ∀ c, exc (a1, ()) c → Pe c) :
    EvX C (tCallS (spF (aCons R1 aNil) pre R post exc) (WE W0) (tCons t1 tNil)) Γ (ResF C R (fun b => post (a1, ()) b)) := fun σ W w Q q =>
  es_call1 h1 (fun x1 e1 => by subst e1; exact hp) hE (fun x1 e1 => by subst e1; exact he) σ W w Q fun W1 v H' s1 b1 r => q W1 v H' s1 b1 ⟨r.keep, r.vol, r.tab, by
    obtain ⟨b, rb, x1, e1, po⟩ := r.val
    subst e1
    exact ⟨b, rb, po⟩⟩
theorem es_call2 {α1 : Type} {α2 : Type} {R1 : Rl α1} {t1 : TE} {P1 : α1 → Prop} {R2 : Rl α2} {t2 : TE} {P2 : α2 → Prop} {R : Rl β} {pre : α1 × α2 × Unit → Prop} {post : α1 × α2 × Unit → β → Prop} {exc : α1 × α2 × Unit → Addr → Prop} {W0 : WX} {Pe : Addr → Prop} (h1 : EvP C t1 Γ .h R1 P1) (h2 : EvP C t2 Γ .h R2 P2) (hp : ∀ a1 a2, P1 a1 → P2 a2 → pre (a1, a2, ())) (hE : ExcOkG C W0 Γ Pe) (he : ∀ a1 a2, P1 a1 → P2 a2 → ∀ c, exc (a1, a2, ()) c → Pe c) :
    EvX C (tCallS (spF (aCons R1 (aCons R2 aNil)) pre R post exc) (WE W0) (tCons t1 (tCons t2 tNil))) Γ (ResF C R (fun b => ∃ a1 a2, P1 a1 ∧ P2 a2 ∧ post (a1, a2, ()) b)) := fun σ W w Q q =>
  h1 σ W w _ fun v1 W1 a1 s1 b1 r1 p1 =>
  have w1 := w.stp b1 s1
  h2 σ W1 w1 _ fun v2 W2 a2 s2 b2 r2 p2 =>
  have w2 := w1.stp b2 s2
  ⟨(a1, a2, ()), ⟨v1, _, rfl, (R1.mono (fun _ _ h => (hid_some h).2) (R1.mono (s2.lv w1.b .h) r1)), ⟨v2, _, rfl, (R2.mono (fun _ _ h => (hid_some h).2) r2), rfl⟩⟩, hp a1 a2 p1 p2, fun v H' b sm rb po => q W2 v H' ((s1.trans w.b w1.b s2)) w2.b (resF_of w2.b sm rb ⟨a1, a2, p1, p2, po⟩), fun c H' sm ec => excG_up hE w2 c sm (he a1 a2 p1 p2 c ec)⟩
theorem esd_call2 {α1 : Type} {α2 : Type} {R1 : Rl α1} {t1 : TE} {a1 : α1} {R2 : Rl α2} {t2 : TE} {a2 : α2} {R : Rl β} {pre : α1 × α2 × Unit → Prop} {post : α1 × α2 × Unit → β → Prop} {exc : α1 × α2 × Unit → Addr → Prop} {W0 : WX} {Pe : Addr → Prop} (h1 : Ev C t1 Γ .h R1 a1) (h2 : Ev C t2 Γ .h R2 a2) (hp : pre (a1, a2, ())) (hE : ExcOkG C W0 Γ Pe) (he : ∀ c, exc (a1, a2, ()) c → Pe c) :
    EvX C (tCallS (spF (aCons R1 (aCons R2 aNil)) pre R post exc) (WE W0) (tCons t1 (tCons t2 tNil))) Γ (ResF C R (fun b => post (a1, a2, ()) b)) := fun σ W w Q q =>
  es_call2 h1 h2 (fun x1 x2 e1 e2 => by subst e1 e2; exact hp) hE (fun x1 x2 e1 e2 => by subst e1 e2; exact he) σ W w Q fun W1 v H' s1 b1 r => q W1 v H' s1 b1 ⟨r.keep, r.vol, r.tab, by
    obtain ⟨b, rb, x1, x2, e1, e2, po⟩ := r.val
    subst e1 e2
    exact ⟨b, rb, po⟩⟩
end
end GL


set_option Elab.async false
set_option linter.all false
set_option maxRecDepth 100000
set_option maxHeartbeats 1000000
/-! ### further words -/
namespace GL
open PySem L2
section
variable {C : Cn} {Γ : List Ent} {α β γ δ : Type} {R : Rl α} {S : Rl β} {T : Rl γ} {U : Rl δ} {P : α → Prop} {ta tb te : TE} {ℓ ℓ' c c' : Lv} {K : PySem.W.Frag} {D : Ends} {t u : TS}
/-! places of tuples of two and three -/
theorem tix_go {W : Wd} {ℓ : Lv} {p : Addr} {xs : List V} {i : Nat} {v : V} {Q : VK} (b : Bok C W) (h : Rd (wl C W ℓ) p (.tup xs)) (hv : xs[i]? = some v) (q : Q v W.H) : rIxK K .t (.ref p) (.int (i : Int)) W.H Q :=
  rIxK_go (k := .t) (c := ℓ) b h (atI_of (i := (i : Int)) (by omega) (by rw [Int.toNat_natCast]; exact hv)) q
end
end GL
namespace GL
end GL
namespace GL
open PySem L2
section
variable {C : Cn} {Γ : List Ent} {α β γ δ : Type} {R : Rl α} {S : Rl β} {T : Rl γ} {ta tb te : TE} {ℓ ℓ' c c' : Lv} {K : PySem.W.Frag}
/-! comprehensions whose items are not told exactly -/
theorem RL.at {p : α → β → Prop} {l : List α} {m : List β} (h : RL p l m) : m.length = l.length ∧ ∀ (i : Nat) b, m[i]? = some b → ∃ a, l[i]? = some a ∧ p a b := ⟨h.len.symm, fun _ _ e => h.get e⟩
theorem en_lcd {wi : TI} {j : Nat} {l : List α} {Pe : α → β → Prop} (hi : EvI C false wi Γ ℓ R (fun x => x = l)) (hz : l.length ≤ 1000000) (he : ∀ a, a ∈ l → EvP C te ((wipeG Γ [j]).set j (.val ℓ R a)) ℓ' S (fun b => Pe a b)) (hl : ℓ ≠ .h := by decide) (hlv : ℓ' ≠ .h := by decide) :
    EvN C (tLc wi (gName j) tYes te [j]) Γ ℓ' S (fun z => z.length = l.length ∧ ∀ (i : Nat) b, z[i]? = some b → ∃ a, l[i]? = some a ∧ Pe a b) :=
  (en_lc (p := fun _ => true) (Pe := Pe) hi (fun _ e => by rw [e]; exact hz) (fun _ _ _ _ => eb_yes) (fun _ a e m _ => he a (by rw [e] at m; exact m)) hl hlv).imp fun z ⟨m, e, h⟩ => by
    rw [e, List.filter_eq_self.mpr (fun _ _ => rfl)] at h
    exact h.at
end
end GL
namespace GL
open PySem L2
section
variable {C : Cn} {Γ : List Ent} {α : Type} {R : Rl α} {Pl : List α → Prop} {te : TE} {ℓ c : Lv} {K : PySem.W.Frag} {D : Ends} {u : TS}
end
end GL
namespace GL
open PySem L2
section
variable {C : Cn} {Γ : List Ent} {α : Type} {R : Rl α} {P : α → Prop} {te : TE} {ℓ : Lv}
end
end GL


set_option Elab.async false
set_option linter.all false
set_option maxRecDepth 100000
set_option maxHeartbeats 1000000
/-! ### min(x, default=d), max(x, default=d) of ints -/
namespace GL
def dmin (l : List Int) (d : Int) : Int := if l = [] then d else lmin l
def dmax (l : List Int) (d : Int) : Int := if l = [] then d else lmax l
theorem foldl_lmin : ∀ (l : List Int) (n : Int), l.foldl min n = lmin (n :: l)
  | [], n => rfl
  | y :: l, n => by
    rw [List.foldl_cons, foldl_lmin l (min n y)]
    have h1 := lmin_spec (n :: y :: l) (by simp)
    refine lmin_uniq ?_ ?_
    · obtain ⟨a, b⟩ := lmin_spec (min n y :: l) (by simp)
      rcases List.mem_cons.mp a with e | e
      · rw [e]; rcases Int.le_total n y with z | z
        · rw [Int.min_eq_left z]; simp
        · rw [Int.min_eq_right z]; simp
      · exact List.mem_cons_of_mem _ (List.mem_cons_of_mem _ e)
    · intro x hx
      obtain ⟨a, b⟩ := lmin_spec (min n y :: l) (by simp)
      have h2 := b (min n y) (by simp)
      rcases List.mem_cons.mp hx with e | hx
      · subst e; omega
      · rcases List.mem_cons.mp hx with e | hx
        · subst e; omega
        · exact b x (List.mem_cons_of_mem _ hx)
end GL
namespace L2
open PySem PySem.Spec PyProof.Rows PySem.SeqAt
open PySem.W (AlikeAll minD maxD minD_ints maxD_ints min_list_default max_list_default min_tuple_default max_tuple_default min_list_data max_list_data)
def rBestD (K : PySem.W.Frag) (mx : Bool) : List V → List V → Hp → VK → Prop := fun xs zs H Q => ∃ (p : Addr) (ns : List Int) (d : Int), xs = [.ref p] ∧ zs = [.int d] ∧ (SqL K H p (ns.map V.int) ∨ SqT K H p (ns.map V.int)) ∧ Q (.int (if mx then GL.dmax ns d else GL.dmin ns d)) H
section
variable {X : Cx}
theorem dpInts {K : PySem.W.Frag} {H : Hp} : ∀ ns : List Int, DpAll K H (ns.map V.int) (ns.map PyData.int)
  | [] => .nil
  | n :: ns => .cons (.int n) (dpInts ns)
theorem alikeInts (ns : List Int) : AlikeAll (ns.map PyData.int) := ⟨fun x hx y hy => by
  obtain ⟨a, _, rfl⟩ := List.mem_map.mp hx
  obtain ⟨b, _, rfl⟩ := List.mem_map.mp hy
  rfl, fun x hx => by obtain ⟨a, _, rfl⟩ := List.mem_map.mp hx; intro z; cases z⟩
theorem depInts : ∀ ns : List Int, PyData.depthAll (ns.map PyData.int) = 0
  | [] => by simp [PyData.depthAll]
  | n :: ns => by simp [PyData.depthAll, PyData.depth, depInts ns]
theorem int_of_reads {h : Heap} {v : Value} {i : Int} {bs : List Addr} (r : Reads h v (.int i) bs) : ∃ t, v = .int i t := by
  cases r with
  | int i t => exact ⟨t, rfl⟩
theorem kw_default {zs : List V} {ws : List Value} {d : Int} (rz : Vals zs ws) (e : zs = [.int d]) : ∃ t, ws = [.int d t] := by
  subst e
  cases rz with
  | cons r t => cases t; obtain ⟨t, rfl⟩ := r; exact ⟨t, rfl⟩
theorem cr_minD (hc : X.calm = true) (hu : X.A.units + 64 < cLine) : CallRK X (.builtin "min") [Str.ofString "default"] (rBestD X.K false) := by
  intro pins s σ H xs zs us ws Q I rx rz h
  obtain ⟨p, ns, d, rfl, ez, hs, q⟩ := h
  obtain ⟨t, rfl⟩ := kw_default rz ez
  rw [Vals.ref1 rx]
  have q' : Q (.int (GL.dmin ns d)) H := q
  have k0 : ns.map PyData.int = [] → ∀ (h' : Heap) (tk : Nat), (∀ b o, s.heap.get? b = some o → h'.get? b = some o) → EP X pins σ Q (.int d t) { s with heap := h', toks := tk } := fun e h' tk k =>
    ⟨.int d, H, I.kept (t' := tk) k, ⟨t, rfl⟩, by have : ns = [] := List.map_eq_nil_iff.mp e; rw [this] at q'; exact q'⟩
  have k1 : ∀ (y : PyData) (ys : List PyData) (v : Value) (h' : Heap) (tk : Nat) (bs : List Addr), ns.map PyData.int = y :: ys → Reads h' v (minD y ys) bs → (∀ b o, s.heap.get? b = some o → h'.get? b = some o) → EP X pins σ Q v { s with heap := h', toks := tk } := fun y ys v h' tk bs e r k => by
    cases ns with
    | nil => cases e
    | cons n ns =>
      cases e
      rw [minD_ints] at r
      obtain ⟨u, rfl⟩ := int_of_reads r
      refine ⟨.int _, H, I.kept (t' := tk) k, ⟨u, rfl⟩, ?_⟩
      rw [GL.foldl_lmin]
      exact q'
  rcases hs with hs | hs
  · obtain ⟨its, rv, hl, _⟩ := I.list hs
    obtain ⟨as, hr⟩ := Dp.readsAll I (ns.map PyData.int) _ _ (dpInts ns) rv
    exact min_list_default (I.ok.hd hc) hl.isList (by simpa using hr) (alikeInts ns) (by rw [depInts]; omega) k0 fun y ys i v h' tk bs e _ r k => k1 y ys v h' tk bs e r k
  · obtain ⟨its, rv, hl, _⟩ := I.tuple hs
    obtain ⟨as, hr⟩ := Dp.readsAll I (ns.map PyData.int) _ _ (dpInts ns) rv
    exact min_tuple_default (I.ok.hd hc) hl (by simpa using hr) (alikeInts ns) (by rw [depInts]; omega) k0 fun y ys i v h' tk bs e _ r k => k1 y ys v h' tk bs e r k
end
end L2
namespace GL
open PySem L2
section
variable {C : Cn} {Γ : List Ent} {ta tb : TE} {ℓ c : Lv} {K : PySem.W.Frag}
theorem ev_bestD {k : Kd} {mx : Bool} {l : List Int} {d : Int} (ha : EvS C ta Γ k c .h rInt (fun x => x = l)) (hb : Ev C tb Γ .h rInt d) : Ev C (tCKw (rBestD K mx) (tCons ta tNil) (tCons tb tNil)) Γ ℓ rInt (if mx then dmax l d else dmin l d) := fun σ W w Q q =>
  ha σ W w _ fun p W1 xs l' s1 b1 e1 r1 p1 => hb σ W1 (w.stp b1 s1) _ fun v W2 d' s2 b2 r2 p2 => by
    subst p1; subst p2
    cases (show v = .int d' from r2)
    refine ⟨p, l', d', rfl, rfl, ?_, q _ W2 _ (s1.trans w.b b1 s2) b2 rfl rfl⟩
    rw [← r1.ints]
    exact sqA_of b2 (e1.mono (s2.lv b1 c))
theorem ev_minD {k : Kd} {l : List Int} {d : Int} (ha : EvS C ta Γ k c .h rInt (fun x => x = l)) (hb : Ev C tb Γ .h rInt d) : Ev C (tCKw (rBestD K false) (tCons ta tNil) (tCons tb tNil)) Γ ℓ rInt (dmin l d) := ev_bestD (mx := false) ha hb
end
end GL


set_option Elab.async false
set_option linter.all false
set_option maxRecDepth 100000
set_option maxHeartbeats 1000000
/-! ### sorted -/
namespace GL
open PySem L2
def isort (l : List Int) : List Int := l.mergeSort (fun a b => decide (a ≤ b))
theorem isort_perm (l : List Int) : (isort l).Perm l := List.mergeSort_perm l _
theorem isort_sorted (l : List Int) : (isort l).Pairwise (· ≤ ·) := by
  have h := List.pairwise_mergeSort (le := fun a b : Int => decide (a ≤ b)) (fun a b c h1 h2 => by simp only [decide_eq_true_eq] at *; omega) (fun a b => by simp only [Bool.or_eq_true, decide_eq_true_eq]; omega) l
  exact h.imp fun h => of_decide_eq_true h
theorem sorted_uniq {l m : List Int} (h : l.Perm m) (h1 : l.Pairwise (· ≤ ·)) (h2 : m.Pairwise (· ≤ ·)) : l = m :=
  List.Perm.eq_of_pairwise (fun a b _ _ x y => Int.le_antisymm x y) h1 h2 h
theorem isort_uniq {l m : List Int} (h : m.Perm l) (h1 : m.Pairwise (· ≤ ·)) : m = isort l := sorted_uniq (h.trans (isort_perm l).symm) h1 (isort_sorted l)
theorem isort_len (l : List Int) : (isort l).length = l.length := (isort_perm l).length_eq
section
variable {C : Cn} {Γ : List Ent} {ta tb : TE} {ℓ c : Lv} {K : PySem.W.Frag}
theorem en_sortI {l : List Int} (ha : EvS C ta Γ .l c .h rInt (fun x => x = l)) : EvN C (tCB (rSortedI K) (tCons ta tNil)) Γ ℓ rInt (fun z => z = isort l) := fun σ W w Q q =>
  ha σ W w _ fun p W1 xs l' s1 b1 e1 r1 p1 => ⟨p, l', rfl, by rw [← r1.ints]; exact sqL_of b1 e1, fun ns' a hp hs n =>
    fresh_go (R := rInt) (ℓ := ℓ) (P := fun z => z = isort l) w s1 b1 q (xs := ns'.map V.int) (l := ns') (All2.of_map (p := rInt.is (wl C W1 ℓ)) (f := V.int) (fun _ => rfl) ns') (by subst p1; exact isort_uniq hp hs) a n⟩
end
end GL
namespace GL
theorem bt_sorted : PySem.bootBuiltins "sorted" = some (.builtin "sorted") := by decide +kernel
end GL


set_option Elab.async false
set_option linter.all false
set_option maxRecDepth 100000
set_option maxHeartbeats 1000000
namespace GL
open PySem L2
section
variable {C : Cn} {Γ : List Ent} {α β γ : Type} {R : Rl α} {S : Rl β} {T : Rl γ} {ta tb te : TE} {ℓ ℓ' c : Lv} {K : PySem.W.Frag}
/-! is, is not of bools -/
/-! list(a pair), list(three) of things of one kind -/
end
/-- options of what is compared -/
def eqr_opt {K : PySem.W.Frag} {α : Type} {R : Rl α} (E : Eqr K R) (hn : ∀ a, E.enc a ≠ .none) (hv : ∀ a, PyData.eqv .none (E.enc a) = false ∧ PyData.eqv (E.enc a) .none = false) : Eqr K (rOpt R) := ⟨fun o => match o with | none => .none | some a => E.enc a, fun H v o h => by
    cases o with
    | none => cases (show v = .non from h); exact .non
    | some a => exact E.dp H v a h.1, fun o => by
    cases o with
    | none => simp [PyData.canLay0]
    | some a => exact E.can a, E.n, fun o => by
    cases o with
    | none => simp [PyData.depth]
    | some a => exact E.dep a, fun a b => by
    cases a with
    | none => cases b with
      | none => simp [PyData.eqv]
      | some b => simp [(hv b).1]
    | some a => cases b with
      | none => simp [(hv a).2]
      | some b => simp [E.eqv]⟩
end GL
namespace GL
open PySem L2
theorem EvN.fl {C : Cn} {Γ : List Ent} {α : Type} {R : Rl α} {te : TE} {ℓ ℓ' : Lv} {P : List α → Prop} (f : Flat R) (h : EvN C te Γ ℓ R P) : EvN C te Γ ℓ' R P := fun σ W w Q q => h σ W w Q fun p W' xs l s b n hH hG r z => q p W' xs l s b n hH hG (r.imp fun _ _ => f _ _ _ _) z
end GL
namespace GL
open PySem L2
section
variable {C : Cn} {Γ : List Ent} {ta tb : TE} {ℓ ℓ1 ℓ2 : Lv} {P1 P2 : Bool → Prop}
end
end GL


set_option Elab.async false
set_option linter.all false
set_option maxRecDepth 100000
set_option maxHeartbeats 1000000
/-! ### sorted, of pairs of ints -/
namespace GL
open PySem L2
def ple (a b : Int × Int) : Bool := decide (a.1 < b.1 ∨ (a.1 = b.1 ∧ a.2 ≤ b.2))
def psort (l : List (Int × Int)) : List (Int × Int) := l.mergeSort ple
theorem psort_perm (l : List (Int × Int)) : (psort l).Perm l := List.mergeSort_perm l _
theorem psort_len (l : List (Int × Int)) : (psort l).length = l.length := (psort_perm l).length_eq
theorem psort_sorted (l : List (Int × Int)) : (psort l).Pairwise (fun a b => ple a b = true) :=
  List.pairwise_mergeSort (le := ple) (fun a b c h1 h2 => by unfold ple at *; simp only [decide_eq_true_eq] at *; omega) (fun a b => by unfold ple; simp only [Bool.or_eq_true, decide_eq_true_eq]; omega) l
theorem ple_anti {a b : Int × Int} (h1 : ple a b = true) (h2 : ple b a = true) : a = b := by
  unfold ple at *
  simp only [decide_eq_true_eq] at *
  exact Prod.ext (by omega) (by omega)
theorem psort_uniq {l m : List (Int × Int)} (h : m.Perm l) (h1 : m.Pairwise (fun a b => ple a b = true)) : m = psort l :=
  List.Perm.eq_of_pairwise (fun a b _ _ x y => ple_anti x y) h1 (psort_sorted l) (h.trans (psort_perm l).symm)
def keyOf (H : Hp) : V → Int × Int
  | .ref t => match H t with
    | some (.tup [.int a, .int b]) => (a, b)
    | _ => (0, 0)
  | _ => (0, 0)
section
variable {C : Cn} {Γ : List Ent} {ta tb : TE} {ℓ c : Lv} {K : PySem.W.Frag}
theorem keyOf_of {H : Hp} {v : V} {a : Int × Int} (h : (rPair rInt rInt).is H v a) : keyOf H v = a := by
  obtain ⟨p, x, y, rfl, h, hx, hy⟩ := h
  obtain rfl : x = .int a.1 := hx
  obtain rfl : y = .int a.2 := hy
  show (match H p with | some (.tup [.int a, .int b]) => (a, b) | _ => ((0, 0) : Int × Int)) = a
  rw [h]
theorem keyOf_all {H : Hp} : ∀ {xs : List V} {l : List (Int × Int)}, All2 ((rPair rInt rInt).is H) xs l → xs.map (keyOf H) = l ∧ ∀ x ∈ xs, (rPair rInt rInt).is H x (keyOf H x)
  | [], [], _ => ⟨rfl, fun x hx => by cases hx⟩
  | x :: xs, a :: l, ⟨h1, h2⟩ => by
    have e := keyOf_of h1
    obtain ⟨i1, i2⟩ := keyOf_all h2
    refine ⟨by rw [List.map_cons, e, i1], fun y hy => ?_⟩
    rcases List.mem_cons.mp hy with rfl | hy
    · rw [e]; exact h1
    · exact i2 y hy
theorem all2_keys {H : Hp} : ∀ {ys : List V}, (∀ y ∈ ys, (rPair rInt rInt).is H y (keyOf H y)) → All2 ((rPair rInt rInt).is H) ys (ys.map (keyOf H))
  | [], _ => trivial
  | y :: ys, h => ⟨h y (by simp), all2_keys fun z hz => h z (by simp [hz])⟩
theorem en_sortP {l : List (Int × Int)} (ha : EvS C ta Γ .l c ℓ (rPair rInt rInt) (fun x => x = l)) : EvN C (tCB (rSortedPO K) (tCons ta tNil)) Γ ℓ (rPair rInt rInt) (fun z => z = psort l) := fun σ W w Q q =>
  ha σ W w _ fun p W1 xs l' s1 b1 e1 r1 p1 => by
    subst p1
    obtain ⟨k1, k2⟩ := keyOf_all r1
    refine ⟨p, xs, keyOf (wl C W1 ℓ), rfl, sqL_of b1 e1, fun x hx => ?_, fun ys a hs ht n => ?_⟩
    · obtain ⟨t, x1, y1, rfl, h, hx1, hy1⟩ := k2 x hx
      obtain rfl : x1 = .int _ := hx1
      obtain rfl : y1 = .int _ := hy1
      exact ⟨t, rfl, (hid_some (b1.up ℓ _ _ h)).2⟩
    · have hm : ∀ y ∈ ys, (rPair rInt rInt).is (wl C W1 ℓ) y (keyOf (wl C W1 ℓ) y) := fun y hy => k2 y (ht.perm.mem_iff.mp hy)
      refine fresh_go (R := rPair rInt rInt) (ℓ := ℓ) (P := fun z => z = psort l') w s1 b1 q (xs := ys) (l := ys.map (keyOf (wl C W1 ℓ))) (all2_keys hm) ?_ a n
      refine psort_uniq (by rw [← k1]; exact ht.perm.map _) ?_
      refine List.pairwise_map.mpr (hs.imp fun {u v} h => ?_)
      have := SrtO.lexB_no.mp h
      unfold ple
      rw [decide_eq_true_iff]
      omega
/-! min, max of three ints -/
theorem nuMin3_int (a b c : Int) : nuMin3 (.int a) (.int b) (.int c) = some (.int (min (min a b) c)) := by
  have e2 : ∀ x y : Int, nuMin2 (.int x) (.int y) = some (.int (min x y)) := fun x y => by
    show some (if decide (y < x) = true then V.int y else V.int x) = _
    by_cases h : y < x
    · rw [if_pos (decide_eq_true h), Int.min_eq_right (Int.le_of_lt h)]
    · rw [if_neg (by rw [decide_eq_true_iff]; exact h), Int.min_eq_left (by omega)]
  show (nuMin2 (.int a) (.int b)).bind (fun m => nuMin2 m (.int c)) = _
  rw [e2]; exact e2 _ _
variable {tc : TE}
theorem evp_min3 {Pa Pb Pc : Int → Prop} (ha : EvP C ta Γ .h rInt Pa) (hb : EvP C tb Γ .h rInt Pb) (hc : EvP C tc Γ .h rInt Pc) : EvP C (tCB (rNuC3 nuMin3) (tCons ta (tCons tb (tCons tc tNil)))) Γ ℓ rInt (fun z => ∃ x y w, Pa x ∧ Pb y ∧ Pc w ∧ z = min (min x y) w) := fun σ W w Q q =>
  ha σ W w _ fun v W1 a s1 b1 r1 p1 => hb σ W1 (w.stp b1 s1) _ fun u W2 b s2 b2 r2 p2 => hc σ W2 ((w.stp b1 s1).stp b2 s2) _ fun t W3 d s3 b3 r3 p3 =>
    ⟨v, u, t, .int (min (min a b) d), rfl, by rw [show v = .int a from r1, show u = .int b from r2, show t = .int d from r3]; exact nuMin3_int a b d, q _ W3 _ ((s1.trans w.b b1 s2).trans w.b b2 s3) b3 rfl ⟨a, b, d, p1, p2, p3, rfl⟩⟩
end
end GL


set_option Elab.async false
set_option linter.all false
set_option maxRecDepth 100000
set_option maxHeartbeats 1000000
/-! ### tuples of three as triples; loops with three names -/
namespace GL
open PySem L2
variable {C : Cn} {Γ : List Ent} {ta tb te : TE} {ℓ c : Lv} {K : PySem.W.Frag} {D : Ends} {u : TS} {α β γ : Type} {R : Rl α} {S' : Rl β} {T' : Rl γ}
def to3 {α : Type} [Inhabited α] (x : List α) : α × α × α := (gt x 0, gt x 1, gt x 2)
end GL


set_option Elab.async false
set_option linter.all false
set_option maxRecDepth 100000
set_option maxHeartbeats 1000000
/-! ### list(zip(xs, ys)) -/
namespace ZL
open PySem PySem.Calls PyProof.Rows PySem.Spec
section
variable {prog : Program} {w : World} {A : Around} {E : Value → Shared → Prop} {s : Shared}
/-- a zip whose last tuple is still held -/
def Held (h : Heap) (z TI TO T : Addr) (b : Bool) : Prop := h.get? z = some { cls := .type "zip", dict := none, data := .fields #[rawInt T, .bool b, .bool false, .ref TI, .ref TO], slots := #[] }
end
/-- where a zip of two lists stands; the tuple it still holds is none of those named -/
structure ZS (h : Heap) (z TI TO i1 i2 l1 l2 S : Addr) (xs ys : Array Value) (i : Nat) : Prop where
  ti : IsPair h TI (.ref i1) (.ref i2)
  a1 : h.IsListIter i1 l1 i
  a2 : h.IsListIter i2 l2 i
  b1 : h.IsList l1 xs
  b2 : h.IsList l2 ys
  st : (IsZip h z TI TO .none ∧ ∃ a b, IsPair h TO a b) ∨ ∃ T b oT, Held h z TI TO T b ∧ h.get? T = some oT ∧ T ≠ z ∧ T ≠ i1 ∧ T ≠ i2 ∧ T ≠ S
section
variable {prog : Program} {w : World} {A : Around} {E : Value → Shared → Prop} {s : Shared} {z TI TO i1 i2 l1 l2 S : Addr} {xs ys : Array Value} {i : Nat}
theorem ZS.upd {h h' : Heap} (st : ZS h z TI TO i1 i2 l1 l2 S xs ys i) (hz : z ≠ S) (hTI : TI ≠ S) (hTO : TO ≠ S) (h1 : i1 ≠ S) (h2 : i2 ≠ S) (g1 : l1 ≠ S) (g2 : l2 ≠ S)
    (k : ∀ b o, b ≠ S → h.get? b = some o → h'.get? b = some o) : ZS h' z TI TO i1 i2 l1 l2 S xs ys i := by
  refine ⟨k _ _ hTI st.ti, st.a1.at fun o e => k _ o h1 e, st.a2.at fun o e => k _ o h2 e, st.b1.at fun o e => k _ o g1 e, st.b2.at fun o e => k _ o g2 e, ?_⟩
  rcases st.st with ⟨q, a, b, q2⟩ | ⟨T, b, oT, q, q2, n1, n2, n3, n4⟩
  · exact .inl ⟨k _ _ hz q, a, b, k _ _ hTO q2⟩
  · exact .inr ⟨T, b, oT, k _ _ hz q, k _ _ n4 q2, n1, n2, n3, n4⟩
end
/-- the tuples made so far -/
structure TG (xs ys : Array Value) (lo : Addr) (h : Heap) (as : List Addr) : Prop where
  rise : as.Pairwise (· < ·)
  above : ∀ a ∈ as, lo ≤ a ∧ a < h.objs.size
  pairs : ∀ (j : Nat) (a : Addr), as[j]? = some a → ∃ x y, xs[j]? = some x ∧ ys[j]? = some y ∧ IsPair h a x y
theorem TG.upd {xs ys : Array Value} {lo : Addr} {h h' : Heap} {as : List Addr} (g : TG xs ys lo h as) (k : ∀ b o, lo ≤ b → h.get? b = some o → h'.get? b = some o) : TG xs ys lo h' as :=
  ⟨g.rise, fun a ha => by
    obtain ⟨j, hj⟩ := List.mem_iff_getElem?.mp ha
    obtain ⟨x, y, _, _, e⟩ := g.pairs j a hj
    exact ⟨(g.above a ha).1, Heap.lt_size (k a _ (g.above a ha).1 e)⟩, fun j a hj => by
    obtain ⟨x, y, hx, hy, e⟩ := g.pairs j a hj
    exact ⟨x, y, hx, hy, k a _ (g.above a (List.mem_of_getElem? hj)).1 e⟩⟩
theorem TG.snoc {xs ys : Array Value} {lo : Addr} {h : Heap} {as : List Addr} {a : Addr} {x y : Value} (g : TG xs ys lo h as) (ha : ∀ b ∈ as, b < a) (hlo : lo ≤ a) (hs : a < h.objs.size) (hx : xs[as.length]? = some x) (hy : ys[as.length]? = some y) (hp : IsPair h a x y) : TG xs ys lo h (as ++ [a]) := by
  refine ⟨List.pairwise_append.mpr ⟨g.rise, List.pairwise_singleton _ _, fun b hb c hc => by rw [List.mem_singleton.mp hc]; exact ha b hb⟩, fun b hb => ?_, fun j b hj => ?_⟩
  · rcases List.mem_append.mp hb with q | q
    · exact g.above b q
    · rw [List.mem_singleton.mp q]; exact ⟨hlo, hs⟩
  · by_cases e : j < as.length
    · rw [List.getElem?_append_left e] at hj; exact g.pairs j b hj
    · by_cases e2 : j = as.length
      · subst e2
        rw [List.getElem?_append_right (Nat.le_refl _), Nat.sub_self] at hj
        have : b = a := by simpa using hj.symm
        rw [this]; exact ⟨x, y, hx, hy, hp⟩
      · rw [List.getElem?_eq_none (by rw [List.length_append, List.length_singleton]; omega)] at hj; cases hj
/-- the new list stands apart from the zip -/
structure Ap (S z TI TO i1 i2 l1 l2 lo : Addr) : Prop where
  nz : z ≠ S
  nti : TI ≠ S
  nto : TO ≠ S
  na1 : i1 ≠ S
  na2 : i2 ≠ S
  nb1 : l1 ≠ S
  nb2 : l2 ≠ S
  loS : S < lo
  loz : z < lo
  lot : TO < lo
  lo1 : i1 < lo
  lo2 : i2 < lo
section
variable {prog : Program} {w : World} {A : Around} {s : Shared} {R : Result → Shared → Prop} {z TI TO i1 i2 l1 l2 S lo : Addr} {xs ys : Array Value}
end
section
variable {prog : Program} {w : World} {A : Around} {s : Shared} {R : Result → Shared → Prop} {z TI TO i1 i2 l1 l2 S lo : Addr} {xs ys : Array Value}
end
section
variable {prog : Program} {w : World} {A : Around} {E : Value → Shared → Prop} {s : Shared} {z TI TO i1 i2 l1 l2 : Addr} {xs ys : Array Value}
end
end ZL


set_option Elab.async false
set_option linter.all false
set_option maxRecDepth 100000
set_option maxHeartbeats 2000000
/-! ### list(zip(xs, ys)) as a word of the layer -/
namespace L2
open PySem PySem.Spec PyProof.Rows
/-- pairs laid one behind the other -/
inductive Lay : Hp → List (V × V) → List Addr → Hp → Prop
  | nil (H : Hp) : Lay H [] [] H
  | cons {H H2 : Hp} {x y : V} {a : Addr} {ps : List (V × V)} {as : List Addr} : H a = none → Lay (upd H a (.tup [x, y])) ps as H2 → Lay H ((x, y) :: ps) (a :: as) H2
theorem Lay.out {H H2 : Hp} {ps : List (V × V)} {as : List Addr} (h : Lay H ps as H2) : ∀ b, b ∉ as → H2 b = H b := by
  induction h with
  | nil => intro b _; rfl
  | cons _ _ ih =>
    intro b hb
    rw [ih b (fun z => hb (List.mem_cons_of_mem _ z)), upd_ne (fun z => hb (by rw [z]; exact List.mem_cons_self))]
section
variable {P : Program} {w : World} {fs : List Addr} {h0 h' : Heap}
end
def tLstZip (K : PySem.W.Frag) (ta : TA) : TE := fun σ H Q => ta σ H fun vs H1 => ∃ (a b : Addr) (xs ys : List V), vs = [.ref a, .ref b] ∧ SqL K H1 a xs ∧ SqL K H1 b ys ∧ ∀ H2 as q, Lay H1 (xs.zip ys) as H2 → H1 q = none → q ∉ as → Q (.ref q) (upd H2 q (.lst (as.map V.ref)))
section
variable {X : Cx}
end
end L2
namespace GL
open PySem L2
section
variable {C : Cn} {Γ : List Ent} {α β : Type} {R : Rl α} {S' : Rl β} {ta tb : TE} {ℓ c c' : Lv} {K : PySem.W.Frag}
end
end GL


set_option Elab.async false
set_option linter.all false
set_option maxRecDepth 100000
set_option maxHeartbeats 1000000
namespace GL
open PySem L2
/-! texts -/
abbrev tl (x : Str) : List Nat := TL.tl x
def TS_ (l : List Nat) : Str := ⟨l.toArray⟩
def sg (c : Nat) : Str := TS_ [c]
def signs (a : Str) : List Str := (tl a).map sg
def smul (x : Str) (n : Int) : Str := TS_ (List.replicate n.toNat (tl x)).flatten
section
variable {X : Cx}
abbrev rMulS : R2 := fun x y H Q => ∃ i k, x = .str i ∧ y = .int k ∧ MulOk i k ∧ Q (.str (Txt.mul i k)) H
abbrev rAddS_ : R2 := fun x y H Q => ∃ i j, x = .str i ∧ y = .str j ∧ i.length + j.length ≤ sizeLine ∧ Q (.str (i ++ j)) H
abbrev rJoin (K : PySem.W.Frag) : V → List V → Hp → VK → Prop := fun x xs H Q => ∃ a p, ∃ ys : List Str, x = .str a ∧ xs = [.ref p] ∧ (SqL K H p (ys.map V.str) ∨ SqT K H p (ys.map V.str)) ∧ (ys.map (·.length)).sum + ys.length * a.length ≤ 16777216 ∧ Q (.str (Txt.join a ys)) H
abbrev rSplit : V → List V → Hp → VK → Prop := fun x xs H Q => ∃ a b, x = .str a ∧ xs = [.str b] ∧ (b.length == 0) = false ∧ a.length + 2 ≤ sizeLine ∧ rNewStrs (Txt.split a b) H Q
abbrev rCountS : V → List V → Hp → VK → Prop := fun x xs H Q => ∃ a b, x = .str a ∧ xs = [.str b] ∧ Q (.int (Txt.count a b)) H
abbrev rRstripS : V → List V → Hp → VK → Prop := fun x xs H Q => ∃ a b, x = .str a ∧ xs = [.str b] ∧ a.length ≤ sizeLine ∧ Q (.str (Txt.rstripChars a b)) H
open PyProof.Rows PySem.Spec in
def rSumA (K : PySem.W.Frag) : List V → Hp → VK → Prop := fun vs H Q => ∃ (a : Addr) (ns : List Int), vs = [V.ref a] ∧ (SqL K H a (ns.map V.int) ∨ SqT K H a (ns.map V.int)) ∧ Q (.int ns.sum) H
end
section
variable {C : Cn} {Γ : List Ent} {α : Type} {ta tb tc te : TE} {ℓ ℓ' c c' : Lv} {K : PySem.W.Frag} {a b : Str}
def orS (a b : Str) : Str := if tl a = [] then b else a
def slS (a : Str) (lo hi : Option Int) : Str := TS_ (sl (tl a) lo hi)
abbrev rIxS : R2 := fun x y H Q => ∃ z i c, x = .str z ∧ y = .int i ∧ 0 ≤ i ∧ i < 2 ^ 63 ∧ i < z.length ∧ z.cps[i.toNat]? = some c ∧ Q (.str ⟨#[c]⟩) H
abbrev rInSg : R2 := fun x y H Q => ∃ (c : Nat) (z : Str), x = .str ⟨#[c]⟩ ∧ y = .str z ∧ Q (.bl (decide (c ∈ z.cps.toList))) H
end
end GL


set_option Elab.async false
set_option linter.all false
set_option maxRecDepth 100000
set_option maxHeartbeats 1000000
namespace GL
open PySem L2
/-! shifts, low bits; in a list of data -/
section
variable {C : Cn} {Γ : List Ent} {α : Type} {R : Rl α} {ta tb tc te : TE} {ℓ ℓ' c c' : Lv} {K : PySem.W.Frag} {i j : Int}
theorem ev_shr (ha : Ev C ta Γ .h rInt i) (hb : Ev C tb Γ .h rInt j) (hc : 0 ≤ j) : Ev C (tOp (rI (fun _ j => 0 ≤ j) fun i j => .int (i / 2 ^ j.toNat)) ta tb) Γ ℓ rInt (i / 2 ^ j.toNat) := evp_I (f := fun i j => i / 2 ^ j.toNat) ha hb (fun _ _ p q => by rw [q]; exact hc) (fun _ _ _ => rfl) fun _ _ p q => by rw [p, q]
abbrev rShl1 : R2 := fun x y H Q => ∃ k : Nat, x = .int 1 ∧ y = .int (k : Int) ∧ k ≤ 134217727 ∧ Q (.int (2 ^ k)) H
theorem ev_shl1 (ha : Ev C ta Γ .h rInt 1) (hb : Ev C tb Γ .h rInt j) (hc : 0 ≤ j ∧ j ≤ 100000) : Ev C (tOp rShl1 ta tb) Γ ℓ rInt (2 ^ j.toNat) := evp_bin ha hb fun σ W x y a b Q w r1 r2 p1 p2 q => by
  subst p1 p2
  exact ⟨b.toNat, r1, by rw [Int.toNat_of_nonneg hc.1]; exact r2, by omega, q _ W _ (Stp.refl W) w.b rfl rfl⟩
abbrev rAndM : R2 := fun x y H Q => ∃ (i : Int) (k : Nat), x = .int i ∧ y = .int (2 ^ k - 1) ∧ Q (.int (i % 2 ^ k)) H
theorem ev_andM {k : Nat} (ha : Ev C ta Γ .h rInt i) (hb : Ev C tb Γ .h rInt (2 ^ k - 1)) : Ev C (tOp rAndM ta tb) Γ ℓ rInt (i % 2 ^ k) := evp_bin ha hb fun σ W x y a b Q w r1 r2 p1 p2 q => by
  subst p1 p2
  exact ⟨a, k, r1, r2, q _ W _ (Stp.refl W) w.b rfl rfl⟩
theorem any_eqv {E : Eqr K R} (a : α) : ∀ l : List α, ((l.map E.enc).any fun z => PyData.eqv z (E.enc a)) = true ↔ a ∈ l
  | [] => by simp
  | b :: l => by
    rw [List.map_cons, List.any_cons, Bool.or_eq_true, any_eqv a l, E.eqv, List.mem_cons]
    exact ⟨fun h => h.imp Eq.symm id, fun h => h.imp Eq.symm id⟩
end
theorem roomUn5 {k : Nat} {A : Around} (h : Room k A) : A.units + 65 < cLine := by have := h.un; omega
end GL


set_option Elab.async false
set_option linter.all false
set_option maxRecDepth 100000
set_option maxHeartbeats 1000000
/-! ### zip of a list or a tuple with a list or a tuple -/
namespace ZM
open PySem PySem.Calls PyProof.Rows PySem.Spec
/-- the kinds: true is a tuple -/
def Ib : Bool → Heap → Addr → Addr → Nat → Prop
  | false => fun h it l i => h.IsListIter it l i
  | true => fun h it l i => h.IsTupleIter it l i
def Sb : Bool → Heap → Addr → Array Value → Prop
  | false => fun h l xs => h.IsList l xs
  | true => fun h l xs => h.IsTuple l xs
def nb_ : Bool → String
  | false => "list_iterator"
  | true => "tuple_iterator"
theorem Ib.ext : ∀ {k : Bool} {h h' : Heap} {a b l i}, Ib k h a l i → Heap.ExtBut b h h' → a ≠ b → Ib k h' a l i
  | false, _, _, _, _, _, _, x, hs, hab => Heap.IsListIter.extBut x hs hab
  | true, _, _, _, _, _, _, x, hs, hab => Heap.IsTupleIter.extBut x hs hab
theorem Ib.at_ : ∀ {k : Bool} {h h' : Heap} {a l i}, Ib k h a l i → (∀ o, h.get? a = some o → h'.get? a = some o) → Ib k h' a l i
  | false, _, _, _, _, _, x, e => Heap.IsListIter.at x e
  | true, _, _, _, _, _, x, e => Heap.IsTupleIter.at x e
theorem Ib.obj : ∀ {k : Bool} {h : Heap} {a l i}, Ib k h a l i → ∃ o, h.get? a = some o ∧ ∀ v, o.data ≠ .cell v
  | false, _, _, _, _, ⟨o, e, _, d⟩ => ⟨o, e, fun v q => by rw [d] at q; cases q⟩
  | true, _, _, _, _, ⟨o, e, _, d⟩ => ⟨o, e, fun v q => by rw [d] at q; cases q⟩
theorem Sb.ext : ∀ {k : Bool} {h h' : Heap} {b l xs}, Sb k h l xs → Heap.ExtBut b h h' → l ≠ b → Sb k h' l xs
  | false, _, _, _, _, _, x, hs, hab => Heap.IsList.extBut x hs hab
  | true, _, _, _, _, _, x, hs, hab => Heap.IsTuple.extBut x hs hab
section
variable {prog : Program} {w : World} {A : Around} {E : Value → Shared → Prop} {s : Shared}
theorem step : ∀ {k : Bool} {it l : Addr} {i : Nat} {items : Array Value} {x : Value} {Q : Value → Shared → Prop}, Ib k s.heap it l i → Sb k s.heap l items → items[i]? = some x →
    (∀ h', Ib k h' it l (i + 1) → Heap.SameBut it s.heap h' → Q x { s with heap := h' }) → wpAny (model prog w) A (Builtin.SmallTypes.nextOf (.ref it)) Q E s
  | false, _, _, _, _, _, _, h1, h2, h3, h4 => wpAny_nextOf_list_item h1 h2 h3 h4
  | true, _, _, _, _, _, _, h1, h2, h3, h4 => RZ.nextOf_tuple_item h1 h2 h3 h4
theorem stop (hh : A.handled = none) : ∀ {k : Bool} {it l : Addr} {i : Nat} {items : Array Value} {Q : Value → Shared → Prop}, Ib k s.heap it l i → Sb k s.heap l items → items[i]? = none →
    (∀ h' e, Heap.ExtBut it s.heap h' → (∃ o, h'.get? e = some o ∧ o.cls = .type "StopIteration") → E (.ref e) { s with heap := h' }) → wpAny (model prog w) A (Builtin.SmallTypes.nextOf (.ref it)) Q E s
  | false, _, _, _, _, _, h1, h2, h3, h4 => wpAny_nextOf_list_end hh h1 h2 h3 h4
  | true, _, _, _, _, _, h1, h2, h3, h4 => RZ.nextOf_tuple_end hh h1 h2 h3 h4
end
end ZM
namespace ZM
open PySem PySem.Calls PyProof.Rows PySem.Spec
abbrev G1 (p : Bool) (h : Heap) (l1 : Addr) : Heap := h.push { cls := .type (nb_ p), data := .fields #[.ref l1, .int 0 0] }
abbrev G2 (p q : Bool) (h : Heap) (l1 l2 : Addr) : Heap := (G1 p h l1).push { cls := .type (nb_ q), data := .fields #[.ref l2, .int 0 0] }
abbrev G3 (p q : Bool) (h : Heap) (l1 l2 : Addr) : Heap := (G2 p q h l1 l2).push { cls := .type "tuple", data := .seq #[.ref h.objs.size, .ref (G1 p h l1).objs.size] }
abbrev G4 (p q : Bool) (h : Heap) (l1 l2 : Addr) : Heap := (G3 p q h l1 l2).push { cls := .type "tuple", data := .seq #[.none, .none] }
abbrev G5 (p q : Bool) (h : Heap) (l1 l2 : Addr) : Heap := (G4 p q h l1 l2).push { cls := .type "zip", data := .fields #[.none, .bool false, .bool false, .ref (G2 p q h l1 l2).objs.size, .ref (G3 p q h l1 l2).objs.size] }
theorem Ib.new : ∀ {k : Bool} {h : Heap} {a l : Addr}, h.get? a = some { cls := .type (nb_ k), data := .fields #[.ref l, .int 0 0] } → Ib k h a l 0
  | false, _, _, _, g => ⟨_, g, rfl, rfl⟩
  | true, _, _, _, g => ⟨_, g, rfl, rfl⟩
section
variable {prog : Program} {w : World} {A : Around} {E : Value → Shared → Prop} {s : Shared}
end
end ZM
namespace L2
open PySem ZM
def SqB (K : PySem.W.Frag) : Bool → Hp → Addr → List V → Prop
  | false => fun H a xs => SqL K H a xs
  | true => fun H a xs => SqT K H a xs
end L2
namespace L2
open PySem ZM PyProof.Rows
/-- what stands at a and b at each turn, the items in new pairs -/
def ItM (K : PySem.W.Frag) (p q : Bool) (a b : Addr) : It :=
  ⟨fun i H => ∃ (xs ys : List V) (x y : V), SqB K p H a xs ∧ SqB K q H b ys ∧ xs[i]? = some x ∧ ys[i]? = some y,
    fun i H v H' => ∃ T x y, v = .ref T ∧ H T = none ∧ H' = upd H T (.tup [x, y]) ∧ (∀ xs, SqB K p H a xs → xs[i]? = some x) ∧ ∀ ys, SqB K q H b ys → ys[i]? = some y,
    fun i H => ∃ xs ys : List V, SqB K p H a xs ∧ SqB K q H b ys ∧ (xs.length ≤ i ∨ ys.length ≤ i)⟩
section
variable {X : Cx} {pins : List (Addr × Obj)} {s : Shared} {σ : L2.St} {H : Hp}
end
def iZipM (K : PySem.W.Frag) (ta : TA) : TI := fun σ H R => ta σ H fun vs H1 => ∃ (p q : Bool) (a b : Addr) (xs ys : List V), vs = [.ref a, .ref b] ∧ SqB K p H1 a xs ∧ SqB K q H1 b ys ∧ R (ItM K p q a b) H1
end L2
namespace GL
open PySem L2 ZM
section
variable {C : Cn} {Γ : List Ent} {α β : Type} {R : Rl α} {S : Rl β} {ta tb te : TE} {ℓ ℓ' c c' : Lv} {K : PySem.W.Frag}
def kdB : Bool → Kd
  | false => .l
  | true => .t
end
end GL


set_option Elab.async false
set_option linter.all false
set_option maxRecDepth 100000
set_option maxHeartbeats 1000000
namespace GL
open PySem L2
/-! comprehensions over pairs with a test; over a thing and a pair; over triples -/
section
variable {C : Cn} {Γ : List Ent} {α β γ δ : Type} {R : Rl α} {S : Rl β} {T : Rl γ} {U : Rl δ} {te : TE} {ℓ ℓ' c : Lv} {K : PySem.W.Frag}
theorem en_filt2d {wi : TI} {tt : TT} {i j : Nat} {l : List (α × γ)} (p : α × γ → Prop) [DecidablePred p] (f : α × γ → β) (hij : i ≠ j) (hi : EvI C false wi Γ ℓ (rPair R T) (fun x => x = l)) (hz : l.length ≤ 1000000)
    (ht : ∀ a, a ∈ l → EvB C tt (((wipeG Γ [i, j]).set i (.val ℓ R a.1)).set j (.val ℓ T a.2)) (fun b => b = decide (p a)))
    (he : ∀ a, a ∈ l → p a → Ev C te (((wipeG Γ [i, j]).set i (.val ℓ R a.1)).set j (.val ℓ T a.2)) ℓ' S (f a)) (hl : ℓ ≠ .h := by decide) (hlv : ℓ' ≠ .h := by decide) :
    EvN C (tLc wi (gTup K 2 (gCons (gName i) (gCons (gName j) gNil))) tt te [i, j]) Γ ℓ' S (fun z => z = (l.filter fun a => decide (p a)).map f) :=
  (en_lc2 (p := fun a => decide (p a)) (Pe := fun a b => b = f a) hij hi (fun _ e => by rw [e]; exact hz) (fun _ a e m => ht a (e ▸ m)) (fun _ a e m q => he a (e ▸ m) (of_decide_eq_true q)) hl hlv).imp fun z ⟨m, e, h⟩ => by
    have := h.eq
    rw [this, e]
end
end GL


set_option Elab.async false
set_option linter.all false
set_option maxRecDepth 100000
set_option maxHeartbeats 1000000
/-! ### min and max of a tuple of ints -/
namespace ZM
open PySem L2 PySem.Calls PyProof.Rows PySem.Spec
section
variable {prog : Program} {w : PySem.World} {A : Around} {E : Value → Shared → Prop} {s : Shared} {l : Addr} {xs : Array (Int × Tok)}
theorem iter_tup {Q : Value → Shared → Prop} {its : Array Value} (hl : s.heap.IsTuple l its)
    (h : ∀ s₂ : Shared, s₂ = { s with heap := s.heap.push { cls := .type "tuple_iterator", data := .fields #[.ref l, .int 0 0] } } →
      (s₂.heap.IsTupleIter s.heap.objs.size l 0 ∧ s₂.heap.IsTuple l its) → (∀ b ∈ [s.heap.objs.size, l], b < s₂.heap.objs.size) → l ≠ s.heap.objs.size → Q (.ref s.heap.objs.size) s₂) :
    wpAny (model prog w) A (pyIter (.ref l)) Q E s := by
  have hlt : l < s.heap.objs.size := by obtain ⟨_, e, _⟩ := hl; exact Heap.lt_size e
  refine wpAny_pyIter_tuple hl (h _ rfl ⟨⟨_, Heap.get?_push_size _ rfl, rfl, rfl⟩, hl.push _⟩ (fun b hb => ?_) (Nat.ne_of_lt hlt))
  show b < (s.heap.push _).objs.size
  rw [Heap.size_push]
  simp only [List.mem_cons, List.not_mem_nil, or_false] at hb
  rcases hb with rfl | rfl
  · exact Nat.lt_succ_self _
  · exact Nat.lt_succ_of_lt hlt
theorem kept_tup {h' : Heap} (hk : ∀ b o, b ∉ [s.heap.objs.size] → (s.heap.push { cls := .type "tuple_iterator", data := .fields #[.ref l, .int 0 0] }).get? b = some o → h'.get? b = some o) :
    ∀ b o, s.heap.get? b = some o → h'.get? b = some o := fun b o e => by
  refine hk b o (fun hm => ?_) (Heap.get?_push_of_some _ e)
  rw [List.mem_singleton.mp hm] at e
  exact absurd (Heap.lt_size e) (Nat.lt_irrefl _)
theorem min_tup {its : List Value} {ns : List Int} {Q : Value → Shared → Prop} (hh : A.handled = none) (hl : s.heap.IsTuple l its.toArray) (hi : IntsAre its ns) (hne : 0 < ns.length)
    (h : ∀ h' tk M t', (∀ b o, s.heap.get? b = some o → h'.get? b = some o) → M ∈ ns → (∀ a, a ∈ ns → M ≤ a) → Q (.int M t') { s with heap := h', toks := tk }) : wpAny (model prog w) A (call (.builtin "min") [.ref l]) Q E s := by
  obtain ⟨xs, e⟩ := hi.allInts.items
  have hn : numsOf (intItems xs).toList = ns := by rw [← e]; exact hi.numsOf
  rw [nums_intItems] at hn
  subst hn
  rw [e] at hl
  have hsz : 0 < xs.size := by simpa using hne
  refine call_min_walk (iter_tup hl fun s₂ e st hfp hlI => ?_)
  subst e
  refine ⟨_, _, _, _, _, _, _, rfl, Walks.tuple (A := A.in1) hh _ l hlI (intItems xs), st, hfp, by simpa [intItems] using hsz, CmpOf.ints_lt (numAt xs) (fun _ _ => intItems_at), fun v h' tk hP hk => ?_⟩
  have hv : (intItems xs)[argBest (fun i j => decide (numAt xs i < numAt xs j)) (xs.size - 1)]? = some v := by simpa [intItems] using hP
  obtain ⟨t, rfl⟩ := intItems_at hv
  obtain ⟨h1, h2⟩ := argBest_lt (numAt xs) (xs.size - 1)
  refine h h' tk _ t (kept_tup hk) ?_ fun a ha => ?_
  · rw [numAt_eq]; exact PySem.getD_mem (by rw [List.length_map, Array.length_toList]; omega)
  · obtain ⟨j, hj, rfl⟩ := mem_getD ha
    rw [List.length_map, Array.length_toList] at hj
    rw [← numAt_eq]; exact h2 j (by omega)
end
end ZM
namespace L2
open PySem PyProof.Rows ZM
section
variable {X : Cx}
def rMaxT (K : PySem.W.Frag) : List V → Hp → VK → Prop := fun vs H Q => ∃ (a : Addr) (ns : List Int), vs = [V.ref a] ∧ SqT K H a (ns.map V.int) ∧ 0 < ns.length ∧ ∀ m, m ∈ ns → (∀ y, y ∈ ns → y ≤ m) → Q (.int m) H
def rMinT (K : PySem.W.Frag) : List V → Hp → VK → Prop := fun vs H Q => ∃ (a : Addr) (ns : List Int), vs = [V.ref a] ∧ SqT K H a (ns.map V.int) ∧ 0 < ns.length ∧ ∀ m, m ∈ ns → (∀ y, y ∈ ns → m ≤ y) → Q (.int m) H
theorem cr_minT (hc : X.calm = true) : CallR X (.builtin "min") (rMinT X.K) := by
  intro pins s σ H vs us Q I r h
  obtain ⟨a, ns, rfl, hs, hne, q⟩ := h
  obtain ⟨its, rv, hl, _⟩ := I.tuple hs
  rw [Vals.ref1 r]
  exact min_tup (I.ok.hd hc) hl rv.ints hne fun h' tk m t' hk h1 h2 => ⟨.int _, H, I.kept hk, ⟨_, rfl⟩, q m h1 h2⟩
end
end L2
namespace GL
open PySem L2
section
variable {C : Cn} {Γ : List Ent} {ta : TE} {c ℓ : Lv} {K : PySem.W.Frag}
theorem ev_minT {l : List Int} (ha : EvS C ta Γ .t c .h rInt (fun x => x = l)) (hn : l ≠ []) : Ev C (tCB (rMinT K) (tCons ta tNil)) Γ ℓ rInt (lmin l) := fun σ W w Q q =>
  ha σ W w _ fun p W1 xs l' s b e r pl => ⟨p, l', rfl, by rw [← r.ints]; exact sqT_of b e, List.length_pos_iff.mpr (by rw [pl]; exact hn), fun m hm hy => q _ W1 m s b rfl (by subst pl; exact lmin_uniq hm hy)⟩
end
end GL


set_option Elab.async false
set_option linter.all false
set_option maxRecDepth 100000
set_option maxHeartbeats 1000000
namespace GL
open PySem L2
/-! one thing or another; tuples of four -/
section
variable {C : Cn} {Γ : List Ent} {α β γ δ : Type} {R : Rl α} {S : Rl β} {T : Rl γ} {U : Rl δ} {ta tb tc td te : TE} {ℓ ℓ' c : Lv} {K : PySem.W.Frag} {D : Ends} {u : TS}
def rAlt {α β : Type} (R : Rl α) (S : Rl β) : Rl (α ⊕ β) := ⟨fun H v s => match s with | .inl a => R.is H v a | .inr b => S.is H v b, fun {H H' v s} h k => by
  cases s with
  | inl a => exact R.mono h k
  | inr b => exact S.mono h k⟩
def eqr_alt (E : Eqr K R) (F : Eqr K S) (hd : ∀ a b, PyData.eqv (E.enc a) (F.enc b) = false ∧ PyData.eqv (F.enc b) (E.enc a) = false) : Eqr K (rAlt R S) := ⟨fun s => match s with | .inl a => E.enc a | .inr b => F.enc b, fun H v s h => by
    cases s with
    | inl a => exact E.dp H v a h
    | inr b => exact F.dp H v b h, fun s => by
    cases s with
    | inl a => exact E.can a
    | inr b => exact F.can b, max E.n F.n, fun s => by
    cases s with
    | inl a => exact Nat.le_trans (E.dep a) (Nat.le_max_left ..)
    | inr b => exact Nat.le_trans (F.dep b) (Nat.le_max_right ..), fun s t => by
    cases s with
    | inl a => cases t with
      | inl a' => simp [E.eqv]
      | inr b => simp [(hd a b).1]
    | inr b => cases t with
      | inl a => simp [(hd a b).2]
      | inr b' => simp [F.eqv]⟩
def rQuad {α β γ δ : Type} (R : Rl α) (S : Rl β) (T : Rl γ) (U : Rl δ) : Rl (α × β × γ × δ) := ⟨fun H v l => ∃ p x y z o, v = .ref p ∧ Rd H p (.tup [x, y, z, o]) ∧ R.is H x l.1 ∧ S.is H y l.2.1 ∧ T.is H z l.2.2.1 ∧ U.is H o l.2.2.2,
  fun s ⟨p, x, y, z, o, e, h, t, u, w, k⟩ => ⟨p, x, y, z, o, e, rd_mono s h, R.mono s t, S.mono s u, T.mono s w, U.mono s k⟩⟩
def eqr_quad (E : Eqr K R) (F : Eqr K S) (G : Eqr K T) (I : Eqr K U) : Eqr K (rQuad R S T U) := ⟨fun l => .tuple [E.enc l.1, F.enc l.2.1, G.enc l.2.2.1, I.enc l.2.2.2], fun H v l ⟨p, x, y, z, o, e, h, t, u, w, k⟩ => by subst e; exact .tup (.inl h) (.cons (E.dp _ _ _ t) (.cons (F.dp _ _ _ u) (.cons (G.dp _ _ _ w) (.cons (I.dp _ _ _ k) .nil)))),
  fun l => by simp [PyData.canLay0, PyData.canLayAll0, E.can, F.can, G.can, I.can], max E.n (max F.n (max G.n I.n)) + 1, fun l => by
    have h1 := E.dep l.1
    have h2 := F.dep l.2.1
    have h3 := G.dep l.2.2.1
    have h4 := I.dep l.2.2.2
    simp only [PyData.depth, PyData.depthAll]
    omega, fun l m => by simp [PyData.eqv, PyData.eqvAll, E.eqv, F.eqv, G.eqv, I.eqv, Prod.ext_iff]⟩
def rOr (r1 r2 : R2) : R2 := fun x y H Q => r1 x y H Q ∨ r2 x y H Q
end
end GL


set_option Elab.async false
set_option linter.all false
set_option maxRecDepth 100000
set_option maxHeartbeats 1000000
/-! ### dicts -/
namespace GL
open PySem L2
section
variable {κ : Type} [DecidableEq κ] {α : Type}
/-- d[k] -/
def dget (l : List (κ × α)) (k : κ) : Option α := (l.find? fun p => decide (p.1 = k)).map (·.2)
/-- d[k] = a : in its place, or at the end -/
def dput (l : List (κ × α)) (k : κ) (a : α) : List (κ × α) := if (l.any fun p => decide (p.1 = k)) = true then l.map (fun p => if p.1 = k then (p.1, a) else p) else l ++ [(k, a)]
theorem dget_nil {k : κ} : dget ([] : List (κ × α)) k = none := rfl
theorem dget_cons {p : κ × α} {l : List (κ × α)} {k : κ} : dget (p :: l) k = if p.1 = k then some p.2 else dget l k := by
  unfold dget
  rw [List.find?_cons]
  by_cases h : p.1 = k
  · rw [if_pos h]; simp [h]
  · rw [if_neg h]; simp [h]
theorem dget_any {k : κ} : ∀ l : List (κ × α), (l.any fun p => decide (p.1 = k)) = (dget l k).isSome
  | [] => rfl
  | p :: l => by
    rw [List.any_cons, dget_cons, dget_any l]
    by_cases h : p.1 = k <;> simp [h]
theorem dget_map {k j : κ} {a : α} : ∀ l : List (κ × α), dget (l.map fun p => if p.1 = k then (p.1, a) else p) j = if k = j then (dget l j).map (fun _ => a) else dget l j
  | [] => by rw [List.map_nil, dget_nil]; split <;> rfl
  | p :: l => by
    have ih := dget_map (k := k) (j := j) (a := a) l
    rw [List.map_cons, dget_cons, dget_cons, ih]
    by_cases h : p.1 = k
    · subst h
      by_cases hj : p.1 = j <;> simp [hj]
    · by_cases hj : k = j
      · subst hj; simp [h]
      · simp [h, hj]
theorem dget_app {k j : κ} {a : α} : ∀ l : List (κ × α), dget (l ++ [(k, a)]) j = (dget l j).or (if k = j then some a else none)
  | [] => by rw [List.nil_append, dget_cons]; rfl
  | p :: l => by
    rw [List.cons_append, dget_cons, dget_cons, dget_app l]
    split <;> rfl
theorem dget_dput {l : List (κ × α)} {k j : κ} {a : α} : dget (dput l k a) j = if k = j then some a else dget l j := by
  unfold dput
  rw [dget_any]
  split
  · rename_i h
    rw [dget_map]
    split
    · rename_i e
      subst e
      cases hd : dget l k with
      | none => rw [hd] at h; cases h
      | some x => rfl
    · rfl
  · rename_i h
    rw [dget_app]
    split
    · rename_i e
      subst e
      cases hd : dget l k with
      | none => rfl
      | some x => rw [hd] at h; exact absurd rfl h
    · cases dget l j <;> rfl
theorem dput_len {l : List (κ × α)} {k : κ} {a : α} : (dput l k a).length = if (dget l k).isSome then l.length else l.length + 1 := by
  unfold dput
  rw [dget_any]
  split <;> simp
theorem dput_le {l : List (κ × α)} {k : κ} {a : α} : (dput l k a).length ≤ l.length + 1 := by rw [dput_len]; split <;> omega
end
/-- keys of one kind -/
structure DK (κ : Type) [DecidableEq κ] where
  K' : Type
  dec : DecidableEq K'
  f : κ → K'
  inj : ∀ a b, f a = f b → a = b
  ho : List (K' × V) → HO
  hoi : ∀ a b, ho a = ho b → a = b
  kR : Rl κ
  get : ∀ (H : Hp) a y k kvs, H a = some (ho kvs) → kR.is H y k → DGet H a y (valV kvs (f k))
  put : ∀ (H : Hp) a y k v kvs, H a = some (ho kvs) → kR.is H y k → kvs.length < sizeLine → DPut H a y v (upd H a (ho (putK kvs (f k) v)))
def dkInt : DK Int := ⟨Key, inferInstance, Sum.inl, fun _ _ e => Sum.inl.inj e, HO.dK, fun _ _ e => HO.dK.inj e, rInt, fun H a y k kvs h r => by
  cases (show y = .int k from r)
  exact DGet.k (k := Sum.inl k) h, fun H a y k v kvs h r hl => by
  cases (show y = .int k from r)
  exact DPut.k (k := Sum.inl k) h hl⟩
theorem tupKeys {H : Hp} {xs : List V} {l : List Int} (h : All2 (rInt.is H) xs l) : xs = (l.map (Sum.inl : Int → Key)).map kV := by
  rw [h.map_eq (f := V.int) (fun _ _ e => e), List.map_map]; rfl
/-- a tuple as a key -/
def rTupS {α : Type} (R : Rl α) : Rl (List α) := ⟨fun H v l => ∃ p xs, v = .ref p ∧ H p = some (.tup xs) ∧ All2 (R.is H) xs l,
  fun s ⟨p, xs, e, h, t⟩ => ⟨p, xs, e, s _ _ h, t.imp fun _ _ => R.mono s⟩⟩
def dkTup : DK (List Int) := ⟨List Key, inferInstance, List.map Sum.inl, fun a b e => (List.map_inj_right (fun _ _ z => Sum.inl.inj z)).mp e, HO.dT, fun _ _ e => HO.dT.inj e, rTupS rInt, fun H a y k kvs h ⟨p, xs, e, hp, t⟩ => by
  subst e
  refine DGet.t (k := k.map Sum.inl) h ?_
  rw [hp, tupKeys t], fun H a y k v kvs h ⟨p, xs, e, hp, t⟩ hl => by
  subst e
  refine DPut.t (k := k.map Sum.inl) h ?_ hl
  rw [hp, tupKeys t]⟩
section
variable {κ : Type} [DecidableEq κ] {α : Type}
/-- entry by entry -/
def DRel (k : DK κ) (p : V → α → Prop) : List (k.K' × V) → List (κ × α) → Prop
  | [], [] => True
  | x :: xs, a :: l => x.1 = k.f a.1 ∧ p x.2 a.2 ∧ DRel k p xs l
  | _, _ => False
theorem DRel.imp {k : DK κ} {p q : V → α → Prop} (h : ∀ v a, p v a → q v a) : ∀ {xs : List (k.K' × V)} {l : List (κ × α)}, DRel k p xs l → DRel k q xs l
  | [], [], _ => trivial
  | _ :: _, _ :: _, ⟨a, b, c⟩ => ⟨a, h _ _ b, DRel.imp h c⟩
theorem DRel.len {k : DK κ} {p : V → α → Prop} : ∀ {xs : List (k.K' × V)} {l : List (κ × α)}, DRel k p xs l → xs.length = l.length
  | [], [], _ => rfl
  | _ :: _, _ :: _, ⟨_, _, c⟩ => by rw [List.length_cons, List.length_cons, DRel.len c]
theorem DRel.get {k : DK κ} {p : V → α → Prop} (j : κ) : ∀ {xs : List (k.K' × V)} {l : List (κ × α)}, DRel k p xs l → (∀ a, dget l j = some a → ∃ v, @valV _ k.dec xs (k.f j) = some v ∧ p v a) ∧ (dget l j = none → @valV _ k.dec xs (k.f j) = none)
  | [], [], _ => ⟨fun a h => (by rw [dget_nil] at h; cases h), fun _ => rfl⟩
  | x :: xs, a :: l, ⟨h1, h2, h3⟩ => by
    letI := k.dec
    obtain ⟨i1, i2⟩ := DRel.get j h3
    rw [dget_cons]
    by_cases e : a.1 = j
    · rw [if_pos e, valV_pos (by rw [h1, e])]
      exact ⟨fun b hb => ⟨_, rfl, by cases hb; exact h2⟩, fun z => (by cases z)⟩
    · rw [if_neg e, valV_neg (fun z => e (k.inj _ _ (h1.symm.trans z)))]
      exact ⟨i1, i2⟩
theorem DRel.any {k : DK κ} {p : V → α → Prop} (j : κ) : ∀ {xs : List (k.K' × V)} {l : List (κ × α)}, DRel k p xs l → (xs.any fun x => @decide (x.1 = k.f j) (k.dec _ _)) = (l.any fun x => decide (x.1 = j))
  | [], [], _ => rfl
  | x :: xs, a :: l, ⟨h1, h2, h3⟩ => by
    letI := k.dec
    rw [List.any_cons, List.any_cons, DRel.any j h3]
    congr 1
    by_cases e : a.1 = j
    · simp [h1, e]
    · have e1 : ¬ x.1 = k.f j := fun z => e (k.inj _ _ (h1.symm.trans z))
      simp [e, e1]
theorem DRel.map {k : DK κ} {p : V → α → Prop} (j : κ) {v : V} {b : α} (hp : p v b) : ∀ {xs : List (k.K' × V)} {l : List (κ × α)}, DRel k p xs l → DRel k p (xs.map fun x => @ite _ (x.1 = k.f j) (k.dec _ _) (x.1, v) x) (l.map fun x => if x.1 = j then (x.1, b) else x)
  | [], [], _ => trivial
  | x :: xs, a :: l, ⟨h1, h2, h3⟩ => by
    letI := k.dec
    rw [List.map_cons, List.map_cons]
    have ih := DRel.map j hp h3
    by_cases e : a.1 = j
    · rw [if_pos e, if_pos (by rw [h1, e])]
      exact ⟨h1, hp, ih⟩
    · rw [if_neg e, if_neg (fun z => e (k.inj _ _ (h1.symm.trans z)))]
      exact ⟨h1, h2, ih⟩
theorem DRel.app {k : DK κ} {p : V → α → Prop} (j : κ) {v : V} {b : α} (hp : p v b) : ∀ {xs : List (k.K' × V)} {l : List (κ × α)}, DRel k p xs l → DRel k p (xs ++ [(k.f j, v)]) (l ++ [(j, b)])
  | [], [], _ => ⟨rfl, hp, trivial⟩
  | x :: xs, a :: l, ⟨h1, h2, h3⟩ => ⟨h1, h2, DRel.app j hp h3⟩
theorem DRel.put {k : DK κ} {p : V → α → Prop} (j : κ) {v : V} {b : α} (hp : p v b) {xs : List (k.K' × V)} {l : List (κ × α)} (h : DRel k p xs l) : DRel k p (@putK _ k.dec xs (k.f j) v) (dput l j b) := by
  letI := k.dec
  unfold putK dput
  rw [h.any j]
  split
  · exact h.map j hp
  · exact h.app j hp
end
/-- what stands for a dict, told entry by entry -/
def rDict {κ α : Type} [DecidableEq κ] (k : DK κ) (R : Rl α) : Rl (List (κ × α)) := ⟨fun H v l => ∃ p xs, v = .ref p ∧ H p = some (k.ho xs) ∧ DRel k (R.is H) xs l, fun s ⟨p, xs, e, h, t⟩ => ⟨p, xs, e, s _ _ h, t.imp fun _ _ => R.mono s⟩⟩
def obDict {κ α : Type} [DecidableEq κ] (k : DK κ) (R : Rl α) : Ob (List (κ × α)) := ⟨fun K A v ps l => ∃ p xs, v = .ref p ∧ ps = [p] ∧ A p = some (k.ho xs) ∧ DRel k (R.is K) xs l, fun {K K' A A' v ps l} s h ⟨p, xs, e, e2, ha, t⟩ => ⟨p, xs, e, e2, by rw [h p (by rw [e2]; exact List.mem_singleton.mpr rfl)]; exact ha, t.imp fun _ _ => R.mono s⟩⟩
/-- a dict to be read; c: where it stands, ℓ: where its values stand -/
def EvD (C : Cn) {κ α : Type} [DecidableEq κ] (te : TE) (Γ : List Ent) (c ℓ : Lv) (k : DK κ) (R : Rl α) (l : List (κ × α)) : Prop :=
  ∀ σ W, World C σ W Γ → ∀ Q : VK, (∀ p W' xs, Stp W W' → Bok C W' → wl C W' c p = some (k.ho xs) → DRel k (R.is (wl C W' ℓ)) xs l → Q (.ref p) W'.H) → te σ W.H Q
section
variable {C : Cn} {Γ : List Ent} {κ α β γ : Type} [DecidableEq κ] {k : DK κ} {R : Rl α} {P : α → Prop} {te ta tb td ty tv : TE} {ℓ ℓ' c : Lv} {D : Ends} {u : TS} {l : List (κ × α)}
theorem ob_lit {σ : Sg} {W : Wd} (w : World C σ W Γ) {i : Nat} {v : V} {ps : List Addr} {S : Ob β} {a : β} (h : Γ[i]? = some (.ob v ps ℓ S a)) : σ[i]? = some (some v) ∧ ℓ ≠ .h ∧ (∀ p ∈ ps, p ∉ W.vs ∧ C.H0 p = none ∧ W.G p = none ∧ W.H p ≠ none) ∧ S.is (wl C W ℓ) W.H v ps a := by
  obtain ⟨x, h1, hl, h2, hp, r⟩ := w.get h
  subst h2
  exact ⟨h1, hl, hp, r⟩
theorem EvD.fl (f : Flat R) (h : EvD C te Γ c ℓ k R l) : EvD C te Γ c ℓ' k R l := fun σ W w Q q => h σ W w Q fun p W' xs s b e r => q p W' xs s b e (r.imp fun _ _ => f _ _ _ _)
theorem EvD.toh (h : EvD C te Γ c ℓ k R l) : EvD C te Γ .h .h k R l := fun σ W w Q q => h σ W w Q fun p W' xs s b e r => q p W' xs s b (b.up c _ _ e) (r.imp fun _ _ => R.mono (b.up ℓ))
def dgetV [Inhabited α] (l : List (κ × α)) (j : κ) : α := (dget l j).getD default
end
end GL


set_option Elab.async false
set_option linter.all false
set_option maxRecDepth 100000
set_option maxHeartbeats 1000000
/-! ### order of tuples of ints; list.index of data -/
namespace GL
open PySem L2
/-- order of rows -/
def lexB : List Int → List Int → Bool
  | [], [] => false
  | [], _ :: _ => true
  | _ :: _, [] => false
  | a :: l, b :: m => decide (a < b) || (decide (a = b) && lexB l m)
section
variable {C : Cn} {Γ : List Ent} {ta tb tc : TE} {ℓ ℓ' ℓ1 ℓ2 c : Lv} {K : PySem.W.Frag} {α : Type} {R : Rl α}
end
end GL
namespace GL
open PySem L2
end GL


set_option Elab.async false
set_option linter.all false
set_option maxRecDepth 100000
set_option maxHeartbeats 1000000
/-! ### one tuple of ints above another -/
namespace HT
open PySem PySem.Spec PyProof.Rows
def gtB : List Int → List Int → Bool
  | [], [] => false
  | [], _ :: _ => false
  | _ :: _, [] => true
  | x :: xs, y :: ys => if x = y then gtB xs ys else decide (x > y)
section
open PySem.SeqAt
open PySem.AutoSeq1 (wpAny_loadPart')
open PySem.MeetsSeq PySem.MeetsSeq2 PySem.MeetsSeq3
end
section
variable {prog : Program} {w : World} {A : Around} {E : Value → Shared → Prop} {s : Shared}
end
end HT
namespace L2
open PySem PySem.Spec PyProof.Rows
def rGtT (K : PySem.W.Frag) : R2 := fun x y H Q => ∃ a b ns ms, x = .ref a ∧ y = .ref b ∧ SqT K H a (ns.map V.int) ∧ SqT K H b (ms.map V.int) ∧ Q (.bl (HT.gtB ns ms)) H
end L2
namespace GL
open PySem L2
end GL


set_option Elab.async false
set_option linter.all false
set_option maxRecDepth 100000
set_option maxHeartbeats 2000000
/-! ### the greatest of a list of pairs of ints -/
namespace L2
open PySem PySem.Spec PyProof.Rows PySem.SeqAt
open PySem.W (AlikeAll maxD max_list_data dataLt readsAll_at)
def rMaxA (K : PySem.W.Frag) : List V → Hp → VK → Prop := fun xs H Q => ∃ (p : Addr) (vs : List V) (d : PyData) (ds : List PyData), xs = [.ref p] ∧ SqL K H p vs ∧ DpAll K H vs (d :: ds) ∧ AlikeAll (d :: ds) ∧ PyData.depthAll (d :: ds) ≤ 60 ∧ ∀ (i : Nat) (v : V), vs[i]? = some v → (d :: ds)[i]? = some (maxD d ds) → Q v H
section
variable {X : Cx}
end
end L2

namespace GL
open PySem L2
open PySem.W (AlikeAll maxD dataLt alike alikeAll keyToks keyToksAll)
/-- one pair below another -/
def ltP (a b : Int × Int) : Bool := decide (a.1 < b.1) || (decide (a.1 = b.1) && decide (a.2 < b.2))
def encP (a : Int × Int) : PyData := .tuple [.int a.1, .int a.2]
def bestP (a : Int × Int) (l : List (Int × Int)) : Int × Int := l.foldl (fun a y => if ltP a y then y else a) a
section
variable {C : Cn} {Γ : List Ent} {ta : TA} {tb te : TE} {c ℓ : Lv} {K : PySem.W.Frag}
end
end GL


set_option Elab.async false
set_option linter.all false
set_option maxRecDepth 100000
set_option maxHeartbeats 1000000
/-! ### results that are a triple or a pair with a text ahead; a triple from its second on -/
namespace GL
open PySem L2
section
variable {C : Cn} {Γ : List Ent} {α β γ δ : Type} {R : Rl α} {S : Rl β} {T : Rl γ} {U : Rl δ} {te : TE} {ℓ : Lv} {K : PySem.W.Frag}
def alt0 {α β γ δ : Type} : Sum (α × β × γ) (α × δ) → α
  | .inl a => a.1
  | .inr a => a.1
def altA {α β : Type} [Inhabited α] : Sum α β → α
  | .inl a => a
  | .inr _ => default
def altB {α β : Type} [Inhabited β] : Sum α β → β
  | .inl _ => default
  | .inr a => a
/-- the greatest of a list of pairs -/
def bestL : List (Int × Int) → Int × Int
  | [] => (0, 0)
  | a :: l => bestP a l
end
end GL


set_option Elab.async false
set_option linter.all false
set_option maxRecDepth 100000
set_option maxHeartbeats 2000000
/-! ### zip of three, each a list or a tuple -/
namespace ZM
open PySem PySem.Calls PyProof.Rows PySem.Spec
theorem Sb.at_ : ∀ {k : Bool} {h h' : Heap} {l xs}, Sb k h l xs → (∀ o, h.get? l = some o → h'.get? l = some o) → Sb k h' l xs
  | false, _, _, _, _, x, e => Heap.IsList.at x e
  | true, _, _, _, _, x, e => Heap.IsTuple.at x e
section
variable {prog : Program} {w : World} {A : Around} {E : Value → Shared → Prop} {s : Shared}
variable {p q r : Bool} {z TI TO i1 i2 i3 l1 l2 l3 : Addr} {i : Nat} {xs ys zs : Array Value} {a1 a2 a3 : Value}
end
end ZM
namespace L2
open PySem ZM PyProof.Rows
def ItM3 (K : PySem.W.Frag) (p q r : Bool) (a b c : Addr) : It :=
  ⟨fun i H => ∃ (xs ys zs : List V), SqB K p H a xs ∧ SqB K q H b ys ∧ SqB K r H c zs ∧ i < xs.length ∧ i < ys.length ∧ i < zs.length,
    fun i H v H' => ∃ T x y z, v = .ref T ∧ H T = none ∧ H' = upd H T (.tup [x, y, z]) ∧ (∀ xs, SqB K p H a xs → xs[i]? = some x) ∧ (∀ ys, SqB K q H b ys → ys[i]? = some y) ∧ ∀ zs, SqB K r H c zs → zs[i]? = some z,
    fun i H => ∃ xs ys zs : List V, SqB K p H a xs ∧ SqB K q H b ys ∧ SqB K r H c zs ∧ i ≤ xs.length ∧ i ≤ ys.length ∧ i ≤ zs.length ∧ (i = xs.length ∨ i = ys.length ∨ i = zs.length)⟩
end L2
namespace L2
open PySem ZM PyProof.Rows
def iZip3 (K : PySem.W.Frag) (ta : TA) : TI := fun σ H R => ta σ H fun vs H1 => ∃ (p q r : Bool) (a b c : Addr) (xs ys zs : List V), vs = [.ref a, .ref b, .ref c] ∧ SqB K p H1 a xs ∧ SqB K q H1 b ys ∧ SqB K r H1 c zs ∧ R (ItM3 K p q r a b c) H1
end L2
namespace GL
open PySem L2 ZM
section
variable {C : Cn} {Γ : List Ent} {α β γ : Type} {R : Rl α} {S : Rl β} {T : Rl γ} {ta tb tc te : TE} {ℓ ℓ' c c' c'' : Lv} {K : PySem.W.Frag}
end
end GL
namespace GL
open PySem L2
section
variable {C : Cn} {Γ : List Ent} {α : Type} {R : Rl α} {te : TE} {ℓ : Lv}
end
end GL


set_option Elab.async false
set_option linter.all false
set_option maxRecDepth 100000
set_option maxHeartbeats 2000000
/-! ### for x in zip(a list, a list), one name -/
namespace ZM
open PySem PySem.Calls PyProof.Rows PySem.Spec
def HE (h : Heap) (z TI TO : Addr) (b : Bool) : Prop := h.get? z = some { cls := .type "zip", dict := none, data := .fields #[.ellipsis, .bool b, .bool false, .ref TI, .ref TO], slots := #[] }
section
variable {prog : Program} {w : World} {A : Around} {E : Value → Shared → Prop} {s : Shared}
def NS (h : Heap) (z TI TO i1 i2 a b : Addr) (i : Nat) : Prop :=
  IsPair h TI (.ref i1) (.ref i2) ∧ h.IsListIter i1 a i ∧ h.IsListIter i2 b i ∧ (∃ x y, IsPair h TO x y) ∧ (IsZip h z TI TO .none ∨ ∃ T bb, ZL.Held h z TI TO T bb)
end
end ZM
namespace L2
open PySem ZM PyProof.Rows
end L2


set_option Elab.async false
set_option linter.all false
set_option maxRecDepth 100000
set_option maxHeartbeats 2000000
/-! ### the greatest of a list of triples of ints -/
namespace GL
open PySem L2
open PySem.W (AlikeAll maxD dataLt alike alikeAll keyToks keyToksAll)
abbrev I3 := Int × Int × Int
def ltT (a b : I3) : Bool := decide (a.1 < b.1) || (decide (a.1 = b.1) && ltP a.2 b.2)
def encT (a : I3) : PyData := .tuple [.int a.1, .int a.2.1, .int a.2.2]
def bestT (a : I3) (l : List I3) : I3 := l.foldl (fun a y => if ltT a y then y else a) a
section
variable {C : Cn} {Γ : List Ent} {ta : TA} {tb te : TE} {c ℓ : Lv} {K : PySem.W.Frag}
def bestL3 : List I3 → I3
  | [] => (0, 0, 0)
  | a :: l => bestT a l
end
end GL


set_option Elab.async false
set_option linter.all false
set_option maxRecDepth 100000
set_option maxHeartbeats 1000000
/-! ### d.get(k, x); all that a dict holds, key by key -/
namespace GL
open PySem L2
section
variable {C : Cn} {Γ : List Ent} {κ α β γ : Type} [DecidableEq κ] {k : DK κ} {R : Rl α} {P : α → Prop} {te ta tb tc td ty tv tx : TE} {ℓ ℓ' c : Lv} {D : Ends} {u : TS} {l : List (κ × α)}
def DK.isD (k : DK κ) : Prop := ∀ (H : Hp) a kvs, H a = some (k.ho kvs) → IsD H a
end
end GL


set_option Elab.async false
set_option linter.all false
set_option maxRecDepth 100000
set_option maxHeartbeats 1000000
/-! ### a call's answer, a list of lists, that is changed row by row -/
namespace GL
open PySem L2
def butS (H : Hp) (ps : List Addr) : Hp := fun q => if q ∈ ps then none else H q
/-- a row's item is no list -/
def NotL {α : Type} (R : Rl α) : Prop := ∀ H p xs a, H p = some (.lst xs) → ¬ R.is H (.ref p) a
/-- exact, rows may be one object -/
def obRows {α : Type} (R : Rl α) : Ob (List (List α)) := ⟨fun K A v ps a => ∃ p qs, v = .ref p ∧ ps = p :: qs ∧ p ∉ qs ∧ A p = some (.lst (qs.map V.ref)) ∧ All2 (fun v l => ∃ q xs, v = .ref q ∧ q ∈ ps ∧ A q = some (.lst xs) ∧ All2 (R.is K) xs l) (qs.map V.ref) a,
  fun {K K' A A' v ps a} s h ⟨p, qs, e, e2, e3, e4, t⟩ => ⟨p, qs, e, e2, e3, by rw [h p (by rw [e2]; exact List.mem_cons_self)]; exact e4, t.imp fun v l ⟨q, xs, z1, z2, z3, z4⟩ => ⟨q, xs, z1, z2, by rw [h q z2]; exact z3, z4.imp fun _ _ => R.mono s⟩⟩⟩
/-- some lists, of which some are not looked at -/
def obLoose {α : Type} (R : Rl α) (B : Nat) : Ob (Addr × List Addr × List Addr) := ⟨fun K A v ps a => v = .ref a.1 ∧ ps = a.1 :: a.2.1.filter (fun q => decide (q ∉ a.2.2)) ∧ a.1 ∉ a.2.1 ∧ A a.1 = some (.lst (a.2.1.map V.ref)) ∧ ∀ q ∈ a.2.1, q ∉ a.2.2 → ∃ xs l, A q = some (.lst xs) ∧ All2 (R.is K) xs l ∧ l.length ≤ B,
  fun {K K' A A' v ps a} s h ⟨e, e2, e3, e4, t⟩ => ⟨e, e2, e3, by rw [h a.1 (by rw [e2]; exact List.mem_cons_self)]; exact e4, fun q hq hn => by
    obtain ⟨xs, l, z1, z2, z3⟩ := t q hq hn
    exact ⟨xs, l, by rw [h q (by rw [e2]; exact List.mem_cons_of_mem _ (List.mem_filter.mpr ⟨hq, decide_eq_true hn⟩))]; exact z1, z2.imp fun _ _ => R.mono s, z3⟩⟩⟩
def obAny : Ob HO := ⟨fun K A v ps o => ∃ p, v = .ref p ∧ ps = [p] ∧ A p = some o, fun {K K' A A' v ps o} s h ⟨p, e, e2, e3⟩ => ⟨p, e, e2, by rw [h p (by rw [e2]; exact List.mem_singleton.mpr rfl)]; exact e3⟩⟩
section
variable {C : Cn} {Γ : List Ent} {α β γ : Type} {R : Rl α} {P : α → Prop} {te ta tb tc td ty tv tx : TE} {ℓ ℓ' c : Lv} {K : PySem.W.Frag} {D : Ends} {t u : TS}
/-! in and not in, of data -/
theorem ev_ninD [DecidableEq α] {a : α} {l : List α} (E : Eqr K R) (hn : E.n ≤ 60) (ha : Ev C ta Γ .h R a) (hb : Ev C tb Γ .h (rList R) l) : Ev C (tOp (rNotInD K) ta tb) Γ ℓ rBool (!decide (a ∈ l)) := evp_bin ha hb fun σ W x y a' l' Q w r1 r2 p1 p2 q => by
  subst p1 p2
  obtain ⟨p, xs, e, h, t⟩ := r2
  subst e
  refine ⟨E.enc a', l'.map E.enc, E.dp _ _ _ (R.mono (fun _ _ h => (hid_some h).2) r1), .lst (.inl (.inl (hid_some h).2)) (dpAll E (t.imp fun _ _ => R.mono (fun _ _ h => (hid_some h).2))), E.sh (by omega) a', (eqr_list E).sh (show E.n + 1 ≤ 64 by omega) l', q _ W _ (Stp.refl W) w.b rfl ?_⟩
  congr 1
  rw [Bool.eq_iff_iff, any_eqv, decide_eq_true_iff]
theorem ec_ninD [DecidableEq α] {a : α} {l : List α} (E : Eqr K R) (hn : E.n ≤ 60) (ha : Ev C ta Γ .h R a) (hb : Ev C tb Γ .h (rList R) l) : EvC C (tTest (tOp (rNotInD K) ta tb)) Γ (¬ a ∈ l) := (eb_tst (ev_ninD E hn ha hb)).imp fun b e => by rw [e]; simp
end
end GL


set_option Elab.async false
set_option linter.all false
set_option maxRecDepth 100000
set_option maxHeartbeats 1000000
/-! ### a comprehension over such rows -/
namespace GL
open PySem L2
def rAt {α : Type} (ps : List Addr) (a : List α) : Rl (α × Addr) := ⟨fun _ v x => v = .ref x.2 ∧ ∃ n : Nat, ps.tail[n]? = some x.2 ∧ a[n]? = some x.1, fun _ h => h⟩
section
variable {C : Cn} {Γ : List Ent} {α β γ : Type} {R : Rl α} {S : Rl β} {P : α → Prop} {te ta tb tc td ty tv tx : TE} {ℓ ℓ' c : Lv} {K : PySem.W.Frag} {D : Ends} {t u : TS}
end
end GL


set_option Elab.async false
set_option linter.all false
set_option maxRecDepth 100000
set_option maxHeartbeats 1000000
/-! ### a list of lists of ours, each an object of its own -/
namespace GL
open PySem L2
section
variable {α : Type}
def Gr (R : Rl α) (K A : Hp) : List Addr → List (List α) → Prop
  | [], [] => True
  | q :: qs, l :: a => (∃ xs, A q = some (.lst xs) ∧ All2 (R.is K) xs l) ∧ Gr R K A qs a
  | _, _ => False
variable {R : Rl α} {K A : Hp}
theorem Gr.len : ∀ {qs : List Addr} {a : List (List α)}, Gr R K A qs a → qs.length = a.length
  | [], [], _ => rfl
  | _ :: _, _ :: _, ⟨_, t⟩ => by rw [List.length_cons, List.length_cons, Gr.len t]
theorem Gr.mono {K' A' : Hp} (s : Same K K') : ∀ {qs : List Addr} {a : List (List α)}, (∀ q ∈ qs, A' q = A q) → Gr R K A qs a → Gr R K' A' qs a
  | [], [], _, _ => trivial
  | q :: qs, _ :: _, h, ⟨⟨xs, e, t⟩, r⟩ => ⟨⟨xs, by rw [h q List.mem_cons_self]; exact e, t.imp fun _ _ => R.mono s⟩, Gr.mono s (fun z hz => h z (List.mem_cons_of_mem _ hz)) r⟩
theorem Gr.get : ∀ {qs : List Addr} {a : List (List α)} {n : Nat} {l : List α}, Gr R K A qs a → a[n]? = some l → ∃ q xs, qs[n]? = some q ∧ A q = some (.lst xs) ∧ All2 (R.is K) xs l
  | [], [], _, _, _, h => by simp at h
  | q :: qs, l0 :: a, 0, l, ⟨⟨xs, e, t⟩, r⟩, h => by
    have e1 : l0 = l := by simpa using h
    subst e1
    exact ⟨q, xs, rfl, e, t⟩
  | q :: qs, l0 :: a, n + 1, l, ⟨_, r⟩, h => by
    obtain ⟨q', xs, h1, h2, h3⟩ := Gr.get (n := n) (l := l) r (by simpa using h)
    exact ⟨q', xs, by simpa using h1, h2, h3⟩
theorem Gr.there : ∀ {qs : List Addr} {a : List (List α)}, Gr R K A qs a → ∀ q ∈ qs, A q ≠ none
  | [], [], _, q, hq => by cases hq
  | q0 :: qs, l0 :: a, ⟨⟨xs, e, t⟩, r⟩, q, hq => by
    rcases List.mem_cons.mp hq with z | z
    · rw [z, e]; intro z; cases z
    · exact Gr.there r q z
theorem Gr.put {xs' : List V} {l' : List α} (hx : All2 (R.is K) xs' l') : ∀ {qs : List Addr} {a : List (List α)} {n : Nat} {q : Addr}, qs.Nodup → Gr R K A qs a → qs[n]? = some q → Gr R K (upd A q (.lst xs')) qs (a.set n l')
  | [], [], _, _, _, _, h => by simp at h
  | q0 :: qs, l0 :: a, 0, q, hn, ⟨⟨xs, e, t⟩, r⟩, h => by
    have e1 : q0 = q := by simpa using h
    subst e1
    refine ⟨⟨xs', upd_same, hx⟩, r.mono (Same.refl _) fun z hz => upd_ne fun e => ?_⟩
    exact (List.nodup_cons.mp hn).1 (e ▸ hz)
  | q0 :: qs, l0 :: a, n + 1, q, hn, ⟨⟨xs, e, t⟩, r⟩, h => by
    have h' : qs[n]? = some q := by simpa using h
    have ne : q0 ≠ q := fun z => (List.nodup_cons.mp hn).1 (z ▸ List.mem_of_getElem? h')
    exact ⟨⟨xs, by rw [upd_ne ne]; exact e, t⟩, Gr.put hx (List.nodup_cons.mp hn).2 r h'⟩
theorem Gr.erase : ∀ {qs : List Addr} {a : List (List α)} (n : Nat), Gr R K A qs a → Gr R K A (qs.eraseIdx n) (a.eraseIdx n)
  | [], [], n, _ => by simp [Gr]
  | q :: qs, l :: a, 0, ⟨_, r⟩ => r
  | q :: qs, l :: a, n + 1, ⟨h, r⟩ => ⟨h, Gr.erase n r⟩
theorem Gr.app : ∀ {qs qs' : List Addr} {a a' : List (List α)}, Gr R K A qs a → Gr R K A qs' a' → Gr R K A (qs ++ qs') (a ++ a')
  | [], _, [], _, _, h => h
  | _ :: _, _, _ :: _, _, ⟨h, t⟩, r => ⟨h, Gr.app t r⟩
theorem Gr.take : ∀ {qs : List Addr} {a : List (List α)} (n : Nat), Gr R K A qs a → Gr R K A (qs.take n) (a.take n)
  | [], [], n, _ => by simp [Gr]
  | q :: qs, l :: a, 0, _ => trivial
  | q :: qs, l :: a, n + 1, ⟨h, r⟩ => ⟨h, Gr.take n r⟩
theorem Gr.drop : ∀ {qs : List Addr} {a : List (List α)} (n : Nat), Gr R K A qs a → Gr R K A (qs.drop n) (a.drop n)
  | [], [], n, _ => by simp [Gr]
  | q :: qs, l :: a, 0, h => h
  | q :: qs, l :: a, n + 1, ⟨_, r⟩ => Gr.drop n r
def obGrid (R : Rl α) : Ob (List (List α)) := ⟨fun K A v ps a => ∃ p qs, v = .ref p ∧ ps = p :: qs ∧ (p :: qs).Nodup ∧ A p = some (.lst (qs.map V.ref)) ∧ Gr R K A qs a,
  fun {K K' A A' v ps a} s h ⟨p, qs, e, e2, e3, e4, t⟩ => ⟨p, qs, e, e2, e3, by rw [h p (by rw [e2]; exact List.mem_cons_self)]; exact e4, t.mono s fun q hq => h q (by rw [e2]; exact List.mem_cons_of_mem _ hq)⟩⟩
end
section
variable {C : Cn} {Γ : List Ent} {α β γ : Type} {R : Rl α} {S : Rl β} {P : α → Prop} {te ta tb tc td ty tv tx t1 t2 : TE} {ℓ ℓ' c : Lv} {K : PySem.W.Frag} {D : Ends} {t u : TS} {p : Addr} {qs : List Addr} {a : List (List α)}
def obTop : Ob Unit := ⟨fun _ _ _ _ _ => True, fun _ _ _ => trivial⟩
end
end GL


set_option Elab.async false
set_option linter.all false
set_option maxRecDepth 100000
set_option maxHeartbeats 1000000
/-! ### objects with fields -/
namespace GL
open PySem L2
/-- the fields of an object, in their order -/
structure Shp (α : Type) where
  is : Hp → Hp → List (Str × V) → List Addr → α → Prop
  names : List Str
  mono : ∀ {K K' A A' : Hp} {fs : List (Str × V)} {ps : List Addr} {a : α}, Same K K' → (∀ p ∈ ps, A' p = A p) → is K A fs ps a → is K' A' fs ps a
  keys : ∀ {K A : Hp} {fs : List (Str × V)} {ps : List Addr} {a : α}, is K A fs ps a → fs.map (·.1) = names
def Shp.nil : Shp Unit := ⟨fun _ _ fs ps _ => fs = [] ∧ ps = [], [], fun _ _ h => h, fun h => by rw [h.1]; rfl⟩
def Shp.cons {α β : Type} (n : Str) (S : Ob α) (r : Shp β) : Shp (α × β) := ⟨fun K A fs ps a => ∃ v fs' p1 p2, fs = (n, v) :: fs' ∧ ps = p1 ++ p2 ∧ S.is K A v p1 a.1 ∧ r.is K A fs' p2 a.2, n :: r.names,
  fun {K K' A A' fs ps a} s k ⟨v, fs', p1, p2, e1, e2, h1, h2⟩ => ⟨v, fs', p1, p2, e1, e2, S.mono s (fun p hp => k p (by rw [e2]; exact List.mem_append_left _ hp)) h1, r.mono s (fun p hp => k p (by rw [e2]; exact List.mem_append_right _ hp)) h2⟩,
  fun {K A fs ps a} ⟨v, fs', p1, p2, e1, e2, h1, h2⟩ => by rw [e1]; exact congrArg (n :: ·) (r.keys h2)⟩
/-- an instance of the class at c, of ours -/
def obI (c : Addr) {α : Type} (sh : Shp α) : Ob α := ⟨fun K A v ps a => ∃ x dx fs qs, v = .ref x ∧ ps = x :: qs ∧ (x :: qs).Nodup ∧ A x = some (.ins c dx fs) ∧ sh.is K A fs qs a,
  fun {K K' A A' v ps a} s h ⟨x, dx, fs, qs, e, e2, e3, e4, t⟩ => ⟨x, dx, fs, qs, e, e2, e3, by rw [h x (by rw [e2]; exact List.mem_cons_self)]; exact e4, sh.mono s (fun q hq => h q (by rw [e2]; exact List.mem_cons_of_mem _ hq)) t⟩⟩
/-- a field with a value of what never changes | with a list of the object's own -/
def obV {α : Type} (R : Rl α) : Ob α := ⟨fun K _ v ps a => ps = [] ∧ R.is K v a, fun s _ ⟨e, h⟩ => ⟨e, R.mono s h⟩⟩
def obL {α : Type} (R : Rl α) : Ob (List α) := ⟨fun K A v ps l => ∃ q xs, v = .ref q ∧ ps = [q] ∧ A q = some (.lst xs) ∧ All2 (R.is K) xs l,
  fun s h ⟨q, xs, e1, e2, e3, t⟩ => ⟨q, xs, e1, e2, by rw [h q (by rw [e2]; exact List.mem_singleton.mpr rfl)]; exact e3, t.imp fun _ _ => R.mono s⟩⟩
/-- which field, and what a change of it does -/
structure Sel {α β : Type} (sh : Shp α) (n : Str) (S : Ob β) where
  get : α → β
  set : α → β → α
  ok : ∀ {K A : Hp} {fs : List (Str × V)} {ps : List Addr} {a : α}, sh.is K A fs ps a → ∃ v p1 p2 p3, fs.lookup n = some v ∧ ps = p1 ++ (p2 ++ p3) ∧ S.is K A v p2 (get a) ∧
    (∀ {K' A' : Hp} {v' : V} {q2 : List Addr} {b : β}, Same K K' → (∀ p, p ∈ p1 ∨ p ∈ p3 → A' p = A p) → S.is K' A' v' q2 b → sh.is K' A' (putF n v' fs) (p1 ++ (q2 ++ p3)) (set a b)) ∧
    (∀ {K' A' : Hp} {q2 : List Addr} {b : β}, Same K K' → (∀ p, p ∈ p1 ∨ p ∈ p3 → A' p = A p) → S.is K' A' v q2 b → sh.is K' A' fs (p1 ++ (q2 ++ p3)) (set a b))
def Sel.here {β γ : Type} {n : Str} {S : Ob β} {r : Shp γ} : Sel (Shp.cons n S r) n S := ⟨fun a => a.1, fun a b => (b, a.2), fun {K A fs ps a} ⟨v, fs', p1, p2, e1, e2, h1, h2⟩ => by
  subst e1 e2
  refine ⟨v, [], p1, p2, by rw [List.lookup_cons, beq_self_eq_true], rfl, h1, fun {K' A' v' q2 b} s k h => ?_, fun {K' A' q2 b} s k h => ?_⟩
  · rw [show putF n v' ((n, v) :: fs') = (n, v') :: fs' from if_pos rfl]
    exact ⟨v', fs', q2, p2, rfl, rfl, h, r.mono s (fun p hp => k p (.inr hp)) h2⟩
  · exact ⟨v, fs', q2, p2, rfl, rfl, h, r.mono s (fun p hp => k p (.inr hp)) h2⟩⟩
def Sel.next {β γ δ : Type} {n m : Str} {S : Ob β} {S' : Ob δ} {r : Shp γ} (t : Sel r n S) (ne : (n == m) = false) : Sel (Shp.cons m S' r) n S := ⟨fun a => t.get a.2, fun a b => (a.1, t.set a.2 b), fun {K A fs ps a} ⟨v, fs', p1, p2, e1, e2, h1, h2⟩ => by
  subst e1 e2
  obtain ⟨w, q1, q2, q3, g1, g2, g3, g4, g5⟩ := t.ok h2
  have ne' : m ≠ n := fun z => by rw [z, beq_self_eq_true] at ne; cases ne
  subst g2
  refine ⟨w, p1 ++ q1, q2, q3, by rw [List.lookup_cons, ne]; exact g1, by rw [List.append_assoc], g3, fun {K' A' v' z2 b} s k h => ?_, fun {K' A' z2 b} s k h => ?_⟩
  · rw [show putF n v' ((m, v) :: fs') = (m, v) :: putF n v' fs' from if_neg ne', List.append_assoc]
    exact ⟨v, _, p1, _, rfl, rfl, S'.mono s (fun p hp => k p (.inl (List.mem_append_left _ hp))) h1, g4 s (fun p hp => k p (hp.imp (List.mem_append_right _) id)) h⟩
  · rw [List.append_assoc]
    exact ⟨v, _, p1, _, rfl, rfl, S'.mono s (fun p hp => k p (.inl (List.mem_append_left _ hp))) h1, g5 s (fun p hp => k p (hp.imp (List.mem_append_right _) id)) h⟩⟩
/-- a field more -/
structure Snoc {α β γ : Type} (sh : Shp α) (n : Str) (S : Ob β) (sh' : Shp γ) where
  add : α → β → γ
  ok : ∀ {K A K' A' : Hp} {fs : List (Str × V)} {ps q2 : List Addr} {a : α} {b : β} {v' : V}, sh.is K A fs ps a → Same K K' → (∀ p ∈ ps, A' p = A p) → S.is K' A' v' q2 b → sh'.is K' A' (putF n v' fs) (ps ++ q2) (add a b)
def Snoc.end {β : Type} {n : Str} {S : Ob β} : Snoc Shp.nil n S (Shp.cons n S Shp.nil) := ⟨fun a b => (b, ()), fun {K A K' A' fs ps q2 a b v'} h s k r => by
  obtain ⟨e1, e2⟩ := h
  subst e1 e2
  exact ⟨v', [], q2, [], rfl, by rw [List.append_nil]; rfl, r, rfl, rfl⟩⟩
def Snoc.next {α β γ δ : Type} {n m : Str} {S : Ob β} {S' : Ob δ} {r : Shp α} {r' : Shp γ} (t : Snoc r n S r') (ne : (n == m) = false) : Snoc (Shp.cons m S' r) n S (Shp.cons m S' r') := ⟨fun a b => (a.1, t.add a.2 b), fun {K A K' A' fs ps q2 a b v'} h s k z => by
  obtain ⟨v, fs', p1, p2, e1, e2, h1, h2⟩ := h
  subst e1 e2
  have ne' : m ≠ n := fun z => by rw [z, beq_self_eq_true] at ne; cases ne
  rw [show putF n v' ((m, v) :: fs') = (m, v) :: putF n v' fs' from if_neg ne', List.append_assoc]
  exact ⟨v, _, p1, _, rfl, rfl, S'.mono s (fun p hp => k p (List.mem_append_left _ hp)) h1, t.ok h2 s (fun p hp => k p (List.mem_append_right _ hp)) z⟩⟩
/-- an object, read -/
def rObj {α : Type} (S : Ob α) : Rl α := ⟨fun H v a => ∃ ps, S.is H H v ps a ∧ ∀ p ∈ ps, H p ≠ none, fun {H H' v a} s ⟨ps, h, k⟩ => by
  have e : ∀ p ∈ ps, H' p = H p := fun p hp => by
    cases q : H p with
    | none => exact absurd q (k p hp)
    | some o => exact s _ _ q
  exact ⟨ps, S.mono s e h, fun p hp => by rw [e p hp]; exact k p hp⟩⟩
/-- how a field reads -/
def FldV {α β : Type} (S : Ob α) (R : Rl β) (f : α → β) : Prop := ∀ H v ps a, S.is H H v ps a → R.is H v (f a)
/-- what of the text a class with such fields must have -/
structure ClsF (K : PySem.W.Frag) (c : Addr) (ns : List Str) : Prop where
  cl : Cls K c
  na : ∀ n ∈ ns, NoAttr K c n
section
variable {C : Cn} {Γ : List Ent} {α β γ : Type} {R : Rl α} {S : Rl β} {P : α → Prop} {te ta tb tc td ty tv tx t1 t2 : TE} {ℓ ℓ' : Lv} {K : PySem.W.Frag} {D : Ends} {t u : TS} {c : Addr} {sh : Shp γ} {n : Str} {ns : List Str}
end
end GL


set_option Elab.async false
set_option linter.all false
set_option maxRecDepth 100000
set_option maxHeartbeats 1000000
/-! ### calls that change an object -/
namespace GL
open PySem L2
/-- arguments: what is handed in to be kept (it stands in B), to be read (in M), the object x, the volatile ones ks -/
abbrev AO (α : Type) := List V → Hp → Hp → List Addr → V → α → Prop
def oNil : AO Unit := fun vs _ _ ks _ _ => vs = [] ∧ ks = []
def oSelf {α : Type} (A : AO α) : AO α := fun vs B M ks x a => ∃ r, vs = x :: r ∧ A r B M ks x a
def oPool {α : Type} (A : AO α) : AO α := fun vs B M ks x a => ∃ p r ks', vs = .ref p :: r ∧ ks = p :: ks' ∧ A r B M ks' x a
def oB {α β : Type} (R : Rl α) (A : AO β) : AO (α × β) := fun vs B M ks x a => ∃ v r, vs = v :: r ∧ R.is B v a.1 ∧ A r B M ks x a.2
def oM {α β : Type} (R : Rl α) (A : AO β) : AO (α × β) := fun vs B M ks x a => ∃ v r, vs = v :: r ∧ R.is M v a.1 ∧ A r B M ks x a.2
/-- what such a call leaves -/
structure BackO (PI : HO → Prop) (H H' B G' : Hp) (ps ks ps' : List Addr) : Prop where
  keep : ∀ p o, H p = some o → p ∉ ps → p ∉ ks → H' p = some o
  pool : ∀ p ∈ ks, ∃ o, H' p = some o ∧ PI o
  known : Same B G'
  g : Same G' H'
  new : ∀ p o, G' p = some o → B p = some o ∨ H p = none ∨ p ∈ ps
  own : ∀ p ∈ ps', (H p = none ∨ p ∈ ps) ∧ G' p = none ∧ H' p ≠ none
def spO {α β σ σ' : Type} (PI : HO → Prop) (S : Ob σ) (A : AO α) (pre : σ → α → Prop) (S' : Ob σ') (R : Rl β) (post : σ → α → β → σ' → Prop) (exc : σ → α → Addr → Prop) : Sp := fun vs H Q E =>
  ∃ B M ps ks x st a, Same B H ∧ Same M H ∧ (∀ p ∈ ps, B p = none ∧ M p = none ∧ H p ≠ none ∧ p ∉ ks) ∧ (∀ p ∈ ks, B p = none ∧ M p = none ∧ ∃ o, H p = some o ∧ PI o) ∧ S.is B H x ps st ∧ A vs B M ks x a ∧ pre st a ∧
   (∀ v H' G' ps' b st', BackO PI H H' B G' ps ks ps' → S'.is G' H' x ps' st' → R.is G' v b → post st a b st' → Q v H') ∧
   (∀ c H' G' ps', BackO PI H H' B G' ps ks ps' → S.is G' H' x ps' st → exc st a c → E (.ref c) none H')
/-- the object of a def's own, as it ends -/
structure ObS {σ : Type} (C : Cn) (W : Wd) (S : Ob σ) (x : V) (ps : List Addr) (st : σ) : Prop where
  ad : ∀ p ∈ ps, p ∉ W.vs ∧ C.H0 p = none ∧ W.G p = none ∧ W.H p ≠ none
  is : S.is W.G W.H x ps st
def RetM (C : Cn) (D : Ends) {σ β : Type} (S : Ob σ) (x : V) (R : Rl β) (P : β → σ → Prop) : Prop := ∀ v W ps st b, Bok C W → ObS C W S x ps st → R.is W.G v b → P b st → D.rt v W.H
def ExcM (C : Cn) (E : XK) {σ : Type} (S : Ob σ) (x : V) (st : σ) (P : Addr → Prop) : Prop := ∀ c W ps, Bok C W → ObS C W S x ps st → P c → E (.ref c) none W.H
theorem ObS.ex {C C' : Cn} {W : Wd} {σ : Type} {S : Ob σ} {x : V} {ps : List Addr} {st : σ} (h : ObS C' W S x ps st) (e : Cex C C') : ObS C W S x ps st := ⟨fun p hp => by rw [← e.h0]; exact h.ad p hp, h.is⟩
theorem RetM.ex {C C' : Cn} {D : Ends} {σ β : Type} {S : Ob σ} {x : V} {R : Rl β} {P : β → σ → Prop} (h : RetM C D S x R P) (e : Cex C C') : RetM C' D S x R P := fun v W ps st b k o => h v W ps st b (k.down e) (o.ex e)
theorem ExcM.ex {C C' : Cn} {E : XK} {σ : Type} {S : Ob σ} {x : V} {st : σ} {P : Addr → Prop} (h : ExcM C E S x st P) (e : Cex C C') : ExcM C' E S x st P := fun c W ps k o => h c W ps (k.down e) (o.ex e)
theorem ObS.of {C : Cn} {σ : Sg} {W : Wd} {Γ : List Ent} (w : World C σ W Γ) {τ : Type} {S : Ob τ} {i : Nat} {x : V} {ps : List Addr} {st : τ} (h : Γ[i]? = some (.ob x ps .g S st)) : ObS C W S x ps st := by
  obtain ⟨_, _, hp, r⟩ := ob_lit w h
  exact ⟨hp, r⟩
/-! the callee -/
open Classical in
def floorO (H B : Hp) (ps : List Addr) : Hp := fun p => if p ∈ ps ∨ B p ≠ none then none else H p
theorem floorO_some {H B : Hp} {ps : List Addr} {p : Addr} {o : HO} (h : floorO H B ps p = some o) : p ∉ ps ∧ B p = none ∧ H p = some o := by
  unfold floorO at h
  by_cases z : p ∈ ps ∨ B p ≠ none
  · rw [if_pos z] at h; cases h
  · rw [if_neg z] at h
    exact ⟨fun y => z (.inl y), Classical.byContradiction fun y => z (.inr y), h⟩
theorem floorO_out {H B : Hp} {ps : List Addr} {p : Addr} (h1 : p ∉ ps) (h2 : B p = none) : floorO H B ps p = H p := by
  unfold floorO
  rw [if_neg (by rintro (z | z); exact h1 z; exact z h2)]
theorem floorO_in {H B : Hp} {ps : List Addr} {p : Addr} (h : p ∈ ps ∨ B p ≠ none) : floorO H B ps p = none := by
  unfold floorO
  rw [if_pos h]
theorem floorO_none {H B : Hp} {ps : List Addr} {p : Addr} (h : floorO H B ps p = none) : p ∈ ps ∨ B p ≠ none ∨ H p = none := by
  by_cases z : p ∈ ps ∨ B p ≠ none
  · rcases z with z | z
    · exact .inl z
    · exact .inr (.inl z)
  · rw [floorO_out (fun y => z (.inl y)) (Classical.byContradiction fun y => z (.inr y))] at h
    exact .inr (.inr h)
def CnO (PI : HO → Prop) (H B : Hp) (ps ks : List Addr) : Cn := ⟨floorO H B ps, ks, PI, B, none, fun _ => none⟩
def WO (H B : Hp) (ks : List Addr) : Wd := ⟨H, B, ks⟩
theorem bokO {PI : HO → Prop} {H B : Hp} {ps ks : List Addr} (sB : Same B H) (hps : ∀ p ∈ ps, B p = none ∧ H p ≠ none ∧ p ∉ ks) (hks : ∀ p ∈ ks, B p = none ∧ ∃ o, H p = some o ∧ PI o) : Bok (CnO PI H B ps ks) (WO H B ks) where
  base := fun p o e _ => (floorO_some e).2.2
  vol := fun p hp => let ⟨_, o, h1, h2⟩ := hks p hp; ⟨o, h1, fun _ => h2⟩
  vsub := fun _ h => h
  vnew := fun _ h n => absurd h n
  v0 := fun p hp => by
    obtain ⟨h0, o, h1, h2⟩ := hks p hp
    show floorO H B ps p ≠ none
    rw [floorO_out (fun z => (hps p z).2.2 hp) h0, h1]
    intro z; cases z
  gv := fun p hp => (hks p hp).1
  g := sB
  gn := fun p o e => floorO_in (.inr (by rw [show B p = some o from e]; intro z; cases z))
  fl := Same.refl _
  tab := fun _ _ e => by cases e
  knb := fun _ _ e => by cases e
theorem mwO {PI : HO → Prop} {H B M : Hp} {ps ks : List Addr} (sB : Same B H) (sM : Same M H) (hps : ∀ p ∈ ps, M p = none) (hks : ∀ p ∈ ks, M p = none) : Same M (wl (CnO PI H B ps ks) (WO H B ks) .m) := fun p o e => by
  show jn (hid (floorO H B ps) ks) B p = some o
  have n1 : p ∉ ps := fun z => by rw [hps p z] at e; cases e
  have n2 : p ∉ ks := fun z => by rw [hks p z] at e; cases e
  cases q : B p with
  | none => exact jn_l _ _ (by rw [hid_out n2, floorO_out n1 q]; exact sM p o e)
  | some u =>
    rw [jn_r (by rw [hid_out n2]; exact floorO_in (.inr (by rw [q]; intro z; cases z))), q, ← sB p u q, sM p o e]
theorem backO_of {PI : HO → Prop} {H B : Hp} {ps ks : List Addr} {W : Wd} (sB : Same B H) (b : Bok (CnO PI H B ps ks) W) {σ : Type} {S : Ob σ} {x : V} {ps' : List Addr} {st : σ} (o : ObS (CnO PI H B ps ks) W S x ps' st) : BackO PI H W.H B W.G ps ks ps' where
  keep := fun p u e n1 n2 => by
    cases q : B p with
    | none => exact b.base p u (by rw [show (CnO PI H B ps ks).H0 p = _ from floorO_out n1 q]; exact e) n2
    | some u' =>
      have h1 := b.g p u' (b.fl p u' q)
      have h2 := sB p u' q
      rw [e] at h2
      rw [h1, ← h2]
  pool := fun p hp => let ⟨o, h1, h2⟩ := b.vol p (b.vsub p hp); ⟨o, h1, h2 fun ⟨_, z⟩ => by cases z⟩
  known := b.fl
  g := b.g
  new := fun p u e => by
    rcases floorO_none (b.gn p u e) with z | z | z
    · exact .inr (.inr z)
    · cases q : B p with
      | none => exact absurd q z
      | some u' =>
        have := b.fl p u' q
        rw [e] at this; cases this
        exact .inl rfl
    · exact .inr (.inl z)
  own := fun p hp => by
    obtain ⟨h1, h2, h3, h4⟩ := o.ad p hp
    refine ⟨?_, h3, h4⟩
    rcases floorO_none h2 with z | z | z
    · exact .inr z
    · cases q : B p with
      | none => exact absurd q z
      | some u' =>
        have := b.fl p u' q
        rw [h3] at this; cases this
    · exact .inl z
theorem spO_open {α β σ σ' : Type} {PI : HO → Prop} {S : Ob σ} {A : AO α} {pre : σ → α → Prop} {S' : Ob σ'} {R : Rl β} {post : σ → α → β → σ' → Prop} {exc : σ → α → Addr → Prop} {vs : List V} {H : Hp} {Q : VK} {E : XK} {n : Sg → Hp → Prop} (h : spO PI S A pre S' R post exc vs H Q E) :
    ∃ B M ps ks x st a, Bok (CnO PI H B ps ks) (WO H B ks) ∧ Same M (wl (CnO PI H B ps ks) (WO H B ks) .m) ∧ ObS (CnO PI H B ps ks) (WO H B ks) S x ps st ∧ A vs B M ks x a ∧ pre st a ∧
      RetM (CnO PI H B ps ks) { nx := n, rt := Q } S' x R (post st a) ∧ ExcM (CnO PI H B ps ks) E S x st (exc st a) := by
  obtain ⟨B, M, ps, ks, x, st, a, sB, sM, hps, hks, hS, hA, hp, hq, he⟩ := h
  refine ⟨B, M, ps, ks, x, st, a, bokO sB (fun p z => ⟨(hps p z).1, (hps p z).2.2⟩) (fun p z => ⟨(hks p z).1, (hks p z).2.2⟩), mwO sB sM (fun p z => (hps p z).2.1) (fun p z => (hks p z).2.1), ⟨fun p z => ⟨(hps p z).2.2.2, floorO_in (.inl z), (hps p z).1, (hps p z).2.2.1⟩, hS⟩, hA, hp, ?_, ?_⟩
  · intro v W qs st' b k o r pb
    exact hq v W.H W.G qs b st' (backO_of sB k o) o.is r pb
  · intro c W qs k o pc
    exact he c W.H W.G qs (backO_of sB k o) o.is pc
theorem ob_kO {C : Cn} {W : Wd} {σ : Type} {S : Ob σ} {x : V} {ps : List Addr} {st : σ} (h : ObS C W S x ps st) : EntOk C W (some x) (.ob x ps .g S st) := ⟨(by decide), rfl, h.ad, h.is⟩
/-- one entry with addresses alone -/
def oneAd (i : Nat) (Γ : List Ent) : Bool := noAd (Γ.set i .no)
theorem world_one {C : Cn} {W : Wd} {σ : Sg} {Γ : List Ent} (i : Nat) (b : Bok C W) (h : Pw C W σ Γ) (hn : oneAd i Γ = true) : World C σ W Γ :=
  ⟨b, h.len, fun _ _ e => h.get e, fun j k p q hjk hp hq => by
    have key : ∀ (j : Nat) (p : Addr), adAt Γ j p → j = i := fun j p ⟨u, hu, hm⟩ => by
      refine Classical.byContradiction fun z => noAd_get hn j p ⟨u, ?_, hm⟩
      rw [List.getElem?_set_ne (Ne.symm z)]
      exact hu
    exact absurd ((key j p hp).trans (key k q hq).symm) hjk⟩
/-! the caller -/
open Classical in
def newG (W : Wd) (G' : Hp) (ps : List Addr) : Hp := fun p => if W.H p = none ∨ p ∈ ps then G' p else none
theorem newG_some {W : Wd} {G' : Hp} {ps : List Addr} {p : Addr} {o : HO} (h : newG W G' ps p = some o) : (W.H p = none ∨ p ∈ ps) ∧ G' p = some o := by
  unfold newG at h
  by_cases z : W.H p = none ∨ p ∈ ps
  · rw [if_pos z] at h; exact ⟨z, h⟩
  · rw [if_neg z] at h; cases h
theorem newG_in {W : Wd} {G' : Hp} {ps : List Addr} {p : Addr} (h : W.H p = none ∨ p ∈ ps) : newG W G' ps p = G' p := by
  unfold newG; rw [if_pos h]
theorem newG_out {W : Wd} {G' : Hp} {ps : List Addr} {p : Addr} (h1 : W.H p ≠ none) (h2 : p ∉ ps) : newG W G' ps p = none := by
  unfold newG; rw [if_neg (by rintro (z | z); exact h1 z; exact h2 z)]
def Wd.back (W : Wd) (H' G' : Hp) (ps : List Addr) : Wd := ⟨H', jn W.G (newG W G' ps), W.vs⟩
section
variable {C : Cn} {W : Wd} {H' G' : Hp} {ps ks ps' : List Addr} {ℓ : Lv}
theorem back_ok (b : Bok C W) (hps : ∀ p ∈ ps, p ∉ W.vs ∧ C.H0 p = none ∧ W.G p = none ∧ W.H p ≠ none) (hks : ∀ k ∈ ks, k ∈ W.vs ∧ ¬ C.isT k) (k : BackO C.PI W.H H' (wl C W ℓ) G' ps ks ps') : Bok C (W.back H' G' ps) where
  base := fun p o e n => by
    refine k.keep p o (b.base p o e n) (fun z => ?_) fun z => ?_
    · rw [(hps p z).2.1] at e; cases e
    · have := b.vnew p (hks p z).1 n
      rw [e] at this; cases this
  vol := fun p hp => by
    by_cases z : p ∈ ks
    · obtain ⟨o, h1, h2⟩ := k.pool p z
      exact ⟨o, h1, fun _ => h2⟩
    · obtain ⟨o, h1, h2⟩ := b.vol p hp
      exact ⟨o, k.keep p o h1 (fun y => (hps p y).1 hp) z, h2⟩
  vsub := b.vsub
  vnew := b.vnew
  v0 := b.v0
  gv := fun p hp => by
    show jn W.G _ p = none
    rw [jn_r (b.gv p hp)]
    obtain ⟨o, h1, _⟩ := b.vol p hp
    exact newG_out (by rw [h1]; intro z; cases z) fun y => (hps p y).1 hp
  g := fun p o e => by
    rcases jn_some e with e | ⟨_, e⟩
    · refine k.keep p o (b.g p o e) (fun z => ?_) fun z => b.novs e (hks p z).1
      rw [(hps p z).2.2.1] at e; cases e
    · exact k.g p o (newG_some e).2
  gn := fun p o e => by
    rcases jn_some e with e | ⟨_, e⟩
    · exact b.gn p o e
    · rcases (newG_some e).1 with z | z
      · exact b.h0 z
      · exact (hps p z).2.1
  fl := b.fl.trans jn_l
  tab := fun P q e => by
    obtain ⟨h1, xs, h2, h3⟩ := b.tab P q e
    exact ⟨h1, xs, k.keep P _ h2 (fun z => (hps P z).1 h1) (fun z => (hks P z).2 ⟨q, e⟩), h3.mono (jn_mono jn_l)⟩
  knb := b.knb
theorem back_lv (b : Bok C W) (hks : ∀ k ∈ ks, k ∈ W.vs ∧ ¬ C.isT k) : ∀ ℓ : Lv, ℓ ≠ .h → Same (wl C W ℓ) (wl C (W.back H' G' ps) ℓ)
  | .g, _ => jn_l
  | .m, _ => fun p o h => by
    rcases jn_some h with h | ⟨n, h⟩
    · exact jn_l _ _ h
    · show jn _ _ p = some o
      rw [jn_r n]
      exact jn_l _ _ h
  | .h, n => absurd rfl n
/-- what the callee knows at its end, known here too -/
theorem back_known (b : Bok C W) (hl : ℓ ≠ .h) (hps : ∀ p ∈ ps, p ∉ W.vs ∧ C.H0 p = none ∧ W.G p = none ∧ W.H p ≠ none) (hks : ∀ k ∈ ks, k ∈ W.vs ∧ ¬ C.isT k) (k : BackO C.PI W.H H' (wl C W ℓ) G' ps ks ps') : Same G' (wl C (W.back H' G' ps) ℓ) := fun p o e => by
  rcases k.new p o e with z | z
  · exact back_lv b hks ℓ hl p o z
  · have e1 : newG W G' ps p = some o := by rw [newG_in z]; exact e
    have e0 : W.G p = none := z.elim b.g0 fun y => (hps p y).2.2.1
    have h0 : C.H0 p = none := z.elim b.h0 fun y => (hps p y).2.1
    have e2 : jn W.G (newG W G' ps) p = some o := by rw [jn_r e0]; exact e1
    cases ℓ with
    | g => exact e2
    | m =>
      show jn (hid C.H0 C.vs0) _ p = some o
      rw [jn_r]
      · exact e2
      · by_cases y : p ∈ C.vs0
        · exact hid_in y
        · rw [hid_out y]; exact h0
    | h => exact absurd rfl hl
theorem back_ent (b : Bok C W) (hps : ∀ p ∈ ps, p ∉ W.vs ∧ C.H0 p = none ∧ W.G p = none ∧ W.H p ≠ none) (hks : ∀ k ∈ ks, k ∈ W.vs ∧ ¬ C.isT k) (k : BackO C.PI W.H H' (wl C W ℓ) G' ps ks ps') {x : Option V} : ∀ {e : Ent}, (∀ p ∈ e.ads, p ∉ ps) → EntOk C W x e → EntOk C (W.back H' G' ps) x e
  | .no, _, _ => trivial
  | .val ℓ' R a, _, ⟨n, v, e, h⟩ => ⟨n, v, e, R.mono (back_lv b hks ℓ' n) h⟩
  | .own p ℓ' R l, d, ⟨n, e, hv, h0, hg, xs, hx, t⟩ => by
    have hp := d p (List.mem_singleton.mpr rfl)
    refine ⟨n, e, hv, h0, ?_, xs, k.keep p _ hx hp (fun z => hv (hks p z).1), t.imp fun _ _ => R.mono (back_lv b hks ℓ' n)⟩
    show jn W.G _ p = none
    rw [jn_r hg]
    exact newG_out (by rw [hx]; intro z; cases z) hp
  | .vol p, _, ⟨e, h, t⟩ => ⟨e, h, t⟩
  | .raw v, _, h => h
  | .ob v qs ℓ' S a, d, ⟨n, e, hq, r⟩ => by
    refine ⟨n, e, fun p m => ?_, S.mono (back_lv b hks ℓ' n) (fun p m => ?_) r⟩
    · obtain ⟨h1, h2, h3, h4⟩ := hq p m
      have hp := d p m
      refine ⟨h1, h2, ?_, ?_⟩
      · show jn W.G _ p = none
        rw [jn_r h3]
        exact newG_out h4 hp
      · show H' p ≠ none
        cases y : W.H p with
        | none => exact absurd y h4
        | some o => rw [k.keep p o y hp (fun z => h1 (hks p z).1)]; intro z; cases z
    · obtain ⟨h1, h2, h3, h4⟩ := hq p m
      show H' p = W.H p
      cases y : W.H p with
      | none => exact absurd y h4
      | some o => exact k.keep p o y (d p m) (fun z => h1 (hks p z).1)
theorem back_own (b : Bok C W) (hps : ∀ p ∈ ps, p ∉ W.vs ∧ C.H0 p = none ∧ W.G p = none ∧ W.H p ≠ none) (k : BackO C.PI W.H H' (wl C W ℓ) G' ps ks ps') : ∀ p ∈ ps', p ∉ W.vs ∧ C.H0 p = none ∧ (W.back H' G' ps).G p = none ∧ H' p ≠ none := fun p hp => by
  obtain ⟨h1, h2, h3⟩ := k.own p hp
  refine ⟨?_, ?_, ?_, h3⟩
  · exact h1.elim b.nvs fun z => (hps p z).1
  · exact h1.elim b.h0 fun z => (hps p z).2.1
  · show jn W.G _ p = none
    rw [jn_r (h1.elim b.g0 fun z => (hps p z).2.2.1), newG_in h1]
    exact h2
end
theorem World.back {C : Cn} {σ : Sg} {W : Wd} {Γ : List Ent} {τ τ' : Type} {S : Ob τ} {S' : Ob τ'} {x : V} {ps ks ps' : List Addr} {st : τ} {st' : τ'} {ℓ : Lv} {H' G' : Hp} {i : Nat} (w : World C σ W Γ) (h : Γ[i]? = some (.ob x ps ℓ S st)) (hks : ∀ k ∈ ks, k ∈ W.vs ∧ ¬ C.isT k)
    (k : BackO C.PI W.H H' (wl C W ℓ) G' ps ks ps') (r : S'.is G' H' x ps' st') : World C σ (W.back H' G' ps) (Γ.set i (.ob x ps' ℓ S' st')) := by
  obtain ⟨h1, hl, hps, _⟩ := ob_lit w h
  have hi : i < Γ.length := (List.getElem?_eq_some_iff.mp h).1
  refine ⟨back_ok w.b hps hks k, by rw [List.length_set]; exact w.len, fun j e hj => ?_, fun j j' p q hjj hp hq => ?_⟩
  · by_cases z : i = j
    · subst z
      rw [List.getElem?_set_self hi] at hj
      cases hj
      exact ⟨_, h1, hl, rfl, back_own w.b hps k, S'.mono (back_known w.b hl hps hks k) (fun _ _ => rfl) r⟩
    · rw [List.getElem?_set_ne z] at hj
      obtain ⟨y, g1, g2⟩ := w.ent j e hj
      exact ⟨y, g1, back_ent w.b hps hks k (fun p hp m => w.dis j i p p (Ne.symm z) ⟨e, hj, hp⟩ (.ob h m) rfl) g2⟩
  · have key : ∀ (j : Nat) (p : Addr), adAt (Γ.set i (.ob x ps' ℓ S' st')) j p → (j = i ∧ p ∈ ps') ∨ (j ≠ i ∧ adAt Γ j p) := fun j p ⟨u, hu, hm⟩ => by
      by_cases z : i = j
      · subst z
        rw [List.getElem?_set_self hi] at hu
        cases hu
        exact .inl ⟨rfl, hm⟩
      · rw [List.getElem?_set_ne z] at hu
        exact .inr ⟨Ne.symm z, u, hu, hm⟩
    have sep : ∀ (j : Nat) (p q : Addr), j ≠ i → p ∈ ps' → adAt Γ j q → p ≠ q := fun j p q hj hp ha e => by
      subst e
      rcases (k.own p hp).1 with z | z
      · exact (w.adH ha).1 z
      · exact w.dis j i p p hj ha (.ob h z) rfl
    rcases key j p hp with ⟨a1, a2⟩ | ⟨a1, a2⟩
    · rcases key j' q hq with ⟨b1, b2⟩ | ⟨b1, b2⟩
      · exact absurd (a1.trans b1.symm) hjj
      · exact sep j' p q b1 a2 b2
    · rcases key j' q hq with ⟨b1, b2⟩ | ⟨b1, b2⟩
      · exact fun e => sep j q p a1 b2 a2 e.symm
      · exact w.dis j j' p q hjj a2 b2
end GL


set_option Elab.async false
set_option linter.all false
set_option maxRecDepth 100000
set_option maxHeartbeats 1000000
namespace L2
open PySem PySem.Spec PyProof.Rows
section
variable {X : Cx} {CX : CXT} {k : Nat} {f C : Addr} {fd : FuncData} {ps : List Str} {sp : Sp} {E : St → XK} {E0 : XK} {x m : Str} {p pos apos : Pos} {e o : Expr} {es : List Expr} {ta : TE} {t : TA}
/-- o.m(..), what is wanted of an exception by the names -/
def tMethX (C : Addr) (m : Str) (sp : Sp) (E : St → XK) (ta : TE) (t : TA) : TE := fun σ H Q => ta σ H fun x H1 => ∃ a dx fs, x = .ref a ∧ H1 a = some (.ins C dx fs) ∧ fs.lookup m = none ∧ t σ H1 fun vs H2 => sp (x :: vs) H2 Q (E σ)
end
end L2
namespace GL
open PySem L2
section
variable {C : Cn} {Γ : List Ent} {α β γ τ τ' : Type} {R : Rl α} {S : Rl β} {P : α → Prop} {te ta tb tc td ty tv tx t1 t2 : TE} {tA : TA} {ℓ ℓ' : Lv} {K : PySem.W.Frag} {D : Ends} {t u u' : TS} {c : Addr} {sh : Shp τ} {n m : Str} {ns : List Str} {x : V} {ps : List Addr} {st : τ} {i j : Nat} {So : Ob τ} {So' : Ob τ'}
/-! arguments -/
def EvK (C : Cn) {α : Type} (te : TE) (Γ : List Ent) (ps : List Addr) (R : Rl α) (a : α) : Prop := ∀ σ W, World C σ W Γ → ∀ Q : VK, (∀ v W', Stp W W' → Bok C W' → R.is (hid W'.H (ps ++ W'.vs)) v a → Q v W'.H) → te σ W.H Q
theorem lv_hid {W : Wd} (b : Bok C W) (hps : ∀ p ∈ ps, p ∉ W.vs ∧ C.H0 p = none ∧ W.G p = none ∧ W.H p ≠ none) : ∀ {ℓ : Lv}, ℓ ≠ .h → Same (wl C W ℓ) (hid W.H (ps ++ W.vs)) := fun {ℓ} n p o e => by
  have e1 := b.up ℓ p o e
  obtain ⟨h1, h2⟩ := hid_some e1
  rw [hid_out]
  · exact h2
  · intro z
    rcases List.mem_append.mp z with z | z
    · obtain ⟨k1, k2, k3, _⟩ := hps p z
      cases ℓ with
      | g => rw [show W.G p = some o from e] at k3; cases k3
      | m =>
        rcases jn_some e with e | ⟨_, e⟩
        · rw [(hid_some e).2] at k2; cases k2
        · rw [e] at k3; cases k3
      | h => exact absurd rfl n
    · exact h1 z
theorem evk_of {a : α} (hi : Γ[i]? = some (.ob x ps ℓ' So st)) (h : Ev C te Γ ℓ R a) (hl : ℓ ≠ .h := by decide) : EvK C te Γ ps R a := fun σ W w Q q => h σ W w Q fun v W' a' s b r pa => by
  subst pa
  obtain ⟨_, _, hps, _⟩ := ob_lit (w.stp b s) hi
  exact q v W' s b (R.mono (lv_hid b hps hl) r)
theorem hid_stp {W W' : Wd} (s : Stp W W') : Same (hid W.H (ps ++ W.vs)) (hid W'.H (ps ++ W'.vs)) := fun p o e => by
  obtain ⟨h1, h2⟩ := hid_some e
  have e1 : Hm W p = some o := (hid_out fun z => h1 (List.mem_append_right _ z)).trans h2
  rw [s.vs, hid_out h1]
  exact (hid_some (s.h p o e1)).2
def EvAO (C : Cn) {α : Type} (ta : TA) (Γ : List Ent) (ps : List Addr) (x : V) (ℓ : Lv) (A : AO α) (a : α) : Prop :=
  ∀ σ W, World C σ W Γ → ∀ Q : List V → Hp → Prop, (∀ vs W' ks, Stp W W' → Bok C W' → (∀ k ∈ ks, k ∈ W'.vs ∧ ¬ C.isT k) → A vs (wl C W' ℓ) (hid W'.H (ps ++ W'.vs)) ks x a → Q vs W'.H) → ta σ W.H Q
theorem eao_nil : EvAO C tNil Γ ps x ℓ oNil () := fun σ W w Q q => q [] W [] (Stp.refl W) w.b (fun _ h => by cases h) ⟨rfl, rfl⟩
theorem eao_self {A : AO α} {a : α} (hi : Γ[i]? = some (.ob x ps ℓ' So st)) (h : EvAO C tA Γ ps x ℓ A a) : EvAO C (tCons (tVar i) tA) Γ ps x ℓ (oSelf A) a := fun σ W w Q q => by
  obtain ⟨h1, _, _, _⟩ := ob_lit w hi
  exact ⟨x, h1, h σ W w _ fun vs W' ks s b k r => q _ W' ks s b k ⟨vs, rfl, r⟩⟩
theorem eao_M {A : AO β} {a : α} {b : β} (h1 : EvK C t1 Γ ps R a) (h : EvAO C tA Γ ps x ℓ A b) : EvAO C (tCons t1 tA) Γ ps x ℓ (oM R A) (a, b) := fun σ W w Q q => h1 σ W w _ fun v W1 s1 b1 r1 =>
  h σ W1 (w.stp b1 s1) _ fun vs W' ks s b k r => q _ W' ks (s1.trans w.b b1 s) b k ⟨v, vs, rfl, R.mono (hid_stp s) r1, r⟩
/-! an expression that changes the object at i -/
def EvT (C : Cn) {β τ : Type} (te : TE) (Γ : List Ent) (i : Nat) (x : V) (S : Ob τ) (ℓo ℓ : Lv) (R : Rl β) (P : β → τ → Prop) : Prop :=
  ∀ σ W, World C σ W Γ → ∀ Q : VK, (∀ v W' ps' st' b, World C σ W' (Γ.set i (.ob x ps' ℓo S st')) → R.is (wl C W' ℓ) v b → P b st' → Q v W'.H) → te σ W.H Q
def EvTB (C : Cn) {τ : Type} (tt : TT) (Γ : List Ent) (i : Nat) (x : V) (S : Ob τ) (ℓo : Lv) (P : Bool → τ → Prop) : Prop :=
  ∀ σ W, World C σ W Γ → ∀ Q : Bool → Hp → Prop, (∀ W' ps' st' b, World C σ W' (Γ.set i (.ob x ps' ℓo S st')) → P b st' → Q b W'.H) → tt σ W.H Q
theorem set_same {i : Nat} {e : Ent} (h : Γ[i]? = some e) : Γ.set i e = Γ := by
  apply List.ext_getElem? ; intro n
  by_cases z : i = n
  · subst z
    rw [List.getElem?_set_self (List.getElem?_eq_some_iff.mp h).1, h]
  · rw [List.getElem?_set_ne z]
theorem evt_callS {PI : HO → Prop} {A : AO α} {a : α} {pre : τ → α → Prop} {Rb : Rl β} {post : τ → α → β → τ' → Prop} {exc : τ → α → Addr → Prop} {W0 : WX} {Pe : Addr → Prop} (hPI : C.PI = PI) (hi : Γ[i]? = some (.ob x ps ℓ So st)) (hA : EvAO C tA Γ ps x ℓ A a) (hp : pre st a) (hE : ∀ qs, ExcOkG C W0 (Γ.set i (.ob x qs ℓ So st)) Pe) (he : ∀ c, exc st a c → Pe c) :
    EvT C (tCallS (spO PI So A pre So' Rb post exc) (WE W0) tA) Γ i x So' ℓ ℓ Rb (fun b st' => post st a b st') := fun σ W w Q q => hA σ W w _ fun vs W1 ks s1 b1 hk r1 => by
  subst hPI
  have w1 := w.stp b1 s1
  obtain ⟨_, hl, hps, hS⟩ := ob_lit w1 hi
  have sB : Same (wl C W1 ℓ) W1.H := fun p o e => (hid_some (b1.up ℓ p o e)).2
  have nB : ∀ p ∈ ps, wl C W1 ℓ p = none := fun p hp => by
    cases e : wl C W1 ℓ p with
    | none => rfl
    | some o =>
      have := (hid_some (lv_hid b1 hps hl p o e)).1
      exact absurd (List.mem_append_left _ hp) this
  refine ⟨wl C W1 ℓ, hid W1.H (ps ++ W1.vs), ps, ks, x, st, a, sB, fun p o e => (hid_some e).2, fun p hp => ⟨nB p hp, hid_in (List.mem_append_left _ hp), (hps p hp).2.2.2, fun z => (hps p hp).1 (hk p z).1⟩, fun p hp => ⟨?_, hid_in (List.mem_append_right _ (hk p hp).1), ?_⟩, hS, r1, hp, ?_, ?_⟩
  · cases e : wl C W1 ℓ p with
    | none => rfl
    | some o => exact absurd (hk p hp).1 (hid_some (b1.up ℓ p o e)).1
  · obtain ⟨o, h1, h2⟩ := b1.vol p (hk p hp).1
    exact ⟨o, h1, h2 (hk p hp).2⟩
  · intro v H' G' ps' b st' k r rb pb
    exact q v _ ps' st' b (w1.back hi hk k r) (Rb.mono (back_known b1 hl hps hk k) rb) pb
  · intro c' H' G' ps' k r ec
    exact hE ps' c' σ _ (w1.back hi hk k r) (he c' ec)
theorem excG0 {W0 : WX} : ExcOkG C W0 Γ (fun _ => False) := fun _ _ _ _ h => h.elim
theorem evt_call {sp : Sp} {E : XK} {P : β → τ' → Prop} (h : EvT C (tCallS sp (WE (fun c d _ H => E c d H)) tA) Γ i x So' ℓ ℓ' S P) : EvT C (tCall sp [] E tA) Γ i x So' ℓ ℓ' S P := fun σ W w Q q => by
  have := h σ W w Q q
  unfold tCallS at this
  unfold tCall
  simpa only [List.append_nil] using this
/-! methods -/
def InsAt (C : Cn) (Γ : List Ent) (i : Nat) (c : Addr) (m : Str) : Prop := ∀ σ W, World C σ W Γ → ∃ a dx fs, σ[i]? = some (some (.ref a)) ∧ W.H a = some (.ins c dx fs) ∧ fs.lookup m = none
/-! statements -/
theorem q_tif {tt : TT} {P : Bool → τ → Prop} (h : EvTB C tt Γ i x So ℓ' P) (h1 : ∀ ps' st', P true st' → Go C t { D with nx := u D } (Γ.set i (.ob x ps' ℓ' So st'))) (h2 : ∀ ps' st', P false st' → Go C u' { D with nx := u D } (Γ.set i (.ob x ps' ℓ' So st'))) : Go C (tSeq (tIfS tt t u') u) D Γ := fun σ W w => h σ W w _ fun W' ps' st' b w' p => by
  cases b with
  | true => exact h1 ps' st' p σ W' w'
  | false => exact h2 ps' st' p σ W' w'
end
end GL


set_option Elab.async false
set_option linter.all false
set_option maxRecDepth 100000
set_option maxHeartbeats 1000000
namespace GL
open PySem L2
section
variable {C : Cn} {Γ : List Ent} {α β γ τ τ' : Type} {R : Rl α} {S : Rl β} {te : TE} {ℓ ℓ' : Lv} {x : V} {i : Nat} {So : Ob τ}
end
end GL
namespace GL
open PySem L2
structure CalM (P : Program) (w : PySem.World) (K : PySem.W.Frag) (mg : Str → Option Value) (base : Heap) (CX : CXT) (k : Nat) (C : Addr) (m : Str) (ps : List Str) (sp : Sp) (f : Addr) (fd : FuncData) : Prop where
  ok : FnOk P w K mg base CX k f fd ps sp
  b : Binds K fd ps []
  mt : Meth K C m f
structure CalI (P : Program) (w : PySem.World) (K : PySem.W.Frag) (mg : Str → Option Value) (base : Heap) (CX : CXT) (k : Nat) (C : Addr) (x : Str) (ps : List Str) (sp : Sp) (f : Addr) (fd : FuncData) : Prop where
  ok : FnOk P w K mg base CX k f fd ps sp
  b : Binds K fd ps []
  mke : Mk K C f
  g : mg x = some (.ref C)
section
variable {C : Cn} {Γ : List Ent} {α β : Type} {R : Rl α} {te : TE} {ℓ : Lv} {K : PySem.W.Frag}
abbrev rSortD (xs : List V) (H : Hp) (Q : VK) : Prop := ∃ (a : Addr) (kvs : List (Key × V)) (ks : List Int), xs = [.ref a] ∧ Rd H a (.dK kvs) ∧ kvs.map (·.1) = ks.map Sum.inl ∧ ks.length < 64 ∧ ∀ (ns' : List Int) (p : Addr), ns'.Perm ks → ns'.Pairwise (· ≤ ·) → H p = none → Q (.ref p) (upd H p (.lst (ns'.map V.int)))
end
end GL
namespace GL
open PySem L2
section
variable {C : Cn} {Γ : List Ent} {τ : Type} {te : TE} {ℓ ℓ' : Lv} {x : V} {i : Nat} {So : Ob τ}
theorem etb_val {P : Bool → τ → Prop} (h : EvT C te Γ i x So ℓ' ℓ rBool P) : EvTB C (tB te) Γ i x So ℓ' P := fun σ W w Q q => h σ W w _ fun v W' ps' st' b w' r pb => ⟨b, r, q W' ps' st' b w' pb⟩
end
end GL


set_option Elab.async false
set_option linter.all false
set_option maxRecDepth 100000
set_option maxHeartbeats 1000000
namespace GL
open PySem L2
instance {α β : Type} : Inhabited (Sum (List α) β) := ⟨.inl []⟩
section
variable {C : Cn} {Γ : List Ent} {α β γ τ τ' : Type} {R : Rl α} {S : Rl β} {te : TE} {ℓ ℓ' : Lv} {x : V} {i : Nat} {So : Ob τ}
/-- a kept answer of one of two kinds, the second one -/
def theB {α β : Type} [Inhabited β] (x : Option (Sum Addr (Sum α β))) : β := match x with
  | some (.inr (.inr b)) => b
  | _ => default
end
end GL
namespace GL
open PySem L2
theorem etb_or {C : Cn} {Γ : List Ent} {τ : Type} {ℓ : Lv} {x : V} {ps : List Addr} {st : τ} {i : Nat} {So : Ob τ} {t u : TT} {p : Prop} {P : Bool → τ → Prop} (hi : Γ[i]? = some (.ob x ps ℓ So st)) (h1 : EvC C t Γ p) (h2 : ¬ p → EvTB C u Γ i x So ℓ P) : EvTB C (tOr t u) Γ i x So ℓ (fun b st' => (p ∧ b = true ∧ st' = st) ∨ (¬ p ∧ P b st')) := fun σ W w Q q => h1 σ W w _ fun c W1 s1 b1 hc => by
  have w1 := w.stp b1 s1
  cases c with
  | true =>
    rw [if_pos rfl]
    refine q W1 ps st true ?_ (.inl ⟨hc.mp rfl, rfl, rfl⟩)
    rw [set_same hi]
    exact w1
  | false =>
    rw [if_neg Bool.false_ne_true]
    have hp : ¬ p := fun z => by have := hc.mpr z; cases this
    exact h2 hp σ W1 w1 _ fun W' ps' st' b w' pb => q W' ps' st' b w' (.inr ⟨hp, pb⟩)
end GL
namespace GL
def theA {α β : Type} [Inhabited α] (x : Option (Sum Addr (Sum α β))) : α := match x with
  | some (.inr (.inl a)) => a
  | _ => default
end GL
namespace GL
open PySem L2
instance {α : Type} [Inhabited α] : Inhabited (Sum Addr α) := ⟨.inr default⟩
end GL


set_option Elab.async false
set_option linter.all false
set_option maxRecDepth 100000
set_option maxHeartbeats 1000000
/-! ### expressions that change an object, and leave what else is ours; comprehensions of such -/
namespace GL
open PySem L2
/-- what a step that may change the object (its addresses ps, then ps') leaves -/
structure Frm (W W' : Wd) (ps ps' : List Addr) : Prop where
  vs : W'.vs = W.vs
  g : Same W.G W'.G
  ours : ∀ p, p ∉ W.vs → W.G p = none → W.H p ≠ none → p ∉ ps → W'.H p = W.H p ∧ W'.G p = none ∧ p ∉ ps'
theorem Frm.refl (W : Wd) (ps : List Addr) : Frm W W ps ps := ⟨rfl, Same.refl _, fun _ _ h2 _ h4 => ⟨rfl, h2, h4⟩⟩
theorem Frm.trans {W W1 W2 : Wd} {p0 p1 p2 : List Addr} (f : Frm W W1 p0 p1) (k : Frm W1 W2 p1 p2) : Frm W W2 p0 p2 where
  vs := k.vs.trans f.vs
  g := f.g.trans k.g
  ours := fun p h1 h2 h3 h4 => by
    obtain ⟨a1, a2, a3⟩ := f.ours p h1 h2 h3 h4
    obtain ⟨b1, b2, b3⟩ := k.ours p (by rw [f.vs]; exact h1) a2 (by rw [a1]; exact h3) a3
    exact ⟨b1.trans a1, b2, b3⟩
theorem Frm.stp {W W' : Wd} (s : Stp W W') (ps : List Addr) : Frm W W' ps ps := ⟨s.vs, s.g, fun p h1 h2 h3 h4 => ⟨(s.ours h1 h2 h3).1, (s.ours h1 h2 h3).2, h4⟩⟩
theorem Frm.lv {C : Cn} {W W' : Wd} {ps ps' : List Addr} (f : Frm W W' ps ps') : ∀ ℓ : Lv, ℓ ≠ .h → Same (wl C W ℓ) (wl C W' ℓ)
  | .g, _ => f.g
  | .m, _ => mw_same f.g
  | .h, n => absurd rfl n
section
variable {C : Cn} {Γ : List Ent} {α β γ τ τ' : Type} {R : Rl α} {S : Rl β} {te ta tb : TE} {tA : TA} {ℓ ℓ' ℓo ℓ2 : Lv} {K : PySem.W.Frag} {D : Ends} {u : TS} {c : Addr} {m : Str} {x : V} {ps : List Addr} {st : τ} {i j : Nat} {So : Ob τ}
def EvU (C : Cn) {β τ : Type} (te : TE) (Γ : List Ent) (i : Nat) (x : V) (ps : List Addr) (S : Ob τ) (ℓo ℓ : Lv) (R : Rl β) (P : β → τ → Prop) : Prop :=
  ∀ σ W, World C σ W Γ → ∀ Q : VK, (∀ v W' ps' st' b, World C σ W' (Γ.set i (.ob x ps' ℓo S st')) → Frm W W' ps ps' → R.is (wl C W' ℓ) v b → P b st' → Q v W'.H) → te σ W.H Q
theorem EvU.t {P : β → τ → Prop} (h : EvU C te Γ i x ps So ℓo ℓ S P) : EvT C te Γ i x So ℓo ℓ S P := fun σ W w Q q => h σ W w Q fun v W' ps' st' b w' _ r p => q v W' ps' st' b w' r p
theorem EvU.imp {P P2 : β → τ → Prop} (h : EvU C te Γ i x ps So ℓo ℓ S P) (k : ∀ b st', P b st' → P2 b st') : EvU C te Γ i x ps So ℓo ℓ S P2 := fun σ W w Q q => h σ W w Q fun v W' ps' st' b w' f r p => q v W' ps' st' b w' f r (k b st' p)
theorem evu_callS {PI : HO → Prop} {A : AO α} {a : α} {pre : τ → α → Prop} {Rb : Rl β} {post : τ → α → β → τ → Prop} {exc : τ → α → Addr → Prop} {W0 : WX} {Pe : Addr → Prop} (hPI : C.PI = PI) (hi : Γ[i]? = some (.ob x ps ℓ So st)) (hA : EvAO C tA Γ ps x ℓ A a) (hp : pre st a) (hE : ∀ qs, ExcOkG C W0 (Γ.set i (.ob x qs ℓ So st)) Pe) (he : ∀ c, exc st a c → Pe c) :
    EvU C (tCallS (spO PI So A pre So Rb post exc) (WE W0) tA) Γ i x ps So ℓ ℓ Rb (fun b st' => post st a b st') := fun σ W w Q q => hA σ W w _ fun vs W1 ks s1 b1 hk r1 => by
  subst hPI
  have w1 := w.stp b1 s1
  obtain ⟨_, hl, hps, hS⟩ := ob_lit w1 hi
  have sB : Same (wl C W1 ℓ) W1.H := fun p o e => (hid_some (b1.up ℓ p o e)).2
  have nB : ∀ p ∈ ps, wl C W1 ℓ p = none := fun p hp => by
    cases e : wl C W1 ℓ p with
    | none => rfl
    | some o =>
      have := (hid_some (lv_hid b1 hps hl p o e)).1
      exact absurd (List.mem_append_left _ hp) this
  refine ⟨wl C W1 ℓ, hid W1.H (ps ++ W1.vs), ps, ks, x, st, a, sB, fun p o e => (hid_some e).2, fun p hp => ⟨nB p hp, hid_in (List.mem_append_left _ hp), (hps p hp).2.2.2, fun z => (hps p hp).1 (hk p z).1⟩, fun p hp => ⟨?_, hid_in (List.mem_append_right _ (hk p hp).1), ?_⟩, hS, r1, hp, ?_, ?_⟩
  · cases e : wl C W1 ℓ p with
    | none => rfl
    | some o => exact absurd (hk p hp).1 (hid_some (b1.up ℓ p o e)).1
  · obtain ⟨o, h1, h2⟩ := b1.vol p (hk p hp).1
    exact ⟨o, h1, h2 (hk p hp).2⟩
  · intro v H' G' ps' b st' k r rb pb
    refine q v _ ps' st' b (w1.back hi hk k r) ((Frm.stp s1 ps).trans ⟨rfl, jn_l, fun p h1 h2 h3 h4 => ?_⟩) (Rb.mono (back_known b1 hl hps hk k) rb) pb
    refine ⟨?_, ?_, fun z => ?_⟩
    · show H' p = W1.H p
      cases e : W1.H p with
      | none => exact absurd e h3
      | some o => exact k.keep p o e h4 fun z => h1 (hk p z).1
    · show jn W1.G _ p = none
      rw [jn_r h2]
      exact newG_out h3 h4
    · rcases (k.own p z).1 with e | e
      · exact h3 e
      · exact h4 e
  · intro c' H' G' ps' k r ec
    exact hE ps' c' σ _ (w1.back hi hk k r) (he c' ec)
/-! laying a new list beside the world -/
theorem lay_ent {W : Wd} {T : Addr} {o : HO} {y : Option V} : ∀ {e : Ent}, (∀ p ∈ e.ads, p ≠ T) → EntOk C W y e → EntOk C (W.lay T o) y e
  | .no, _, _ => trivial
  | .val ℓ' R a, _, ⟨n, v, e, h⟩ => ⟨n, v, e, R.mono (by cases ℓ' with | g => exact Same.refl _ | m => exact Same.refl _ | h => exact absurd rfl n) h⟩
  | .own p ℓ' R l, d, ⟨n, e, hv, h0, hg, xs, hx, t⟩ => ⟨n, e, hv, h0, hg, xs, (upd_ne (d p (List.mem_singleton.mpr rfl))).trans hx, t.imp fun _ _ => R.mono (by cases ℓ' with | g => exact Same.refl _ | m => exact Same.refl _ | h => exact absurd rfl n)⟩
  | .vol p, _, h => h
  | .raw v, _, h => h
  | .ob v qs ℓ' S a, d, ⟨n, e, hq, r⟩ => ⟨n, e, fun p m => by
      obtain ⟨h1, h2, h3, h4⟩ := hq p m
      exact ⟨h1, h2, h3, by show upd W.H T _ p ≠ none; rw [upd_ne (d p m)]; exact h4⟩, S.mono (by cases ℓ' with | g => exact Same.refl _ | m => exact Same.refl _ | h => exact absurd rfl n) (fun p m => upd_ne (d p m)) r⟩
theorem World.lay {σ : Sg} {W : Wd} {T : Addr} {o : HO} (w : World C σ W Γ) (h0 : C.H0 T = none) (hv : T ∉ W.vs) (hG : W.G T = none) (hd : ∀ j q, adAt Γ j q → q ≠ T) : World C σ (W.lay T o) Γ :=
  ⟨w.b.lay h0 hv hG, w.len, fun j e hj => by
    obtain ⟨y, h1, h2⟩ := w.ent j e hj
    exact ⟨y, h1, lay_ent (fun p hp => hd j p ⟨e, hj, hp⟩) h2⟩, w.dis⟩
/-! new lists -/
def EvUN (C : Cn) {β τ : Type} (te : TE) (Γ : List Ent) (i : Nat) (x : V) (ps : List Addr) (S : Ob τ) (ℓo ℓ : Lv) (R : Rl β) (P : List β → τ → Prop) : Prop :=
  ∀ σ W, World C σ W Γ → ∀ Q : VK, (∀ p W' xs z ps' st', World C σ W' (Γ.set i (.ob x ps' ℓo S st')) → Frm W W' ps ps' → W.H p = none → W'.H p = some (.lst xs) → W'.G p = none → p ∉ ps' → All2 (R.is (wl C W' ℓ)) xs z → P z st' → Q (.ref p) W'.H) → te σ W.H Q
end
end GL


set_option Elab.async false
set_option linter.all false
set_option maxRecDepth 100000
set_option maxHeartbeats 1000000
/-! ### a call whose last argument changes an object -/
namespace GL
open PySem L2
theorem World.snoc {C : Cn} {σ : Sg} {W : Wd} {Γ : List Ent} (w : World C σ W Γ) {y : Option V} {e : Ent} (h : EntOk C W y e) (hd : e.ads = []) : World C (σ ++ [y]) W (Γ ++ [e]) := by
  have key : ∀ (j : Nat) (p : Addr), adAt (Γ ++ [e]) j p → adAt Γ j p := fun j p ⟨u, hu, hm⟩ => by
    by_cases z : j < Γ.length
    · rw [List.getElem?_append_left z] at hu
      exact ⟨u, hu, hm⟩
    · rw [List.getElem?_append_right (by omega)] at hu
      cases q : j - Γ.length with
      | zero =>
        rw [q] at hu
        cases hu
        rw [hd] at hm; cases hm
      | succ n => rw [q] at hu; cases hu
  refine ⟨w.b, by rw [List.length_append, List.length_append, w.len]; rfl, fun j u hj => ?_, fun j k p q hjk hp hq => w.dis j k p q hjk (key j p hp) (key k q hq)⟩
  by_cases z : j < Γ.length
  · rw [List.getElem?_append_left z] at hj
    obtain ⟨y', h1, h2⟩ := w.ent j u hj
    exact ⟨y', by rw [List.getElem?_append_left (by rw [w.len]; exact z)]; exact h1, h2⟩
  · rw [List.getElem?_append_right (by omega)] at hj
    cases q : j - Γ.length with
    | zero =>
      rw [q] at hj
      cases hj
      exact ⟨y, by rw [List.getElem?_append_right (by rw [w.len]; omega), w.len, q]; rfl, h⟩
    | succ n => rw [q] at hj; cases hj
section
variable {C : Cn} {Γ : List Ent} {α β γ τ : Type} {R : Rl α} {S : Rl β} {te : TE} {ℓ ℓ' ℓo ℓ2 : Lv} {x : V} {ps : List Addr} {st : τ} {i : Nat} {So : Ob τ} {sp : Sp} {E : XK}
def HasV (C : Cn) (Γ : List Ent) (i : Nat) : Prop := ∀ σ W, World C σ W Γ → ∃ v, σ[i]? = some (some v)
theorem hv_val {a : α} (h : Γ[i]? = some (.val ℓ R a)) : HasV C Γ i := fun σ W w => by
  obtain ⟨y, h1, _, v, e, _⟩ := w.get h
  subst e
  exact ⟨v, h1⟩
theorem en_filt2c {δ : Type} {T : Rl γ} {U : Rl δ} {K : PySem.W.Frag} {wi : TI} {tt : TT} {i j : Nat} {l : List (α × γ)} (p : α × γ → Prop) [DecidablePred p] (f : α × γ → δ) (hij : i ≠ j) (hi : EvI C false wi Γ ℓ (rPair R T) (fun x => x = l)) (hz : l.length ≤ 1000000)
    (ht : ∀ a, a ∈ l → EvC C tt (((wipeG Γ [i, j]).set i (.val ℓ R a.1)).set j (.val ℓ T a.2)) (p a))
    (he : ∀ a, a ∈ l → p a → Ev C te (((wipeG Γ [i, j]).set i (.val ℓ R a.1)).set j (.val ℓ T a.2)) ℓ' U (f a)) (hl : ℓ ≠ .h := by decide) (hlv : ℓ' ≠ .h := by decide) :
    EvN C (tLc wi (gTup K 2 (gCons (gName i) (gCons (gName j) gNil))) tt te [i, j]) Γ ℓ' U (fun z => z = (l.filter fun a => decide (p a)).map f) :=
  en_filt2d p f hij hi hz (fun a m => (ht a m).imp fun b e => by rw [Bool.eq_iff_iff, e, decide_eq_true_iff]) he hl hlv
end
end GL


set_option Elab.async false
set_option linter.all false
set_option maxRecDepth 100000
set_option maxHeartbeats 1000000
/-! ### an object and a list lent together -/
namespace GL
open PySem L2
def obTwo {σ α : Type} (S : Ob σ) (R : Rl α) : Ob (σ × Addr × List α) where
  is G H x ps a := ∃ qs xs, ps = a.2.1 :: qs ∧ a.2.1 ∉ qs ∧ S.is G H x qs a.1 ∧ H a.2.1 = some (.lst xs) ∧ All2 (R.is G) xs a.2.2
  mono := fun s hA ⟨qs, xs, e, n, h1, h2, h3⟩ => by
    subst e
    exact ⟨qs, xs, rfl, n, S.mono s (fun p hp => hA p (List.mem_cons_of_mem _ hp)) h1, (hA _ List.mem_cons_self).trans h2, h3.imp fun _ _ => R.mono s⟩
def oRef {α : Type} (A : AO α) : AO (Addr × α) := fun vs B M ks x a => ∃ r, vs = .ref a.1 :: r ∧ A r B M ks x a.2
section
variable {C : Cn} {Γ : List Ent} {α β γ σ τ : Type} {R : Rl α} {Rb : Rl β} {S So : Ob τ} {te ta tb : TE} {tA : TA} {ℓ ℓ' ℓo ℓ2 : Lv} {K : PySem.W.Frag} {D : Ends} {t u u' : TS} {x : V} {ps : List Addr} {st : τ} {i j : Nat} {q : Addr} {l : List α}
theorem two_get {e1 e2 : Ent} (hi : i < Γ.length) (hj : j < Γ.length) (ne : i ≠ j) {k : Nat} {e : Ent} (h : ((Γ.set j e2).set i e1)[k]? = some e) : (k = i ∧ e = e1) ∨ (k = j ∧ e = e2) ∨ (k ≠ i ∧ k ≠ j ∧ Γ[k]? = some e) := by
  by_cases z1 : i = k
  · subst z1
    rw [List.getElem?_set_self (by rw [List.length_set]; exact hi)] at h
    cases h; exact .inl ⟨rfl, rfl⟩
  · rw [List.getElem?_set_ne z1] at h
    by_cases z2 : j = k
    · subst z2
      rw [List.getElem?_set_self hj] at h
      cases h; exact .inr (.inl ⟨rfl, rfl⟩)
    · rw [List.getElem?_set_ne z2] at h
      exact .inr (.inr ⟨Ne.symm z1, Ne.symm z2, h⟩)
theorem World.pack {σ' : Sg} {W : Wd} (w : World C σ' W Γ) (hi : Γ[i]? = some (.ob x ps ℓ S st)) (hj : Γ[j]? = some (.own q ℓ R l)) (ne : i ≠ j) : World C σ' W ((Γ.set j (.raw (.ref q))).set i (.ob x (q :: ps) ℓ (obTwo S R) (st, q, l))) := by
  have il := (List.getElem?_eq_some_iff.mp hi).1
  have jl := (List.getElem?_eq_some_iff.mp hj).1
  obtain ⟨h1, hl, hps, hS⟩ := ob_lit w hi
  obtain ⟨y, g1, _, g2, g3, g4, g5, xs, g6, g7⟩ := w.get hj
  subst g2
  have hq : q ∉ ps := fun z => w.dis i j q q ne (.ob hi z) (.own hj) rfl
  refine ⟨w.b, by rw [List.length_set, List.length_set]; exact w.len, fun k e hk => ?_, fun a b p r hab hp hr => ?_⟩
  · rcases two_get il jl ne hk with ⟨rfl, rfl⟩ | ⟨rfl, rfl⟩ | ⟨_, _, h⟩
    · refine ⟨_, h1, hl, rfl, fun p hp => ?_, ps, xs, rfl, hq, hS, g6, g7⟩
      rcases List.mem_cons.mp hp with e | e
      · subst e; exact ⟨g3, g4, g5, by rw [g6]; intro z; cases z⟩
      · exact hps p e
    · exact ⟨_, g1, rfl⟩
    · exact w.ent k e h
  · have key : ∀ (a : Nat) (p : Addr), adAt ((Γ.set j (.raw (.ref q))).set i (.ob x (q :: ps) ℓ (obTwo S R) (st, q, l))) a p → (a = i ∧ (p = q ∨ p ∈ ps)) ∨ (a ≠ i ∧ a ≠ j ∧ adAt Γ a p) := fun a p ⟨e, he, hm⟩ => by
      rcases two_get il jl ne he with ⟨rfl, rfl⟩ | ⟨rfl, rfl⟩ | ⟨n1, n2, h⟩
      · exact .inl ⟨rfl, List.mem_cons.mp hm⟩
      · cases hm
      · exact .inr ⟨n1, n2, e, h, hm⟩
    have sep : ∀ (a : Nat) (p r : Addr), a ≠ i → a ≠ j → (p = q ∨ p ∈ ps) → adAt Γ a r → p ≠ r := fun a p r n1 n2 hp hr => by
      rcases hp with e | e
      · rw [e]; exact w.dis j a q r (Ne.symm n2) (.own hj) hr
      · exact w.dis i a p r (Ne.symm n1) (.ob hi e) hr
    rcases key a p hp with ⟨a1, a2⟩ | ⟨a1, a2, a3⟩
    · rcases key b r hr with ⟨b1, b2⟩ | ⟨b1, b2, b3⟩
      · exact absurd (a1.trans b1.symm) hab
      · exact sep b p r b1 b2 a2 b3
    · rcases key b r hr with ⟨b1, b2⟩ | ⟨b1, b2, b3⟩
      · exact Ne.symm (sep a r p a1 a2 b2 a3)
      · exact w.dis a b p r hab a3 b3
theorem World.unpack {σ' : Sg} {W : Wd} (w : World C σ' W Γ) (hi : Γ[i]? = some (.ob x ps ℓ (obTwo S R) (st, q, l))) (hj : Γ[j]? = some (.raw (.ref q))) (ne : i ≠ j) : ∃ qs, World C σ' W ((Γ.set j (.own q ℓ R l)).set i (.ob x qs ℓ S st)) := by
  have il := (List.getElem?_eq_some_iff.mp hi).1
  have jl := (List.getElem?_eq_some_iff.mp hj).1
  obtain ⟨h1, hl, hps, qs, xs, e0, hq, hS, g6, g7⟩ := ob_lit w hi
  have e0 : ps = q :: qs := e0
  have hq : q ∉ qs := hq
  have g6 : W.H q = some (.lst xs) := g6
  subst e0
  obtain ⟨y, g1, g2⟩ := w.get hj
  have g2 : y = some (.ref q) := g2
  subst g2
  refine ⟨qs, w.b, by rw [List.length_set, List.length_set]; exact w.len, fun k e hk => ?_, fun a b p r hab hp hr => ?_⟩
  · rcases two_get il jl ne hk with ⟨rfl, rfl⟩ | ⟨rfl, rfl⟩ | ⟨_, _, h⟩
    · exact ⟨_, h1, hl, rfl, fun p hp => hps p (List.mem_cons_of_mem _ hp), hS⟩
    · obtain ⟨k1, k2, k3, _⟩ := hps q List.mem_cons_self
      exact ⟨_, g1, hl, rfl, k1, k2, k3, xs, g6, g7⟩
    · exact w.ent k e h
  · have key : ∀ (a : Nat) (p : Addr), adAt ((Γ.set j (.own q ℓ R l)).set i (.ob x qs ℓ S st)) a p → (a = i ∧ p ∈ qs) ∨ (a = j ∧ p = q) ∨ (a ≠ i ∧ a ≠ j ∧ adAt Γ a p) := fun a p ⟨e, he, hm⟩ => by
      rcases two_get il jl ne he with ⟨rfl, rfl⟩ | ⟨rfl, rfl⟩ | ⟨n1, n2, h⟩
      · exact .inl ⟨rfl, hm⟩
      · exact .inr (.inl ⟨rfl, List.mem_singleton.mp hm⟩)
      · exact .inr (.inr ⟨n1, n2, e, h, hm⟩)
    have sep : ∀ (a : Nat) (p r : Addr), a ≠ i → p ∈ q :: qs → adAt Γ a r → p ≠ r := fun a p r n1 hp hr => w.dis i a p r (Ne.symm n1) (.ob hi hp) hr
    rcases key a p hp with ⟨a1, a2⟩ | ⟨a1, a2⟩ | ⟨a1, a2, a3⟩
    · rcases key b r hr with ⟨b1, b2⟩ | ⟨b1, b2⟩ | ⟨b1, b2, b3⟩
      · exact absurd (a1.trans b1.symm) hab
      · subst b2; exact fun z => hq (z ▸ a2)
      · exact sep b p r b1 (List.mem_cons_of_mem _ a2) b3
    · rcases key b r hr with ⟨b1, b2⟩ | ⟨b1, b2⟩ | ⟨b1, b2, b3⟩
      · subst a2; exact fun z => hq (z ▸ b2)
      · exact absurd (a1.trans b1.symm) hab
      · subst a2; exact sep b p r b1 List.mem_cons_self b3
    · rcases key b r hr with ⟨b1, b2⟩ | ⟨b1, b2⟩ | ⟨b1, b2, b3⟩
      · exact Ne.symm (sep a r p a1 (List.mem_cons_of_mem _ b2) a3)
      · subst b2; exact Ne.symm (sep a r p a1 List.mem_cons_self a3)
      · exact w.dis a b p r hab a3 b3
theorem q_pack (hi : Γ[i]? = some (.ob x ps ℓ S st)) (hj : Γ[j]? = some (.own q ℓ R l)) (ne : i ≠ j) (k : Go C t D ((Γ.set j (.raw (.ref q))).set i (.ob x (q :: ps) ℓ (obTwo S R) (st, q, l)))) : Go C t D Γ := fun σ W w => k σ W (w.pack hi hj ne)
theorem q_unpack (hi : Γ[i]? = some (.ob x ps ℓ (obTwo S R) (st, q, l))) (hj : Γ[j]? = some (.raw (.ref q))) (ne : i ≠ j) (k : ∀ qs, Go C t D ((Γ.set j (.own q ℓ R l)).set i (.ob x qs ℓ S st))) : Go C t D Γ := fun σ W w => by
  obtain ⟨qs, w'⟩ := w.unpack hi hj ne
  exact k qs σ W w'
theorem eb_unpack {tt : TT} {P : Bool → Prop} (hi : Γ[i]? = some (.ob x ps ℓ (obTwo S R) (st, q, l))) (hj : Γ[j]? = some (.raw (.ref q))) (ne : i ≠ j) (k : ∀ qs, EvB C tt ((Γ.set j (.own q ℓ R l)).set i (.ob x qs ℓ S st)) P) : EvB C tt Γ P := fun σ W w => by
  obtain ⟨qs, w'⟩ := w.unpack hi hj ne
  exact k qs σ W w'
theorem eao_ref {A : AO β} {a : β} (hj : Γ[j]? = some (.raw (.ref q))) (h : EvAO C tA Γ ps x ℓ A a) : EvAO C (tCons (tVar j) tA) Γ ps x ℓ (oRef A) (q, a) := fun σ W w Q k => by
  obtain ⟨y, g1, g2⟩ := w.get hj
  have g2 : y = some (.ref q) := g2
  subst g2
  exact ⟨_, g1, h σ W w _ fun vs W' ks s b hk r => k _ W' ks s b hk ⟨vs, rfl, r⟩⟩
/-! the ends of a def that is lent both -/
theorem obs_two {σ' : Sg} {W : Wd} (w : World C σ' W Γ) (hi : Γ[i]? = some (.ob x ps .g S st)) (hj : Γ[j]? = some (.own q .g R l)) (ne : i ≠ j) : ObS C W (obTwo S R) x (q :: ps) (st, q, l) :=
  .of (w.pack hi hj ne) (List.getElem?_set_self (by rw [List.length_set]; exact (List.getElem?_eq_some_iff.mp hi).1))
theorem q_ret2 {Pr : β → τ × Addr × List α → Prop} {P : β → Prop} (hi : Γ[i]? = some (.ob x ps .g S st)) (hj : Γ[j]? = some (.own q .g R l)) (ne : i ≠ j) (h : EvP C te Γ .g Rb P) (hR : RetM C D (obTwo S R) x Rb Pr) (k : ∀ a, P a → Pr a (st, q, l)) : Go C (tSeq (tRet te) u) D Γ := fun σ W w => h σ W w _ fun v W' a s b r p => hR v W' _ (st, q, l) a b (obs_two (w.stp b s) hi hj ne) r (k a p)
theorem EvT.imp {P P2 : β → τ → Prop} (h : EvT C te Γ i x So ℓo ℓ Rb P) (k : ∀ b st', P b st' → P2 b st') : EvT C te Γ i x So ℓo ℓ Rb P2 := fun σ W w Q q => h σ W w Q fun v W' ps' st' b w' r p => q v W' ps' st' b w' r (k b st' p)
end
end GL


set_option Elab.async false
set_option linter.all false
set_option maxRecDepth 100000
set_option maxHeartbeats 1000000
/-! ### a list of ours lent as an object; a fresh list lent beside it -/
namespace GL
open PySem L2
def obLst {α : Type} (R : Rl α) : Ob (List α) where
  is G H x ps l := ∃ p xs, x = .ref p ∧ ps = [p] ∧ H p = some (.lst xs) ∧ All2 (R.is G) xs l
  mono := fun s hA ⟨p, xs, e1, e2, h1, h2⟩ => by
    subst e2
    exact ⟨p, xs, e1, rfl, (hA p List.mem_cons_self).trans h1, h2.imp fun _ _ => R.mono s⟩
section
variable {C : Cn} {Γ : List Ent} {α β γ τ : Type} {R : Rl α} {Rb : Rl β} {S So : Ob τ} {te ta tb : TE} {tA : TA} {ℓ ℓ' ℓo ℓ2 : Lv} {K : PySem.W.Frag} {D : Ends} {t u u' : TS} {x : V} {ps : List Addr} {st : τ} {i j : Nat} {p q : Addr} {l : List α}
/-- another word about one entry, of the same addresses -/
theorem World.alt {σ : Sg} {W : Wd} {e e' : Ent} (w : World C σ W Γ) (h : Γ[i]? = some e) (ha : ∀ p, p ∈ e'.ads → p ∈ e.ads) (hk : ∀ y, EntOk C W y e → EntOk C W y e') : World C σ W (Γ.set i e') := by
  have il := (List.getElem?_eq_some_iff.mp h).1
  have key : ∀ (j : Nat) (p : Addr), adAt (Γ.set i e') j p → adAt Γ j p := fun j p ⟨u, hu, hm⟩ => by
    by_cases z : i = j
    · subst z
      rw [List.getElem?_set_self il] at hu
      cases hu
      exact ⟨e, h, ha p hm⟩
    · rw [List.getElem?_set_ne z] at hu
      exact ⟨u, hu, hm⟩
  refine ⟨w.b, by rw [List.length_set]; exact w.len, fun j u hj => ?_, fun j k p q hjk hp hq => w.dis j k p q hjk (key j p hp) (key k q hq)⟩
  by_cases z : i = j
  · subst z
    rw [List.getElem?_set_self il] at hj
    cases hj
    obtain ⟨y, h1, h2⟩ := w.ent i e h
    exact ⟨y, h1, hk y h2⟩
  · rw [List.getElem?_set_ne z] at hj
    exact w.ent j u hj
theorem toLst_ok {W : Wd} {y : Option V} (h : EntOk C W y (.own p ℓ R l)) : EntOk C W y (.ob (.ref p) [p] ℓ (obLst R) l) := by
  obtain ⟨h1, h2, h3, h4, h5, xs, h6, h7⟩ := h
  refine ⟨h1, h2, fun r hr => ?_, p, xs, rfl, rfl, h6, h7⟩
  rw [List.mem_singleton] at hr
  subst hr
  exact ⟨h3, h4, h5, by rw [h6]; intro z; cases z⟩
theorem ofLst_ok {W : Wd} {y : Option V} (h : EntOk C W y (.ob x ps ℓ (obLst R) l)) : ∃ p, x = .ref p ∧ ps = [p] ∧ EntOk C W y (.own p ℓ R l) := by
  obtain ⟨h1, h2, h3, p, xs, e1, e2, h6, h7⟩ := h
  obtain ⟨k1, k2, k3, _⟩ := h3 p (by rw [e2]; exact List.mem_cons_self)
  exact ⟨p, e1, e2, h1, by rw [h2, e1], k1, k2, k3, xs, h6, h7⟩
theorem World.toLst {σ : Sg} {W : Wd} (w : World C σ W Γ) (h : Γ[i]? = some (.own p ℓ R l)) : World C σ W (Γ.set i (.ob (.ref p) [p] ℓ (obLst R) l)) := w.alt h (fun _ z => z) fun _ => toLst_ok
theorem World.ofLst {σ : Sg} {W : Wd} (w : World C σ W Γ) (h : Γ[i]? = some (.ob x ps ℓ (obLst R) l)) : ∃ p, x = .ref p ∧ World C σ W (Γ.set i (.own p ℓ R l)) := by
  obtain ⟨y, h1, h2⟩ := w.get h
  obtain ⟨p, e1, e2, h3⟩ := ofLst_ok h2
  refine ⟨p, e1, w.alt h (fun r hr => ?_) fun y' h' => ?_⟩
  · rw [e2]; exact hr
  · obtain ⟨p', e1', e2', h3'⟩ := ofLst_ok h'
    have : p = p' := by rw [e1] at e1'; cases e1'; rfl
    subst this; exact h3'
theorem q_toLst (h : Γ[i]? = some (.own p ℓ R l)) (k : Go C t D (Γ.set i (.ob (.ref p) [p] ℓ (obLst R) l))) : Go C t D Γ := fun σ W w => k σ W (w.toLst h)
theorem q_ofLst (h : Γ[i]? = some (.ob x ps ℓ (obLst R) l)) (k : ∀ p, x = .ref p → Go C t D (Γ.set i (.own p ℓ R l))) : Go C t D Γ := fun σ W w => by
  obtain ⟨p, e, w'⟩ := w.ofLst h
  exact k p e σ W w'
theorem q_ofLst' (h : Γ[i]? = some (.ob (.ref p) ps ℓ (obLst R) l)) (k : Go C t D (Γ.set i (.own p ℓ R l))) : Go C t D Γ := q_ofLst h fun p' e => by cases e; exact k
theorem eb_ofLst {tt : TT} {P : Bool → Prop} (h : Γ[i]? = some (.ob (.ref p) ps ℓ (obLst R) l)) (k : EvB C tt (Γ.set i (.own p ℓ R l)) P) : EvB C tt Γ P := fun σ W w => by
  obtain ⟨p', e, w'⟩ := w.ofLst h
  cases e
  exact k σ W w'
/-! a slot more, that holds a list of ours -/
theorem World.snocOwn {σ : Sg} {W : Wd} (w : World C σ W Γ) {e : Ent} {y : Option V} (h : EntOk C W y e) (hd : ∀ p ∈ e.ads, ∀ j q, adAt Γ j q → p ≠ q) : World C (σ ++ [y]) W (Γ ++ [e]) := by
  have key : ∀ (j : Nat) (p : Addr), adAt (Γ ++ [e]) j p → adAt Γ j p ∨ (j = Γ.length ∧ p ∈ e.ads) := fun j p ⟨u, hu, hm⟩ => by
    by_cases z : j < Γ.length
    · rw [List.getElem?_append_left z] at hu
      exact .inl ⟨u, hu, hm⟩
    · rw [List.getElem?_append_right (by omega)] at hu
      cases q : j - Γ.length with
      | zero =>
        rw [q] at hu
        cases hu
        exact .inr ⟨by omega, hm⟩
      | succ n => rw [q] at hu; cases hu
  refine ⟨w.b, by rw [List.length_append, List.length_append, w.len]; rfl, fun j u hj => ?_, fun j k p q hjk hp hq => ?_⟩
  · by_cases z : j < Γ.length
    · rw [List.getElem?_append_left z] at hj
      obtain ⟨y', h1, h2⟩ := w.ent j u hj
      exact ⟨y', by rw [List.getElem?_append_left (by rw [w.len]; exact z)]; exact h1, h2⟩
    · rw [List.getElem?_append_right (by omega)] at hj
      cases q : j - Γ.length with
      | zero =>
        rw [q] at hj
        cases hj
        exact ⟨y, by rw [List.getElem?_append_right (by rw [w.len]; omega), w.len, q]; rfl, h⟩
      | succ n => rw [q] at hj; cases hj
  · rcases key j p hp with a | ⟨a1, a2⟩
    · rcases key k q hq with b | ⟨b1, b2⟩
      · exact w.dis j k p q hjk a b
      · exact Ne.symm (hd q b2 j p a)
    · rcases key k q hq with b | ⟨b1, b2⟩
      · exact hd p a2 k q b
      · exact absurd (a1.trans b1.symm) hjk
theorem World.unsnoc {σ : Sg} {W : Wd} {e : Ent} {y : Option V} (w : World C (σ ++ [y]) W (Γ ++ [e])) : World C σ W Γ := by
  have hl : σ.length = Γ.length := by have := w.len; rw [List.length_append, List.length_append] at this; exact Nat.add_right_cancel this
  have key : ∀ (j : Nat) (p : Addr), adAt Γ j p → adAt (Γ ++ [e]) j p := fun j p ⟨u, hu, hm⟩ => ⟨u, by rw [List.getElem?_append_left (List.getElem?_eq_some_iff.mp hu).1]; exact hu, hm⟩
  refine ⟨w.b, hl, fun j u hj => ?_, fun j k p q hjk hp hq => w.dis j k p q hjk (key j p hp) (key k q hq)⟩
  have jl := (List.getElem?_eq_some_iff.mp hj).1
  obtain ⟨y', h1, h2⟩ := w.ent j u (by rw [List.getElem?_append_left jl]; exact hj)
  exact ⟨y', by rwa [List.getElem?_append_left (by rw [hl]; exact jl)] at h1, h2⟩
/-- f(a, x, b, []) as a statement: the lent list is made for it alone -/
theorem q_tdropNew {n : Nat} (hn : Γ.length = n) {sp : Sp} {E : XK} {i1 i2 i3 : Nat} {P : β → List α × Addr × List γ → Prop} {Rc : Rl γ} (h1 : HasV C Γ i1) (h2 : HasV C Γ i2) (h3 : HasV C Γ i3) (hi : Γ[i]? = some (.own p ℓ R l)) (hl : ℓ ≠ .h)
    (h : ∀ q, EvT C (tCall sp [] E (tCons (tVar i1) (tCons (tVar i2) (tCons (tVar i3) (tCons (tVar n) tNil))))) (((Γ ++ [Ent.raw (.ref q)])).set i (.ob (.ref p) (q :: [p]) ℓ (obTwo (obLst R) Rc) (l, q, []))) i (.ref p) (obTwo (obLst R) Rc) ℓ ℓ' Rb P)
    (k : ∀ l' b q s, P b (l', q, s) → Go C u D (Γ.set i (.own p ℓ R l'))) : Go C (tSeq (tDrop (tCall sp [] E (tCons (tVar i1) (tCons (tVar i2) (tCons (tVar i3) (tCons (tLst tNil) tNil)))))) u) D Γ := fun σ W w => by
  subst hn
  obtain ⟨v1, e1⟩ := h1 σ W w
  obtain ⟨v2, e2⟩ := h2 σ W w
  obtain ⟨v3, e3⟩ := h3 σ W w
  have hlen := w.len
  have lt : ∀ {j : Nat} {a : Option V}, σ[j]? = some a → j < σ.length := fun h => (List.getElem?_eq_some_iff.mp h).1
  have il := (List.getElem?_eq_some_iff.mp hi).1
  refine ⟨v1, e1, v2, e2, v3, e3, ?_⟩
  have hnew : EvN C (tLst tNil) Γ .g Rc (fun z => z = []) := en_lstd (ℓ := .g) (R := Rc) em_nil (Nat.zero_le _)
  refine hnew σ W w _ fun q W1 xs z s1 b1 n0 hH hG r ez => ?_
  subst ez
  have w1 := w.stp b1 s1
  have hq0 : C.H0 q = none := w.b.h0 n0
  have hqv : q ∉ W1.vs := by rw [s1.vs]; exact w.b.nvs n0
  have hxs : xs = [] := by
    cases xs with
    | nil => rfl
    | cons a b => exact r.elim
  subst hxs
  have w2 := w1.snocOwn (y := some (.ref q)) (e := .own q ℓ Rc ([] : List γ)) ⟨hl, rfl, hqv, hq0, hG, [], hH, trivial⟩ (fun r hr j a ha => by
    rw [List.mem_singleton.mp hr]
    intro z
    subst z
    exact (w.adH ha).1 n0)
  have gi : (Γ ++ [Ent.own q ℓ Rc ([] : List γ)])[i]? = some (.own p ℓ R l) := by rw [List.getElem?_append_left il]; exact hi
  have w3 := w2.toLst gi
  have gi3 : ((Γ ++ [Ent.own q ℓ Rc ([] : List γ)]).set i (.ob (.ref p) [p] ℓ (obLst R) l))[i]? = some (.ob (.ref p) [p] ℓ (obLst R) l) := List.getElem?_set_self (by simp; omega)
  have gj3 : ((Γ ++ [Ent.own q ℓ Rc ([] : List γ)]).set i (.ob (.ref p) [p] ℓ (obLst R) l))[Γ.length]? = some (.own q ℓ Rc []) := by
    rw [List.getElem?_set_ne (by omega), List.getElem?_append_right (Nat.le_refl _), Nat.sub_self]; rfl
  have w4 := w3.pack gi3 gj3 (by omega)
  have eG : ((((Γ ++ [Ent.own q ℓ Rc ([] : List γ)]).set i (.ob (.ref p) [p] ℓ (obLst R) l)).set Γ.length (.raw (.ref q))).set i (.ob (.ref p) (q :: [p]) ℓ (obTwo (obLst R) Rc) (l, q, []))) = ((Γ ++ [Ent.raw (.ref q)]).set i (.ob (.ref p) (q :: [p]) ℓ (obTwo (obLst R) Rc) (l, q, []))) := by
    have f1 : ((Γ ++ [Ent.own q ℓ Rc ([] : List γ)]).set i (.ob (.ref p) [p] ℓ (obLst R) l)).set Γ.length (.raw (.ref q)) = ((Γ ++ [Ent.own q ℓ Rc ([] : List γ)]).set Γ.length (.raw (.ref q))).set i (.ob (.ref p) [p] ℓ (obLst R) l) := List.set_comm _ _ (show i ≠ Γ.length by omega)
    have f2 : (Γ ++ [Ent.own q ℓ Rc ([] : List γ)]).set Γ.length (.raw (.ref q)) = Γ ++ [Ent.raw (.ref q)] := by
      rw [List.set_append_right _ _ (Nat.le_refl _), Nat.sub_self]; rfl
    rw [f1, List.set_set, f2]
  rw [eG] at w4
  obtain ⟨a1, g1, a2, g2, a3, g3, a4, g4, hk⟩ := h q (σ ++ [some (.ref q)]) W1 w4 _ fun v W' ps' st' b w' rb pb => by
    have ilen : i < (Γ ++ [Ent.raw (.ref q)]).length := by simp; omega
    rw [List.set_set] at w'
    obtain ⟨l', q', s'⟩ := st'
    have gi5 : ((Γ ++ [Ent.raw (.ref q)]).set i (.ob (.ref p) ps' ℓ (obTwo (obLst R) Rc) (l', q', s')))[i]? = some (.ob (.ref p) ps' ℓ (obTwo (obLst R) Rc) (l', q', s')) := List.getElem?_set_self ilen
    -- what is lent beside is let go
    have w6 : World C (σ ++ [some (.ref q)]) W' ((Γ ++ [Ent.raw (.ref q)]).set i (.own p ℓ R l')) := by
      have hx : ∀ y, EntOk C W' y (.ob (.ref p) ps' ℓ (obTwo (obLst R) Rc) (l', q', s')) → EntOk C W' y (.own p ℓ R l') ∧ p ∈ ps' := fun y ⟨k1, k2, k3, qs, xs, e0, nq, ⟨p', ys, f1, f2, f3, f4⟩, g6, g7⟩ => by
        cases f1
        have e0 : ps' = q' :: qs := e0
        have hm : p ∈ ps' := by rw [e0, f2]; simp
        obtain ⟨m1, m2, m3, _⟩ := k3 p hm
        exact ⟨⟨k1, k2, m1, m2, m3, ys, f3, f4⟩, hm⟩
      obtain ⟨y, hy1, hy2⟩ := w'.get gi5
      have := w'.alt (e' := .own p ℓ R l') gi5 (fun r hr => by rw [List.mem_singleton.mp hr]; exact (hx y hy2).2) (fun y' h' => (hx y' h').1)
      rwa [List.set_set] at this
    rw [List.set_append_left _ _ il] at w6
    exact k l' b q' s' pb σ W' w6.unsnoc
  rw [List.getElem?_append_left (lt e1), e1] at g1
  rw [List.getElem?_append_left (lt e2), e2] at g2
  rw [List.getElem?_append_left (lt e3), e3] at g3
  rw [List.getElem?_append_right (by omega), show Γ.length - σ.length = 0 by omega] at g4
  cases g1; cases g2; cases g3; cases g4
  exact hk
theorem hv_own (h : Γ[i]? = some (.own p ℓ R l)) : HasV C Γ i := fun σ W w => ⟨.ref p, (own_lit w h).1⟩
end
end GL
namespace GL
open PySem L2
section
variable {C : Cn} {Γ : List Ent} {α β τ : Type} {R : Rl α} {Rb : Rl β} {S : Ob τ} {te : TE} {ℓ ℓ' : Lv} {x : V} {ps : List Addr} {st : τ} {i j : Nat} {p q : Addr} {l : List α}
theorem ev_unpack {P : β → Prop} (hi : Γ[i]? = some (.ob x ps ℓ (obTwo S R) (st, q, l))) (hj : Γ[j]? = some (.raw (.ref q))) (ne : i ≠ j) (k : ∀ qs, EvP C te ((Γ.set j (.own q ℓ R l)).set i (.ob x qs ℓ S st)) ℓ' Rb P) : EvP C te Γ ℓ' Rb P := fun σ W w => by
  obtain ⟨qs, w'⟩ := w.unpack hi hj ne
  exact k qs σ W w'
theorem ev_ofLst {P : β → Prop} (h : Γ[i]? = some (.ob (.ref p) ps ℓ (obLst R) l)) (k : EvP C te (Γ.set i (.own p ℓ R l)) ℓ' Rb P) : EvP C te Γ ℓ' Rb P := fun σ W w => by
  obtain ⟨p', e, w'⟩ := w.ofLst h
  cases e
  exact k σ W w'
end
end GL


set_option Elab.async false
set_option linter.all false
set_option maxRecDepth 100000
set_option maxHeartbeats 1000000
/-! ### sorted(set(t)), t a tuple of ints -/
namespace L2
open PySem PySem.Spec PyProof.Rows
def tSortSet (K : PySem.W.Frag) (ta : TA) : TE := fun σ H Q => ta σ H fun vs H1 => ∃ (p : Addr) (ns : List Int), vs = [.ref p] ∧ SqT K H1 p (ns.map V.int) ∧ ns.length < 64 ∧
  ∀ (u : HO) (q r : Addr) (ms : List Int), H1 q = none → upd H1 q u r = none → ms.Pairwise (· < ·) → (∀ k, k ∈ ms ↔ k ∈ ns) → Q (.ref r) (upd (upd H1 q u) r (.lst (ms.map V.int)))
section
variable {X : Cx} {e : Expr} {ta : TA}
end
end L2
namespace GL
open PySem L2
/-- a list's members once each, in rising order -/
def dd : List Int → List Int
  | [] => []
  | x :: l => if x ∈ dd l then dd l else x :: dd l
def nset (l : List Int) : List Int := isort (dd l)
theorem rise_uniq {l m : List Int} (h1 : l.Pairwise (· < ·)) (h2 : m.Pairwise (· < ·)) (h : ∀ x, x ∈ l ↔ x ∈ m) : l = m :=
  sorted_uniq ((List.perm_ext_iff_of_nodup (h1.imp fun h => Int.ne_of_lt h) (h2.imp fun h => Int.ne_of_lt h)).mpr h) (h1.imp fun h => Int.le_of_lt h) (h2.imp fun h => Int.le_of_lt h)
section
variable {C : Cn} {Γ : List Ent} {ta : TE} {ℓ c : Lv} {K : PySem.W.Frag}
end
end GL


set_option Elab.async false
set_option linter.all false
set_option maxRecDepth 100000
set_option maxHeartbeats 1000000
/-! ### the first of three that a call tells -/
namespace GL
open PySem L2
section
variable {C : Cn} {Γ : List Ent} {α β γ : Type} {R : Rl α} {S : Rl β} {T : Rl γ} {ta : TE} {ℓ : Lv} {K : PySem.W.Frag} {P : α × β × γ → Prop}
theorem evp_trip0 (h : EvP C ta Γ ℓ (rTrip R S T) P) : EvP C (tOp (rIxK K .t) ta (tC (.int 0))) Γ ℓ R (fun z => ∃ a, P a ∧ z = a.1) := fun σ W w Q q => h σ W w _ fun v W1 a' s1 b1 ⟨p, x, y, z, e, hp, r1, r2, r3⟩ pa => by
  subst e
  exact tix_go (i := 0) b1 hp rfl (q x W1 _ s1 b1 r1 ⟨a', pa, rfl⟩)
end
end GL


set_option linter.all false
set_option maxHeartbeats 1000000
namespace TM
open GL
/-! ### the tree of a row: plain mathematics -/
def nb (row : List Int) (q : Nat) : Int := row.getD q 0
theorem gt_nb (row : List Int) (q : Nat) : gt row (q : Int) = nb row q := by
  unfold gt nb; rw [Int.toNat_natCast]; rfl
/-- nearest earlier place whose number is not above | nearest later place below m with a lesser number -/
def pv (row : List Int) (p : Nat) : Option Nat := ((List.range p).filter fun q => decide (nb row q ≤ nb row p)).getLast?
def nxt (row : List Int) (m p : Nat) : Option Nat := ((List.range m).filter fun q => decide (p < q ∧ nb row q < nb row p)).head?
def eld (row : List Int) (m p : Nat) : Int := match pv row p, nxt row m p with
  | none, none => -1
  | some a, none => a
  | none, some b => b
  | some a, some b => if nb row a ≤ nb row b then b else a
def treeB (row : List Int) (m : Nat) : List Int := (List.range row.length).map fun p => if p < m then eld row m p else -1
def treeOf (row : List Int) : List Int := (List.range row.length).map fun p => eld row row.length p
def opens (row : List Int) (m : Nat) : List Nat := (List.range m).filter fun q => (List.range m).all fun j => decide (j ≤ q ∨ nb row q ≤ nb row j)

theorem pv_some {row : List Int} {p a : Nat} : pv row p = some a ↔ a < p ∧ nb row a ≤ nb row p ∧ ∀ b, a < b → b < p → nb row p < nb row b := by
  unfold pv
  constructor
  · intro h
    have hm := List.mem_of_getLast? h
    rw [List.mem_filter, List.mem_range, decide_eq_true_eq] at hm
    refine ⟨hm.1, hm.2, fun b h1 h2 => ?_⟩
    rcases Int.lt_or_le (nb row p) (nb row b) with h3 | h3
    · exact h3
    exfalso
    have hb : b ∈ (List.range p).filter fun q => decide (nb row q ≤ nb row p) := by
      rw [List.mem_filter, List.mem_range, decide_eq_true_eq]; exact ⟨h2, h3⟩
    have hs : ((List.range p).filter fun q => decide (nb row q ≤ nb row p)).Pairwise (· < ·) := List.Pairwise.filter _ List.pairwise_lt_range
    generalize hl : ((List.range p).filter fun q => decide (nb row q ≤ nb row p)) = l at h hb hs
    obtain ⟨l', rfl⟩ : ∃ l', l = l' ++ [a] := by
      rcases List.eq_nil_or_concat l with e | ⟨l', x, e⟩
      · rw [e] at h; cases h
      · rw [e] at h
        simp at h
        exact ⟨l', by rw [e, h]; simp⟩
    rw [List.mem_append, List.mem_singleton] at hb
    rcases hb with hb | hb
    · have := (List.pairwise_append.mp hs).2.2 b hb a (by simp)
      omega
    · omega
  · rintro ⟨h1, h2, h3⟩
    have e : List.range p = List.range (a + 1) ++ (List.range (p - (a + 1))).map (a + 1 + ·) := by
      rw [← List.range_add]; congr 1; omega
    rw [e, List.filter_append, List.range_succ, List.filter_append]
    have e2 : ((List.range (p - (a + 1))).map (a + 1 + ·)).filter (fun q => decide (nb row q ≤ nb row p)) = [] := by
      rw [List.filter_eq_nil_iff]
      intro q hq
      rw [List.mem_map] at hq
      obtain ⟨i, hi, rfl⟩ := hq
      rw [List.mem_range] at hi
      have := h3 (a + 1 + i) (by omega) (by omega)
      simp; omega
    rw [e2, List.append_nil]
    simp [h2]
theorem pv_none {row : List Int} {p : Nat} : pv row p = none ↔ ∀ b, b < p → nb row p < nb row b := by
  unfold pv
  rw [List.getLast?_eq_none_iff, List.filter_eq_nil_iff]
  constructor
  · intro h b hb
    have := h b (List.mem_range.mpr hb)
    simp at this; omega
  · intro h b hb
    have := h b (List.mem_range.mp hb)
    simp; omega
theorem nxt_some {row : List Int} {m p b : Nat} : nxt row m p = some b ↔ p < b ∧ b < m ∧ nb row b < nb row p ∧ ∀ c, p < c → c < b → nb row p ≤ nb row c := by
  unfold nxt
  constructor
  · intro h
    have hm := List.mem_of_head? h
    rw [List.mem_filter, List.mem_range, decide_eq_true_eq] at hm
    refine ⟨hm.2.1, hm.1, hm.2.2, fun c h1 h2 => ?_⟩
    rcases Int.lt_or_le (nb row c) (nb row p) with h3 | h3
    · exfalso
      have hb : c ∈ (List.range m).filter fun q => decide (p < q ∧ nb row q < nb row p) := by
        rw [List.mem_filter, List.mem_range, decide_eq_true_eq]; exact ⟨by omega, h1, h3⟩
      have hs : ((List.range m).filter fun q => decide (p < q ∧ nb row q < nb row p)).Pairwise (· < ·) := List.Pairwise.filter _ List.pairwise_lt_range
      generalize hl : ((List.range m).filter fun q => decide (p < q ∧ nb row q < nb row p)) = l at h hb hs
      cases l with
      | nil => cases h
      | cons x l =>
        have : x = b := by simpa using h
        subst this
        rcases List.mem_cons.mp hb with e | hb
        · omega
        · have := (List.pairwise_cons.mp hs).1 c hb
          omega
    · exact h3
  · rintro ⟨h1, h2, h3, h4⟩
    have e : List.range m = List.range b ++ (List.range (m - b)).map (b + ·) := by
      rw [← List.range_add]; congr 1; omega
    have e2 : (List.range b).filter (fun q => decide (p < q ∧ nb row q < nb row p)) = [] := by
      rw [List.filter_eq_nil_iff]
      intro q hq
      rw [List.mem_range] at hq
      simp only [decide_eq_true_eq, not_and]
      intro hpq
      have := h4 q hpq hq
      omega
    rw [e, List.filter_append, e2, List.nil_append]
    obtain ⟨k, hk⟩ : ∃ k, m - b = k + 1 := ⟨m - b - 1, by omega⟩
    rw [hk, List.range_succ_eq_map]
    simp [h1, h3]
theorem nxt_none {row : List Int} {m p : Nat} : nxt row m p = none ↔ ∀ c, p < c → c < m → nb row p ≤ nb row c := by
  unfold nxt
  rw [List.head?_eq_none_iff, List.filter_eq_nil_iff]
  constructor
  · intro h c h1 h2
    have := h c (List.mem_range.mpr h2)
    simp only [decide_eq_true_eq, not_and] at this
    have := this h1
    omega
  · intro h c hc
    simp only [decide_eq_true_eq, not_and]
    intro h1
    have := h c h1 (List.mem_range.mp hc)
    omega
theorem mem_opens {row : List Int} {m q : Nat} : q ∈ opens row m ↔ q < m ∧ ∀ j, q < j → j < m → nb row q ≤ nb row j := by
  unfold opens
  rw [List.mem_filter, List.mem_range, List.all_eq_true]
  constructor
  · rintro ⟨h1, h2⟩
    refine ⟨h1, fun j h3 h4 => ?_⟩
    have := h2 j (List.mem_range.mpr h4)
    simp only [decide_eq_true_eq] at this
    omega
  · rintro ⟨h1, h2⟩
    refine ⟨h1, fun j hj => ?_⟩
    simp only [decide_eq_true_eq]
    by_cases h : j ≤ q
    · exact .inl h
    · exact .inr (h2 j (by omega) (List.mem_range.mp hj))
theorem opens_sorted (row : List Int) (m : Nat) : (opens row m).Pairwise (· < ·) := List.Pairwise.filter _ List.pairwise_lt_range
theorem opens_succ (row : List Int) (m : Nat) : opens row (m + 1) = (opens row m).filter (fun q => decide (nb row q ≤ nb row m)) ++ [m] := by
  unfold opens
  rw [List.range_succ, List.filter_append, List.filter_filter]
  congr 1
  · refine List.filter_congr fun q hq => ?_
    rw [List.mem_range] at hq
    rw [List.all_append, Bool.and_comm]
    congr 1
    simp only [List.all_cons, List.all_nil, Bool.and_true]
    rw [decide_eq_decide]
    constructor
    · rintro (h | h)
      · omega
      · exact h
    · exact .inr
  · rw [List.filter_eq_self]
    intro q hq
    rw [List.mem_singleton] at hq
    subst hq
    rw [List.all_eq_true]
    intro j hj
    simp only [List.mem_append, List.mem_range, List.mem_singleton] at hj
    simp only [decide_eq_true_eq]
    omega
/-- what stands below a place among the open ones is the nearest earlier place not above -/
theorem pv_opens {row : List Int} {m j p : Nat} (h : (opens row m)[j]? = some p) : pv row p = if j = 0 then none else (opens row m)[j - 1]? := by
  have hs := opens_sorted row m
  have hj : j < (opens row m).length := (List.getElem?_eq_some_iff.mp h).1
  have hp : (opens row m)[j] = p := by rw [List.getElem?_eq_getElem hj] at h; exact Option.some.inj h
  have pm := mem_opens.mp (List.mem_of_getElem? h)
  -- the nearest earlier one, if any, is open
  have key : ∀ a, pv row p = some a → ∃ i, i < j ∧ (opens row m)[i]? = some a := fun a ha => by
    obtain ⟨h1, h2, h3⟩ := pv_some.mp ha
    have ao : a ∈ opens row m := mem_opens.mpr ⟨by omega, fun c h4 h5 => by
      rcases Nat.lt_trichotomy c p with h | h | h
      · have := h3 c h4 h; omega
      · rw [h]; exact h2
      · have := pm.2 c h h5; omega⟩
    obtain ⟨i, hi, e⟩ := List.getElem_of_mem ao
    refine ⟨i, ?_, by rw [List.getElem?_eq_getElem hi, e]⟩
    rcases Nat.lt_trichotomy i j with h | h | h
    · exact h
    · subst h; rw [hp] at e; omega
    · have := List.pairwise_iff_getElem.mp hs j i hj hi h
      rw [hp, e] at this; omega
  by_cases h0 : j = 0
  · rw [if_pos h0]
    cases e : pv row p with
    | none => rfl
    | some a =>
      obtain ⟨i, hi, _⟩ := key a e
      omega
  · rw [if_neg h0]
    have hj1 : j - 1 < (opens row m).length := by omega
    rw [List.getElem?_eq_getElem hj1]
    generalize hb : (opens row m)[j - 1] = b
    have bm := mem_opens.mp (hb ▸ List.getElem_mem hj1)
    have blt : b < p := by
      have := List.pairwise_iff_getElem.mp hs (j - 1) j hj1 hj (by omega)
      rw [hb, hp] at this; exact this
    have ble : nb row b ≤ nb row p := bm.2 p blt pm.1
    cases e : pv row p with
    | none =>
      have := pv_none.mp e b blt
      omega
    | some a =>
      obtain ⟨i, hi, ei⟩ := key a e
      have hil : i < (opens row m).length := by omega
      rw [List.getElem?_eq_getElem hil] at ei
      have ei' := Option.some.inj ei
      rcases Nat.lt_or_ge i (j - 1) with h | h
      · have hab := List.pairwise_iff_getElem.mp hs i (j - 1) hil hj1 h
        rw [ei', hb] at hab
        have := (pv_some.mp e).2.2 b hab blt
        omega
      · have : i = j - 1 := by omega
        subst this
        rw [← hb, ei']
theorem filter_take {f : Nat → Int} {x : Int} : ∀ {l : List Nat} {L : Nat}, l.Pairwise (fun a b => f a ≤ f b) → L ≤ l.length → (∀ j (h : j < l.length), L ≤ j → x < f l[j]) → (∀ (h : 0 < L) (h' : L - 1 < l.length), f l[L - 1] ≤ x) → l.filter (fun q => decide (f q ≤ x)) = l.take L := by
  intro l L hp hl h1 h2
  conv => lhs; rw [← List.take_append_drop L l]
  rw [List.filter_append]
  have e1 : (l.take L).filter (fun q => decide (f q ≤ x)) = l.take L := by
    rw [List.filter_eq_self]
    intro a ha
    obtain ⟨i, hi, e⟩ := List.getElem_of_mem ha
    rw [List.length_take] at hi
    rw [List.getElem_take] at e
    have hL : 0 < L := by omega
    have h3 := h2 hL (by omega)
    rcases Nat.lt_or_ge i (L - 1) with h | h
    · have := List.pairwise_iff_getElem.mp hp i (L - 1) (by omega) (by omega) h
      rw [e] at this
      simp; omega
    · have : i = L - 1 := by omega
      subst this
      rw [e] at h3
      simp; omega
  have e2 : (l.drop L).filter (fun q => decide (f q ≤ x)) = [] := by
    rw [List.filter_eq_nil_iff]
    intro a ha
    obtain ⟨i, hi, e⟩ := List.getElem_of_mem ha
    rw [List.length_drop] at hi
    rw [List.getElem_drop] at e
    have := h1 (L + i) (by omega) (by omega)
    rw [e] at this
    simp; omega
  rw [e1, e2, List.append_nil]
theorem opens_mono (row : List Int) (m : Nat) : (opens row m).Pairwise (fun a b => nb row a ≤ nb row b) := by
  rw [List.pairwise_iff_getElem]
  intro i j hi hj hij
  have h := List.pairwise_iff_getElem.mp (opens_sorted row m) i j hi hj hij
  exact (mem_opens.mp (List.getElem_mem hi)).2 _ h (mem_opens.mp (List.getElem_mem hj)).1
theorem treeB_get {row : List Int} {m p : Nat} (h : p < row.length) : (treeB row m)[p]? = some (if p < m then eld row m p else -1) := by
  unfold treeB
  rw [List.getElem?_map, List.getElem?_range h]; rfl
theorem treeB_len (row : List Int) (m : Nat) : (treeB row m).length = row.length := by simp [treeB]
theorem treeB_0 (row : List Int) : treeB row 0 = List.replicate row.length (-1) := by
  refine List.ext_getElem? fun p => ?_
  by_cases h : p < row.length
  · rw [treeB_get h, List.getElem?_replicate, if_pos h]; simp
  · rw [List.getElem?_eq_none (by rw [treeB_len]; omega), List.getElem?_eq_none (by simp; omega)]
theorem treeB_all (row : List Int) : treeB row row.length = treeOf row := by
  unfold treeB treeOf
  refine List.map_congr_left fun p hp => ?_
  rw [if_pos (List.mem_range.mp hp)]
/-- one place more -/
theorem eld_succ {row : List Int} {m p : Nat} (hp : p < m) : eld row (m + 1) p = if p ∈ opens row m ∧ nb row m < nb row p then (match pv row p with | none => (m : Int) | some a => if nb row a ≤ nb row m then m else a) else eld row m p := by
  by_cases h : p ∈ opens row m ∧ nb row m < nb row p
  · rw [if_pos h]
    have e : nxt row (m + 1) p = some m := nxt_some.mpr ⟨hp, by omega, h.2, fun c h1 h2 => (mem_opens.mp h.1).2 c h1 h2⟩
    unfold eld
    rw [e]
    cases pv row p <;> rfl
  · rw [if_neg h]
    have e : nxt row (m + 1) p = nxt row m p := by
      cases q : nxt row m p with
      | some b =>
        obtain ⟨h1, h2, h3, h4⟩ := nxt_some.mp q
        exact nxt_some.mpr ⟨h1, by omega, h3, h4⟩
      | none =>
        have q' := nxt_none.mp q
        refine nxt_none.mpr fun c h1 h2 => ?_
        rcases Nat.lt_or_ge c m with h3 | h3
        · exact q' c h1 h3
        · have : c = m := by omega
          subst this
          rcases Int.lt_or_le (nb row c) (nb row p) with h4 | h4
          · exact absurd ⟨mem_opens.mpr ⟨hp, q'⟩, h4⟩ h
          · exact h4
    unfold eld
    rw [e]
/-- one turn of the stack: the open ones cut to L, the first one that goes hangs under m, m under the last that stays -/
theorem tree_step {row : List Int} {m L : Nat} (hm : m < row.length) (hL : L ≤ (opens row m).length) (h1 : ∀ j (h : j < (opens row m).length), L ≤ j → nb row m < nb row (opens row m)[j]) (h2 : ∀ (h : 0 < L) (h' : L - 1 < (opens row m).length), nb row (opens row m)[L - 1] ≤ nb row m) :
    opens row (m + 1) = (opens row m).take L ++ [m] ∧
    treeB row (m + 1) = (match (opens row m)[L]? with | none => treeB row m | some g => (treeB row m).set g m).set m (match ((opens row m).take L).getLast? with | none => -1 | some a => (a : Int)) := by
  have ho : opens row (m + 1) = (opens row m).take L ++ [m] := by
    rw [opens_succ, filter_take (f := nb row) (opens_mono row m) hL h1 h2]
  refine ⟨ho, ?_⟩
  have lenT : ((opens row m).take L).length = L := by rw [List.length_take]; omega
  have getm : (opens row (m + 1))[L]? = some m := by
    rw [ho, List.getElem?_append_right (by omega), lenT, Nat.sub_self]; rfl
  have pvm : pv row m = ((opens row m).take L).getLast? := by
    rw [pv_opens getm, List.getLast?_eq_getElem?, lenT]
    by_cases h0 : L = 0
    · subst h0; simp
    · rw [if_neg h0, ho, List.getElem?_append_left (by omega)]
  refine List.ext_getElem? fun p => ?_
  by_cases hp : p < row.length
  · rw [treeB_get hp]
    by_cases e : m = p
    · subst e
      rw [List.getElem?_set_self (by cases (opens row m)[L]? <;> simp [treeB_len, hm]), if_pos (by omega)]
      congr 1
      have en : nxt row (m + 1) m = none := nxt_none.mpr fun c h1 h2 => by omega
      unfold eld
      rw [en, pvm]
      cases ((opens row m).take L).getLast? <;> rfl
    · rw [List.getElem?_set_ne e]
      by_cases hpm : p < m
      · rw [if_pos (by omega), eld_succ hpm]
        cases eg : (opens row m)[L]? with
        | none =>
          show _ = (treeB row m)[p]?
          rw [treeB_get hp, if_pos hpm, if_neg]
          rintro ⟨ho', hlt⟩
          obtain ⟨i, hi, ei⟩ := List.getElem_of_mem ho'
          rw [List.getElem?_eq_none_iff] at eg
          have h3 : 0 < L := by omega
          have h4 := h2 h3 (by omega)
          have h5 : nb row (opens row m)[i] ≤ nb row (opens row m)[L - 1] := by
            rcases Nat.lt_or_ge i (L - 1) with h | h
            · exact List.pairwise_iff_getElem.mp (opens_mono row m) i (L - 1) hi (by omega) h
            · have : i = L - 1 := by omega
              subst this
              exact Int.le_refl _
          rw [ei] at h5
          omega
        | some g =>
          show _ = ((treeB row m).set g m)[p]?
          have hgl : L < (opens row m).length := (List.getElem?_eq_some_iff.mp eg).1
          have hge : (opens row m)[L] = g := by rw [List.getElem?_eq_getElem hgl] at eg; exact Option.some.inj eg
          have gm := mem_opens.mp (hge ▸ List.getElem_mem hgl)
          by_cases eg2 : g = p
          · subst eg2
            rw [List.getElem?_set_self (by rw [treeB_len]; omega), if_pos ⟨mem_opens.mpr gm, by have := h1 L hgl (Nat.le_refl _); rw [hge] at this; exact this⟩]
            congr 1
            rw [pv_opens eg]
            by_cases h0 : L = 0
            · rw [if_pos h0]
            · rw [if_neg h0]
              have hl1 : L - 1 < (opens row m).length := by omega
              rw [List.getElem?_eq_getElem hl1]
              show (if nb row (opens row m)[L - 1] ≤ nb row m then _ else _) = _
              rw [if_pos (h2 (by omega) hl1)]
          · rw [List.getElem?_set_ne eg2, treeB_get hp, if_pos hpm]
            congr 1
            by_cases hc : p ∈ opens row m ∧ nb row m < nb row p
            · rw [if_pos hc]
              obtain ⟨i, hi, ei⟩ := List.getElem_of_mem hc.1
              have hiL : L < i := by
                rcases Nat.lt_trichotomy i L with h | h | h
                · exfalso
                  have h4 := h2 (by omega) (by omega)
                  have h5 : nb row (opens row m)[i] ≤ nb row (opens row m)[L - 1] := by
                    rcases Nat.lt_or_ge i (L - 1) with h | h
                    · exact List.pairwise_iff_getElem.mp (opens_mono row m) i (L - 1) hi (by omega) h
                    · have : i = L - 1 := by omega
                      subst this
                      exact Int.le_refl _
                  rw [ei] at h5
                  have := hc.2
                  omega
                · subst h; rw [hge] at ei; exact absurd ei eg2
                · exact h
              have epv : pv row p = some (opens row m)[i - 1] := by
                rw [pv_opens (m := m) (j := i) (by rw [List.getElem?_eq_getElem hi, ei]), if_neg (by omega), List.getElem?_eq_getElem (by omega)]
              rw [epv]
              have h6 := h1 (i - 1) (by omega) (by omega)
              show (if nb row (opens row m)[i - 1] ≤ nb row m then _ else _) = _
              rw [if_neg (by omega)]
              unfold eld
              rw [epv, nxt_none.mpr (mem_opens.mp hc.1).2]
            · rw [if_neg hc]
      · rw [if_neg (by omega)]
        cases eg : (opens row m)[L]? with
        | none =>
          show _ = (treeB row m)[p]?
          rw [treeB_get hp, if_neg hpm]
        | some g =>
          show _ = ((treeB row m).set g m)[p]?
          have hgl : L < (opens row m).length := (List.getElem?_eq_some_iff.mp eg).1
          have hge : (opens row m)[L] = g := by rw [List.getElem?_eq_getElem hgl] at eg; exact Option.some.inj eg
          have gm := mem_opens.mp (hge ▸ List.getElem_mem hgl)
          rw [List.getElem?_set_ne (by omega), treeB_get hp, if_neg hpm]
  · rw [List.getElem?_eq_none (by rw [treeB_len]; omega), List.getElem?_eq_none]
    rw [List.length_set]
    cases (opens row m)[L]? <;> simp [treeB_len] <;> omega
end TM


set_option linter.all false
set_option maxHeartbeats 1000000
namespace GL
open PySem L2
def veB : List Value := [.type "ValueError", .type "Exception", .type "BaseException", .type "object"]
/-- what the written part says of an own class of errors at C -/
structure ExcT (K : PySem.W.Frag) (mg : Str → Option Value) (C : Addr) (nm : Str) : Prop where
  x : PySem.W.excIn K C veB "ValueError.__new__" = true
  g : mg nm = some (.ref C)
  k : PySem.W.keepIn K (.ref C) = true
  b : PySem.W.subIn K (.ref C) (.type "BaseException") = some true
  t : PySem.W.typeIn K (.ref C) = some (.type "type")
end GL
namespace L2
open PySem PySem.Spec PyProof.Rows
section
variable {X : Cx} {a b c d : Expr} {ta tb tc td : TE} {pos : Pos}
def tChain3 (r r' r'' : R2) (ta tb tc td : TE) : TE := fun σ H Q => ta σ H fun x H1 => tb σ H1 fun y H2 => r x y H2 fun z H3 => ∃ k, z = .bl k ∧
  (if k = true then tc σ H3 fun v H4 => r' y v H4 fun z' H5 => ∃ k', z' = .bl k' ∧ (if k' = true then td σ H5 fun u H6 => r'' v u H6 Q else Q (.bl false) H5) else Q (.bl false) H3)
end
end L2
namespace GL
open PySem L2
variable {C : Cn} {Γ : List Ent} {ta tb tc td : TE}
end GL
open PySem L2 in
theorem roomUn {k : Nat} {A : Around} (h : Room k A) : A.units + 64 < cLine := by have := h.un; omega
def oget {α : Type} [Inhabited α] (o : Option α) : α := o.getD default
theorem oget_some {α : Type} [Inhabited α] {o : Option α} (h : ¬ o = none) : o = some (oget o) := by cases o with | none => exact absurd rfl h | some x => rfl
theorem some_of {α : Type} {o : Option α} (h : ¬ o = none) : ∃ x, o = some x := by cases o with | none => exact absurd rfl h | some x => exact ⟨x, rfl⟩
open PySem L2 GL in
theorem same_hid_upd {H : Hp} {p : Addr} {o : HO} : Same (hid H [p]) (hid (upd H p o) [p]) := fun q u h => by
  obtain ⟨h1, h2⟩ := hid_some h
  rw [hid_out h1, upd_ne (fun z => h1 (by rw [z]; exact List.mem_singleton.mpr rfl))]
  exact h2
namespace TM
open GL
theorem tree_in {row : List Int} {i : Nat} {S0 S : List Int} {n : Nat} (h0 : S0 = (TM.opens row i).map fun (q : Nat) => (q : Int)) (hi : i < row.length) (h1 : S = S0.take n) (hs : S ≠ []) : 0 ≤ gtB S 1 ∧ gtB S 1 < row.length := by
  have hm : gtB S 1 ∈ S := gtB_mem ⟨by decide, List.length_pos_iff.mpr hs⟩
  generalize gtB S 1 = z at hm
  rw [h1] at hm
  have := List.mem_of_mem_take hm
  rw [h0, List.mem_map] at this
  obtain ⟨q, hq, e⟩ := this
  have := (TM.mem_opens.mp hq).1
  omega
theorem tree_pop {row S0 S : List Int} {x g : Int} (h0 : S.length ≤ S0.length) (h1 : S = S0.take S.length) (h2 : ∀ j, S.length ≤ j → ∀ q, S0[j]? = some q → x < gt row q) (hs : ¬ S = []) (hg : x < gt row (gtB S 1)) (e : g = gtB S 1) :
    ((S.dropLast.length ≤ S0.length) ∧ (S.dropLast = S0.take S.dropLast.length) ∧ (∀ j, S.dropLast.length ≤ j → ∀ q, S0[j]? = some q → x < gt row q) ∧ (some g = S0[S.dropLast.length]?)) ∧ S.dropLast.length < S.length := by
  have hp : 0 < S.length := List.length_pos_iff.mpr hs
  have hl : S.dropLast.length = S.length - 1 := List.length_dropLast
  have hd : S[S.length - 1]? = some (gtB S 1) := gtB_get ⟨by decide, hp⟩
  have h0' : S0[S.length - 1]? = some (gtB S 1) := by
    rw [← hd]
    conv => rhs; rw [h1]
    rw [List.getElem?_take]
    rw [if_pos]
    · rw [List.length_take]; congr 1; omega
    · rw [List.length_take]; omega
  rw [hl]
  refine ⟨⟨by omega, ?_, ?_, ?_⟩, by omega⟩
  · conv => lhs; rw [h1]
    rw [List.dropLast_eq_take, List.take_take, List.length_take]
    congr 1; omega
  · intro j hj q hq
    by_cases e2 : S.length ≤ j
    · exact h2 j e2 q hq
    · have : j = S.length - 1 := by omega
      subst this
      rw [h0'] at hq
      cases hq
      exact hg
  · rw [h0', e]
theorem tree_open {row S0 S : List Int} {i : Nat} (h : S.length ≤ S0.length) (h1 : S0 = (opens row i).map fun (q : Nat) => (q : Int)) : S.length ≤ i := by
  rw [h1, List.length_map] at h
  have : (opens row i).length ≤ i := by unfold opens; exact Nat.le_trans (List.length_filter_le ..) (by simp)
  omega
theorem tree_set {row E S0 S : List Int} {i : Nat} {g : Option Int} {y : Int} (h0 : E = treeB row i) (h1 : S0 = (opens row i).map fun (q : Nat) => (q : Int)) (h2 : g = S0[S.length]?) (hg : g = some y) (hi : i < row.length) : 0 ≤ y ∧ y < E.length := by
  rw [h2, h1, List.getElem?_map] at hg
  cases e : (opens row i)[S.length]? with
  | none => rw [e] at hg; cases hg
  | some q =>
    rw [e] at hg
    cases hg
    have := (mem_opens.mp (List.mem_of_getElem? e)).1
    rw [h0, treeB_len]
    show 0 ≤ (q : Int) ∧ (q : Int) < _
    omega
def setO (E : List Int) (g : Option Int) (p : Int) : List Int := match g with | none => E | some g => E.set g.toNat p
theorem tree_len {row E E1 : List Int} {i : Nat} {p : Int} {g : Option Int} (h0 : E = treeB row i) (h : E1 = setO E g p) : E1.length = row.length := by
  rw [h]; cases g <;> simp [setO, h0, treeB_len]
theorem tree_fin {E1 E2 S : List Int} {i : Nat} {T : List Nat} {p : Int} (hi : E1[i]? = some (-1)) (hl : T.length = S.length) (ht : S = T.map fun (q : Nat) => (q : Int)) (b0 : S ≠ [] → E2 = E1.set p.toNat (gtB S 1)) (b1 : S = [] → E2 = E1) (e1 : p = (i : Int)) :
    E2 = E1.set i (match T.getLast? with | none => -1 | some a => (a : Int)) := by
  by_cases hs : S = []
  · rw [b1 hs]
    have : T = [] := by apply List.eq_nil_of_length_eq_zero; rw [hl, hs]; rfl
    subst this
    show E1 = E1.set i (-1)
    refine List.ext_getElem? fun q => ?_
    by_cases hp : i = q
    · subst hp
      rw [List.getElem?_set_self (List.getElem?_eq_some_iff.mp hi).1, hi]
    · rw [List.getElem?_set_ne hp]
  · rw [b0 hs, e1]
    have hp : 0 < S.length := List.length_pos_iff.mpr hs
    have hd : S[S.length - 1]? = some (gtB S 1) := gtB_get ⟨by decide, hp⟩
    have : ∃ a, T.getLast? = some a ∧ gtB S 1 = (a : Int) := by
      rw [List.getLast?_eq_getElem?, hl]
      generalize gtB S 1 = z at *
      rw [ht] at hd
      rw [List.getElem?_map] at hd
      simp only [List.length_map, hl] at hd
      cases e : T[S.length - 1]? with
      | none => rw [e] at hd; cases hd
      | some a =>
        rw [e] at hd
        exact ⟨a, rfl, (Option.some.inj hd).symm⟩
    obtain ⟨a, q1, q2⟩ := this
    rw [q1, q2, Int.toNat_natCast]
theorem tree_turn {row E S0 S E1 E2 : List Int} {i : Nat} {g : Option Int} {x : Int × Int} (h0 : E = treeB row i) (h1 : S0 = (opens row i).map fun (q : Nat) => (q : Int))
    (a0 : S.length ≤ S0.length) (a1 : S = S0.take S.length) (a2 : ∀ j, S.length ≤ j → ∀ q, S0[j]? = some q → x.2 < gt row q) (a3 : g = S0[S.length]?)
    (hw : ¬ (¬ S = [] ∧ x.2 < gt row (gtB S 1))) (j0 : E1 = setO E g x.1)
    (b0 : S ≠ [] → E2 = E1.set x.1.toNat (gtB S 1)) (b1 : S = [] → E2 = E1) (hx : (enu row)[i]? = some x) :
    (E2 = treeB row (i + 1)) ∧ (S ++ [x.1] = (opens row (i + 1)).map fun (q : Nat) => (q : Int)) := by
  obtain ⟨e1, e2⟩ := enu_at hx
  have hi := at_lt e2
  have ex : x.2 = nb row i := by
    unfold nb; rw [List.getD_eq_getElem?_getD, e2]; rfl
  have hlen : S.length ≤ (opens row i).length := by rw [h1, List.length_map] at a0; exact a0
  have key := tree_step (L := S.length) hi hlen (fun j h hj => by
      have := a2 j hj _ (by rw [h1, List.getElem?_map, List.getElem?_eq_getElem h]; rfl)
      rw [gt_nb, ex] at this; exact this) (fun h h' => by
      have hd : S[S.length - 1]? = some (gtB S 1) := gtB_get ⟨by decide, h⟩
      have hs : ¬ S = [] := List.length_pos_iff.mp h
      have hn : ¬ x.2 < gt row (gtB S 1) := fun z => hw ⟨hs, z⟩
      have : gtB S 1 = ((opens row i)[S.length - 1] : Nat) := by
        have q : S0[S.length - 1]? = some (gtB S 1) := by
          rw [← hd]
          conv => rhs; rw [a1]
          rw [List.getElem?_take]
          rw [if_pos]
          · rw [List.length_take]; congr 1; omega
          · rw [List.length_take]; omega
        rw [h1, List.getElem?_map, List.getElem?_eq_getElem h'] at q
        exact (Option.some.inj q).symm
      rw [this, gt_nb, ex] at hn
      omega)
  obtain ⟨k1, k2⟩ := key
  have ht : S = ((opens row i).take S.length).map fun (q : Nat) => (q : Int) := by
    conv => lhs; rw [a1, h1]
    rw [List.map_take]
  refine ⟨?_, ?_⟩
  · have fin : ∀ T : List Int, E1 = T → T.length = row.length → T[i]? = some (-1) → treeB row (i + 1) = T.set i (match ((opens row i).take S.length).getLast? with | none => -1 | some a => (a : Int)) → E2 = treeB row (i + 1) := by
      intro T hT hTl hTi hTe
      subst hT
      rw [hTe]
      exact tree_fin hTi (by rw [List.length_take]; omega) ht b0 b1 e1
    cases e : (opens row i)[S.length]? with
    | none =>
      rw [e] at k2
      refine fin (treeB row i) ?_ (treeB_len ..) (by rw [treeB_get hi, if_neg (by omega)]) k2
      rw [j0, a3, h1, List.getElem?_map, e, h0]; rfl
    | some g' =>
      rw [e] at k2
      have := (mem_opens.mp (List.mem_of_getElem? e)).1
      refine fin ((treeB row i).set g' i) ?_ (by rw [List.length_set, treeB_len]) (by rw [List.getElem?_set_ne (by omega), treeB_get hi, if_neg (by omega)]) k2
      rw [j0, a3, h1, List.getElem?_map, e, h0, e1]
      show (treeB row i).set (g' : Int).toNat _ = _
      rw [Int.toNat_natCast]
  · rw [k1, List.map_append, ← ht, e1]; rfl
end TM


set_option linter.all false
set_option maxHeartbeats 1000000
namespace TM
open GL
/-- first place of the least of a stretch -/
def low (row : List Int) (a b : Int) : Int := a + (((sl row (some a) (some (b + 1))).idxOf (lmin (sl row (some a) (some (b + 1)))) : Nat) : Int)
/-- what hangs over the stretch a..b -/
def tv (row : List Int) (a b : Nat) : Int :=
  if a = 0 then (if b < row.length then (b : Int) else -1)
  else if b < row.length then (if nb row (a - 1) ≤ nb row b then (b : Int) else ((a - 1 : Nat) : Int)) else ((a - 1 : Nat) : Int)
/-- a stretch a..b-1 -/
structure Good (row : List Int) (a b : Nat) (e : Int) : Prop where
  ab : a ≤ b
  bn : b ≤ row.length
  l : 0 < a → ∀ j, a ≤ j → j < b → nb row (a - 1) ≤ nb row j
  r : b < row.length → ∀ j, a ≤ j → j < b → nb row b < nb row j
  e : e = tv row a b
def GoodT (row : List Int) (s : Int × Int × Int) : Prop := 0 ≤ s.1 ∧ 0 ≤ s.2.1 + 1 ∧ Good row s.1.toNat (s.2.1 + 1).toNat s.2.2
def muT (s : Int × Int × Int) : Nat := (2 * (s.2.1 + 1 - s.1) + 1).toNat
def mu (left : List (Int × Int × Int)) : Nat := (left.map muT).sum
structure TI (row E : List Int) (left : List (Int × Int × Int)) : Prop where
  len : E.length = row.length
  good : ∀ s ∈ left, GoodT row s
  mu : mu left ≤ 2 * row.length + 1
  all : ∀ p, p < row.length → (∃ s ∈ left, s.1 ≤ (p : Int) ∧ (p : Int) ≤ s.2.1) ∨ E[p]? = some (eld row row.length p)
/-- the first least of a stretch, by what it is -/
theorem low_spec {row : List Int} {a b : Int} (h : 0 ≤ a ∧ a ≤ b ∧ b < row.length) : a ≤ low row a b ∧ low row a b ≤ b ∧ (∀ j : Nat, a ≤ j → (j : Int) < low row a b → nb row (low row a b).toNat < nb row j) ∧ (∀ j : Nat, a ≤ j → (j : Int) ≤ b → nb row (low row a b).toNat ≤ nb row j) := by
  have hS : sl row (some a) (some (b + 1)) = (row.drop a.toNat).take (b + 1 - a).toNat := by
    unfold sl
    have e1 : HT.sIx row.length 0 (some a) = a.toNat := by unfold HT.sIx; simp only; first | (rw [if_neg (by omega)]; omega) | omega
    have e2 : HT.sIx row.length row.length (some (b + 1)) = (b + 1).toNat := by unfold HT.sIx; simp only; first | (rw [if_neg (by omega)]; omega) | omega
    rw [e1, e2]
    congr 1; omega
  have hlen : (sl row (some a) (some (b + 1))).length = (b + 1 - a).toNat := by
    rw [hS, List.length_take, List.length_drop]; omega
  have hget : ∀ i, i < (b + 1 - a).toNat → (sl row (some a) (some (b + 1)))[i]? = some (nb row (a.toNat + i)) := by
    intro i hi
    rw [hS, List.getElem?_take, if_pos hi, List.getElem?_drop]
    unfold nb
    rw [List.getD_eq_getElem?_getD, List.getElem?_eq_getElem (by omega)]
    rfl
  unfold low
  generalize hT : sl row (some a) (some (b + 1)) = S at hlen hget
  have hne : S ≠ [] := by intro z; rw [z] at hlen; simp at hlen; omega
  obtain ⟨m1, m2⟩ := lmin_spec S hne
  have hi : S.idxOf (lmin S) < S.length := List.idxOf_lt_length_of_mem m1
  have hv : S[S.idxOf (lmin S)]? = some (lmin S) := by
    rw [List.getElem?_eq_getElem hi]
    congr 1
    exact List.getElem_idxOf hi
  have hv2 : lmin S = nb row (a.toNat + S.idxOf (lmin S)) := by
    have := hget (S.idxOf (lmin S)) (by omega)
    rw [hv] at this
    exact Option.some.inj this
  generalize hk : S.idxOf (lmin S) = k at *
  have ek : (a + (k : Int)).toNat = a.toNat + k := by omega
  rw [ek, ← hv2]
  refine ⟨by omega, by omega, fun j q1 q2 => ?_, fun j q1 q2 => ?_⟩
  · have hj := hget (j - a.toNat) (by omega)
    have ej : a.toNat + (j - a.toNat) = j := by omega
    rw [ej] at hj
    have h1 := m2 _ (List.mem_of_getElem? hj)
    have h2 : lmin S ≠ nb row j := by
      intro z
      have hlt : j - a.toNat < S.idxOf (lmin S) := by omega
      have := List.not_of_lt_findIdx (p := (· == lmin S)) (xs := S) (i := j - a.toNat) hlt
      have e3 : S[j - a.toNat]'(by omega) = nb row j := by
        have := hj; rw [List.getElem?_eq_getElem (by omega)] at this; exact Option.some.inj this
      rw [e3, z] at this
      simp at this
    omega
  · have hj := hget (j - a.toNat) (by omega)
    have ej : a.toNat + (j - a.toNat) = j := by omega
    rw [ej] at hj
    exact m2 _ (List.mem_of_getElem? hj)
theorem eld_tv {row : List Int} {a b p : Nat} {e : Int} (g : Good row a b e) (h1 : a ≤ p) (h2 : p < b) (h3 : ∀ j, a ≤ j → j < p → nb row p < nb row j) (h4 : ∀ j, a ≤ j → j < b → nb row p ≤ nb row j) : eld row row.length p = e := by
  have hpv : pv row p = if a = 0 then none else some (a - 1) := by
    split
    · rename_i h0
      rw [pv_none]; intro j hj; exact h3 j (by omega) hj
    · rename_i h0
      rw [pv_some]
      exact ⟨by omega, g.l (by omega) p h1 h2, fun j q1 q2 => h3 j (by omega) q2⟩
  have hnx : nxt row row.length p = if b < row.length then some b else none := by
    split
    · rename_i h0
      rw [nxt_some]
      exact ⟨h2, h0, g.r h0 p h1 h2, fun c q1 q2 => h4 c (by omega) q2⟩
    · rename_i h0
      have := g.bn
      rw [nxt_none]
      intro c q1 q2; exact h4 c (by omega) (by omega)
  rw [g.e]
  unfold eld tv
  rw [hpv, hnx]
  by_cases ha : a = 0
  · rw [if_pos ha, if_pos ha]
    by_cases hb : b < row.length
    · rw [if_pos hb, if_pos hb]
    · rw [if_neg hb, if_neg hb]
  · rw [if_neg ha, if_neg ha]
    by_cases hb : b < row.length
    · rw [if_pos hb, if_pos hb]
    · rw [if_neg hb, if_neg hb]
theorem rg_filter {p : Int} {n : Nat} (h1 : 0 ≤ p) (h2 : p < n) : rg (p + 1) n = ((List.range n).filter fun q => decide (p.toNat < q)).map fun (q : Nat) => (q : Int) := by
  obtain ⟨d, hd⟩ : ∃ d, n = p.toNat + 1 + d := ⟨n - (p.toNat + 1), by omega⟩
  have e1 : (List.range n).filter (fun q => decide (p.toNat < q)) = (List.range d).map (fun q => p.toNat + 1 + q) := by
    rw [hd, List.range_add, List.filter_append]
    have z1 : (List.range (p.toNat + 1)).filter (fun q => decide (p.toNat < q)) = [] := by
      rw [List.filter_eq_nil_iff]; intro a ha; rw [List.mem_range] at ha; simp; omega
    have z2 : ((List.range d).map (fun x => p.toNat + 1 + x)).filter (fun q => decide (p.toNat < q)) = (List.range d).map (fun x => p.toNat + 1 + x) := by
      rw [List.filter_eq_self]; intro a ha; rw [List.mem_map] at ha; obtain ⟨x, _, rfl⟩ := ha; simp; omega
    rw [z1, z2, List.nil_append]
  rw [e1, List.map_map]
  unfold rg
  have : ((n : Int) - (p + 1)).toNat = d := by omega
  rw [this]
  refine List.map_congr_left fun q _ => ?_
  show p + 1 + (q : Int) = ((p.toNat + 1 + q : Nat) : Int)
  omega
theorem treeOf_len (row : List Int) : (treeOf row).length = row.length := by unfold treeOf; rw [List.length_map, List.length_range]
/-- the elder by its two rows -/
theorem eld_rows {row A B : List Int} {p : Int} (h : 0 ≤ p ∧ p < row.length) (hA : A = (rg 0 p).filter fun q => decide (gt row q ≤ gt row p)) (hB : B = (rg (p + 1) row.length).filter fun q => decide (gt row q < gt row p)) :
    (A = [] ∨ A ≠ [] ∧ 0 ≤ gtB A 1 ∧ gtB A 1 < row.length) ∧ (B = [] ∨ B ≠ [] ∧ 0 ≤ gt B 0 ∧ gt B 0 < row.length) ∧
    eld row row.length p.toNat = if A = [] then (if B = [] then -1 else gt B 0) else if B = [] then gtB A 1 else if gt row (gtB A 1) ≤ gt row (gt B 0) then gt B 0 else gtB A 1 := by
  have ep : p = (p.toNat : Int) := by omega
  have hA' : A = (((List.range p.toNat).filter fun q => decide (nb row q ≤ nb row p.toNat))).map fun (q : Nat) => (q : Int) := by
    rw [hA]
    have : rg 0 p = (List.range p.toNat).map fun (q : Nat) => (q : Int) := by
      unfold rg; simp
    rw [this, List.filter_map]
    refine congrArg (List.map _) (List.filter_congr fun q hq => ?_)
    show decide (gt row (q : Int) ≤ gt row p) = _
    rw [ep, gt_nb, gt_nb, ← ep]
  have hB' : B = (((List.range row.length).filter fun q => decide (p.toNat < q ∧ nb row q < nb row p.toNat))).map fun (q : Nat) => (q : Int) := by
    rw [hB]
    have e1 : rg (p + 1) row.length = ((List.range row.length).filter fun q => decide (p.toNat < q)).map fun (q : Nat) => (q : Int) := by
      refine rg_filter ?_ ?_ <;> omega
    rw [e1, List.filter_map, List.filter_filter]
    refine congrArg (List.map _) (List.filter_congr fun q hq => ?_)
    show (decide (gt row (q : Int) < gt row p) && decide (p.toNat < q)) = _
    rw [ep, gt_nb, gt_nb, ← ep]
    by_cases h1 : p.toNat < q <;> by_cases h2 : nb row q < nb row p.toNat <;> simp [h1, h2]
  have lastA : A = [] ∧ pv row p.toNat = none ∨ A ≠ [] ∧ ∃ a, pv row p.toNat = some a ∧ gtB A 1 = (a : Int) := by
    unfold pv
    generalize ((List.range p.toNat).filter fun q => decide (nb row q ≤ nb row p.toNat)) = T at hA'
    cases e : T.getLast? with
    | none => left; rw [List.getLast?_eq_none_iff] at e; rw [hA', e]; exact ⟨rfl, rfl⟩
    | some a =>
      right
      have hT : T ≠ [] := by intro z; rw [z] at e; cases e
      have hne : A ≠ [] := by rw [hA']; simp [hT]
      refine ⟨hne, a, rfl, ?_⟩
      have hp : 0 < A.length := List.length_pos_iff.mpr hne
      have hd := gtB_get (l := A) (k := 1) ⟨by decide, hp⟩
      have : A[A.length - 1]? = some (a : Int) := by
        rw [← List.getLast?_eq_getElem?, hA', List.getLast?_map, e]; rfl
      rw [this] at hd
      exact (Option.some.inj hd).symm
  have headB : B = [] ∧ nxt row row.length p.toNat = none ∨ B ≠ [] ∧ ∃ a, nxt row row.length p.toNat = some a ∧ gt B 0 = (a : Int) := by
    unfold nxt
    generalize ((List.range row.length).filter fun q => decide (p.toNat < q ∧ nb row q < nb row p.toNat)) = T at hB'
    cases T with
    | nil => left; exact ⟨hB', rfl⟩
    | cons a T => right; rw [hB']; exact ⟨by simp, a, rfl, rfl⟩
  refine ⟨?_, ?_, ?_⟩
  · rcases lastA with ⟨h1, _⟩ | ⟨h1, a, h2, h3⟩
    · exact .inl h1
    · right
      have := (pv_some.mp h2).1
      exact ⟨h1, by omega, by omega⟩
  · rcases headB with ⟨h1, _⟩ | ⟨h1, a, h2, h3⟩
    · exact .inl h1
    · right
      have := (nxt_some.mp h2).2.1
      exact ⟨h1, by omega, by omega⟩
  · unfold eld
    rcases lastA with ⟨h1, h2⟩ | ⟨h1, a, h2, h3⟩ <;> rcases headB with ⟨k1, k2⟩ | ⟨k1, b, k2, k3⟩
    · rw [h2, k2, if_pos h1, if_pos k1]
    · rw [h2, k2, if_pos h1, if_neg k1, k3]
    · rw [h2, k2, if_neg h1, if_pos k1, h3]
    · rw [h2, k2, if_neg h1, if_neg k1, h3, k3, gt_nb, gt_nb]
end TM


set_option linter.all false
set_option maxHeartbeats 1000000
namespace TM
open GL
/-! ### which tuples are trees -/
/-- the stretch a..b-1 of t hangs at e as a tree -/
inductive T (t : List Int) : Nat → Nat → Int → Prop
  | nil (a : Nat) (e : Int) : T t a a e
  | node {a b h : Nat} {e : Int} : a ≤ h → h < b → nb t h = e → T t a h h → T t (h + 1) b h → T t a b e
/-- the same, the numbers of row fitting -/
inductive TR (t row : List Int) : Nat → Nat → Int → Prop
  | nil (a : Nat) (e : Int) : TR t row a a e
  | node {a b h : Nat} {e : Int} : a ≤ h → h < b → nb t h = e → (∀ j, a ≤ j → j < h → nb row h < nb row j) → (∀ j, h < j → j < b → nb row h ≤ nb row j) → TR t row a h h → TR t row (h + 1) b h → TR t row a b e
theorem TR.T {t row : List Int} {a b : Nat} {e : Int} (h : TR t row a b e) : T t a b e := by
  induction h with
  | nil a e => exact .nil a e
  | node h1 h2 h3 _ _ _ _ i1 i2 => exact .node h1 h2 h3 i1 i2
theorem T.le {t : List Int} {a b : Nat} {e : Int} (h : T t a b e) : a ≤ b := by
  induction h with
  | nil a e => exact Nat.le_refl _
  | node h1 h2 _ _ _ _ _ => omega
theorem good_l {row : List Int} {a b h : Nat} {e : Int} (g : Good row a b e) (h1 : a ≤ h) (h2 : h < b) (l3 : ∀ j, a ≤ j → j < h → nb row h < nb row j) : Good row a h h := by
  refine ⟨h1, by have := g.bn; omega, fun q0 j q1 q2 => g.l q0 j q1 (by omega), fun q0 j q1 q2 => l3 j q1 q2, ?_⟩
  have := g.bn
  unfold tv
  by_cases ha : a = 0
  · rw [if_pos ha, if_pos (by omega)]
  · rw [if_neg ha, if_pos (by omega), if_pos (g.l (by omega) h h1 h2)]
theorem good_r {row : List Int} {a b h : Nat} {e : Int} (g : Good row a b e) (h1 : a ≤ h) (h2 : h < b) (l4 : ∀ j, h < j → j < b → nb row h ≤ nb row j) : Good row (h + 1) b h := by
  refine ⟨by omega, g.bn, fun q0 j q1 q2 => ?_, fun q0 j q1 q2 => g.r q0 j (by omega) q2, ?_⟩
  · rw [Nat.add_sub_cancel]; exact l4 j (by omega) q2
  · unfold tv
    rw [if_neg (by omega), Nat.add_sub_cancel]
    by_cases hb : b < row.length
    · rw [if_pos hb, if_neg]
      have := g.r hb h h1 h2; omega
    · rw [if_neg hb]
/-- what fits is the tree of the row -/
theorem TR.eld {t row : List Int} {a b : Nat} {e : Int} (h : TR t row a b e) : Good row a b e → ∀ p, a ≤ p → p < b → nb t p = eld row row.length p := by
  induction h with
  | nil a e => intro _ p h1 h2; omega
  | @node a b h e h1 h2 h3 h4 h5 _ _ i1 i2 =>
    intro g p p1 p2
    rcases Nat.lt_trichotomy p h with z | z | z
    · exact i1 (good_l g h1 h2 h4) p p1 z
    · subst z
      rw [h3]
      refine (eld_tv g h1 h2 h4 fun j q1 q2 => ?_).symm
      rcases Nat.lt_trichotomy j p with y | y | y
      · have := h4 j q1 y; omega
      · subst y; exact Int.le_refl _
      · exact h5 j y q2
    · exact i2 (good_r g h1 h2 h5) p z p2
theorem good_all (row : List Int) : Good row 0 row.length (-1) := by
  refine ⟨Nat.zero_le _, Nat.le_refl _, fun h => absurd h (by decide), fun h => absurd h (by omega), ?_⟩
  unfold tv; rw [if_pos rfl, if_neg (Nat.lt_irrefl _)]
theorem nb_treeOf {row : List Int} {p : Nat} (h : p < row.length) : nb (treeOf row) p = eld row row.length p := by
  unfold nb treeOf
  rw [List.getD_eq_getElem?_getD, List.getElem?_map, List.getElem?_range h]; rfl
theorem tree_of_TR {t row : List Int} (hl : row.length = t.length) (h : TR t row 0 row.length (-1)) : treeOf row = t := by
  refine List.ext_getElem? fun p => ?_
  by_cases hp : p < row.length
  · have h1 := h.eld (good_all row) p (Nat.zero_le _) hp
    unfold treeOf
    rw [List.getElem?_map, List.getElem?_range hp]
    show some (TM.eld row row.length p) = _
    rw [← h1, List.getElem?_eq_getElem (by omega)]
    unfold nb
    rw [List.getD_eq_getElem?_getD, List.getElem?_eq_getElem (by omega)]; rfl
  · rw [List.getElem?_eq_none (by rw [treeOf_len]; omega), List.getElem?_eq_none (by omega)]
/-- the first least place of a stretch -/
theorem low_ex (row : List Int) {a b : Nat} (h : a < b) : ∃ p, a ≤ p ∧ p < b ∧ (∀ j, a ≤ j → j < p → nb row p < nb row j) ∧ (∀ j, p < j → j < b → nb row p ≤ nb row j) := by
  obtain ⟨n, hn⟩ : ∃ n, b = a + 1 + n := ⟨b - (a + 1), by omega⟩
  subst hn
  clear h
  induction n with
  | zero => exact ⟨a, Nat.le_refl _, by omega, fun j _ _ => by omega, fun j _ _ => by omega⟩
  | succ n ih =>
    obtain ⟨p, p1, p2, p3, p4⟩ := ih
    rcases Int.lt_or_le (nb row (a + 1 + n)) (nb row p) with z | z
    · refine ⟨a + 1 + n, by omega, by omega, fun j j1 j2 => ?_, fun j j1 j2 => by omega⟩
      rcases Nat.lt_trichotomy j p with y | y | y
      · have := p3 j j1 y; omega
      · subst y; exact z
      · have := p4 j y j2; omega
    · refine ⟨p, p1, by omega, p3, fun j j1 j2 => ?_⟩
      by_cases y : j = a + 1 + n
      · subst y; exact z
      · exact p4 j j1 (by omega)
theorem TR_of (row : List Int) : ∀ (n a b : Nat) (e : Int), b - a ≤ n → Good row a b e → TR (treeOf row) row a b e
  | 0, a, b, e, h, g => by
    have : a = b := by have := g.ab; omega
    subst this; exact .nil _ _
  | n + 1, a, b, e, h, g => by
    by_cases hab : a < b
    · obtain ⟨p, p1, p2, p3, p4⟩ := low_ex row hab
      refine .node p1 p2 ?_ p3 p4 (TR_of row n a p p (by omega) (good_l g p1 p2 p3)) (TR_of row n (p + 1) b p (by omega) (good_r g p1 p2 p4))
      rw [nb_treeOf (by have := g.bn; omega)]
      refine eld_tv g p1 p2 p3 fun j q1 q2 => ?_
      rcases Nat.lt_trichotomy j p with y | y | y
      · have := p3 j q1 y; omega
      · subst y; exact Int.le_refl _
      · exact p4 j y q2
    · have : a = b := by have := g.ab; omega
      subst this; exact .nil _ _
def IsT (t : List Int) : Prop := T t 0 t.length (-1)
theorem isT_treeOf (row : List Int) : IsT (treeOf row) := by
  unfold IsT
  rw [treeOf_len]
  exact (TR_of row row.length 0 row.length (-1) (by omega) (good_all row)).T
/-! ### the ways up -/
/-- from here to the top -/
def up (t : List Int) : Nat → Int → Option (List Int)
  | n, e => if e = -1 then some [] else if e < 0 ∨ (t.length : Int) ≤ e then none else match n with
    | 0 => none
    | n + 1 => (up t n (gt t e)).map (e :: ·)
theorem up_top (t : List Int) (n : Nat) : up t n (-1) = some [] := by unfold up; rw [if_pos rfl]
theorem up_step {t : List Int} {n : Nat} {e : Int} (h : 0 ≤ e ∧ e < t.length) : up t (n + 1) e = (up t n (gt t e)).map (e :: ·) := by
  conv => lhs; unfold up
  rw [if_neg (by omega), if_neg (by omega)]
theorem up_more (t : List Int) : ∀ (n k : Nat) (e : Int) (w : List Int), up t n e = some w → up t (n + k) e = some w
  | n, k, e, w, h => by
    unfold up at h ⊢
    by_cases e1 : e = -1
    · rw [if_pos e1] at h ⊢; exact h
    · rw [if_neg e1] at h ⊢
      by_cases e2 : e < 0 ∨ (t.length : Int) ≤ e
      · rw [if_pos e2] at h; cases h
      · rw [if_neg e2] at h ⊢
        cases n with
        | zero => cases h
        | succ n =>
          rw [Nat.add_right_comm]
          simp only at h ⊢
          cases h2 : up t n (gt t e) with
          | none => rw [h2] at h; cases h
          | some w2 =>
            rw [h2] at h
            rw [up_more t n k _ _ h2]; exact h
/-- how many of w lie behind p -/
def behind (w : List Int) (p : Int) : Int := ((w.filter fun x => decide (p < x)).length : Int)
theorem behind_cons (w : List Int) (p x : Int) : behind (x :: w) p = (if p < x then 1 else 0) + behind w p := by
  unfold behind
  rw [List.filter_cons]
  by_cases h : p < x
  · rw [if_pos (by simp [h]), if_pos h]; simp only [List.length_cons]; omega
  · rw [if_neg (by simp [h]), if_neg h]; omega
/-- the numbers by the ways -/
def flatAt (t : List Int) (p : Nat) : Option Int := (up t t.length (gt t p)).map fun w => behind w p
theorem behind_ge {w : List Int} {a b : Int} (h : a ≤ b) (hw : ∀ x ∈ w, x ≤ a ∨ b < x) : behind w a = behind w b := by
  unfold behind
  congr 2
  refine List.filter_congr fun x hx => ?_
  rcases hw x hx with z | z
  · rw [decide_eq_false (by omega), decide_eq_false (by omega)]
  · rw [decide_eq_true (by omega), decide_eq_true (by omega)]
theorem T.flat {t row : List Int} {a b : Nat} {e : Int} (h : T t a b e) : ∀ (m : Nat) (w : List Int), up t m e = some w → m + (b - a) ≤ t.length → b ≤ t.length → (∀ x ∈ w, x < a ∨ (b : Int) ≤ x) →
    (∀ p, a ≤ p → p < b → flatAt t p = some (nb row p)) ∨ True → ∀ p, a ≤ p → p < b → ∃ v, flatAt t p = some v ∧ behind w ((b : Int) - 1) ≤ v := by
  induction h with
  | nil a e => intro m w _ _ _ _ _ p h1 h2; omega
  | @node a b h e h1 h2 h3 _ _ i1 i2 =>
    intro m w hu hm hb hw _ p p1 p2
    have hh : up t (m + 1) (h : Int) = some ((h : Int) :: w) := by
      rw [up_step ⟨by omega, by omega⟩, gt_nb, h3, hu]; rfl
    rcases Nat.lt_trichotomy p h with z | z | z
    · obtain ⟨v, v1, v2⟩ := i1 (m + 1) _ hh (by omega) (by omega) (fun x hx => by
        rcases List.mem_cons.mp hx with y | y
        · right; omega
        · rcases hw x y with y | y
          · left; exact y
          · right; omega) (.inr trivial) p p1 z
      refine ⟨v, v1, ?_⟩
      rw [behind_cons] at v2
      have : behind w ((h : Int) - 1) = behind w ((b : Int) - 1) := behind_ge (by omega) fun x hx => by
        rcases hw x hx with y | y
        · left; omega
        · right; omega
      split at v2 <;> omega
    · subst z
      have hp : up t t.length (gt t p) = some w := by
        rw [gt_nb, h3]
        have := up_more t m (t.length - m) e w hu
        rw [show m + (t.length - m) = t.length by omega] at this
        exact this
      refine ⟨behind w p, by unfold flatAt; rw [hp]; rfl, ?_⟩
      have : behind w (p : Int) = behind w ((b : Int) - 1) := behind_ge (by omega) fun x hx => by
        rcases hw x hx with y | y
        · left; omega
        · right; omega
      omega
    · obtain ⟨v, v1, v2⟩ := i2 (m + 1) _ hh (by omega) hb (fun x hx => by
        rcases List.mem_cons.mp hx with y | y
        · left; omega
        · rcases hw x y with y | y
          · left; omega
          · right; omega) (.inr trivial) p z p2
      refine ⟨v, v1, ?_⟩
      rw [behind_cons] at v2
      split at v2 <;> omega
/-- and the numbers so told fit -/
theorem T.fits {t row : List Int} {a b : Nat} {e : Int} (h : T t a b e) : ∀ (m : Nat) (w : List Int), up t m e = some w → m + (b - a) ≤ t.length → b ≤ t.length → (∀ x ∈ w, x < a ∨ (b : Int) ≤ x) →
    (∀ p, a ≤ p → p < b → flatAt t p = some (nb row p)) → TR t row a b e := by
  induction h with
  | nil a e => intro m w _ _ _ _ _; exact .nil _ _
  | @node a b h e h1 h2 h3 t1 t2 i1 i2 =>
    intro m w hu hm hb hw hr
    have hh : up t (m + 1) (h : Int) = some ((h : Int) :: w) := by
      rw [up_step ⟨by omega, by omega⟩, gt_nb, h3, hu]; rfl
    have hwl : ∀ x ∈ ((h : Int) :: w), x < a ∨ (h : Int) ≤ x := fun x hx => by
        rcases List.mem_cons.mp hx with y | y
        · right; omega
        · rcases hw x y with y | y
          · left; exact y
          · right; omega
    have hwr : ∀ x ∈ ((h : Int) :: w), x < ((h + 1 : Nat) : Int) ∨ (b : Int) ≤ x := fun x hx => by
        rcases List.mem_cons.mp hx with y | y
        · left; omega
        · rcases hw x y with y | y
          · left; omega
          · right; omega
    have hp : up t t.length (gt t (h : Int)) = some w := by
      rw [gt_nb, h3]
      have := up_more t m (t.length - m) e w hu
      rw [show m + (t.length - m) = t.length by omega] at this
      exact this
    have hv : nb row h = behind w ((b : Int) - 1) := by
      have h5 := hr h h1 h2
      unfold flatAt at h5
      rw [hp] at h5
      have h6 : behind w (h : Int) = nb row h := Option.some.inj h5
      rw [← h6]
      exact behind_ge (by omega) fun x hx => by
        rcases hw x hx with y | y
        · left; omega
        · right; omega
    refine .node h1 h2 h3 (fun j j1 j2 => ?_) (fun j j1 j2 => ?_) (i1 (m + 1) _ hh (by omega) (by omega) hwl fun p p1 p2 => hr p p1 (by omega)) (i2 (m + 1) _ hh (by omega) hb hwr fun p p1 p2 => hr p (by omega) p2)
    · obtain ⟨v, v1, v2⟩ := t1.flat (row := row) (m + 1) _ hh (by omega) (by omega) hwl (.inr trivial) j j1 j2
      rw [hr j j1 (by omega)] at v1
      cases v1
      rw [behind_cons, if_pos (by omega)] at v2
      have : behind w ((h : Int) - 1) = behind w ((b : Int) - 1) := behind_ge (by omega) fun x hx => by
        rcases hw x hx with y | y
        · left; omega
        · right; omega
      omega
    · obtain ⟨v, v1, v2⟩ := t2.flat (row := row) (m + 1) _ hh (by omega) hb hwr (.inr trivial) j j1 j2
      rw [hr j (by omega) j2] at v1
      cases v1
      rw [behind_cons] at v2
      split at v2 <;> omega
/-- all the numbers -/
def flatF (t : List Int) : List Int := (List.range t.length).map fun p => (flatAt t p).getD 0
def flatN (t : List Int) : Option (List Int) := if (List.range t.length).all (fun p => (flatAt t p).isSome) then some (flatF t) else none
theorem flatF_len (t : List Int) : (flatF t).length = t.length := by simp [flatF]
theorem flatF_nb {t : List Int} {p : Nat} (h : p < t.length) : nb (flatF t) p = (flatAt t p).getD 0 := by
  unfold nb flatF
  rw [List.getD_eq_getElem?_getD, List.getElem?_map, List.getElem?_range h]; rfl
theorem isT_flat {t : List Int} (h : IsT t) : (∀ p, p < t.length → ∃ v, flatAt t p = some v) ∧ treeOf (flatF t) = t := by
  have h1 : ∀ p, p < t.length → ∃ v, flatAt t p = some v := fun p hp => by
    obtain ⟨v, v1, _⟩ := T.flat (row := []) h 0 [] (up_top _ _) (by omega) (Nat.le_refl _) (fun x hx => by cases hx) (.inr trivial) p (Nat.zero_le _) hp
    exact ⟨v, v1⟩
  refine ⟨h1, tree_of_TR (flatF_len t) ?_⟩
  rw [flatF_len]
  refine T.fits h 0 [] (up_top _ _) (by omega) (Nat.le_refl _) (fun x hx => by cases hx) fun p _ hp => ?_
  obtain ⟨v, hv⟩ := h1 p hp
  rw [flatF_nb hp, hv]; rfl
theorem up_none {t : List Int} {n : Nat} {e : Int} (h : e ≠ -1) (h2 : e < 0 ∨ (t.length : Int) ≤ e ∨ n = 0) : up t n e = none := by
  unfold up
  rw [if_neg h]
  by_cases e2 : e < 0 ∨ (t.length : Int) ≤ e
  · rw [if_pos e2]
  · rw [if_neg e2]
    have : n = 0 := by omega
    subst this; rfl
theorem map_nil_app {α : Type} (o : Option (List α)) : o.map ([] ++ ·) = o := by cases o <;> rfl
theorem way_step {t F : List Int} {r : Option (List Int)} {x : Int} (h0 : F.length ≤ t.length) (h1 : r = (up t (t.length - F.length) x).map (F ++ ·)) (hx : ¬ x = -1) (h2 : ¬ (x < 0 ∨ (t.length : Int) ≤ x ∨ (F.length : Int) = t.length)) :
    r = (up t (t.length - (F ++ [x]).length) (gt t x)).map ((F ++ [x]) ++ ·) := by
  rw [h1]
  have : t.length - F.length = (t.length - (F ++ [x]).length) + 1 := by rw [List.length_append, List.length_singleton]; omega
  rw [this, up_step (by omega)]
  cases up t (t.length - (F ++ [x]).length) (gt t x) with
  | none => rfl
  | some w => show some (F ++ (x :: w)) = some ((F ++ [x]) ++ w); rw [List.append_assoc]; rfl
theorem flatAt_eq {t : List Int} {p : Int} {i : Nat} (h : p = 0 + (i : Int)) : flatAt t i = (up t t.length (gt t p)).map fun w => behind w p := by
  have : p = (i : Int) := by omega
  rw [this]; rfl
theorem nb_app {ns : List Int} {v : Int} {i p : Nat} (h : ns.length = i) : nb (ns ++ [v]) p = if p < i then nb ns p else if p = i then v else 0 := by
  unfold nb
  rw [List.getD_eq_getElem?_getD, List.getD_eq_getElem?_getD]
  by_cases h1 : p < i
  · rw [if_pos h1, List.getElem?_append_left (by omega)]
  · rw [if_neg h1]
    by_cases h2 : p = i
    · rw [if_pos h2, List.getElem?_append_right (by omega), show p - ns.length = 0 by omega]; rfl
    · rw [if_neg h2, List.getElem?_eq_none (by rw [List.length_append, List.length_singleton]; omega)]; rfl
theorem up_len (t : List Int) : ∀ (n : Nat) (e : Int) (w : List Int), up t n e = some w → w.length ≤ n
  | n, e, w, h => by
    unfold up at h
    by_cases e1 : e = -1
    · rw [if_pos e1] at h; cases h; exact Nat.zero_le _
    · rw [if_neg e1] at h
      by_cases e2 : e < 0 ∨ (t.length : Int) ≤ e
      · rw [if_pos e2] at h; cases h
      · rw [if_neg e2] at h
        cases n with
        | zero => cases h
        | succ n =>
          simp only at h
          cases h2 : up t n (gt t e) with
          | none => rw [h2] at h; cases h
          | some w2 =>
            rw [h2] at h
            cases h
            have := up_len t n _ _ h2
            simp; omega
theorem up_in (t : List Int) : ∀ (n : Nat) (e : Int) (w : List Int), up t n e = some w → ∀ x ∈ w, 0 ≤ x ∧ x < t.length
  | n, e, w, h => by
    unfold up at h
    by_cases e1 : e = -1
    · rw [if_pos e1] at h; cases h; intro x hx; cases hx
    · rw [if_neg e1] at h
      by_cases e2 : e < 0 ∨ (t.length : Int) ≤ e
      · rw [if_pos e2] at h; cases h
      · rw [if_neg e2] at h
        cases n with
        | zero => cases h
        | succ n =>
          simp only at h
          cases h2 : up t n (gt t e) with
          | none => rw [h2] at h; cases h
          | some w2 =>
            rw [h2] at h
            cases h
            intro x hx
            rcases List.mem_cons.mp hx with y | y
            · omega
            · exact up_in t n _ _ h2 x y
theorem flat_step {t ns : List Int} {i : Nat} {v : Int} (h1 : ns.length = i) (h2 : ∀ p : Nat, p < i → flatAt t p = some (nb ns p)) (h3 : flatAt t i = some v) : (ns ++ [v]).length = i + 1 ∧ ∀ p : Nat, p < i + 1 → flatAt t p = some (nb (ns ++ [v]) p) := by
  refine ⟨by rw [List.length_append, List.length_singleton, h1], fun p hp => ?_⟩
  rw [nb_app h1]
  by_cases e : p < i
  · rw [if_pos e]; exact h2 p e
  · have : p = i := by omega
    subst this
    rw [if_neg (Nat.lt_irrefl _), if_pos rfl, h3]
theorem flatN_none {t : List Int} {p : Nat} (h : p < t.length) (h2 : flatAt t p = none) : flatN t = none := by
  unfold flatN
  rw [if_neg]
  intro z
  rw [List.all_eq_true] at z
  have := z p (List.mem_range.mpr h)
  rw [h2] at this; cases this
theorem flatN_none' {t : List Int} {i : Nat} {x : Int} (h : (rg 0 t.length)[i]? = some x) (h2 : up t t.length (gt t x) = none) : flatN t = none := by
  have := rg_at h
  refine flatN_none (p := i) (by omega) ?_
  rw [flatAt_eq this.1, h2]; rfl
theorem flatN_some {t ns : List Int} (hl : ns.length = t.length) (h : ∀ p, p < t.length → flatAt t p = some (nb ns p)) : flatN t = some ns := by
  unfold flatN
  rw [if_pos]
  · congr 1
    refine List.ext_getElem? fun p => ?_
    by_cases hp : p < t.length
    · unfold flatF
      rw [List.getElem?_map, List.getElem?_range hp]
      show some ((flatAt t p).getD 0) = _
      rw [h p hp, List.getElem?_eq_getElem (by omega)]
      show some (nb ns p) = _
      unfold nb
      rw [List.getD_eq_getElem?_getD, List.getElem?_eq_getElem (by omega)]; rfl
    · rw [List.getElem?_eq_none (by rw [flatF_len]; omega), List.getElem?_eq_none (by omega)]
  · rw [List.all_eq_true]
    intro p hp
    rw [h p (List.mem_range.mp hp)]; rfl
theorem flatN_isT {t : List Int} (h : IsT t) : flatN t = some (flatF t) ∧ treeOf (flatF t) = t := by
  obtain ⟨h1, h2⟩ := isT_flat h
  refine ⟨?_, h2⟩
  unfold flatN
  rw [if_pos]
  rw [List.all_eq_true]
  intro p hp
  obtain ⟨v, hv⟩ := h1 p (List.mem_range.mp hp)
  rw [hv]; rfl
theorem isT_iff {t : List Int} : IsT t ↔ ∃ ns, flatN t = some ns ∧ treeOf ns = t := by
  constructor
  · intro h
    exact ⟨_, flatN_isT h⟩
  · intro ⟨ns, _, h⟩
    rw [← h]; exact isT_treeOf ns
noncomputable def isTree (t : List Int) : Bool := @decide (t.length ≤ 40 ∧ IsT t) (Classical.propDecidable _)
theorem isTree_iff {t : List Int} : isTree t = true ↔ t.length ≤ 40 ∧ IsT t := by unfold isTree; exact @decide_eq_true_iff _ (Classical.propDecidable _)
theorem rg_nodup (a b : Int) : (rg a b).Nodup := by
  unfold rg
  refine List.Pairwise.map _ ?_ (List.nodup_range)
  intro x y h z; omega
theorem flatN_len {t ns : List Int} (h : flatN t = some ns) : ns.length = t.length := by
  unfold flatN at h
  split at h
  · cases h; exact flatF_len t
  · cases h
theorem isTree_big {t : List Int} (h : 40 < (t.length : Int)) : isTree t = false := by
  rw [Bool.eq_false_iff]; intro z; have := (isTree_iff.mp z).1; omega
theorem isTree_end {t : List Int} (h : t.length ≤ 40) : ((flatN t).isSome && decide (treeOf (oget (flatN t)) = t)) = isTree t := by
  rw [Bool.eq_iff_iff, isTree_iff, isT_iff]
  cases e : flatN t with
  | none => simp
  | some ns =>
    simp only [Option.isSome_some, Bool.true_and, decide_eq_true_eq]
    constructor
    · intro z; exact ⟨h, ns, rfl, z⟩
    · intro ⟨_, ns', z1, z2⟩; cases z1; exact z2
/-- the way up, told of trees -/
def ups (t : List Int) (p : Int) : List Int := oget (up t t.length (gt t p))
theorem ups_some {t : List Int} {p : Int} (h : isTree t = true) (hp : 0 ≤ p ∧ p < t.length) : ¬ up t t.length (gt t p) = none := by
  intro z
  obtain ⟨h1, h2⟩ := isTree_iff.mp h
  obtain ⟨v, hv⟩ := (isT_flat h2).1 p.toNat (by omega)
  unfold flatAt at hv
  rw [Int.toNat_of_nonneg hp.1, z] at hv
  cases hv
/-! ### by heads -/
theorem T.in {t : List Int} {a b : Nat} {e : Int} (h : T t a b e) : ∀ p, a ≤ p → p < b → nb t p = e ∨ ((a : Int) ≤ nb t p ∧ nb t p < b) := by
  induction h with
  | nil a e => intro p h1 h2; omega
  | @node a b h e h1 h2 h3 _ _ i1 i2 =>
    intro p p1 p2
    rcases Nat.lt_trichotomy p h with z | z | z
    · right
      rcases i1 p p1 z with y | y <;> omega
    · subst z; exact .inl h3
    · right
      rcases i2 p z p2 with y | y <;> omega
theorem T.one {t : List Int} {a b : Nat} {e : Int} (h : T t a b e) (hab : a < b) (he : e < a ∨ (b : Int) ≤ e) : ∃ q, a ≤ q ∧ q < b ∧ nb t q = e ∧ (∀ p, a ≤ p → p < b → nb t p = e → p = q) ∧ T t a q q ∧ T t (q + 1) b q := by
  cases h with
  | nil => omega
  | @node _ _ h _ h1 h2 h3 t1 t2 =>
    refine ⟨h, h1, h2, h3, fun p p1 p2 p3 => ?_, t1, t2⟩
    rcases Nat.lt_trichotomy p h with z | z | z
    · rcases t1.in p p1 z with y | y <;> omega
    · exact z
    · rcases t2.in p z p2 with y | y <;> omega
/-- a stretch of the stack -/
structure Wf (t : List Int) (s : Int × Int × Int) : Prop where
  a0 : 0 ≤ s.1
  ab : s.1 ≤ s.2.1 + 1
  bn : s.2.1 < t.length
  e : s.2.2 < s.1 ∨ s.2.1 < s.2.2
def Ts (t : List Int) (s : Int × Int × Int) : Prop := T t s.1.toNat (s.2.1 + 1).toNat s.2.2
structure LI (t : List Int) (left : List (Int × Int × Int)) : Prop where
  wf : ∀ s ∈ left, Wf t s
  mu : mu left ≤ 2 * t.length + 1
  iff : IsT t ↔ ∀ s ∈ left, Ts t s
end TM


set_option linter.all false
set_option maxHeartbeats 1000000
namespace TM
open GL
/-! ### first least places -/
/-- h is the first least place of a..b -/
structure FL (row : List Int) (a b h : Int) : Prop where
  ah : a ≤ h
  hb : h ≤ b
  l : ∀ j : Nat, a ≤ j → (j : Int) < h → nb row h.toNat < nb row j
  r : ∀ j : Nat, a ≤ j → (j : Int) ≤ b → nb row h.toNat ≤ nb row j
theorem low_FL {row : List Int} {a b : Int} (h : 0 ≤ a ∧ a ≤ b ∧ b < row.length) : FL row a b (low row a b) := by
  obtain ⟨h1, h2, h3, h4⟩ := low_spec h
  exact ⟨h1, h2, h3, h4⟩
theorem FL.uniq {row : List Int} {a b h g : Int} (a0 : 0 ≤ a) (x : FL row a b h) (y : FL row a b g) : h = g := by
  have x1 := x.ah; have x2 := x.hb; have y1 := y.ah; have y2 := y.hb
  rcases Int.lt_trichotomy h g with z | z | z
  · have h1 := y.l h.toNat (by omega) (by omega)
    have h2 := x.r g.toNat (by omega) (by omega)
    omega
  · exact z
  · have h1 := x.l g.toNat (by omega) (by omega)
    have h2 := y.r h.toNat (by omega) (by omega)
    omega
theorem FL.low {row : List Int} {a b h : Int} (hb : 0 ≤ a ∧ a ≤ b ∧ b < row.length) (x : FL row a b h) : h = TM.low row a b := x.uniq hb.1 (low_FL hb)
theorem gt_at {row : List Int} {x : Int} (h : 0 ≤ x) : gt row x = nb row x.toNat := by
  have : x = (x.toNat : Int) := by omega
  rw [this, gt_nb]; rfl
/-! ### who stands over whom -/
def Anc (row : List Int) (p q : Nat) : Prop := (q < p ∧ ∀ j, q ≤ j → j ≤ p → nb row q ≤ nb row j) ∨ (p < q ∧ ∀ j, p ≤ j → j < q → nb row q < nb row j)
theorem Anc.ne {row : List Int} {p q : Nat} (h : Anc row p q) : p ≠ q := by rcases h with h | h <;> omega
theorem TR.anc {t row : List Int} {a b : Nat} {e : Int} (h : TR t row a b e) : ∀ (m : Nat) (w : List Int), up t m e = some w → b ≤ t.length → ∀ p, a ≤ p → p < b →
    ∃ w', up t (m + (b - a)) (nb t p) = some (w' ++ w) ∧ (∀ x ∈ w', (a : Int) ≤ x ∧ x < b) ∧ ∀ q : Nat, a ≤ q → q < b → ((q : Int) ∈ w' ↔ Anc row p q) := by
  induction h with
  | nil a e => intro m w _ _ p h1 h2; omega
  | @node a b h e h1 h2 h3 h4 h5 _ _ i1 i2 =>
    intro m w hu hb p p1 p2
    have hh : up t (m + 1) (h : Int) = some ((h : Int) :: w) := by
      rw [up_step ⟨by omega, by omega⟩, gt_nb, h3, hu]; rfl
    rcases Nat.lt_trichotomy p h with z | z | z
    · obtain ⟨w1, v1, v2, v3⟩ := i1 (m + 1) _ hh (by omega) p p1 z
      refine ⟨w1 ++ [(h : Int)], ?_, fun x hx => ?_, fun q q1 q2 => ?_⟩
      · have := up_more t _ (m + (b - a) - (m + 1 + (h - a))) _ _ v1
        rw [show m + 1 + (h - a) + (m + (b - a) - (m + 1 + (h - a))) = m + (b - a) by omega] at this
        rw [this]; simp
      · rw [List.mem_append, List.mem_singleton] at hx
        rcases hx with y | y
        · have := v2 x y; omega
        · omega
      · rw [List.mem_append, List.mem_singleton]
        rcases Nat.lt_trichotomy q h with y | y | y
        · rw [v3 q q1 y]
          constructor
          · intro x; rcases x with x | x
            · exact x
            · omega
          · intro x; exact .inl x
        · subst y
          constructor
          · intro _; right; exact ⟨z, fun j j1 j2 => h4 j (by omega) j2⟩
          · intro _; right; rfl
        · constructor
          · intro x; rcases x with x | x
            · have := v2 _ x; omega
            · omega
          · intro x
            rcases x with ⟨x1, _⟩ | ⟨_, x2⟩
            · omega
            · have h6 := x2 h (by omega) y
              have h7 := h5 q y q2
              omega
    · subst z
      refine ⟨[], ?_, fun x hx => by (cases hx), fun q q1 q2 => ?_⟩
      · rw [h3, List.nil_append]; exact up_more t _ _ _ _ hu
      · constructor
        · intro x; cases x
        · intro x
          rcases x with ⟨x1, x2⟩ | ⟨x1, x2⟩
          · have h6 := x2 p (by omega) (Nat.le_refl _)
            have h7 := h4 q q1 x1
            omega
          · have h6 := x2 p (Nat.le_refl _) x1
            have h7 := h5 q x1 q2
            omega
    · obtain ⟨w1, v1, v2, v3⟩ := i2 (m + 1) _ hh hb p z p2
      refine ⟨w1 ++ [(h : Int)], ?_, fun x hx => ?_, fun q q1 q2 => ?_⟩
      · have := up_more t _ (m + (b - a) - (m + 1 + (b - (h + 1)))) _ _ v1
        rw [show m + 1 + (b - (h + 1)) + (m + (b - a) - (m + 1 + (b - (h + 1)))) = m + (b - a) by omega] at this
        rw [this]; simp
      · rw [List.mem_append, List.mem_singleton] at hx
        rcases hx with y | y
        · have := v2 x y; omega
        · omega
      · rw [List.mem_append, List.mem_singleton]
        rcases Nat.lt_trichotomy q h with y | y | y
        · constructor
          · intro x; rcases x with x | x
            · have := v2 _ x; omega
            · omega
          · intro x
            rcases x with ⟨_, x2⟩ | ⟨x1, _⟩
            · have h6 := x2 h (by omega) (by omega)
              have h7 := h4 q q1 y
              omega
            · omega
        · subst y
          constructor
          · intro _; left; exact ⟨z, fun j j1 j2 => by
              by_cases e : j = q
              · subst e; exact Int.le_refl _
              · exact h5 j (by omega) (by omega)⟩
          · intro _; right; rfl
        · rw [v3 q (by omega) q2]
          constructor
          · intro x; rcases x with x | x
            · exact x
            · omega
          · intro x; exact .inl x
theorem ups_mem {row : List Int} {p q : Nat} (hp : p < row.length) (hq : q < row.length) : (q : Int) ∈ ups (treeOf row) p ↔ Anc row p q := by
  have hT := TR_of row row.length 0 row.length (-1) (by omega) (good_all row)
  obtain ⟨w, h1, _, h3⟩ := hT.anc 0 [] (up_top _ _) (by rw [treeOf_len]; omega) p (Nat.zero_le _) hp
  have : ups (treeOf row) p = w := by
    unfold ups
    rw [gt_nb, treeOf_len]
    rw [show 0 + (row.length - 0) = row.length by omega] at h1
    rw [h1]; simp [oget]
  rw [this]
  exact h3 q (Nat.zero_le _) hq
theorem isTree_treeOf {row : List Int} (h : row.length ≤ 40) : isTree (treeOf row) = true := isTree_iff.mpr ⟨by rw [treeOf_len]; exact h, isT_treeOf row⟩
/-- the ways of all places -/
theorem gt_map_rg {α : Type} [Inhabited α] {n : Nat} {f : Int → α} {i : Int} (h : 0 ≤ i ∧ i < n) : gt ((rg 0 n).map f) i = f i := by
  unfold gt
  rw [List.getD_eq_getElem?_getD, List.getElem?_map, rg_get 0 n i.toNat (by omega)]
  show f (0 + (i.toNat : Int)) = f i
  congr 1; omega
/-- over a stretch stands its first least place alone -/
theorem FL.anc {row : List Int} {a b h : Int} (a0 : 0 ≤ a) (x : FL row a b h) {p : Int} (hp : a ≤ p ∧ p ≤ b) : Anc row p.toNat h.toNat ↔ p ≠ h := by
  have x1 := x.ah; have x2 := x.hb
  constructor
  · intro z e; exact z.ne (by rw [e])
  · intro z
    rcases Int.lt_or_gt_of_ne z with y | y
    · right; exact ⟨by omega, fun j j1 j2 => x.l j (by omega) (by omega)⟩
    · left; exact ⟨by omega, fun j j1 j2 => x.r j (by omega) (by omega)⟩
theorem FL.top {row : List Int} {a b h : Int} (a0 : 0 ≤ a) (x : FL row a b h) {q : Int} (hq : a ≤ q ∧ q ≤ b) : ¬ Anc row h.toNat q.toNat := by
  have x1 := x.ah; have x2 := x.hb
  intro z
  rcases z with ⟨z1, z2⟩ | ⟨z1, z2⟩
  · have h1 := z2 h.toNat (by omega) (Nat.le_refl _)
    have h2 := x.l q.toNat (by omega) (by omega)
    omega
  · have h1 := z2 h.toNat (Nat.le_refl _) z1
    have h2 := x.r q.toNat (by omega) (by omega)
    omega
theorem any_map {f : Int → Bool} {l : List Int} : (l.map f).any id = true ↔ ∃ x ∈ l, f x = true := by
  rw [List.any_eq_true]
  constructor
  · intro ⟨y, hy, e⟩
    rw [List.mem_map] at hy
    obtain ⟨x, hx, rfl⟩ := hy
    exact ⟨x, hx, e⟩
  · intro ⟨x, hx, e⟩
    exact ⟨f x, List.mem_map_of_mem hx, e⟩
theorem all_map {f : Int → Bool} {l : List Int} : (l.map f).all id = true ↔ ∀ x ∈ l, f x = true := by
  rw [List.all_eq_true]
  constructor
  · intro h x hx; exact h _ (List.mem_map_of_mem hx)
  · intro h y hy
    rw [List.mem_map] at hy
    obtain ⟨x, hx, rfl⟩ := hy
    exact h x hx
end TM


set_option linter.all false
set_option maxHeartbeats 1000000
namespace TM
open GL
end TM


set_option linter.all false
set_option maxHeartbeats 1000000
namespace TM
open GL
theorem enu_num {row : List Int} {i : Nat} {x : Int × Int} (h : (enu row)[i]? = some x) : x.1 = (i : Int) ∧ i < row.length ∧ x.2 = gt row x.1 := by
  obtain ⟨h1, h2⟩ := enu_at h
  refine ⟨h1, at_lt h2, ?_⟩
  rw [h1, gt_nb]
  unfold nb
  rw [List.getD_eq_getElem?_getD, h2]; rfl
/-- the rest of a way, as one of the laws walks it -/
structure Way (t : List Int) (p : Int) (over : List Int) (here : Int) : Prop where
  ex : ∃ v, up t (t.length - over.length) here = some v ∧ ups t p = over ++ v
  len : over.length ≤ t.length
end TM


set_option linter.all false
set_option maxHeartbeats 1000000
namespace TM
open GL
/-! ### two rows, one behind the other -/
def moved (t : List Int) (by' : Int) : List Int := t.map fun e => e + by' * (if decide (0 ≤ e) = true then 1 else 0)
def seamOf (own : List Int) (l : List (Int × Int)) : List (List Int) := (l.filter fun x => decide (¬ x.2 = gt own x.1)).map fun x => [x.1, gt own x.1, x.2]
def ownOf (one other : List Int) : List Int := treeOf one ++ moved (treeOf other) one.length
def seam (one other : List Int) : List (List Int) := seamOf (ownOf one other) (enu (treeOf (one ++ other)))
def wayz (one other : List Int) : List Int := (if one = [] then [] else (one.length - 1 : Int) :: ups (treeOf one) (one.length - 1)) ++ (if other = [] then [] else ((0 : Int) :: ups (treeOf other) 0).map fun p : Int => p + (one.length : Int))
theorem ups_len (t : List Int) (p : Int) : (ups t p).length ≤ t.length := by
  unfold ups
  cases e : up t t.length (gt t p) with
  | none => exact Nat.zero_le _
  | some w => exact up_len t _ _ _ e
end TM


set_option linter.all false
set_option maxHeartbeats 1000000
namespace TM
open GL
/-! ### how far back the elder stands, and borders -/
def bk (row : List Int) (p : Nat) : Int := match pv row p with
  | none => 0
  | some a => (p : Int) - a
def backs (row : List Int) : List Int := (List.range row.length).map (bk row)
def cutb (far many : Int) : Int := if many < far then 0 else far
/-- the first s numbers are hung as the s ahead of m -/
def K (row : List Int) (s m : Nat) : Prop := ∀ p, p < s → cutb (bk row (m - s + p)) p = bk row p
open Classical in
noncomputable def bordGo (row : List Int) (m : Nat) : Nat → Nat
  | 0 => 0
  | s + 1 => if K row (s + 1) m then s + 1 else bordGo row m s
noncomputable def bord (row : List Int) (m : Nat) : Nat := bordGo row m (m - 1)
noncomputable def borders (row : List Int) : List Int := (List.range row.length).map fun j => (bord row (j + 1) : Int)
/-- the search for the next border, at size s -/
structure BS (row : List Int) (i : Nat) (size : Int) : Prop where
  s0 : 0 ≤ size
  si : size < i
  k : K row size.toNat i
  max : ∀ t : Nat, t < i → K row (t + 1) (i + 1) → (t : Int) ≤ size
end TM


set_option linter.all false
set_option maxHeartbeats 1000000
namespace TM
open GL
/-! ### alike rows, as the laws ask it -/
def dep (row : List Int) (i : Nat) : Nat := ((opens row i).filter fun q => decide (nb row q ≤ nb row i)).length
def kinB (one other : List Int) : Bool := decide (one.length = other.length) && (List.range one.length).all fun p => decide (bk one p = bk other p)
end TM
namespace TM
open GL
theorem sl_take {l : List Int} {s : Int} (h : 0 ≤ s ∧ s ≤ l.length) : sl l none (some s) = l.take s.toNat := by
  unfold sl
  have e2 : HT.sIx l.length l.length (some s) = s.toNat := by unfold HT.sIx; simp only; rw [if_neg (by omega)]; omega
  rw [e2]
  show List.take (s.toNat - HT.sIx l.length 0 none) (l.drop (HT.sIx l.length 0 none)) = _
  show List.take (s.toNat - 0) (l.drop 0) = _
  rw [List.drop_zero, Nat.sub_zero]
/-- the law's search from above -/
structure LB (row : List Int) (many size : Int) : Prop where
  s0 : 0 ≤ size
  sm : size < many
  max : ∀ t : Nat, (t : Int) < many → K row t many.toNat → (t : Int) ≤ size
end TM
namespace TM
open GL
end TM


set_option linter.all false
set_option maxHeartbeats 1000000
namespace TM
open GL
/-! ### steps of a row (k39) -/
def stepB (row : List Int) (t : Int) : Bool := kinB (sl row none (some ((row.length : Int) - t))) (sl row (some t) none)
def steps (row : List Int) : List Int := (rg 1 ((row.length : Int) + 1)).filter fun t => decide (stepB row t = true)
/-- what steps_of has gathered, at size -/
structure SP (row some_ : List Int) (size : Int) : Prop where
  s0 : 0 ≤ size
  sn : size ≤ row.length
  k : K row size.toNat row.length
  eq : some_ = (rg 1 ((row.length : Int) - size + 1)).filter fun t => decide (stepB row t = true)
end TM
namespace TM
open GL
end TM


set_option linter.all false
set_option maxHeartbeats 1000000
namespace TM
open GL
/-! ### a row sought in a text -/
/-- the first s numbers of row are hung as the s of text ahead of i -/
def K2 (row text : List Int) (s i : Nat) : Prop := ∀ p, p < s → cutb (bk text (i - s + p)) p = bk row p
end TM
namespace TM
open GL
/-- the search in the text ahead of number i, at size s (below the row's length n) -/
structure TS2 (row text : List Int) (i : Nat) (size : Int) : Prop where
  s0 : 0 ≤ size
  sn : size < row.length
  si : size ≤ i
  k : K2 row text size.toNat i
  max : ∀ t : Nat, t < row.length → t ≤ i → K2 row text (t + 1) (i + 1) → (t : Int) ≤ size
end TM


set_option linter.all false
set_option maxHeartbeats 1000000
namespace TM
open GL
/-! ### ways that end at -1, trees and their flat rows -/
theorem flat_of_tree {t : List Int} (h : isTree t = true) : flatN t = some (flatF t) ∧ treeOf (flatF t) = t := flatN_isT (isTree_iff.mp h).2
theorem flat_get {t : List Int} (h : isTree t = true) : oget (flatN t) = flatF t := by rw [(flat_of_tree h).1]; rfl
theorem isTree_len {t : List Int} (h : isTree t = true) : t.length ≤ 40 := (isTree_iff.mp h).1
end TM
namespace TM
open GL
theorem flat_law {t : List Int} (h : isTree t = true) : (rg 0 t.length).map (fun p => (((ups t p).filter fun o => decide (p < o)).length : Int)) = flatF t := by
  unfold flatF
  refine List.ext_getElem? fun i => ?_
  rw [List.getElem?_map, List.getElem?_map]
  by_cases hi : i < t.length
  · rw [rg_get 0 _ i (by omega), List.getElem?_range hi]
    simp only [Option.map_some, Option.some.injEq]
    have hs := oget_some (ups_some h (p := (i : Int)) (by omega))
    have e : flatAt t i = some (behind (ups t (i : Int)) i) := by
      rw [flatAt_eq (p := (i : Int)) (by omega), hs]; rfl
    rw [e, show (0 : Int) + (i : Int) = (i : Int) by omega]; rfl
  · rw [List.getElem?_eq_none (by rw [rg_len]; omega), List.getElem?_eq_none (by rw [List.length_range]; omega)]; rfl
end TM
namespace TM
open GL
end TM
namespace TM
open GL
end TM


set_option linter.all false
set_option maxHeartbeats 1000000
namespace TM
open GL
/-! ### alike rows: by their trees, by what stands ahead, by who stands over whom, by their lows -/
def bel (f : Nat → Option Nat) (p q : Nat) : Bool := match f q with
  | none => true
  | some a => decide (a < p)
/-! lows -/
end TM


set_option linter.all false
set_option maxHeartbeats 1000000
namespace TM
open GL
/-! ### starts -/
structure SI (row text : List Int) (i : Nat) (size : Int) : Prop where
  s0 : 0 ≤ size
  sn : size ≤ row.length
  si : size ≤ i
  k : K2 row text size.toNat i
  max : ∀ t : Nat, t ≤ row.length → t ≤ i → K2 row text t i → (t : Int) ≤ size
def stB (row text : List Int) (i : Nat) : List Int := (rg 0 ((i : Int) - row.length + 1)).filter fun s => decide (kinB row (sl text (some s) (some (s + row.length))) = true)
def starts (row text : List Int) : List Int := stB row text text.length
end TM


set_option linter.all false
set_option maxHeartbeats 1000000
namespace TM
open GL
/-! ### what parts two rows -/
def NP (one other : List Int) (size a : Int) : Prop := ∀ s b : Int, 1 ≤ s → 0 ≤ b → b + s ≤ one.length → (s < size ∨ (s = size ∧ b < a)) → low one b (b + s - 1) = low other b (b + s - 1)
structure PtAt (one other : List Int) (size a : Int) : Prop where
  s1 : 1 ≤ size
  a0 : 0 ≤ a
  an : a + size ≤ one.length
  ne : ¬ low one a (a + size - 1) = low other a (a + size - 1)
  np : NP one other size a
theorem PtAt.uniq {one other : List Int} {s a t b : Int} (x : PtAt one other s a) (y : PtAt one other t b) : s = t ∧ a = b := by
  have h1 := x.s1; have h2 := y.s1
  rcases Int.lt_trichotomy s t with z | z | z
  · exact absurd (y.np s a x.s1 x.a0 x.an (.inl z)) x.ne
  · rcases Int.lt_trichotomy a b with w | w | w
    · exact absurd (y.np s a x.s1 x.a0 x.an (.inr ⟨z, w⟩)) x.ne
    · exact ⟨z, w⟩
    · exact absurd (x.np t b y.s1 y.a0 y.an (.inr ⟨z.symm, w⟩)) y.ne
  · exact absurd (x.np t b y.s1 y.a0 y.an (.inl z)) y.ne
open Classical in
noncomputable def parted (one other : List Int) : Option (Int × Int) := if h : ∃ p : Int × Int, PtAt one other p.1 p.2 then some (h.choose.2, h.choose.2 + h.choose.1 - 1) else none
/-! the lists of lows by size -/
def lowsOf (row : List Int) (size : Int) : List Int := (rg 0 ((row.length : Int) - size + 1)).map fun a => low row a (a + size - 1)
/-! lists that a loop builds -/
theorem fm_step {α β : Type} {l : List α} {i : Nat} {x : α} (h : l[i]? = some x) (p : α → Bool) (f : α → β) : ((l.take (i + 1)).filter p).map f = ((l.take i).filter p).map f ++ (if p x = true then [f x] else []) := by
  have e : l.take (i + 1) = l.take i ++ [x] := by rw [List.take_add_one, h]; rfl
  rw [e, List.filter_append, List.map_append]
  congr 1
  by_cases z : p x = true
  · rw [if_pos z, List.filter_cons_of_pos z]; rfl
  · rw [if_neg z, List.filter_cons_of_neg z]; rfl
end TM
namespace TM
open GL
end TM
namespace TM
open GL
noncomputable def pst (row text : List Int) (start : Int) : List Int := [start, (oget (parted row (sl text (some start) (some (start + row.length))))).1, (oget (parted row (sl text (some start) (some (start + row.length))))).2]
noncomputable def pstarts (row text : List Int) : List (List Int) := ((rg 0 ((text.length : Int) - row.length + 1)).filter fun z => decide (z ∉ starts row text)).map (pst row text)
end TM


set_option linter.all false
set_option maxHeartbeats 1000000
namespace TM
open GL
end TM
namespace TM
open GL
theorem PtAt.symm {one other : List Int} {s a : Int} (hl : one.length = other.length) (x : PtAt one other s a) : PtAt other one s a :=
  ⟨x.s1, x.a0, by have := x.an; omega, fun z => x.ne z.symm, fun t b t1 b0 bn hx => (x.np t b t1 b0 (by omega) hx).symm⟩
end TM


set_option Elab.async false
set_option linter.all false
/-! ### rows moved, and windows of alike rows -/
namespace TM
open GL
end TM


set_option Elab.async false
set_option linter.all false
/-! ### choices -/
namespace TM
open GL
def bi : Nat → Nat → Nat
  | _, 0 => 1
  | 0, _ + 1 => 0
  | n + 1, k + 1 => bi n k + bi n (k + 1)
def choice (n k : Int) : Int := (bi n.toNat k.toNat : Int)
/-- a row of choices, as sums of the row before -/
def brow (n : Nat) : List Int := (List.range (n + 1)).map fun k => (bi n k : Int)
/-- how many trees have so many falls -/
def falls (n k : Int) : Int := if n = 0 ∨ k < 0 ∨ k ≥ n then (if n = 0 ∧ k = 0 then 1 else 0) else choice n k * choice n (k + 1) / n
end TM


set_option Elab.async false
set_option linter.all false
/-! ### trees counted, and open places -/
namespace TM
open GL
/-- the sums of all that stands at a place or behind -/
def sufs : List Int → List Int
  | [] => []
  | x :: l => (x :: l).sum :: sufs l
def opn (row : List Int) : List Int := 0 :: sufs row
def opnRow : Nat → List Int
  | 0 => [1]
  | n + 1 => opn (opnRow n)
def openAt (n k : Int) : Int := if k < 0 ∨ k > n then 0 else gt (opnRow n.toNat) k
def catal (n : Int) : Int := choice (2 * n) n / (n + 1)
theorem take_sum {l : List Int} {i : Nat} {x : Int} (h : l[i]? = some x) : (l.take (i + 1)).sum = (l.take i).sum + x := by
  rw [List.take_succ, h, List.sum_append]; simp
/-! evaluated by force -/
def forceN {α : Type} (n : Nat) (f : Nat → α) : α := Nat.rec (f 0) (fun k _ => f (k + 1)) n
def forceL {α : Type} : List Nat → (List Nat → α) → α
  | [], f => f []
  | x :: l, f => forceN x fun y => forceL l fun r => f (y :: r)
def sufN : List Nat → List Nat
  | [] => []
  | x :: l => (match sufN l with | [] => x | y :: _ => x + y) :: sufN l
def sufF : List Nat → Nat → List Nat → List Nat
  | [], _, acc => acc
  | x :: l, t, acc => forceN (t + x) fun u => sufF l u (u :: acc)
def sufM : List Nat → List Nat
  | [] => []
  | x :: l => (x :: l).sum :: sufM l
def chN : Nat → Nat → Nat
  | _, 0 => 1
  | n, k + 1 => chN n k * (n - k) / (k + 1)
/-- all the sums, row by row -/
def chk22 : Nat → Nat → List Nat → Bool
  | 0, _, _ => true
  | r + 1, n, row => decide (chN (2 * n) n / (n + 1) = row.sum) && forceL (0 :: sufF row.reverse 0 []) fun row' => chk22 r (n + 1) row'
end TM


set_option Elab.async false
set_option linter.all false
/-! ### rows no higher than a bound, counted in two ways -/
namespace TM
open GL L2
/-- the sum that stands at the end of the next place -/
def fstep (lower f : List Int) : Int := ((rg 0 f.length).map fun top => gt lower top * gt f ((f.length : Int) - 1 - top)).sum
def flatO (lower : List Int) : Nat → List Int
  | 0 => [1]
  | n + 1 => flatO lower n ++ [fstep lower (flatO lower n)]
theorem flatO_len (lower : List Int) : ∀ n, (flatO lower n).length = n + 1
  | 0 => rfl
  | n + 1 => by rw [flatO, List.length_append, flatO_len lower n]; rfl
def flIt (n : Nat) : Nat → List Int
  | 0 => [1] ++ List.replicate n 0
  | k + 1 => flatO (flIt n k) n
theorem flIt_len (n : Nat) : ∀ k, (flIt n k).length = n + 1
  | 0 => by rw [flIt, List.length_append, List.length_replicate]; simp; omega
  | k + 1 => by rw [flIt, flatO_len]
/-- the law's ways -/
def wayS (most : Int) (ways : List Int) : List Int := (rg 0 (min most ways.length + 1)).map fun k => gt ((sufs ways) ++ [0]) (max 0 (k - 1))
def wayIt (most : Int) : Nat → List Int
  | 0 => [1]
  | k + 1 => wayS most (wayIt most k)
def dueF (n most : Int) : Int := if n = 0 ∨ most < 0 then (if n = 0 then 1 else 0) else (wayIt most (n - 1).toNat).sum
def manyF (n most : Int) : Int := gt (flIt n.toNat (min most n + 1).toNat) n
/-! by force -/
def stepN (lower f : List Nat) : Nat := (List.zipWith (· * ·) lower f).sum
/-- f from behind -/
def flF : List Nat → Nat → List Nat → (List Nat → Bool) → Bool
  | _, 0, acc, k => forceL acc.reverse k
  | lower, n + 1, acc, k => forceN (stepN lower acc) fun x => flF lower n (x :: acc) k
def castL (l : List Nat) : List Int := l.map fun x : Nat => (x : Int)
def nextF (m : Nat) (ways : List Nat) : List Nat := match sufF ways.reverse 0 [] with
  | [] => [0]
  | x :: l => x :: (x :: l).take m
def chkD (m : Nat) : List Nat → List Nat → Bool
  | [], _ => true
  | x :: f, ways => decide (x = ways.sum) && forceL (nextF m ways) fun w => chkD m f w
def chk24 : Nat → Nat → List Nat → Bool
  | 0, _, _ => true
  | r + 1, m, f => flF f 40 [1] fun f' => chkD m f'.tail [1] && chk24 r (m + 1) f'
/-! bounds -/
def fct : Nat → Nat
  | 0 => 1
  | n + 1 => (n + 1) * fct n
theorem fct_mul (t : Nat) : ∀ u, fct t * fct u ≤ fct (t + u)
  | 0 => by simp [fct]
  | u + 1 => by
    have ih := fct_mul t u
    show fct t * ((u + 1) * fct u) ≤ (t + u + 1) * fct (t + u)
    calc fct t * ((u + 1) * fct u) = (u + 1) * (fct t * fct u) := by rw [Nat.mul_left_comm]
      _ ≤ (u + 1) * fct (t + u) := Nat.mul_le_mul_left _ ih
      _ ≤ (t + u + 1) * fct (t + u) := Nat.mul_le_mul_right _ (by omega)
theorem fct_mono {a b : Nat} (h : a ≤ b) : fct a ≤ fct b := by
  induction b with
  | zero => obtain rfl : a = 0 := by omega
            exact Nat.le_refl _
  | succ b ih =>
    by_cases e : a = b + 1
    · subst e; exact Nat.le_refl _
    · refine Nat.le_trans (ih (by omega)) ?_
      show fct b ≤ (b + 1) * fct b
      exact Nat.le_mul_of_pos_left _ (by omega)
def FB (l : List Int) : Prop := ∀ i : Int, 0 ≤ i → i < l.length → 0 ≤ gt l i ∧ gt l i ≤ (fct i.toNat : Int)
theorem sum_le {α : Type} (c : Int) : ∀ (l : List α) (f : α → Int), (∀ x ∈ l, 0 ≤ f x ∧ f x ≤ c) → 0 ≤ (l.map f).sum ∧ (l.map f).sum ≤ l.length * c
  | [], _, _ => by simp
  | x :: l, f, h => by
    have ih := sum_le c l f fun y hy => h y (by simp [hy])
    have hx := h x (by simp)
    rw [List.map_cons, List.sum_cons, List.length_cons, Int.natCast_add, Int.add_mul]
    simp only [Int.natCast_one, Int.one_mul]
    omega
theorem FB.step {lower f : List Int} (h1 : FB lower) (h2 : FB f) (h : f.length ≤ lower.length) (h0 : 0 < f.length) : 0 ≤ fstep lower f ∧ fstep lower f ≤ (fct f.length : Int) := by
  have := sum_le (fct (f.length - 1) : Int) (rg 0 f.length) (fun top => gt lower top * gt f ((f.length : Int) - 1 - top)) fun t ht => by
    have ht2 := rg_mem.mp ht
    obtain ⟨a1, a2⟩ := h1 t (by omega) (by omega)
    obtain ⟨b1, b2⟩ := h2 ((f.length : Int) - 1 - t) (by omega) (by omega)
    refine ⟨Int.mul_nonneg a1 b1, ?_⟩
    refine Int.le_trans (Int.mul_le_mul a2 b2 b1 (by omega)) ?_
    rw [← Int.natCast_mul]
    have := fct_mul t.toNat ((f.length : Int) - 1 - t).toNat
    rw [show t.toNat + ((f.length : Int) - 1 - t).toNat = f.length - 1 by omega] at this
    omega
  refine ⟨this.1, Int.le_trans this.2 ?_⟩
  rw [rg_len, show ((f.length : Int) - 0).toNat = f.length by omega, ← Int.natCast_mul]
  obtain ⟨j, hj⟩ : ∃ j, f.length = j + 1 := ⟨f.length - 1, by omega⟩
  rw [hj]; exact Int.le_refl _
theorem FB.snoc {f : List Int} {x : Int} (h : FB f) (hx : 0 ≤ x ∧ x ≤ (fct f.length : Int)) : FB (f ++ [x]) := fun i h0 h1 => by
  rw [List.length_append, List.length_singleton] at h1
  unfold gt
  by_cases e : i < f.length
  · have := h i h0 e
    unfold gt at this
    rw [List.getD_eq_getElem?_getD] at this ⊢
    rw [List.getElem?_append_left (by omega)]; exact this
  · have : i.toNat = f.length := by omega
    rw [List.getD_eq_getElem?_getD, this, List.getElem?_append_right (Nat.le_refl _), Nat.sub_self]; exact hx
theorem FB.one : FB [1] := fun i h0 h1 => by
  obtain rfl : i = 0 := by simp at h1; omega
  decide
theorem FB.flatO {lower : List Int} (h : FB lower) : ∀ {n : Nat}, n + 1 ≤ lower.length → FB (flatO lower n)
  | 0, _ => FB.one
  | n + 1, hn => by
    rw [TM.flatO]
    have := FB.flatO h (n := n) (by omega)
    exact this.snoc (h.step this (by rw [flatO_len]; omega) (by rw [flatO_len]; omega))
theorem FB.flIt (n : Nat) : ∀ k, FB (flIt n k)
  | 0 => fun i h0 h1 => by
    rw [TM.flIt] at h1 ⊢
    unfold gt
    rw [List.getD_eq_getElem?_getD]
    cases e : i.toNat with
    | zero => exact ⟨show (0 : Int) ≤ 1 by decide, show (1 : Int) ≤ 1 by decide⟩
    | succ j =>
      show 0 ≤ ((List.replicate n (0 : Int))[j]?).getD default ∧ ((List.replicate n (0 : Int))[j]?).getD default ≤ _
      rw [List.getElem?_replicate]
      split <;> exact ⟨by decide, by show (0 : Int) ≤ _; omega⟩
  | k + 1 => (FB.flIt n k).flatO (by rw [flIt_len]; exact Nat.le_refl _)
/-- one of two factors is small -/
theorem FB.mul {l m : List Int} (h1 : FB l) (h2 : FB m) {i j : Int} (hi : 0 ≤ i ∧ i < l.length) (hj : 0 ≤ j ∧ j < m.length) (hs : i + j ≤ 39) : CMul (gt l i) (gt m j) := by
  have big : (fct 19 : Int) < 2 ^ 64 := by decide
  by_cases e : i ≤ 19
  · obtain ⟨a, b⟩ := h1 i hi.1 hi.2
    have := fct_mono (show i.toNat ≤ 19 by omega)
    exact .inl ⟨by omega, by omega⟩
  · obtain ⟨a, b⟩ := h2 j hj.1 hj.2
    have := fct_mono (show j.toNat ≤ 19 by omega)
    exact .inr ⟨by omega, by omega⟩
end TM


set_option Elab.async false
set_option linter.all false
/-! ### trees hung by drops -/
namespace TM
open GL
theorem T.same {t t' : List Int} {a b : Nat} {e : Int} (h : T t a b e) : (∀ p, a ≤ p → p < b → nb t p = nb t' p) → T t' a b e := by
  induction h with
  | nil a e => intro _; exact .nil a e
  | node h1 h2 h3 h4 h5 i1 i2 =>
    intro g
    exact .node h1 h2 (by rw [← g _ h1 h2]; exact h3) (i1 fun p p1 p2 => g p p1 (by omega)) (i2 fun p p1 p2 => g p (by omega) p2)
/-- what stands open, from the bottom: each with what hangs at it on its left -/
inductive Ch (t : List Int) : Nat → Int → List Nat → Nat → Prop
  | nil (a : Nat) (e : Int) : Ch t a e [] a
  | cons {a h i : Nat} {e : Int} {s : List Nat} : a ≤ h → nb t h = e → T t a h h → Ch t (h + 1) h s i → Ch t a e (h :: s) i
theorem Ch.le {t : List Int} {a i : Nat} {e : Int} {s : List Nat} (h : Ch t a e s i) : a ≤ i := by
  induction h with
  | nil => exact Nat.le_refl _
  | cons h1 _ _ _ ih => omega
theorem Ch.fold {t : List Int} {a i : Nat} {e : Int} {s : List Nat} (h : Ch t a e s i) : T t a i e := by
  induction h with
  | nil a e => exact .nil a e
  | cons h1 h2 h3 h4 ih => exact .node h1 (by have := h4.le; omega) h2 h3 ih
theorem Ch.same {t t' : List Int} {a i : Nat} {e : Int} {s : List Nat} (h : Ch t a e s i) : (∀ p, a ≤ p → p < i → nb t p = nb t' p) → Ch t' a e s i := by
  induction h with
  | nil a e => intro _; exact .nil a e
  | cons h1 h2 h3 h4 ih =>
    intro g
    have := h4.le
    exact .cons h1 (by rw [← g _ h1 (by omega)]; exact h2) (h3.same fun p p1 p2 => g p p1 (by omega)) (ih fun p p1 p2 => g p (by omega) p2)
theorem Ch.split {t : List Int} : ∀ {s1 : List Nat} {a i : Nat} {e : Int} {s2 : List Nat}, Ch t a e (s1 ++ s2) i →
    ∃ m e', Ch t a e s1 m ∧ Ch t m e' s2 i ∧ (s1 = [] → e' = e) ∧ (∀ h : s1 ≠ [], e' = (s1.getLast h : Int))
  | [], a, i, e, s2, h => ⟨a, e, .nil a e, h, fun _ => rfl, fun z => absurd rfl z⟩
  | x :: s1, a, i, e, s2, h => by
    cases h with
    | cons h1 h2 h3 h4 =>
      obtain ⟨m, e', c1, c2, c3, c4⟩ := Ch.split h4
      refine ⟨m, e', .cons h1 h2 h3 c1, c2, fun z => by simp at z, fun _ => ?_⟩
      cases s1 with
      | nil => rw [c3 rfl]; rfl
      | cons y l => rw [c4 (by simp)]; simp
theorem Ch.app {t : List Int} : ∀ {s1 : List Nat} {a m i : Nat} {e : Int} {s2 : List Nat}, Ch t a e s1 m → Ch t m (match s1.getLast? with | none => e | some x => (x : Int)) s2 i → Ch t a e (s1 ++ s2) i
  | [], a, m, i, e, s2, h1, h2 => by cases h1; exact h2
  | x :: s1, a, m, i, e, s2, h1, h2 => by
    cases h1 with
    | cons g1 g2 g3 g4 =>
      refine .cons g1 g2 g3 (Ch.app g4 ?_)
      cases s1 with
      | nil => exact h2
      | cons y l => rw [List.getLast?_cons_cons] at h2; exact h2
theorem Ch.in {t : List Int} {a i : Nat} {e : Int} {s : List Nat} (h : Ch t a e s i) : ∀ x ∈ s, a ≤ x ∧ x < i := by
  induction h with
  | nil => intro x hx; cases hx
  | cons h1 _ _ h4 ih =>
    intro x hx
    have := h4.le
    rcases List.mem_cons.mp hx with rfl | hx
    · omega
    · have := ih x hx; omega
/-- one place, after so many drops -/
def hone (p : List Int × List Int) (i : Nat) (d : Int) : List Int × List Int :=
  let left : Int := (p.2.length : Int) - d
  let E1 := if 0 < d then p.1.set (gt p.2 left).toNat i else p.1
  let S1 := p.2.take left.toNat
  (if 0 < left then E1.set i (gtB S1 1) else E1, S1 ++ [(i : Int)])
def hst (drops : List Int) : Nat → List Int × List Int
  | 0 => (List.replicate drops.length (-1), [])
  | i + 1 => hone (hst drops i) i (nb drops i)
def okD (drops : List Int) (i : Nat) : Prop := ∀ j, j < i → 0 ≤ nb drops j ∧ nb drops j ≤ ((hst drops j).2.length : Int)
structure HI (E : List Int) (S : List Int) (n i : Nat) : Prop where
  len : E.length = n
  rest : ∀ p, i ≤ p → p < n → nb E p = -1
  ch : ∃ s : List Nat, S = s.map (fun x : Nat => (x : Int)) ∧ Ch E 0 (-1) s i
theorem nb_set {l : List Int} {i p : Nat} {x : Int} (h : i < l.length) : nb (l.set i x) p = if p = i then x else nb l p := by
  unfold nb
  rw [List.getD_eq_getElem?_getD, List.getElem?_set, List.getD_eq_getElem?_getD]
  by_cases e : i = p
  · rw [if_pos e, if_pos e.symm, if_pos h]; rfl
  · rw [if_neg e, if_neg (Ne.symm e)]
theorem nb_rep {n p : Nat} (h : p < n) : nb (List.replicate n (-1)) p = -1 := by
  unfold nb; rw [List.getD_eq_getElem?_getD, List.getElem?_replicate, if_pos h]; rfl
theorem hi_init (n : Nat) : HI (List.replicate n (-1)) [] n 0 := ⟨List.length_replicate .., fun p _ h => nb_rep h, [], rfl, .nil _ _⟩
theorem hi_step {E S : List Int} {n i : Nat} {d : Int} (h : HI E S n i) (hi : i < n) (hd : 0 ≤ d ∧ d ≤ S.length) : HI (hone (E, S) i d).1 (hone (E, S) i d).2 n (i + 1) := by
  obtain ⟨s, rfl, hc⟩ := h.ch
  have hlen := h.len
  rw [List.length_map] at hd
  obtain ⟨L, hL⟩ : ∃ L : Nat, (s.length : Int) - d = L := ⟨((s.length : Int) - d).toNat, by omega⟩
  have hsp : s.take L ++ s.drop L = s := List.take_append_drop L s
  rw [← hsp] at hc
  obtain ⟨m, e', c1, c2, c3, c4⟩ := hc.split
  have hm1 := c1.le
  have hm2 := c2.le
  have hl1 : (s.take L).length = L := by rw [List.length_take]; omega
  -- the first change
  obtain ⟨E1, hE1, t1, f1, l1⟩ : ∃ E1, E1 = (if 0 < d then E.set (gt (s.map fun x : Nat => (x : Int)) (L : Int)).toNat i else E) ∧ T E1 m i i ∧ (∀ p, p < m ∨ i ≤ p → nb E1 p = nb E p) ∧ E1.length = n := by
    refine ⟨_, rfl, ?_⟩
    by_cases hz : 0 < d
    · rw [if_pos hz]
      cases hd2 : s.drop L with
      | nil =>
        have := congrArg List.length hd2
        rw [List.length_drop] at this
        simp at this; omega
      | cons x s2 =>
        rw [hd2] at c2
        have hx : gt (s.map fun x : Nat => (x : Int)) (L : Int) = (x : Int) := by
          unfold gt
          have : s[L]? = some x := by
            have := congrArg (fun l => l[0]?) hd2
            simpa using this
          rw [List.getD_eq_getElem?_getD, List.getElem?_map, Int.toNat_natCast, this]; rfl
        rw [hx, Int.toNat_natCast]
        cases c2 with
        | cons g1 g2 g3 g4 =>
          have hxi := g4.le
          have hxl : x < E.length := by omega
          refine ⟨.node g1 (by omega) (by rw [nb_set hxl, if_pos rfl]) (g3.same fun p p1 p2 => by rw [nb_set hxl, if_neg (by omega)]) (g4.fold.same fun p p1 p2 => by rw [nb_set hxl, if_neg (by omega)]), fun p hp => by rw [nb_set hxl, if_neg (by omega)], by rw [List.length_set]; exact hlen⟩
    · rw [if_neg hz]
      have hd0 : s.drop L = [] := by
        apply List.eq_nil_of_length_eq_zero
        rw [List.length_drop]; omega
      rw [hd0] at c2
      cases c2
      exact ⟨.nil _ _, fun _ _ => rfl, hlen⟩
  have hleft : (((s.map fun x : Nat => (x : Int)).length : Nat) : Int) - d = L := by rw [List.length_map]; exact hL
  unfold hone
  simp only [hleft, Int.toNat_natCast, ← hE1]
  have hS1 : (s.map fun x : Nat => (x : Int)).take L = (s.take L).map fun x : Nat => (x : Int) := List.map_take.symm
  -- the second change
  obtain ⟨E2, hE2, q1, q2, l2⟩ : ∃ E2, E2 = (if (0 : Int) < L then E1.set i (gtB ((s.map fun x : Nat => (x : Int)).take L) 1) else E1) ∧ nb E2 i = e' ∧ (∀ p, p ≠ i → nb E2 p = nb E1 p) ∧ E2.length = n := by
    refine ⟨_, rfl, ?_⟩
    by_cases hz : (0 : Int) < L
    · rw [if_pos hz, hS1]
      have hne : s.take L ≠ [] := fun z => by rw [z] at hl1; simp at hl1; omega
      have hg : gtB ((s.take L).map fun x : Nat => (x : Int)) 1 = e' := by
        rw [c4 hne]
        unfold gtB
        rw [List.getD_eq_getElem?_getD, List.getElem?_map, List.length_map, ← List.getLast?_eq_getElem?, List.getLast?_eq_some_getLast hne]; rfl
      rw [hg]
      exact ⟨by rw [nb_set (by omega), if_pos rfl], fun p hp => by rw [nb_set (by omega), if_neg hp], by rw [List.length_set]; exact l1⟩
    · rw [if_neg hz]
      have h0 : s.take L = [] := List.eq_nil_of_length_eq_zero (by omega)
      have := c3 h0
      rw [this]
      have hr := h.rest i (Nat.le_refl _) hi
      exact ⟨by rw [f1 i (.inr (Nat.le_refl _))]; exact hr, fun _ _ => rfl, l1⟩
  simp only [← hE2]
  refine ⟨l2, fun p p1 p2 => by rw [q2 p (by omega), f1 p (.inr (by omega))]; exact h.rest p (by omega) p2, s.take L ++ [i], by rw [hS1, List.map_append]; rfl, ?_⟩
  have c1' : Ch E2 0 (-1) (s.take L) m := c1.same fun p _ p2 => by rw [q2 p (by omega), f1 p (.inl p2)]
  refine c1'.app ?_
  have he : (match (s.take L).getLast? with | none => (-1 : Int) | some x => (x : Int)) = e' := by
    cases hs : s.take L with
    | nil => rw [c3 hs]; rfl
    | cons y l =>
      have hne : s.take L ≠ [] := by rw [hs]; simp
      rw [← hs, List.getLast?_eq_some_getLast hne, c4 hne]
  rw [he]
  exact .cons hm2 q1 (t1.same fun p p1 p2 => by rw [q2 p (by omega)]) (.nil _ _)
theorem hst_HI {drops : List Int} : ∀ {i : Nat}, i ≤ drops.length → okD drops i → HI (hst drops i).1 (hst drops i).2 drops.length i
  | 0, _, _ => hi_init _
  | i + 1, h, ho => by
    have ih := hst_HI (i := i) (by omega) fun j hj => ho j (by omega)
    exact hi_step ih (by omega) (ho i (by omega))
def hungF (drops : List Int) : List Int := (hst drops drops.length).1
theorem hungF_T {drops : List Int} (h : okD drops drops.length) : IsT (hungF drops) ∧ (hungF drops).length = drops.length := by
  have := hst_HI (Nat.le_refl _) h
  obtain ⟨s, _, hc⟩ := this.ch
  refine ⟨?_, this.len⟩
  unfold IsT
  rw [show (hungF drops).length = drops.length from this.len]
  exact hc.fold
theorem hungF_tree {drops : List Int} (h : okD drops drops.length) (hl : drops.length ≤ 40) : isTree (hungF drops) = true :=
  isTree_iff.mpr ⟨by rw [(hungF_T h).2]; exact hl, (hungF_T h).1⟩
theorem hst_size {drops : List Int} : ∀ {i : Nat}, okD drops i → ((hst drops i).2.length : Int) = i - ((drops.take i).sum) ∨ drops.length < i
  | 0, _ => .inl (by simp [hst])
  | i + 1, h => by
    by_cases hi : drops.length < i + 1
    · exact .inr hi
    rcases hst_size (i := i) fun j hj => h j (by omega) with e | e
    · left
      have hb := h i (by omega)
      have ht : (drops.take (i + 1)).sum = (drops.take i).sum + nb drops i := by
        refine take_sum ?_
        unfold nb
        rw [List.getD_eq_getElem?_getD, List.getElem?_eq_getElem (by omega)]; rfl
      rw [ht]
      show ((((hst drops i).2.take _) ++ [(i : Int)]).length : Int) = _
      rw [List.length_append, List.length_take, List.length_singleton]
      show ((min ((((hst drops i).2.length : Int) - nb drops i)).toNat _ + 1 : Nat) : Int) = _
      omega
    · omega
end TM


set_option Elab.async false
set_option linter.all false
/-! ### rows that a tree fits -/
namespace TM
open GL
/-- each number is no less than its elder's, and greater where the elder stands behind -/
def Fits (t row : List Int) : Prop := ∀ p : Nat, p < t.length → 0 ≤ nb t p → nb row (nb t p).toNat + (if (p : Int) < nb t p then 1 else 0) ≤ nb row p
theorem T.above {t row : List Int} (hf : Fits t row) {a b : Nat} {e : Int} (h : T t a b e) : b ≤ t.length → 0 ≤ e → (e < a ∨ (b : Int) ≤ e) → ∀ j, a ≤ j → j < b → nb row e.toNat + (if (j : Int) < e then 1 else 0) ≤ nb row j := by
  induction h with
  | nil a e => intro _ _ _ j h1 h2; omega
  | @node a b h e h1 h2 h3 h4 h5 i1 i2 =>
    intro hb he ho j j1 j2
    have hh := hf h (by omega) (by rw [h3]; exact he)
    rw [h3] at hh
    rcases Nat.lt_trichotomy j h with z | z | z
    · have := i1 (by omega) (by omega) (.inr (Int.le_refl _)) j j1 z
      rw [if_pos (by omega), Int.toNat_natCast] at this
      split at hh <;> split <;> omega
    · subst z; exact hh
    · have := i2 hb (by omega) (.inl (by omega)) j z j2
      rw [if_neg (by omega), Int.toNat_natCast] at this
      split at hh <;> split <;> omega
theorem T.fitR {t row : List Int} (hf : Fits t row) {a b : Nat} {e : Int} (h : T t a b e) : b ≤ t.length → TR t row a b e := by
  induction h with
  | nil a e => intro _; exact .nil a e
  | @node a b h e h1 h2 h3 h4 h5 i1 i2 =>
    intro hb
    refine .node h1 h2 h3 (fun j j1 j2 => ?_) (fun j j1 j2 => ?_) (i1 (by omega)) (i2 hb)
    · have := h4.above hf (by omega) (by omega) (.inr (Int.le_refl _)) j j1 j2
      rw [if_pos (by omega), Int.toNat_natCast] at this; omega
    · have := h5.above hf hb (by omega) (.inl (by omega)) j j1 j2
      rw [if_neg (by omega), Int.toNat_natCast] at this; omega
theorem fits_tree {t row : List Int} (ht : isTree t = true) (hl : row.length = t.length) (hf : Fits t row) : treeOf row = t := by
  refine tree_of_TR hl ?_
  rw [hl]
  exact T.fitR hf (isTree_iff.mp ht).2 (Nat.le_refl _)
end TM


set_option Elab.async false
set_option linter.all false
/-! ### the laws' own hanging, ways and trees (the laws with pools) -/
namespace TM
open GL
/-! drops that can be hung -/
def dok (l : List Int) : Prop := ∀ j, j < l.length → 0 ≤ nb l j ∧ nb l j ≤ (j : Int) - (l.take j).sum
theorem dok_nil : dok [] := fun j h => absurd h (Nat.not_lt_zero _)
theorem nb_snoc {l : List Int} {d : Int} {j : Nat} : nb (l ++ [d]) j = if j < l.length then nb l j else if j = l.length then d else 0 := nb_app rfl
theorem dok_snoc {l : List Int} {d : Int} (h : dok l) (hd : 0 ≤ d ∧ d ≤ (l.length : Int) - l.sum) : dok (l ++ [d]) := fun j hj => by
  rw [List.length_append, List.length_singleton] at hj
  rw [nb_snoc]
  by_cases e : j < l.length
  · rw [if_pos e, List.take_append_of_le_length (by omega)]; exact h j e
  · have : j = l.length := by omega
    subst this
    rw [if_neg (by omega), if_pos rfl, List.take_left']
    · exact hd
    · rfl
theorem dok_okD {l : List Int} (h : dok l) : ∀ i, i ≤ l.length → okD l i
  | 0, _ => fun j hj => absurd hj (Nat.not_lt_zero _)
  | i + 1, hi => by
    have ih := dok_okD h i (by omega)
    intro j hj
    by_cases e : j < i
    · exact ih j e
    · have : j = i := by omega
      subst this
      have := h j (by omega)
      rcases hst_size ih with z | z
      · omega
      · omega
theorem hst_in {drops : List Int} {i : Nat} (hi : i ≤ drops.length) (h : okD drops i) : ∀ x ∈ (hst drops i).2, 0 ≤ x ∧ x < i := by
  obtain ⟨s, e, hc⟩ := (hst_HI hi h).ch
  intro x hx
  rw [e] at hx
  obtain ⟨y, hy, rfl⟩ := List.mem_map.mp hx
  have := hc.in y hy
  omega
theorem hst_len {drops : List Int} {i : Nat} (hi : i ≤ drops.length) (h : okD drops i) : (hst drops i).1.length = drops.length := (hst_HI hi h).len
/-- amid the popping -/
def hmid (E S : List Int) (d : Int) (place : Int) (t : Nat) : List Int := if 0 < d ∧ (t : Int) = d then E.set (gt S ((S.length : Int) - d)).toNat place else E
theorem gtB_take {S : List Int} {t : Nat} (h : t < S.length) : gtB (S.take (S.length - t)) 1 = gt S ((S.length : Int) - t - 1) := by
  unfold gtB gt
  rw [List.length_take, List.getD_eq_getElem?_getD, List.getD_eq_getElem?_getD, List.getElem?_take, if_pos (by omega)]
  congr 2; omega
theorem set_self {E : List Int} {x : Int} (h : 0 ≤ x ∧ x < E.length) : E.set x.toNat (gt E x) = E := by
  refine List.ext_getElem? fun k => ?_
  rw [List.getElem?_set]
  split
  · rename_i e
    subst e
    rw [if_pos (by omega), gt_get (l := E) (i := x) h]
  · rfl
theorem hmid_step {E S : List Int} {d place : Int} {t : Nat} {x : Int} (ht : (t : Int) < d) (hd : d ≤ S.length) (hx : x = gtB (S.take (S.length - t)) 1) (hin : 0 ≤ x ∧ x < E.length) :
    (hmid E S d place t).set x.toNat (if (t : Int) = d - 1 then place else gt (hmid E S d place t) x) = hmid E S d place (t + 1) := by
  have e0 : hmid E S d place t = E := by unfold hmid; rw [if_neg (by omega)]
  rw [e0]
  by_cases e : (t : Int) = d - 1
  · rw [if_pos e]
    unfold hmid
    rw [if_pos (by omega), hx, gtB_take (by omega)]
    congr 3; omega
  · rw [if_neg e]
    unfold hmid
    rw [if_neg (by omega)]
    exact set_self hin
theorem take_pop {S : List Int} {t : Nat} (h : t < S.length) : (S.take (S.length - t)).dropLast = S.take (S.length - (t + 1)) := by
  rw [List.dropLast_eq_take, List.length_take, List.take_take]; congr 1; omega
theorem hone_mid {E S E1 S1 : List Int} {d : Int} {i : Nat} (h0 : 0 ≤ d ∧ d ≤ S.length) (hE : E1 = hmid E S d i d.toNat) (hS : S1 = S.take (S.length - d.toNat)) :
    hone (E, S) i d = ((if S1 ≠ [] then E1.set i (gtB S1 1) else E1), S1 ++ [(i : Int)]) := by
  have e1 : E1 = if 0 < d then E.set (gt S ((S.length : Int) - d)).toNat i else E := by
    rw [hE]; unfold hmid
    by_cases z : 0 < d
    · rw [if_pos z, if_pos (by omega)]
    · rw [if_neg z, if_neg (by omega)]
  have e2 : S1 = S.take ((S.length : Int) - d).toNat := by rw [hS]; congr 1; omega
  have hl : S1.length = S.length - d.toNat := by rw [hS, List.length_take]; omega
  have e3 : (0 : Int) < (S.length : Int) - d ↔ S1 ≠ [] := by
    rw [← List.length_pos_iff, hl]; omega
  unfold hone
  simp only [← e1, ← e2]
  by_cases z : S1 = []
  · rw [if_neg (fun y => e3.mp y z), if_neg (fun y => y z)]
  · rw [if_pos (e3.mpr z), if_pos z]
/-! ways, with so much breath -/
theorem way_stepN {t F : List Int} {N : Nat} {r : Option (List Int)} {x : Int} (h0 : F.length ≤ N) (h1 : r = (up t (N - F.length) x).map (F ++ ·)) (hx : ¬ x = -1) (h2 : ¬ (x < 0 ∨ (t.length : Int) ≤ x)) (h3 : ¬ F.length = N) :
    r = (up t (N - (F ++ [x]).length) (gt t x)).map ((F ++ [x]) ++ ·) := by
  rw [h1]
  have : N - F.length = (N - (F ++ [x]).length) + 1 := by rw [List.length_append, List.length_singleton]; omega
  rw [this, up_step (by omega)]
  cases up t (N - (F ++ [x]).length) (gt t x) with
  | none => rfl
  | some w => show some (F ++ (x :: w)) = some ((F ++ [x]) ++ w); rw [List.append_assoc]; rfl
def upM (t : List Int) (p : Int) : Option (List Int) := up t (t.length + 1) (gt t p)
theorem upM_tree {t : List Int} {p : Int} (h : isTree t = true) (hp : 0 ≤ p ∧ p < t.length) : upM t p = some (ups t p) := by
  have h1 := oget_some (ups_some h hp)
  exact up_more _ _ 1 _ _ h1
def flatAtM (t : List Int) (p : Nat) : Option Int := (upM t p).map fun w => behind w p
def flatM (t : List Int) : Option (List Int) := if (List.range t.length).all (fun p => (flatAtM t p).isSome) then some ((List.range t.length).map fun p => (flatAtM t p).getD 0) else none
theorem flatM_none {t : List Int} {p : Nat} (h : p < t.length) (h2 : flatAtM t p = none) : flatM t = none := by
  unfold flatM
  rw [if_neg]
  intro z
  have := List.all_eq_true.mp z p (List.mem_range.mpr h)
  rw [h2] at this; cases this
theorem flatM_some {t ns : List Int} (hl : ns.length = t.length) (h : ∀ p, p < t.length → flatAtM t p = some (nb ns p)) : flatM t = some ns := by
  unfold flatM
  rw [if_pos (List.all_eq_true.mpr fun p hp => by rw [h p (List.mem_range.mp hp)]; rfl)]
  congr 1
  refine List.ext_getElem? fun p => ?_
  rw [List.getElem?_map]
  by_cases hp : p < t.length
  · rw [List.getElem?_range hp]
    simp only [Option.map_some]
    rw [h p hp]
    unfold nb
    rw [List.getD_eq_getElem?_getD, List.getElem?_eq_getElem (by omega)]; rfl
  · rw [List.getElem?_eq_none (by rw [List.length_range]; omega), List.getElem?_eq_none (by omega)]; rfl
theorem flat_stepM {t ns : List Int} {i : Nat} {v : Int} (h1 : ns.length = i) (h2 : ∀ p : Nat, p < i → flatAtM t p = some (nb ns p)) (h3 : flatAtM t i = some v) : (ns ++ [v]).length = i + 1 ∧ ∀ p : Nat, p < i + 1 → flatAtM t p = some (nb (ns ++ [v]) p) := by
  refine ⟨by rw [List.length_append, h1]; rfl, fun p hp => ?_⟩
  rw [nb_app h1]
  by_cases e : p < i
  · rw [if_pos e]; exact h2 p e
  · have : p = i := by omega
    subst this
    rw [if_neg (by omega), if_pos rfl]; exact h3
theorem flatM_tree {t : List Int} (h : isTree t = true) : flatM t = some (flatF t) := by
  refine flatM_some (flatF_len _) fun p hp => ?_
  unfold flatAtM
  rw [upM_tree h (by omega), flatF_nb hp]
  obtain ⟨v, hv⟩ := (isT_flat (isTree_iff.mp h).2).1 p hp
  rw [hv]
  unfold flatAt at hv
  unfold ups
  cases e : up t t.length (gt t (p : Int)) with
  | none => rw [e] at hv; cases hv
  | some w => rw [e] at hv; exact hv
/-! the law's elders -/
theorem sl_last {l : List Int} : sl l (some (-1)) none = if l = [] then [] else [gtB l 1] := by
  unfold sl
  have e2 : HT.sIx l.length l.length none = l.length := rfl
  cases hl : l.length with
  | zero =>
    have := List.eq_nil_of_length_eq_zero hl
    subst this
    rfl
  | succ n =>
    have hne : l ≠ [] := fun z => by rw [z] at hl; cases hl
    have e1 : HT.sIx (n + 1) 0 (some (-1)) = n := by unfold HT.sIx; simp only; rw [if_pos (by omega)]; omega
    rw [hl] at e2
    rw [if_neg hne, e1, e2]
    have : l.drop n = [gtB l 1] := by
      unfold gtB
      rw [hl]
      refine List.ext_getElem? fun k => ?_
      rw [List.getElem?_drop]
      cases k with
      | zero =>
        rw [List.getD_eq_getElem?_getD, Nat.add_sub_cancel, Nat.add_zero, List.getElem?_eq_getElem (by omega)]; rfl
      | succ k => rw [List.getElem?_eq_none (by omega)]; rfl
    rw [this]
    exact List.take_of_length_le (by simp)
theorem sl_one {l : List Int} : sl l none (some 1) = if l = [] then [] else [gt l 0] := by
  cases l with
  | nil => rfl
  | cons x l =>
    rw [if_neg (by simp), sl_take (by simp; omega)]; rfl
theorem elder_lists {row A B A' B' : List Int} {p : Int} (h : 0 ≤ p ∧ p < row.length) (hA : A = (rg 0 p).filter fun q => decide (gt row q ≤ gt row p)) (hB : B = (rg (p + 1) row.length).filter fun q => decide (gt row q < gt row p))
    (hA' : A' = sl A (some (-1)) none) (hB' : B' = sl B none (some 1)) :
    (A' = [] ∨ A' ≠ [] ∧ A'.length = 1 ∧ 0 ≤ gt A' 0 ∧ gt A' 0 < row.length) ∧ (B' = [] ∨ B' ≠ [] ∧ B'.length = 1 ∧ 0 ≤ gt B' 0 ∧ gt B' 0 < row.length) ∧
    eld row row.length p.toNat = if A' ≠ [] ∧ B' ≠ [] ∧ gt row (gt B' 0) < gt row (gt A' 0) then gtB ([-1] ++ A' ++ []) 1 else gtB ([-1] ++ A' ++ B') 1 := by
  obtain ⟨k1, k2, k3⟩ := eld_rows h hA hB
  rw [sl_last] at hA'
  rw [sl_one] at hB'
  rw [k3]
  by_cases a : A = []
  · rw [if_pos a] at hA'
    by_cases b : B = []
    · rw [if_pos b] at hB'
      subst hA' hB'
      exact ⟨.inl rfl, .inl rfl, by rw [if_pos a, if_pos b]; simp [gtB]⟩
    · rw [if_neg b] at hB'
      subst hA' hB'
      rcases k2 with z | ⟨_, z1, z2⟩
      · exact absurd z b
      exact ⟨.inl rfl, .inr ⟨by simp, rfl, z1, z2⟩, by rw [if_pos a, if_neg b]; simp [gtB]⟩
  · rw [if_neg a] at hA'
    rcases k1 with z | ⟨_, z1, z2⟩
    · exact absurd z a
    by_cases b : B = []
    · rw [if_pos b] at hB'
      subst hA' hB'
      exact ⟨.inr ⟨by simp, rfl, z1, z2⟩, .inl rfl, by rw [if_neg a, if_pos b]; simp [gtB]⟩
    · rw [if_neg b] at hB'
      rcases k2 with y | ⟨_, y1, y2⟩
      · exact absurd y b
      subst hA' hB'
      refine ⟨.inr ⟨by simp, rfl, z1, z2⟩, .inr ⟨by simp, rfl, y1, y2⟩, ?_⟩
      rw [if_neg a, if_neg b]
      have g1 : gt [gtB A 1] 0 = gtB A 1 := rfl
      have g2 : gt [gt B 0] 0 = gt B 0 := rfl
      rw [g1, g2]
      by_cases c : gt row (gtB A 1) ≤ gt row (gt B 0)
      · rw [if_pos c, if_neg (by omega)]; simp [gtB]
      · rw [if_neg c, if_pos ⟨by simp, by simp, by omega⟩]; simp [gtB]
end TM


set_option Elab.async false
set_option linter.all false
/-! ### a row of a tree, drawn place by place in the order of the ranks -/
namespace TM
open GL
theorem ups_cons {t : List Int} (h : isTree t = true) {p : Int} (hp : 0 ≤ p ∧ p < t.length) (he : ¬ gt t p = -1) : (0 ≤ gt t p ∧ gt t p < t.length) ∧ ups t p = gt t p :: ups t (gt t p) := by
  have h1 := oget_some (ups_some h hp)
  change up t t.length (gt t p) = some (ups t p) at h1
  obtain ⟨n, hn⟩ : ∃ n, t.length = n + 1 := ⟨t.length - 1, by omega⟩
  have hin : 0 ≤ gt t p ∧ gt t p < t.length := by
    refine Decidable.byContradiction fun z => ?_
    rw [up_none he (by omega)] at h1; cases h1
  refine ⟨hin, ?_⟩
  rw [hn, up_step hin] at h1
  cases e : up t n (gt t (gt t p)) with
  | none => rw [e] at h1; cases h1
  | some w =>
    rw [e] at h1
    have h2 := up_more t n 1 _ _ e
    rw [← hn] at h2
    have h3 : ups t (gt t p) = w := by unfold ups; rw [h2]; rfl
    rw [h3]
    exact (Option.some.inj h1).symm
def rk (t : List Int) (p : Int) : Int := ((ups t p).length : Int)
theorem rk_elder {t : List Int} (h : isTree t = true) {p : Int} (hp : 0 ≤ p ∧ p < t.length) (he : 0 ≤ gt t p) : (0 ≤ gt t p ∧ gt t p < t.length) ∧ rk t (gt t p) + 1 = rk t p := by
  obtain ⟨h1, h2⟩ := ups_cons h hp (by omega)
  refine ⟨h1, ?_⟩
  unfold rk
  rw [h2, List.length_cons]; omega
def ranksB (t : List Int) (i : Nat) : List (Int × Int) := (List.range i).map fun p : Nat => (rk t (p : Int), (p : Int))
theorem ranksB_succ (t : List Int) (i : Nat) : ranksB t (i + 1) = ranksB t i ++ [(rk t i, (i : Int))] := by
  unfold ranksB; rw [List.range_succ, List.map_append]; rfl
/-- the ranks, in order -/
structure RL (t : List Int) (L : List (Int × Int)) : Prop where
  it : ∀ q ∈ L, q.1 = rk t q.2 ∧ 0 ≤ q.2 ∧ q.2 < t.length
  all : ∀ p : Nat, p < t.length → (rk t p, (p : Int)) ∈ L
  up : L.Pairwise fun a b => a.1 ≤ b.1 ∧ a.2 ≠ b.2
theorem rl_of (t : List Int) : RL t (psort (ranksB t t.length)) := by
  have hp := psort_perm (ranksB t t.length)
  refine ⟨fun q hq => ?_, fun p hp' => ?_, ?_⟩
  · have := hp.mem_iff.mp hq
    obtain ⟨p, h1, h2⟩ := List.mem_map.mp this
    have := List.mem_range.mp h1
    rw [← h2]
    exact ⟨rfl, by show (0 : Int) ≤ (p : Int); omega, by show (p : Int) < _; omega⟩
  · exact hp.mem_iff.mpr (List.mem_map.mpr ⟨p, List.mem_range.mpr hp', rfl⟩)
  · have hs := psort_sorted (ranksB t t.length)
    have hn : ((psort (ranksB t t.length)).map Prod.snd).Nodup := by
      refine (hp.map Prod.snd).nodup_iff.mpr ?_
      unfold ranksB
      rw [List.map_map]
      refine List.pairwise_map.mpr (List.nodup_range.imp fun {a b} h => ?_)
      show (a : Int) ≠ (b : Int)
      omega
    have hn2 : (psort (ranksB t t.length)).Pairwise fun a b => a.2 ≠ b.2 := List.pairwise_map.mp hn
    refine (hs.and hn2).imp fun {a b} ⟨h1, h2⟩ => ⟨?_, h2⟩
    unfold ple at h1
    rw [decide_eq_true_iff] at h1
    omega
theorem RL.lt {t : List Int} {L : List (Int × Int)} (h : RL t L) {k i : Nat} {a b : Int × Int} (hk : k < i) (ha : L[k]? = some a) (hb : L[i]? = some b) : a.1 ≤ b.1 ∧ a.2 ≠ b.2 := by
  obtain ⟨k1, e1⟩ := List.getElem?_eq_some_iff.mp ha
  obtain ⟨i1, e2⟩ := List.getElem?_eq_some_iff.mp hb
  have := List.pairwise_iff_getElem.mp h.up k i k1 i1 hk
  rw [e1, e2] at this; exact this
def KR (t : List Int) (L : List (Int × Int)) (found : List Int) (i : Nat) : Prop := found.length = t.length ∧ ∀ k, k < i → ∀ q, L[k]? = some q → 0 ≤ gt t q.2 → gt found (gt t q.2) + (if q.2 < gt t q.2 then 1 else 0) ≤ gt found q.2
theorem kr_init {t : List Int} {L : List (Int × Int)} {found : List Int} (h : found.length = t.length) : KR t L found 0 := ⟨h, fun k hk => absurd hk (Nat.not_lt_zero _)⟩
theorem kr_same {t : List Int} {L : List (Int × Int)} {found : List Int} {i : Nat} {q : Int × Int} (h : KR t L found i) (hq : L[i]? = some q) (he : ¬ 0 ≤ gt t q.2) : KR t L found (i + 1) :=
  ⟨h.1, fun k hk r hr h0 => by
    by_cases e : k < i
    · exact h.2 k e r hr h0
    · have : k = i := by omega
      subst this
      rw [hq] at hr; cases hr
      exact absurd h0 he⟩
theorem gt_set {l : List Int} {p q : Int} {x : Int} (hp : 0 ≤ p ∧ p < l.length) (hq : 0 ≤ q) : gt (l.set p.toNat x) q = if q = p then x else gt l q := by
  unfold gt
  rw [List.getD_eq_getElem?_getD, List.getElem?_set, List.getD_eq_getElem?_getD]
  by_cases e : q = p
  · subst e
    rw [if_pos rfl, if_pos (by omega), if_pos rfl]; rfl
  · rw [if_neg (by omega), if_neg e]
theorem kr_step {t : List Int} {L : List (Int × Int)} {found : List Int} {i : Nat} {q : Int × Int} {x : Int} (ht : isTree t = true) (hL : RL t L) (h : KR t L found i) (hq : L[i]? = some q) (he : 0 ≤ gt t q.2)
    (hx : gt found (gt t q.2) + (if q.2 < gt t q.2 then 1 else 0) ≤ x) : KR t L (found.set q.2.toNat x) (i + 1) := by
  obtain ⟨q1, q2, q3⟩ := hL.it q (List.mem_of_getElem? hq)
  have hpl : 0 ≤ q.2 ∧ q.2 < found.length := by rw [h.1]; exact ⟨q2, q3⟩
  refine ⟨by rw [List.length_set]; exact h.1, fun k hk r hr h0 => ?_⟩
  obtain ⟨r1, r2, r3⟩ := hL.it r (List.mem_of_getElem? hr)
  obtain ⟨e1, e2⟩ := rk_elder ht ⟨r2, r3⟩ h0
  rw [gt_set hpl e1.1, gt_set hpl r2]
  by_cases e : k < i
  · obtain ⟨l1, l2⟩ := hL.lt e hr hq
    rw [if_neg l2, if_neg (fun z => by rw [z, ← q1, ← r1] at e2; omega)]
    exact h.2 k e r hr h0
  · have : k = i := by omega
    subst this
    rw [hq] at hr; cases hr
    rw [if_pos rfl, if_neg (fun z => by rw [z] at e2; omega)]
    exact hx
theorem kr_done {t : List Int} {L : List (Int × Int)} {found : List Int} (ht : isTree t = true) (hL : RL t L) (h : KR t L found L.length) : treeOf found = t := by
  refine fits_tree ht h.1 fun p hp he => ?_
  obtain ⟨k, hk⟩ := List.mem_iff_getElem?.mp (hL.all p hp)
  have := h.2 k (List.getElem?_eq_some_iff.mp hk).1 _ hk (by rw [gt_nb]; exact he)
  simp only [gt_nb] at this
  have e : gt found (nb t p) = nb found (nb t p).toNat := gt_at he
  rw [e] at this
  exact this
/-! the law's hanging, step by step -/
theorem hung_mid {drops E S E1 S1 : List Int} {i t : Nat} {d place : Int} (hd : 0 ≤ d ∧ d ≤ ((hst drops i).2.length : Int)) (hin : ∀ x ∈ (hst drops i).2, 0 ≤ x ∧ x < (hst drops i).1.length)
    (hS : S = (hst drops i).2.take ((hst drops i).2.length - t)) (hE : E = hmid (hst drops i).1 (hst drops i).2 d place t) (ht : (t : Int) < d) :
    S ≠ [] ∧ E.length = (hst drops i).1.length ∧ (0 ≤ gtB S 1 ∧ gtB S 1 < E.length) := by
  have hl : S.length = (hst drops i).2.length - t := by rw [hS, List.length_take]; omega
  have hne : S ≠ [] := fun z => by rw [z] at hl; simp at hl; omega
  have hEl : E.length = (hst drops i).1.length := by rw [hE]; unfold hmid; split <;> simp
  refine ⟨hne, hEl, ?_⟩
  rw [hEl]
  have hm : gtB S 1 ∈ S := gtB_mem ⟨by decide, List.length_pos_iff.mpr hne⟩
  exact hin _ (List.mem_of_mem_take (by rw [← hS]; exact hm))
theorem hung_turn {drops E S : List Int} {i t : Nat} {d place v : Int} (hd : 0 ≤ d ∧ d ≤ ((hst drops i).2.length : Int)) (hin : ∀ x ∈ (hst drops i).2, 0 ≤ x ∧ x < (hst drops i).1.length)
    (hS : S = (hst drops i).2.take ((hst drops i).2.length - t)) (hE : E = hmid (hst drops i).1 (hst drops i).2 d place t) (ht : (t : Int) < d)
    (hv : v = if (t : Int) = d - 1 then place else gt E (gtB S 1)) :
    S.dropLast = (hst drops i).2.take ((hst drops i).2.length - (t + 1)) ∧ E.set (gtB S 1).toNat v = hmid (hst drops i).1 (hst drops i).2 d place (t + 1) := by
  obtain ⟨h1, h2, h3⟩ := hung_mid (E1 := E) (S1 := S) hd hin hS hE ht
  refine ⟨by rw [hS]; exact take_pop (by omega), ?_⟩
  rw [← hmid_step (E := (hst drops i).1) (S := (hst drops i).2) (x := gtB S 1) ht hd.2 (by rw [hS]) (by rw [← h2]; exact h3), ← hE, hv]
theorem hung_one {drops E S E2 : List Int} {i : Nat} {d : Int} (hd : 0 ≤ d ∧ d ≤ ((hst drops i).2.length : Int)) (hdn : d = nb drops i)
    (hS : S = (hst drops i).2.take ((hst drops i).2.length - d.toNat)) (hE : E = hmid (hst drops i).1 (hst drops i).2 d i d.toNat)
    (j1 : S ≠ [] → E2 = E.set i (gtB S 1)) (j2 : S = [] → E2 = E) : E2 = (hst drops (i + 1)).1 ∧ S ++ [(i : Int)] = (hst drops (i + 1)).2 := by
  have e : hst drops (i + 1) = ((if S ≠ [] then E.set i (gtB S 1) else E), S ++ [(i : Int)]) := by
    rw [hst, ← hdn]; exact hone_mid hd hE hS
  rw [e]
  refine ⟨?_, rfl⟩
  by_cases z : S = []
  · rw [j2 z]; simp [z]
  · rw [j1 z]; simp [z]
theorem pick_two {a b : Int} {p : Prop} [Decidable p] : gt [a, b] (if decide p = true then 1 else 0) = if p then b else a := by
  by_cases h : p <;> simp [h, gt]
end TM


set_option Elab.async false
set_option linter.all false
/-! ### lows by a tree alone -/
namespace TM
open GL
theorem ups_none {t : List Int} {p : Int} (h : gt t p = -1) : ups t p = [] := by
  unfold ups; rw [h, up_top]; rfl
def lowBy (t : List Int) (a b : Int) : Int := gtB (([a] ++ ups t a).filter fun p => decide (a ≤ p ∧ p ≤ b)) 1
end TM


set_option Elab.async false
set_option linter.all false
/-! ### spans by a tree -/
namespace TM
open GL
/-- p hangs under o, or is it -/
def Dsc (t : List Int) (o p : Int) : Prop := o ∈ [p] ++ ups t p
instance (t : List Int) (o p : Int) : Decidable (Dsc t o p) := inferInstanceAs (Decidable (o ∈ [p] ++ ups t p))
def spF (t : List Int) (o : Int) : Nat → Int
  | 0 => o
  | i + 1 => if Dsc t o i then min (spF t o i) i else spF t o i
def spG (t : List Int) (o : Int) : Nat → Int
  | 0 => o
  | i + 1 => if Dsc t o i then max (spG t o i) i else spG t o i
def spanT (t : List Int) (o : Int) : Int × Int := (spF t o t.length, spG t o t.length)
theorem spFG {t : List Int} {o a b : Int} {n : Nat} (ha : 0 ≤ a ∧ a ≤ o ∧ o ≤ b) (h : ∀ p : Nat, p < n → (Dsc t o p ↔ a ≤ p ∧ (p : Int) ≤ b)) : ∀ i, i ≤ n → spF t o i = (if a < i then a else o) ∧ spG t o i = max o (min ((i : Int) - 1) b)
  | 0, _ => ⟨by rw [if_neg (by omega)]; rfl, by show o = _; omega⟩
  | i + 1, hi => by
    obtain ⟨h1, h2⟩ := spFG ha h i (by omega)
    have hd := h i (by omega)
    rw [spF, spG, h1, h2]
    by_cases d : Dsc t o i
    · rw [if_pos d, if_pos d]
      have := hd.mp d
      constructor
      · split <;> split <;> omega
      · omega
    · rw [if_neg d, if_neg d]
      have : ¬ (a ≤ i ∧ (i : Int) ≤ b) := fun z => d (hd.mpr z)
      constructor
      · split <;> split <;> omega
      · omega
theorem dsc_anc {row : List Int} {o p : Nat} (ho : o < row.length) (hp : p < row.length) : Dsc (treeOf row) o p ↔ o = p ∨ Anc row p o := by
  unfold Dsc
  rw [List.mem_append, List.mem_singleton, ups_mem hp ho]
  constructor
  · rintro (z | z)
    · exact .inl (by omega)
    · exact .inr z
  · rintro (z | z)
    · exact .inl (by omega)
    · exact .inr z
/-- how far a place reaches -/
structure Sn (row : List Int) (p a b : Int) : Prop where
  a0 : 0 ≤ a
  ap : a ≤ p
  pb : p ≤ b
  bn : b < row.length
  l : ∀ j : Nat, a ≤ j → (j : Int) < p → nb row p.toNat < nb row j
  r : ∀ j : Nat, p < j → (j : Int) ≤ b → nb row p.toNat ≤ nb row j
  la : 0 < a → nb row (a - 1).toNat ≤ nb row p.toNat
  rb : b + 1 < row.length → nb row (b + 1).toNat < nb row p.toNat
theorem Sn.dsc {row : List Int} {p a b : Int} (h : Sn row p a b) {q : Nat} (hq : q < row.length) : Dsc (treeOf row) p q ↔ a ≤ q ∧ (q : Int) ≤ b := by
  have h1 := h.a0; have h2 := h.ap; have h3 := h.pb; have h4 := h.bn
  have e : p = (p.toNat : Int) := by omega
  rw [e, dsc_anc (by omega) hq]
  constructor
  · rintro (z | z | z)
    · omega
    · refine ⟨by omega, ?_⟩
      refine Decidable.byContradiction fun y => ?_
      have k := h.rb (by omega)
      have := z.2 (b + 1).toNat (by omega) (by omega)
      omega
    · refine ⟨?_, by omega⟩
      refine Decidable.byContradiction fun y => ?_
      have k := h.la (by omega)
      have := z.2 (a - 1).toNat (by omega) (by omega)
      omega
  · rintro ⟨y1, y2⟩
    rcases Nat.lt_trichotomy q p.toNat with z | z | z
    · exact .inr (.inr ⟨z, fun j j1 j2 => h.l j (by omega) (by omega)⟩)
    · exact .inl z.symm
    · refine .inr (.inl ⟨z, fun j j1 j2 => ?_⟩)
      by_cases e2 : j = p.toNat
      · rw [e2]; exact Int.le_refl _
      · exact h.r j (by omega) (by omega)
theorem Sn.span {row : List Int} {p a b : Int} (h : Sn row p a b) : spanT (treeOf row) p = (a, b) := by
  have h1 := h.a0; have h2 := h.ap; have h3 := h.pb; have h4 := h.bn
  have := spFG (t := treeOf row) (o := p) (a := a) (b := b) (n := row.length) ⟨h1, h2, h3⟩ (fun q hq => h.dsc hq) row.length (Nat.le_refl _)
  unfold spanT
  rw [treeOf_len, this.1, this.2, if_pos (by omega)]
  congr 1
  omega
/-! the walk of the chains -/
/-- the lists, amid a chain -/
def spL (f : Int → Int → Int) (t L : List Int) (g : Int → Nat → Int) (i j : Nat) (o : Int) : Int := if o ∈ L.take j then f (g o i) i else g o i
def spRow (n : Nat) (v : Int → Int) : List Int := (rg 0 n).map v
theorem ups_inside {t : List Int} (h : isTree t = true) {p : Int} (hp : 0 ≤ p ∧ p < t.length) : ∀ o ∈ [p] ++ ups t p, 0 ≤ o ∧ o < t.length := fun o ho => by
  rcases List.mem_append.mp ho with z | z
  · rw [List.mem_singleton.mp z]; exact hp
  · exact up_in _ _ _ _ (oget_some (ups_some h hp)) o z
end TM


set_option Elab.async false
set_option linter.all false
/-! ### starts and partings judged -/
namespace TM
open GL
def rises (l : List Int) : Bool := ((rg 0 ((l.length : Int) - 1)).map fun p => decide (gt l p < gt l (p + 1))).all id
theorem rg_sorted (a b : Int) : (rg a b).Pairwise (· < ·) := by
  unfold rg
  refine List.pairwise_map.mpr (List.pairwise_lt_range.imp fun {x y} h => ?_)
  omega
/-- where no start stands -/
def begs (row text : List Int) : List Int := (rg 0 ((text.length : Int) - row.length + 1)).filter fun z => decide (z ∉ starts row text)
def partsB (row other : List Int) (a b : Int) : Bool := decide (0 ≤ a ∧ a ≤ b ∧ b < row.length) && !decide (low row a b = low other a b)
/-- the sizes found so far -/
structure SB (row : List Int) (many : Nat) (sizes : List Int) (i : Nat) : Prop where
  ne : sizes ≠ []
  lo : 0 ≤ gtB sizes 1 ∧ gtB sizes 1 < i + 1
  k : K row (gtB sizes 1).toNat many
  mx : ∀ t : Nat, t < i + 1 → K row t many → (t : Int) ≤ gtB sizes 1
end TM


set_option Elab.async false
set_option linter.all false
/-! ### rows alike by moving, by flat numbers -/
namespace TM
open GL
theorem fits_self {row : List Int} (hl : row.length ≤ 40) : Fits (treeOf row) row := fun p hp he => by
  rw [treeOf_len] at hp
  have ht := isTree_treeOf hl
  have hin := (ups_cons ht (p := (p : Int)) (by rw [treeOf_len]; omega) (by rw [gt_nb]; omega))
  rw [gt_nb] at hin
  obtain ⟨h1, h2⟩ := hin
  rw [treeOf_len] at h1
  have hm : ((nb (treeOf row) p).toNat : Int) ∈ ups (treeOf row) p := by
    rw [h2, Int.toNat_of_nonneg he]; simp
  have ha := (ups_mem (row := row) (p := p) (q := (nb (treeOf row) p).toNat) hp (by omega)).mp hm
  rcases ha with ⟨y, z⟩ | ⟨y, z⟩
  · rw [if_neg (by omega)]
    have := z p (by omega) (Nat.le_refl _); omega
  · rw [if_pos (by omega)]
    have := z p (Nat.le_refl _) y; omega
end TM


set_option Elab.async false
set_option linter.all false
/-! ### the drops of a row hang its tree -/
namespace TM
open GL
def dropsOf (row : List Int) : List Int := (List.range row.length).map fun k => ((opens row k).length : Int) - dep row k
end TM


set_option Elab.async false
set_option linter.all false
/-! ### hung, told with its failure; rows behind their distances -/
namespace TM
open GL
def hungO (drops : List Int) : Option (List Int) := if (List.range drops.length).all (fun j => decide (0 ≤ nb drops j ∧ nb drops j ≤ ((hst drops j).2.length : Int))) then some (hungF drops) else none
noncomputable def rowOf (told : List Int) : List Int := open Classical in if h : ∃ row, told = backs row then h.choose else []
end TM


set_option Elab.async false
set_option linter.all false
/-! ### distances, as a law tells them -/
namespace TM
open GL
end TM


set_option Elab.async false
set_option linter.all false
/-! ### drops as laws tell them; brackets -/
namespace TM
open GL
open PySem (Str)
/-! brackets -/
def brS (st : Option (List Int × Int)) (c : Nat) : Option (List Int × Int) := match st with
  | none => none
  | some (d, m) => if c = 40 then some (d ++ [m], 0) else if c = 41 then some (d, m + 1) else none
def brk (l : List Nat) : Option (List Int × Int) := l.foldl brS (some ([], 0))
def brT (l : List Nat) : Option (List Int) := match brk l with
  | none => none
  | some (d, m) => if 40 < (d.length : Int) ∨ d.sum + m ≠ d.length then none else hungO d
def brOf (d : List Int) : List Nat := (d.map fun x => List.replicate x.toNat 41 ++ [40]).flatten ++ List.replicate ((d.length : Int) - d.sum).toNat 41
def dropT (told : List Int) : Option (List Int) := if told.length ≤ 40 then hungO told else none
end TM
namespace TM
open GL
open PySem (Str)
end TM
namespace TM
open GL
open PySem (Str)
end TM
namespace TM
open GL
open PySem (Str)
end TM
namespace TM
open GL
end TM


set_option Elab.async false
set_option linter.all false
/-! ### texts of trees, written and read -/
namespace TM
open GL
open PySem (Str)
def trText (d : List Int) : Str := orS (TS_ (brOf d)) ("-" : Str)
def readT (text : Str) : Option (List Int) := if text = ("-" : Str) then some [] else match brT (tl text) with
  | none => none
  | some t => if t = [] then none else some t
end TM
namespace TM
open GL
open PySem (Str)
end TM


set_option Elab.async false
set_option linter.all false
/-! ### which places clash -/
namespace TM
open GL
def clP (t row : List Int) (b a : Int) : Bool := decide (gt row b < gt row a + gt (flatF t) b - gt (flatF t) a)
def clAt (t row : List Int) (b : Int) : List (Int × Int) := ((ups t b).filter (clP t row b)).map fun a => (a, b)
def clB (t row : List Int) (n : Nat) : List (Int × Int) := (List.range n).flatMap fun (b : Nat) => clAt t row (b : Int)
def clash (t row : List Int) : List (Int × Int) := psort (clB t row t.length)
theorem clB_succ (t row : List Int) (n : Nat) : clB t row (n + 1) = clB t row n ++ clAt t row (n : Int) := by
  unfold clB
  rw [List.range_succ, List.flatMap_append]
  simp
theorem ups_len40 {t : List Int} (h : isTree t = true) {p : Int} (hp : 0 ≤ p ∧ p < t.length) : (ups t p).length ≤ 40 := by
  have h1 := oget_some (ups_some h hp)
  have h2 := up_len _ _ _ _ h1
  have h3 := isTree_len h
  unfold ups; omega
theorem cl_yes {t row l : List Int} {i : Nat} {a b : Int} (h : l[i]? = some a) {P : List (Int × Int)} (hc : gt row b < gt row a + gt (flatF t) b - gt (flatF t) a) :
    (P ++ ((l.take i).filter (clP t row b)).map fun a => (a, b)) ++ [(a, b)] = P ++ ((l.take (i + 1)).filter (clP t row b)).map fun a => (a, b) := by
  rw [fm_step h (clP t row b) (fun a => (a, b)), if_pos (show clP t row b a = true from decide_eq_true hc), List.append_assoc]
theorem cl_no {t row l : List Int} {i : Nat} {a b : Int} (h : l[i]? = some a) {P : List (Int × Int)} (hc : ¬ gt row b < gt row a + gt (flatF t) b - gt (flatF t) a) :
    (P ++ ((l.take i).filter (clP t row b)).map fun a => (a, b)) = P ++ ((l.take (i + 1)).filter (clP t row b)).map fun a => (a, b) := by
  rw [fm_step h (clP t row b) (fun a => (a, b)), if_neg (show ¬ clP t row b a = true from fun z => hc (of_decide_eq_true z)), List.append_nil]
end TM
namespace TM
open GL
theorem clB_len {t : List Int} (h : isTree t = true) (row : List Int) : ∀ n, n ≤ t.length → (clB t row n).length ≤ 40 * n
  | 0, _ => Nat.le_refl _
  | n + 1, hn => by
    rw [clB_succ, List.length_append]
    have h1 := clB_len h row n (by omega)
    have h2 : (clAt t row (n : Int)).length ≤ 40 := by
      unfold clAt
      rw [List.length_map]
      exact Nat.le_trans (List.length_filter_le ..) (ups_len40 h (by omega))
    omega
theorem clash_len {t : List Int} (h : isTree t = true) (row : List Int) : (clash t row).length ≤ 100000 := by
  unfold clash
  rw [psort_len]
  have h1 := clB_len h row t.length (Nat.le_refl _)
  have h2 := isTree_len h
  omega
end TM


set_option Elab.async false
set_option linter.all false
/-! ### a row for any drops; ranks -/
namespace TM
open GL
/-- the numbers that are open stand at least g apart -/
def Gap (row : List Int) (g : Int) : Prop := (opens row row.length).Pairwise fun p q => nb row p + g ≤ nb row q
/-! how many drops go on -/
def psum (l : List Int) : List Int := (List.range l.length).map fun k => (l.take (k + 1)).sum
def waysR (n : Nat) : Nat → List Int
  | 0 => List.replicate (n + 2) 1
  | r + 1 => psum ((waysR n r).drop 1)
def waysL (n : Int) : List (List Int) := (List.range (n.toNat + 1)).map (waysR n.toNat)
def stillAt (d : List Int) (i : Nat) : Int := i - (d.take i).sum
/-- how many drops are lesser: those that drop less at place j -/
def rkAt (d : List Int) (j : Nat) (k : Nat) : Int := ((List.range k).map fun (f : Nat) => gt (waysR d.length (d.length - 1 - j)) (stillAt d j - f + 1)).sum
def rkB (d : List Int) : Nat → Int
  | 0 => 0
  | j + 1 => rkB d j + rkAt d j (nb d j).toNat
def rank (d : List Int) : Int := rkB d d.length
end TM


set_option Elab.async false
set_option linter.all false
/-! ### drops at a rank -/
namespace TM
open GL
def rs (W : List Int) (s : Int) (k : Nat) : Int := ((List.range k).map fun (f : Nat) => gt W (s - f + 1)).sum
theorem nb_take {d : List Int} {j k : Nat} (h : j < k) : nb (d.take k) j = nb d j := by
  unfold nb
  rw [List.getD_eq_getElem?_getD, List.getD_eq_getElem?_getD, List.getElem?_take, if_pos h]
noncomputable def unrank (n number : Int) : List Int := open Classical in if h : ∃ d : List Int, (d.length : Int) = n ∧ dok d ∧ rank d = number then h.choose else []
/-! how it is reckoned -/
def rkN (n : Nat) (d : List Int) : Nat → Int
  | 0 => 0
  | j + 1 => rkN n d j + rs (waysR n (n - 1 - j)) (stillAt d j) (nb d j).toNat
structure UR (n number0 : Int) (d : List Int) (i : Nat) (number still : Int) : Prop where
  len : d.length = i
  dk : dok d
  st : still = i - d.sum
  num : number0 = rkN n.toNat d i + number
  lo : 0 ≤ number
  hi : number < gt (waysR n.toNat (n.toNat - i)) still
/-- within a turn -/
structure UI (n : Int) (i : Nat) (number1 still : Int) (number drop : Int) : Prop where
  num : number1 = rs (waysR n.toNat (n.toNat - 1 - i)) still drop.toNat + number
  lo : 0 ≤ number
  hi : number < gt (waysR n.toNat (n.toNat - i)) (still - drop)
  d0 : 0 ≤ drop
  d1 : drop ≤ still
end TM


set_option Elab.async false
set_option linter.all false
/-! ### as many drops as trees -/
namespace TM
open GL
def psF : List Nat → Nat → List Nat
  | [], _ => []
  | x :: l, t => (t + x) :: psF l (t + x)
def chk25 : Nat → Nat → List Nat → Bool
  | 0, _, _ => true
  | r + 1, n, row => decide (chN (2 * n) n / (n + 1) = row.headD 0) && forceL (psF (row.drop 1) 0) fun row' => chk25 r (n + 1) row'
end TM
namespace TM
open GL
end TM
namespace TM
open GL
end TM


set_option Elab.async false
set_option linter.all false
/-! ### no row is flatter than the flattest -/
namespace TM
open GL
theorem flat_le {t : List Int} (ht : isTree t = true) {p : Int} (hp : 0 ≤ p ∧ p < t.length) (he : ¬ gt t p = -1) : gt (flatF t) p ≤ gt (flatF t) (gt t p) + (if p < gt t p then 1 else 0) := by
  obtain ⟨h1, h2⟩ := ups_cons ht hp he
  have hf : ∀ q : Int, 0 ≤ q ∧ q < t.length → gt (flatF t) q = behind (ups t q) q := fun q hq => by
    have this : gt ((rg 0 t.length).map fun p => (((ups t p).filter fun o => decide (p < o)).length : Int)) q = gt (flatF t) q := by rw [flat_law ht]
    rw [← this]
    unfold gt
    rw [List.getD_eq_getElem?_getD, List.getElem?_map, rg_get 0 _ _ (by omega)]
    show behind (ups t (0 + (q.toNat : Int))) (0 + (q.toNat : Int)) = _
    rw [show (0 : Int) + (q.toNat : Int) = q by omega]
  rw [hf p hp, hf _ h1, h2, behind_cons]
  have key : behind (ups t (gt t p)) p ≤ behind (ups t (gt t p)) (gt t p) := by
    unfold behind
    by_cases hpe : gt t p ≤ p
    · have : ((ups t (gt t p)).filter fun x => decide (p < x)) = (((ups t (gt t p)).filter fun x => decide (gt t p < x)).filter fun x => decide (p < x)) := by
        rw [List.filter_filter]
        refine List.filter_congr fun x _ => ?_
        rw [Bool.eq_iff_iff, Bool.and_eq_true, decide_eq_true_iff, decide_eq_true_iff]; omega
      rw [this]
      have := List.length_filter_le (fun x => decide (p < x)) ((ups t (gt t p)).filter fun x => decide (gt t p < x))
      omega
    · have : ((ups t (gt t p)).filter fun x => decide (p < x)) = ((ups t (gt t p)).filter fun x => decide (gt t p < x)) := by
        refine List.filter_congr fun x hx => ?_
        rw [Bool.eq_iff_iff, decide_eq_true_iff, decide_eq_true_iff]
        refine ⟨fun hpx => ?_, fun h => by omega⟩
        -- x between p and the elder can't be over the elder
        have hxi := ups_inside ht h1 x (List.mem_append_right _ hx)
        have e := (flat_of_tree ht).2
        have hl : (flatF t).length = t.length := flatF_len t
        have a1 := (ups_mem (row := flatF t) (p := (gt t p).toNat) (q := x.toNat) (by omega) (by omega)).mp (by rw [e, Int.toNat_of_nonneg h1.1, Int.toNat_of_nonneg hxi.1]; exact hx)
        have a2 := (ups_mem (row := flatF t) (p := p.toNat) (q := (gt t p).toNat) (by omega) (by omega)).mp (by rw [e, Int.toNat_of_nonneg hp.1, Int.toNat_of_nonneg h1.1, h2]; simp)
        rcases Int.lt_trichotomy (gt t p) x with z | z | z
        · exact z
        · rw [← z] at a1
          rcases a1 with a1 | a1 <;> omega
        · exfalso
          rcases a1 with a1 | a1
          · rcases a2 with a2 | a2
            · omega
            · have b1 := a1.2 (gt t p).toNat (by omega) (Nat.le_refl _)
              have b2 := a2.2 x.toNat (by omega) (by omega)
              omega
          · omega
      rw [this]; exact Int.le_refl _
  omega
/-- of any row of the tree -/
theorem fits_step {t row : List Int} (ht : isTree t = true) (hr : treeOf row = t) {p : Int} (hp : 0 ≤ p ∧ p < t.length) (he : ¬ gt t p = -1) : gt row (gt t p) + (if p < gt t p then 1 else 0) ≤ gt row p := by
  have hl : row.length ≤ 40 := by have := isTree_len ht; rw [← hr, treeOf_len] at this; exact this
  obtain ⟨h1, _⟩ := ups_cons ht hp he
  have hf := fits_self hl
  rw [hr] at hf
  have := hf p.toNat (by omega) (by rw [← gt_nb, Int.toNat_of_nonneg hp.1]; exact h1.1)
  rw [← gt_nb t, ← gt_nb row p.toNat, Int.toNat_of_nonneg hp.1, ← gt_nb row] at this
  rw [Int.toNat_of_nonneg h1.1] at this
  exact this
theorem flat_top {t : List Int} (ht : isTree t = true) {p : Int} (hp : 0 ≤ p ∧ p < t.length) (he : gt t p = -1) : gt (flatF t) p = 0 := by
  have this : gt ((rg 0 t.length).map fun p => (((ups t p).filter fun o => decide (p < o)).length : Int)) p = gt (flatF t) p := by rw [flat_law ht]
  rw [← this]
  unfold gt
  rw [List.getD_eq_getElem?_getD, List.getElem?_map, rg_get 0 _ _ (by omega)]
  show (((ups t (0 + (p.toNat : Int))).filter _).length : Int) = 0
  rw [show (0 : Int) + (p.toNat : Int) = p by omega, ups_none he]; rfl
theorem goes_up {t row : List Int} (ht : isTree t = true) (hr : treeOf row = t) : ∀ (k : Nat) (p : Int), (ups t p).length ≤ k → 0 ≤ p ∧ p < t.length →
    ((∀ x ∈ row, 0 ≤ x) → gt (flatF t) p ≤ gt row p) ∧ ∀ o ∈ ups t p, gt (flatF t) p - gt (flatF t) o ≤ gt row p - gt row o := by
  intro k
  induction k with
  | zero =>
    intro p hk hp
    have hn : ups t p = [] := List.eq_nil_of_length_eq_zero (by omega)
    by_cases he : gt t p = -1
    · refine ⟨fun h => ?_, fun o ho => by rw [hn] at ho; cases ho⟩
      rw [flat_top ht hp he]
      have hl : row.length = t.length := by rw [← hr, treeOf_len]
      exact h _ (gt_mem ⟨hp.1, by omega⟩)
    · have := (ups_cons ht hp he).2
      rw [hn] at this; cases this
  | succ k ih =>
    intro p hk hp
    by_cases he : gt t p = -1
    · refine ⟨fun h => ?_, fun o ho => by rw [ups_none he] at ho; cases ho⟩
      rw [flat_top ht hp he]
      have hl : row.length = t.length := by rw [← hr, treeOf_len]
      exact h _ (gt_mem ⟨hp.1, by omega⟩)
    · obtain ⟨h1, h2⟩ := ups_cons ht hp he
      rw [h2, List.length_cons] at hk
      obtain ⟨i1, i2⟩ := ih (gt t p) (by omega) h1
      have f1 := flat_le ht hp he
      have f2 := fits_step ht hr hp he
      refine ⟨fun h => by have := i1 h; omega, fun o ho => ?_⟩
      rw [h2] at ho
      rcases List.mem_cons.mp ho with rfl | ho
      · omega
      · have := i2 o ho; omega
/-! all rows of numbers from 0 to 3 -/
def rows4 (n : Int) : List (List Int) := (rg 0 (2 ^ (2 * n).toNat)).map fun code => (rg 0 n).map fun place => code / 2 ^ (2 * place).toNat % 2 ^ 2
def enc4 : List Int → Int
  | [] => 0
  | x :: l => x + 4 * enc4 l
theorem flat_nn {t : List Int} (ht : isTree t = true) : ∀ x ∈ flatF t, 0 ≤ x := fun x hx => by
  rw [← flat_law ht] at hx
  obtain ⟨p, _, rfl⟩ := List.mem_map.mp hx
  omega
end TM
namespace TM
open GL
end TM


set_option Elab.async false
set_option linter.all false
/-! ### rows written and read -/
namespace TM
open GL
open PySem (Str)
open PySem.NumText (AllDigits digitsVal)
def isD (c : Nat) : Bool := decide (48 ≤ c ∧ c ≤ 57)
/-- the figures of a word -/
def figs (l : List Nat) : List Nat := if l.head? = some 45 then l.drop 1 else l
def readN (l : List Nat) : Option Int :=
  if figs l = [] ∨ 60 < (figs l).length ∨ (figs l).all isD = false then none
  else if (figs l).head? = some 48 ∧ l ≠ [48] then none
  else some (if l.head? = some 45 then -((digitsVal (figs l) : Nat) : Int) else ((digitsVal (figs l) : Nat) : Int))
def numT (i : Int) : List Nat := if i < 0 then 45 :: TL.numL i.natAbs else TL.numL i.natAbs
def numS (i : Int) : Str := Str.ofString (toString i)
def rowText (row : List Int) : Str := if row = [] then ("-" : Str) else Str.join (" " : Str) (row.map numS)
def readRow (text : Str) : Option (List Int) := if text = ("-" : Str) then some [] else
  if none ∈ ((PySem.Txt.split text (" " : Str)).map fun w => readN (tl w)) ∨ 40 < (PySem.Txt.split text (" " : Str)).length then none else some (((PySem.Txt.split text (" " : Str)).map fun w => readN (tl w)).map oget)
/-! as the program looks -/
/-! texts cut at blanks -/
end TM


set_option Elab.async false
set_option linter.all false
/-! ### texts of no row, no tree -/
namespace TM
open GL
open PySem (Str)
open PySem.NumText (AllDigits digitsVal)
/-! brackets, looked at -/
def balS (o : Option Int) (c : Nat) : Option Int := match o with
  | none => none
  | some m => if c = 40 then some (m + 1) else if c = 41 then (if m = 0 then none else some (m - 1)) else none
def bal (l : List Nat) : Option Int := l.foldl balS (some 0)
def okS (d : List Int) : Prop := ∀ j, j < d.length → 0 ≤ nb d j ∧ nb d j ≤ (j : Int) - (d.take j).sum
theorem nb_sn0 {d : List Int} {m : Int} {j : Nat} (h : j < d.length) : nb (d ++ [m]) j = nb d j := by
  unfold nb; rw [List.getD_eq_getElem?_getD, List.getD_eq_getElem?_getD, List.getElem?_append_left h]
theorem nb_snL {d : List Int} {m : Int} : nb (d ++ [m]) d.length = m := by
  unfold nb; rw [List.getD_eq_getElem?_getD, List.getElem?_append_right (Nat.le_refl _)]; simp
def badB (s : Option (List Int × Int)) : Prop := s = none ∨ ∃ d m, s = some (d, m) ∧ (¬ okS d ∨ (d.length : Int) - d.sum < m)
def goodB (s : Option (List Int × Int)) (o : Int) : Prop := ∃ d m, s = some (d, m) ∧ okS d ∧ 0 ≤ m ∧ 0 ≤ o ∧ o = (d.length : Int) - d.sum - m
def areBr (l : List Nat) : Bool := decide (bal l = some 0 ∧ l.length ≤ 80)
/-! rows, read sign by sign -/
/-- whether a text writes a row (0), a tree (1) -/
def wrt (way : Int) (text : Str) : Bool := if way = 0 then (readRow text).isSome else (readT text).isSome
def askd (x : Addr) (way : Int) (text : Str) : Option (Sum Addr Str) := some (if wrt way text = true then Sum.inr text else Sum.inl x)
end TM


set_option Elab.async false
set_option linter.all false
/-! ### ways up that end; trees as the deal laws look at them -/
namespace TM
open GL
theorem nodup_len {n : Nat} {l : List Int} (h : l.Nodup) (hr : ∀ q ∈ l, 0 ≤ q ∧ q < (n : Int)) : l.length ≤ n := by
  have hs : l ⊆ (List.range n).map fun (k : Nat) => (k : Int) := fun q hq => by
    have := hr q hq
    exact List.mem_map.mpr ⟨q.toNat, List.mem_range.mpr (by omega), by omega⟩
  have := List.Nodup.length_le_of_subset h hs
  simpa using this
def rooted (t : List Int) : Prop := ∀ p : Int, 0 ≤ p ∧ p < t.length → up t t.length (gt t p) ≠ none
/-! the climb of a place, turn by turn -/
structure CL (t : List Int) (p here : Int) (j : Nat) : Prop where
  inn : -1 ≤ here ∧ here < t.length
  same : up t (t.length - j) here = none ↔ up t t.length p = none
/-- the tree within a stretch, or what refuses it -/
noncomputable def withinR (xT xP : Addr) (t : List Int) (a b : Int) : Option (Sum Addr (List Int)) :=
  some (if isTree t = false then Sum.inl xT else if 0 ≤ a ∧ a ≤ b ∧ b < t.length then Sum.inr (treeOf (sl (flatF t) (some a) (some (b + 1)))) else Sum.inl xP)
end TM


set_option Elab.async false
set_option linter.all false
/-! ### of how many stretches a place is the low; the sum of all least numbers -/
namespace TM
open GL
def sharesT (t : List Int) : List Int := (enu ((rg 0 t.length).map (spanT t))).map fun c => (c.1 - c.2.1 + 1) * (c.2.2 - c.1 + 1)
def leastsSum (row : List Int) : Int := ((row.zip (sharesT (treeOf row))).map fun c => c.1 * c.2).sum
/-- how many of the stretches that begin below i have the low p -/
def cA (t : List Int) (i : Nat) (p : Int) : Int := max 0 (min (i : Int) (p + 1) - (spanT t p).1) * ((spanT t p).2 - p + 1)
/-- and of those that begin at a and end below b -/
def cB (t : List Int) (a b : Int) (p : Int) : Int := if (spanT t p).1 ≤ a ∧ a ≤ p then max 0 (min (b - 1) (spanT t p).2 - p + 1) else 0
/-- row times counts -/
def zsum (row many : List Int) : Int := ((row.zip many).map fun c => c.1 * c.2).sum
end TM


set_option Elab.async false
set_option linter.all false
/-! ### stretches of trees: lows, spans, starts -/
namespace TM
open GL
end TM


set_option linter.all false
set_option maxHeartbeats 1000000
namespace TM
open GL
/-! ### trees of places, and how they are filled -/
inductive BT where
  | nil : BT
  | node (l : BT) (p : Nat) (r : BT) : BT
def BT.root : BT → Option Int
  | .nil => none
  | .node _ p _ => some (p : Int)
def BT.height : BT → Nat
  | .nil => 0
  | .node l _ r => max l.height r.height + 1
def BT.size : BT → Nat
  | .nil => 0
  | .node l _ r => l.size + r.size + 1
theorem BT.hs : ∀ b : BT, b.height ≤ b.size
  | .nil => Nat.le_refl _
  | .node l _ r => by
    have h1 := l.hs
    have h2 := r.hs
    show max l.height r.height + 1 ≤ l.size + r.size + 1
    omega
/-- the tree that hands tell -/
inductive HB (n : Nat) (f : Int → Option Int × Option Int) : Option Int → BT → Prop
  | nil : HB n f none .nil
  | node {l r : BT} {p : Nat} : p < n → HB n f (f p).1 l → HB n f (f p).2 r → HB n f (some (p : Int)) (.node l p r)
def btF (f : Int → Option Int × Option Int) : Nat → Option Int → BT
  | 0, _ => .nil
  | _ + 1, none => .nil
  | n + 1, some h => .node (btF f n (f h).1) h.toNat (btF f n (f h).2)
theorem HB.bt {n : Nat} {f : Int → Option Int × Option Int} {o : Option Int} {b : BT} (h : HB n f o b) : ∀ k, b.height ≤ k → btF f k o = b := by
  induction h with
  | nil => intro k _; cases k <;> rfl
  | @node l r p hp _ _ i1 i2 =>
    intro k hk
    have hk' : max l.height r.height + 1 ≤ k := hk
    cases k with
    | zero => omega
    | succ k =>
      show BT.node (btF f k (f (p : Int)).1) ((p : Int).toNat) (btF f k (f (p : Int)).2) = _
      rw [i1 k (by omega), i2 k (by omega), Int.toNat_natCast]
theorem HB.congr {n : Nat} {f g : Int → Option Int × Option Int} {o : Option Int} {b : BT} (h : HB n f o b) (e : ∀ p : Nat, p < n → f p = g p) : HB n g o b := by
  induction h with
  | nil => exact .nil
  | node hp _ _ i1 i2 => exact .node hp (by rw [← e _ hp]; exact i1) (by rw [← e _ hp]; exact i2)
def bth (hands : List (Option Int × Option Int)) (o : Option Int) : BT := btF (gt hands) 60 o
def HOk (hands : List (Option Int × Option Int)) (o : Option Int) : Prop := HB hands.length (gt hands) o (bth hands o) ∧ (bth hands o).size ≤ 12
theorem HOk.of {hands : List (Option Int × Option Int)} {o : Option Int} {b : BT} (h : HB hands.length (gt hands) o b) (hz : b.size ≤ 12) : HOk hands o ∧ bth hands o = b := by
  have e := h.bt 60 (by have := b.hs; omega)
  unfold HOk bth
  rw [e]
  exact ⟨⟨h, hz⟩, rfl⟩
theorem HOk.node {hands : List (Option Int × Option Int)} {o : Option Int} {g : Int} (h : HOk hands o) (e : o = some g) :
    (0 ≤ g ∧ g < hands.length) ∧ HOk hands (gt hands g).1 ∧ HOk hands (gt hands g).2 ∧ bth hands o = .node (bth hands (gt hands g).1) g.toNat (bth hands (gt hands g).2) := by
  obtain ⟨hb, hz⟩ := h
  generalize hB : bth hands o = B at hb hz ⊢
  cases hb with
  | nil => cases e
  | @node l r p hp h1 h2 =>
    cases e
    have z : l.size + r.size + 1 ≤ 12 := hz
    obtain ⟨k1, e1⟩ := HOk.of h1 (by omega)
    obtain ⟨k2, e2⟩ := HOk.of h2 (by omega)
    exact ⟨⟨by omega, by omega⟩, k1, k2, by rw [e1, e2, Int.toNat_natCast]⟩
theorem HOk.nil {hands : List (Option Int × Option Int)} : bth hands none = .nil := rfl
/-- a number may stand at a place -/
def okf (fx : List (Int × Int)) (p j : Int) : Bool := match dget fx p with
  | none => true
  | some x => decide (x = j)
theorem okf_iff {fx : List (Int × Int)} {p j : Int} : okf fx p j = true ↔ (dget fx p = none ∨ dgetV fx p = j) := by
  unfold okf dgetV
  cases dget fx p with
  | none => simp
  | some x => simp
/-- in how many ways a place and those under it are filled, its number k at least -/
def fF (m : Int) (fx : List (Int × Int)) : BT → Int → Int
  | .nil, _ => 1
  | .node l p r, k => ((rg k m).map fun j => if okf fx p j = true then fF m fx l (j + 1) * fF m fx r j else 0).sum
def fG (m : Int) (fx : List (Int × Int)) (l : BT) (p : Nat) (r : BT) (j : Int) : Int := if okf fx p j = true then fF m fx l (j + 1) * fF m fx r j else 0
def fillL (m : Int) (fx : List (Int × Int)) (b : BT) : List Int := (rg 0 (m + 2)).map (fF m fx b)
/-- .. as far as it is told, from behind -/
def parL (g : Int → Int) (m : Int) (i : Nat) : List Int := (rg 0 (m + 2)).map fun k => if m - i ≤ k then g k else 0
/-! ### a tree's hands -/
def hA (t : List Int) : Nat → Int → Option Int
  | 0, _ => none
  | i + 1, h => if nb t i = h ∧ (i : Int) < nb t i then some (i : Int) else hA t i h
def hBb (t : List Int) : Nat → Int → Option Int
  | 0, _ => none
  | i + 1, h => if nb t i = h ∧ ¬ (i : Int) < nb t i then some (i : Int) else hBb t i h
def hT (t : List Int) (h : Int) : Option Int × Option Int := (hA t t.length h, hBb t t.length h)
theorem hA_some {t : List Int} {h : Int} : ∀ {i q : Nat}, q < i → nb t q = h → (q : Int) < h → (∀ j, j < i → nb t j = h → (j : Int) < h → j = q) → hA t i h = some (q : Int)
  | i + 1, q, hq, h1, h2, hu => by
    unfold hA
    by_cases z : nb t i = h ∧ (i : Int) < nb t i
    · rw [if_pos z, hu i (Nat.lt_succ_self _) z.1 (by rw [← z.1]; exact z.2)]
    · rw [if_neg z]
      have hne : q ≠ i := fun e => by
        subst e
        exact z ⟨h1, by rw [h1]; exact h2⟩
      exact hA_some (by omega) h1 h2 fun j hj => hu j (by omega)
theorem hA_none {t : List Int} {h : Int} : ∀ {i : Nat}, (∀ j, j < i → nb t j = h → ¬ (j : Int) < h) → hA t i h = none
  | 0, _ => rfl
  | i + 1, hu => by
    unfold hA
    rw [if_neg fun z => hu i (Nat.lt_succ_self _) z.1 (by rw [← z.1]; exact z.2)]
    exact hA_none fun j hj => hu j (by omega)
theorem hB_some {t : List Int} {h : Int} : ∀ {i q : Nat}, q < i → nb t q = h → ¬ (q : Int) < h → (∀ j, j < i → nb t j = h → ¬ (j : Int) < h → j = q) → hBb t i h = some (q : Int)
  | i + 1, q, hq, h1, h2, hu => by
    unfold hBb
    by_cases z : nb t i = h ∧ ¬ (i : Int) < nb t i
    · rw [if_pos z, hu i (Nat.lt_succ_self _) z.1 (by rw [← z.1]; exact z.2)]
    · rw [if_neg z]
      have hne : q ≠ i := fun e => by
        subst e
        exact z ⟨h1, by rw [h1]; exact h2⟩
      exact hB_some (by omega) h1 h2 fun j hj => hu j (by omega)
theorem hB_none {t : List Int} {h : Int} : ∀ {i : Nat}, (∀ j, j < i → nb t j = h → (j : Int) < h) → hBb t i h = none
  | 0, _ => rfl
  | i + 1, hu => by
    unfold hBb
    rw [if_neg fun z => z.2 (by rw [z.1]; exact hu i (Nat.lt_succ_self _) z.1)]
    exact hB_none fun j hj => hu j (by omega)
theorem T.inn {t : List Int} {a b : Nat} {e : Int} (h : T t a b e) : ∀ q : Nat, a ≤ q → q < b → nb t q = e ∨ ((a : Int) ≤ nb t q ∧ nb t q < b) := by
  induction h with
  | nil a e => intro q h1 h2; omega
  | @node a b h e h1 h2 h3 _ _ i1 i2 =>
    intro q q1 q2
    rcases Nat.lt_trichotomy q h with z | z | z
    · rcases i1 q q1 z with y | y
      · right; rw [y]; omega
      · right; omega
    · subst z; exact .inl h3
    · rcases i2 q z q2 with y | y
      · right; rw [y]; omega
      · right; omega
/-- places one behind the other -/
def PL : Nat → BT → Prop
  | _, .nil => True
  | a, .node l p r => PL a l ∧ p = a + l.size ∧ PL (p + 1) r
/-- the shape of a stretch -/
inductive BTr (t : List Int) : Nat → Nat → Int → BT → Prop
  | nil (a : Nat) (e : Int) : BTr t a a e .nil
  | node {a b h : Nat} {e : Int} {l r : BT} : a ≤ h → h < b → nb t h = e → BTr t a h h l → BTr t (h + 1) b h r → BTr t a b e (.node l h r)
theorem T.bt {t : List Int} {a b : Nat} {e : Int} (h : T t a b e) : b ≤ t.length → (e < a ∨ (b : Int) ≤ e) → (∀ q, q < t.length → (q < a ∨ b ≤ q) → ¬ ((a : Int) ≤ nb t q ∧ nb t q < b)) →
    ∃ B : BT, HB t.length (hT t) B.root B ∧ B.size = b - a ∧ PL a B ∧ (∀ q, a ≤ q → q < b → nb t q = e → B.root = some (q : Int)) ∧ (∀ x, B.root = some x → (a : Int) ≤ x ∧ x < b ∧ nb t x.toNat = e) ∧ (B.root = none → a = b) ∧ BTr t a b e B := by
  induction h with
  | nil a e => intro _ _ _; exact ⟨.nil, .nil, by simp [BT.size], trivial, fun q h1 h2 => by omega, fun x h => (by cases h), fun _ => rfl, .nil a e⟩
  | @node a b h e h1 h2 h3 t1 t2 i1 i2 =>
    intro hb he ho
    obtain ⟨L, l1, l2, l3, l4, l5, l6, l7⟩ := i1 (by omega) (.inr (by omega)) fun q hq hz hn => by
      rcases hz with z | z
      · exact ho q hq (.inl z) (by omega)
      · by_cases y : q < b
        · by_cases x : q = h
          · subst x; rw [h3] at hn; omega
          · rcases t2.inn q (by omega) y with w | w <;> omega
        · exact ho q hq (.inr (by omega)) (by omega)
    obtain ⟨R, r1, r2, r3, r4, r5, r6, r7⟩ := i2 hb (.inl (by omega)) fun q hq hz hn => by
      rcases hz with z | z
      · by_cases y : a ≤ q
        · by_cases x : q = h
          · subst x; rw [h3] at hn; omega
          · rcases t1.inn q y (by omega) with w | w <;> omega
        · exact ho q hq (.inl (by omega)) (by omega)
      · exact ho q hq (.inr z) (by omega)
    have inside : ∀ q, q < t.length → nb t q = h → (a ≤ q ∧ q < b) ∧ q ≠ h := fun q hq hn => by
      refine ⟨Classical.byContradiction fun z => ho q hq (by omega) (by rw [hn]; omega), fun z => ?_⟩
      subst z; rw [h3] at hn; omega
    have eA : (hT t h).1 = L.root := by
      cases hL : L.root with
      | none =>
        refine hA_none fun j hj hn hlt => ?_
        have := l6 hL
        have := inside j hj hn
        omega
      | some x =>
        obtain ⟨x1, x2, x3⟩ := l5 x hL
        have ex : x = ((x.toNat : Nat) : Int) := by omega
        rw [ex]
        refine hA_some (by omega) x3 (by omega) fun j hj hn hlt => ?_
        have hi := inside j hj hn
        have := l4 j hi.1.1 (by omega) hn
        rw [hL] at this
        have := Option.some.inj this
        omega
    have eB : (hT t h).2 = R.root := by
      cases hR : R.root with
      | none =>
        refine hB_none fun j hj hn => ?_
        have := r6 hR
        have := inside j hj hn
        omega
      | some x =>
        obtain ⟨x1, x2, x3⟩ := r5 x hR
        have ex : x = ((x.toNat : Nat) : Int) := by omega
        rw [ex]
        refine hB_some (by omega) x3 (by omega) fun j hj hn hlt => ?_
        have hi := inside j hj hn
        have := r4 j (by omega) hi.1.2 hn
        rw [hR] at this
        have := Option.some.inj this
        omega
    refine ⟨.node L h R, .node (by omega) (by rw [eA]; exact l1) (by rw [eB]; exact r1), ?_, ⟨l3, by rw [l2]; omega, r3⟩, fun q q1 q2 hn => ?_, fun x hx => ?_, (fun hx => by cases hx), .node h1 h2 h3 l7 r7⟩
    · show L.size + R.size + 1 = _
      omega
    · rcases Nat.lt_trichotomy q h with z | z | z
      · rcases t1.inn q q1 z with w | w <;> omega
      · subst z; rfl
      · rcases t2.inn q z q2 with w | w <;> omega
    · cases hx
      rw [Int.toNat_natCast]
      exact ⟨by omega, by omega, h3⟩
def topO (t : List Int) : Option Int := if t.length = 0 then none else some ((t.idxOf (-1) : Nat) : Int)
def btT (t : List Int) : BT := btF (hT t) 60 (topO t)
theorem nb_idx {t : List Int} {q : Nat} (hq : q < t.length) {x : Int} (h : nb t q = x) : x ∈ t := by
  subst h
  unfold nb
  rw [List.getD_eq_getElem?_getD, List.getElem?_eq_getElem hq]
  exact List.getElem_mem hq
theorem nb_idxOf {t : List Int} {x : Int} (h : x ∈ t) : nb t (t.idxOf x) = x ∧ t.idxOf x < t.length := by
  have hl := List.idxOf_lt_length_of_mem h
  refine ⟨?_, hl⟩
  unfold nb
  rw [List.getD_eq_getElem?_getD, List.getElem?_eq_getElem hl]
  exact List.getElem_idxOf hl
theorem tree_bt {t : List Int} (h : isTree t = true) : HB t.length (hT t) (topO t) (btT t) ∧ (btT t).size = t.length ∧ PL 0 (btT t) ∧ BTr t 0 t.length (-1) (btT t) := by
  obtain ⟨h40, hT'⟩ := isTree_iff.mp h
  obtain ⟨B, b1, b2, b3, b4, b5, b6, b7⟩ := T.bt hT' (Nat.le_refl _) (.inl (by decide)) fun q hq hz _ => by omega
  have er : B.root = topO t := by
    unfold topO
    by_cases z : t.length = 0
    · rw [if_pos z]
      cases hB : B.root with
      | none => rfl
      | some x => have := b5 x hB; omega
    · rw [if_neg z]
      cases hB : B.root with
      | none => exact absurd (b6 hB).symm z
      | some x =>
        obtain ⟨x1, x2, x3⟩ := b5 x hB
        have hm := nb_idx (t := t) (q := x.toNat) (by omega) x3
        obtain ⟨k1, k2⟩ := nb_idxOf hm
        rw [← hB, b4 _ (Nat.zero_le _) k2 k1]
  rw [er] at b1
  have eb : btT t = B := b1.bt 60 (by have := B.hs; omega)
  rw [eb]
  exact ⟨b1, by omega, b3, b7⟩
/-- the count of the rows of a tree, some numbers fixed -/
def fC (t : List Int) (m : Int) (fx : List (Int × Int)) : Int := fF m fx (btT t) 0
def handsL (t : List Int) : List (Option Int × Option Int) := (rg 0 t.length).map (hT t)
end TM


set_option linter.all false
set_option maxHeartbeats 1000000
namespace TM
open GL
/-! ### the walk of filled -/
/-! ### .. of hands_of -/
end TM


set_option linter.all false
set_option maxHeartbeats 1000000
namespace TM
open GL
/-! ### rows of a tree, counted -/
def rowsB (m : Int) : BT → Int → List (List Int)
  | .nil, _ => [[]]
  | .node l _ r, k => (rg k m).flatMap fun j => (rowsB m l (j + 1)).flatMap fun x => (rowsB m r j).map fun y => x ++ j :: y
/-- the numbers that are fixed are so -/
def agr (fx : List (Int × Int)) : Nat → List Int → Bool
  | _, [] => true
  | a, x :: xs => okf fx a x && agr fx (a + 1) xs
theorem agr_app {fx : List (Int × Int)} : ∀ {a : Nat} {x y : List Int}, agr fx a (x ++ y) = (agr fx a x && agr fx (a + x.length) y)
  | a, [], y => by simp [agr]
  | a, z :: x, y => by
    rw [List.cons_append, agr, agr, agr_app, List.length_cons, Bool.and_assoc, Nat.add_assoc, Nat.add_comm 1]
theorem rowsB_len {m : Int} : ∀ {b : BT} {k : Int} {r : List Int}, r ∈ rowsB m b k → r.length = b.size
  | .nil, k, r, h => by
    cases List.mem_singleton.mp h; rfl
  | .node l p r', k, r, h => by
    obtain ⟨j, _, h⟩ := List.mem_flatMap.mp h
    obtain ⟨x, hx, h⟩ := List.mem_flatMap.mp h
    obtain ⟨y, hy, rfl⟩ := List.mem_map.mp h
    rw [List.length_append, List.length_cons, rowsB_len hx, rowsB_len hy]
    show _ = l.size + r'.size + 1
    omega
theorem prod_count {f : List Int → List Int → List Int} {px py : List Int → Bool} {c : Bool} {p : List Int → Bool} {ys : List (List Int)} : ∀ {xs : List (List Int)}, (∀ x ∈ xs, ∀ y ∈ ys, p (f x y) = (px x && (c && py y))) →
    ((xs.flatMap fun x => ys.map (f x)).filter p).length = if c = true then (xs.filter px).length * (ys.filter py).length else 0
  | [], _ => by simp
  | x :: xs, h => by
    rw [List.flatMap_cons, List.filter_append, List.length_append, prod_count fun x' hx => h x' (List.mem_cons_of_mem _ hx)]
    have e : ((ys.map (f x)).filter p).length = if px x = true ∧ c = true then (ys.filter py).length else 0 := by
      rw [List.filter_map, List.length_map]
      by_cases z : px x = true ∧ c = true
      · rw [if_pos z]
        congr 1
        refine List.filter_congr fun y hy => ?_
        rw [Function.comp_apply, h x List.mem_cons_self y hy, z.1, z.2, Bool.true_and, Bool.true_and]
      · rw [if_neg z]
        rw [List.length_eq_zero_iff, List.filter_eq_nil_iff]
        intro y hy
        rw [Function.comp_apply, h x List.mem_cons_self y hy]
        intro q
        simp only [Bool.and_eq_true] at q
        exact z ⟨q.1, q.2.1⟩
    rw [e, List.filter_cons]
    by_cases hc : c = true
    · by_cases hx : px x = true
      · rw [if_pos ⟨hx, hc⟩, if_pos hc, if_pos hc, if_pos hx, List.length_cons, Nat.succ_mul, Nat.add_comm]
      · rw [if_neg (fun z => hx z.1), if_pos hc, if_pos hc, if_neg hx, Nat.zero_add]
    · rw [if_neg (fun z => hc z.2), if_neg hc, if_neg hc]
theorem fF_count {m : Int} {fx : List (Int × Int)} : ∀ {b : BT} {a : Nat} {k : Int}, PL a b → fF m fx b k = (((rowsB m b k).filter (agr fx a)).length : Int)
  | .nil, a, k, _ => by
    show (1 : Int) = ((List.filter (agr fx a) [[]]).length : Int)
    rw [List.filter_cons_of_pos rfl]; rfl
  | .node l p r, a, k, ⟨h1, h2, h3⟩ => by
    have e : fF m fx (.node l p r) k = ((rg k m).map (fG m fx l p r)).sum := rfl
    rw [e]
    show _ = ((((rg k m).flatMap fun j => (rowsB m l (j + 1)).flatMap fun x => (rowsB m r j).map fun y => x ++ j :: y).filter (agr fx a)).length : Int)
    generalize rg k m = L
    induction L with
    | nil => rfl
    | cons j L ih =>
      rw [List.map_cons, List.sum_cons, List.flatMap_cons, List.filter_append, List.length_append, ih, Int.natCast_add]
      congr 1
      rw [prod_count (px := agr fx a) (py := agr fx (p + 1)) (c := okf fx p j) fun x hx y hy => by
        rw [agr_app, agr, rowsB_len hx, h2]]
      unfold fG
      rw [fF_count h1, fF_count h3]
      split <;> simp
/-- a row fits, numbers k at least at the top -/
def FBt (m : Int) (row : List Int) : BT → Int → Prop
  | .nil, _ => True
  | .node l p r, k => k ≤ nb row p ∧ nb row p < m ∧ FBt m row l (nb row p + 1) ∧ FBt m row r (nb row p)
theorem take_split {row : List Int} {a n p : Nat} (hp : p = a + n) {q : Nat} (hl : p + 1 + q ≤ row.length) : (row.drop a).take (n + q + 1) = (row.drop a).take n ++ nb row p :: (row.drop (p + 1)).take q := by
  refine List.ext_getElem? fun i => ?_
  rw [List.getElem?_take, List.getElem?_drop]
  by_cases h1 : i < n
  · rw [if_pos (by omega), List.getElem?_append_left (by rw [List.length_take, List.length_drop]; omega), List.getElem?_take, if_pos h1, List.getElem?_drop]
  · rw [List.getElem?_append_right (by rw [List.length_take, List.length_drop]; omega), List.length_take, List.length_drop, Nat.min_eq_left (by omega)]
    by_cases h2 : i = n
    · subst h2
      rw [if_pos (by omega), Nat.sub_self, ← hp, List.getElem?_eq_getElem (by omega)]
      show some _ = some _
      unfold nb
      rw [List.getD_eq_getElem?_getD, List.getElem?_eq_getElem (by omega)]; rfl
    · obtain ⟨d, hd⟩ : ∃ d, i - n = d + 1 := ⟨i - n - 1, by omega⟩
      rw [hd, List.getElem?_cons_succ, List.getElem?_take, List.getElem?_drop]
      by_cases h3 : d < q
      · rw [if_pos h3, if_pos (by omega)]; congr 1; omega
      · rw [if_neg h3, if_neg (by omega)]
theorem mem_rowsB {m : Int} {row : List Int} : ∀ {b : BT} {a : Nat} {k : Int}, PL a b → a + b.size ≤ row.length → ((row.drop a).take b.size ∈ rowsB m b k ↔ FBt m row b k)
  | .nil, a, k, _, _ => by
    show (row.drop a).take 0 ∈ [[]] ↔ True
    simp
  | .node l p r, a, k, ⟨h1, h2, h3⟩, hl => by
    have hz : (BT.node l p r).size = l.size + r.size + 1 := rfl
    rw [hz] at hl ⊢
    rw [take_split h2 (by omega)]
    have i1 := fun k => mem_rowsB (m := m) (row := row) (k := k) h1 (by omega)
    have i2 := fun k => mem_rowsB (m := m) (row := row) (k := k) h3 (by omega)
    have el : ((row.drop a).take l.size).length = l.size := by rw [List.length_take, List.length_drop]; omega
    constructor
    · intro h
      obtain ⟨j, hj, h⟩ := List.mem_flatMap.mp h
      obtain ⟨x, hx, h⟩ := List.mem_flatMap.mp h
      obtain ⟨y, hy, h⟩ := List.mem_map.mp h
      obtain ⟨e1, e2⟩ := List.append_inj h (by rw [el, rowsB_len hx])
      obtain ⟨e3, e4⟩ := List.cons.inj e2
      have hj' := rg_mem.mp hj
      subst e1 e3 e4
      exact ⟨hj'.1, hj'.2, (i1 _).mp hx, (i2 _).mp hy⟩
    · rintro ⟨g1, g2, g3, g4⟩
      exact List.mem_flatMap.mpr ⟨nb row p, rg_mem.mpr ⟨g1, g2⟩, List.mem_flatMap.mpr ⟨_, (i1 _).mpr g3, List.mem_map.mpr ⟨_, (i2 _).mpr g4, rfl⟩⟩⟩
theorem FBt.tr {m : Int} {t row : List Int} {a b : Nat} {e : Int} {B : BT} (h : BTr t a b e B) : ∀ {k : Int}, FBt m row B k → TR t row a b e ∧ ∀ j, a ≤ j → j < b → k ≤ nb row j ∧ nb row j < m := by
  induction h with
  | nil a e => intro k _; exact ⟨.nil a e, fun j h1 h2 => by omega⟩
  | @node a b h e l r h1 h2 h3 _ _ i1 i2 =>
    intro k ⟨g1, g2, g3, g4⟩
    obtain ⟨t1, b1⟩ := i1 g3
    obtain ⟨t2, b2⟩ := i2 g4
    refine ⟨.node h1 h2 h3 (fun j q1 q2 => by have := b1 j q1 q2; omega) (fun j q1 q2 => by have := b2 j q1 q2; omega) t1 t2, fun j q1 q2 => ?_⟩
    rcases Nat.lt_trichotomy j h with z | z | z
    · have := b1 j q1 z; omega
    · subst z; exact ⟨g1, g2⟩
    · have := b2 j z q2; omega
theorem BTr.t {t : List Int} {a b : Nat} {e : Int} {B : BT} (h : BTr t a b e B) : T t a b e := by
  induction h with
  | nil a e => exact .nil a e
  | node h1 h2 h3 _ _ i1 i2 => exact .node h1 h2 h3 i1 i2
theorem TR.fb {m : Int} {t row : List Int} {a b : Nat} {e : Int} {B : BT} (h : BTr t a b e B) : (e < a ∨ (b : Int) ≤ e) → TR t row a b e → ∀ {k : Int}, (∀ j, a ≤ j → j < b → k ≤ nb row j ∧ nb row j < m) → FBt m row B k := by
  induction h with
  | nil a e => intro _ _ k _; trivial
  | @node a b h e l r h1 h2 h3 t1 t2 i1 i2 =>
    intro he hT k hk
    cases hT with
    | nil => omega
    | @node _ _ h' _ g1 g2 g3 g4 g5 g6 g7 =>
      have eh : h' = h := by
        rcases Nat.lt_trichotomy h' h with z | z | z
        · rcases t1.t.inn h' g1 z with y | y <;> omega
        · exact z
        · rcases t2.t.inn h' z g2 with y | y <;> omega
      subst eh
      refine ⟨(hk h' h1 h2).1, (hk h' h1 h2).2, i1 (.inr (by omega)) g6 fun j q1 q2 => ?_, i2 (.inl (by omega)) g7 fun j q1 q2 => ?_⟩
      · have := g4 j q1 q2
        have := hk j q1 (by omega)
        omega
      · have := g5 j (by omega) q2
        have := hk j (by omega) q2
        omega
theorem all_nb {row : List Int} {P : Int → Prop} : (∀ x ∈ row, P x) ↔ ∀ j, j < row.length → P (nb row j) := by
  constructor
  · intro h j hj
    exact h _ (nb_idx hj rfl)
  · intro h x hx
    obtain ⟨j, hj, e⟩ := List.getElem_of_mem hx
    have := h j hj
    unfold nb at this
    rw [List.getD_eq_getElem?_getD, List.getElem?_eq_getElem hj] at this
    rw [← e]; exact this
/-- the rows that the filling goes through are the rows of the tree -/
theorem mem_rowsT {t : List Int} (h : isTree t = true) {m : Int} {row : List Int} : row ∈ rowsB m (btT t) 0 ↔ row.length = t.length ∧ (∀ x ∈ row, 0 ≤ x ∧ x < m) ∧ treeOf row = t := by
  obtain ⟨h1, h2, h3, h4⟩ := tree_bt h
  have hT := isTree_iff.mp h
  have key : row.length = t.length → (row ∈ rowsB m (btT t) 0 ↔ FBt m row (btT t) 0) := fun hl => by
    have := mem_rowsB (m := m) (row := row) (k := 0) h3 (by omega)
    rwa [List.drop_zero, List.take_of_length_le (by omega)] at this
  constructor
  · intro hr
    have hl : row.length = t.length := by rw [rowsB_len hr, h2]
    obtain ⟨k1, k2⟩ := FBt.tr h4 ((key hl).mp hr)
    refine ⟨hl, all_nb.mpr fun j hj => k2 j (Nat.zero_le _) (by omega), tree_of_TR hl (by rw [hl]; exact k1)⟩
  · rintro ⟨hl, hb, he⟩
    refine (key hl).mpr (TR.fb h4 (.inl (by decide)) ?_ fun j _ hj => all_nb.mp hb j (by omega))
    have := TR_of row row.length 0 row.length (-1) (by omega) (good_all row)
    rw [he, hl] at this
    exact this
theorem rowsB_nodup {m : Int} : ∀ {b : BT} {k : Int}, (rowsB m b k).Nodup
  | .nil, k => by simp [rowsB]
  | .node l p r, k => by
    show ((rg k m).flatMap _).Nodup
    have hrg : (rg k m).Nodup := by
      unfold rg
      exact (List.nodup_range).map _ (fun a b hab h => hab (by omega))
    refine List.pairwise_flatMap.mpr ⟨?_, ?_⟩
    · intro j _
      refine List.pairwise_flatMap.mpr ⟨?_, ?_⟩
      · intro x _
        refine List.pairwise_map.mpr ((rowsB_nodup (m := m) (b := r) (k := j)).imp fun {y y'} hy e => hy ?_)
        exact (List.cons.inj (List.append_cancel_left e)).2
      · refine (rowsB_nodup (m := m) (b := l) (k := j + 1)).imp_of_mem fun {x x'} hx hx' hne => ?_
        intro z hz z' hz' hzz
        subst hzz
        obtain ⟨y, hy, rfl⟩ := List.mem_map.mp hz
        obtain ⟨y', hy', e⟩ := List.mem_map.mp hz'
        exact hne (List.append_inj e (by rw [rowsB_len hx, rowsB_len hx'])).1.symm
    · refine hrg.imp_of_mem fun {j j'} hj hj' hne => ?_
      intro z hz z' hz' hzz
      subst hzz
      obtain ⟨x, hx, hz⟩ := List.mem_flatMap.mp hz
      obtain ⟨y, hy, rfl⟩ := List.mem_map.mp hz
      obtain ⟨x', hx', hz'⟩ := List.mem_flatMap.mp hz'
      obtain ⟨y', hy', e⟩ := List.mem_map.mp hz'
      exact hne (List.cons.inj (List.append_inj e (by rw [rowsB_len hx, rowsB_len hx'])).2).1.symm
/-- how many rows of a list without any twice have the tree -/
theorem fC_any {t : List Int} (h : isTree t = true) {m : Int} {fx : List (Int × Int)} {L : List (List Int)} (hn : L.Nodup) (hL : ∀ row, row ∈ L ↔ row.length = t.length ∧ (∀ x ∈ row, 0 ≤ x ∧ x < m) ∧ treeOf row = t ∧ agr fx 0 row = true) : fC t m fx = (L.length : Int) := by
  obtain ⟨h1, h2, h3, h4⟩ := tree_bt h
  unfold fC
  rw [fF_count h3]
  congr 1
  refine List.Perm.length_eq ?_
  refine (List.perm_ext_iff_of_nodup (rowsB_nodup.filter _) hn).mpr fun row => ?_
  rw [List.mem_filter, mem_rowsT h, hL]
  constructor
  · rintro ⟨⟨a, b, c⟩, d⟩; exact ⟨a, b, c, d⟩
  · rintro ⟨a, b, c, d⟩; exact ⟨⟨a, b, c⟩, d⟩
/-- all rows of so many numbers from 0 to m - 1, in order -/
def ar (m : Int) : Nat → List (List Int)
  | 0 => [[]]
  | n + 1 => (ar m n).flatMap fun r => (rg 0 m).map fun x => r ++ [x]
theorem mem_ar {m : Int} : ∀ {n : Nat} {row : List Int}, row ∈ ar m n ↔ row.length = n ∧ ∀ x ∈ row, 0 ≤ x ∧ x < m
  | 0, row => by
    show row ∈ [[]] ↔ _
    rw [List.mem_singleton]
    constructor
    · rintro rfl; exact ⟨rfl, fun x hx => by cases hx⟩
    · rintro ⟨h, _⟩; exact List.eq_nil_of_length_eq_zero h
  | n + 1, row => by
    show row ∈ (ar m n).flatMap _ ↔ _
    rw [List.mem_flatMap]
    constructor
    · rintro ⟨r, hr, h⟩
      obtain ⟨x, hx, rfl⟩ := List.mem_map.mp h
      obtain ⟨h1, h2⟩ := mem_ar.mp hr
      refine ⟨by rw [List.length_append, h1]; rfl, fun y hy => ?_⟩
      rcases List.mem_append.mp hy with z | z
      · exact h2 y z
      · cases List.mem_singleton.mp z; exact rg_mem.mp hx
    · rintro ⟨h1, h2⟩
      have hne : row ≠ [] := fun z => by rw [z] at h1; cases h1
      have e := List.dropLast_concat_getLast hne
      refine ⟨row.dropLast, mem_ar.mpr ⟨by rw [List.length_dropLast, h1]; rfl, fun x hx => h2 x (List.dropLast_subset _ hx)⟩, List.mem_map.mpr ⟨row.getLast hne, rg_mem.mpr (h2 _ (List.getLast_mem hne)), e⟩⟩
theorem ar_nodup {m : Int} : ∀ {n : Nat}, (ar m n).Nodup
  | 0 => by simp [ar]
  | n + 1 => by
    show ((ar m n).flatMap _).Nodup
    have rgN : (rg 0 m).Nodup := by
      unfold rg
      exact (List.nodup_range).map _ (fun a b hab h => hab (by omega))
    refine List.pairwise_flatMap.mpr ⟨fun r _ => rgN.map _ fun x y hxy e => hxy (List.singleton_inj.mp (List.append_cancel_left e)), ?_⟩
    refine (ar_nodup (m := m) (n := n)).imp_of_mem fun {x x'} hx hx' hne => ?_
    intro z hz z' hz' hzz
    subst hzz
    obtain ⟨y, hy, rfl⟩ := List.mem_map.mp hz
    obtain ⟨y', hy', e⟩ := List.mem_map.mp hz'
    exact hne (List.append_inj e (by rw [(mem_ar.mp hx).1, (mem_ar.mp hx').1])).1.symm
end TM


set_option linter.all false
set_option maxHeartbeats 1000000
namespace TM
open GL
/-! ### the law's own filling -/
def btL (t : List Int) (o : Option Int) : BT := btF (hT t) 60 o
def HOt (t : List Int) (o : Option Int) : Prop := HB t.length (hT t) o (btL t o) ∧ (btL t o).size ≤ 12
theorem HOt.node {t : List Int} {o : Option Int} {g : Int} (h : HOt t o) (e : o = some g) :
    (0 ≤ g ∧ g < t.length) ∧ HOt t (hT t g).1 ∧ HOt t (hT t g).2 ∧ btL t o = .node (btL t (hT t g).1) g.toNat (btL t (hT t g).2) := by
  obtain ⟨hb, hz⟩ := h
  generalize hB : btL t o = B at hb hz ⊢
  cases hb with
  | nil => cases e
  | @node l r p hp h1 h2 =>
    cases e
    have z : l.size + r.size + 1 ≤ 12 := hz
    have e1 : btL t (hT t p).1 = l := h1.bt 60 (by have := l.hs; omega)
    have e2 : btL t (hT t p).2 = r := h2.bt 60 (by have := r.hs; omega)
    refine ⟨⟨by omega, by omega⟩, ⟨by rw [e1]; exact h1, by rw [e1]; omega⟩, ⟨by rw [e2]; exact h2, by rw [e2]; omega⟩, by rw [e1, e2, Int.toNat_natCast]⟩
theorem HOt.top {t : List Int} (h : isTree t = true) (hl : t.length ≤ 12) (h0 : t.length ≠ 0) : HOt t (some ((t.idxOf (-1) : Nat) : Int)) ∧ btL t (some ((t.idxOf (-1) : Nat) : Int)) = btT t := by
  have e : topO t = some ((t.idxOf (-1) : Nat) : Int) := by unfold topO; rw [if_neg h0]
  obtain ⟨h1, h2, h3, h4⟩ := tree_bt h
  have e2 : btL t (some ((t.idxOf (-1) : Nat) : Int)) = btT t := by unfold btL btT; rw [e]
  refine ⟨⟨?_, ?_⟩, e2⟩
  · rw [e2, ← e]; exact h1
  · rw [e2, h2]; exact hl
end TM


set_option linter.all false
set_option maxHeartbeats 1000000
namespace TM
open GL
/-! ### rows of a tree by their numbers -/
/-- the rows of a tree over m, in order -/
def rT (t : List Int) (m : Int) : List (List Int) := (ar m t.length).filter fun r => decide (treeOf r = t)
theorem mem_rT {t row : List Int} {m : Int} : row ∈ rT t m ↔ row.length = t.length ∧ (∀ x ∈ row, 0 ≤ x ∧ x < m) ∧ treeOf row = t := by
  unfold rT
  rw [List.mem_filter, mem_ar, decide_eq_true_iff]
  exact ⟨fun ⟨⟨a, b⟩, c⟩ => ⟨a, b, c⟩, fun ⟨a, b, c⟩ => ⟨⟨a, b⟩, c⟩⟩
theorem lexB_irr : ∀ l : List Int, lexB l l = false
  | [] => rfl
  | a :: l => by simp [lexB, lexB_irr l]
theorem lexB_trans : ∀ {a b c : List Int}, lexB a b = true → lexB b c = true → lexB a c = true
  | [], [], _, h, _ => by simp [lexB] at h
  | [], _ :: _, [], _, h => by simp [lexB] at h
  | [], _ :: _, _ :: _, _, _ => rfl
  | _ :: _, [], _, h, _ => by simp [lexB] at h
  | _ :: _, _ :: _, [], _, h => by simp [lexB] at h
  | x :: a, y :: b, z :: c, h1, h2 => by
    simp only [lexB, Bool.or_eq_true, Bool.and_eq_true, decide_eq_true_eq] at h1 h2 ⊢
    rcases h1 with h1 | ⟨h1, k1⟩ <;> rcases h2 with h2 | ⟨h2, k2⟩
    · left; omega
    · left; omega
    · left; omega
    · right; exact ⟨by omega, lexB_trans k1 k2⟩
theorem lexB_snoc : ∀ {a b : List Int} {x y : Int}, a.length = b.length → (lexB (a ++ [x]) (b ++ [y]) = true ↔ lexB a b = true ∨ (a = b ∧ x < y))
  | [], [], x, y, _ => by simp [lexB]
  | z :: a, w :: b, x, y, h => by
    simp only [List.cons_append, lexB, Bool.or_eq_true, Bool.and_eq_true, decide_eq_true_eq, lexB_snoc (a := a) (b := b) (x := x) (y := y) (by simpa using h), List.cons.injEq]
    constructor
    · rintro (k | ⟨k, k2 | k2⟩)
      · exact .inl (.inl k)
      · exact .inl (.inr ⟨k, k2⟩)
      · exact .inr ⟨⟨k, k2.1⟩, k2.2⟩
    · rintro ((k | ⟨k, k2⟩) | ⟨⟨k, k2⟩, k3⟩)
      · exact .inl k
      · exact .inr ⟨k, .inl k2⟩
      · exact .inr ⟨k, .inr ⟨k2, k3⟩⟩
theorem ar_sorted {m : Int} : ∀ {n : Nat}, (ar m n).Pairwise fun a b => lexB a b = true
  | 0 => by simp [ar]
  | n + 1 => by
    show ((ar m n).flatMap _).Pairwise _
    refine List.pairwise_flatMap.mpr ⟨?_, ?_⟩
    · intro r _
      exact List.pairwise_map.mpr ((rg_sorted 0 m).imp fun {x y} hxy => (lexB_snoc rfl).mpr (.inr ⟨rfl, hxy⟩))
    · refine (ar_sorted (m := m) (n := n)).imp_of_mem fun {x x'} hx hx' hlt => ?_
      intro z hz z' hz'
      obtain ⟨y, hy, rfl⟩ := List.mem_map.mp hz
      obtain ⟨y', hy', rfl⟩ := List.mem_map.mp hz'
      exact (lexB_snoc (by rw [(mem_ar.mp hx).1, (mem_ar.mp hx').1])).mpr (.inl hlt)
theorem rT_sorted {t : List Int} {m : Int} : (rT t m).Pairwise fun a b => lexB a b = true := ar_sorted.filter _
theorem rT_nodup {t : List Int} {m : Int} : (rT t m).Nodup := ar_nodup.filter _
/-- rows ahead of those that begin with p | with p -/
def cBf (S : List (List Int)) (p : List Int) : Nat := S.countP fun r => lexB (r.take p.length) p
def cCe (S : List (List Int)) (p : List Int) : Nat := S.countP fun r => decide (r.take p.length = p)
theorem take_snoc {r : List Int} {k : Nat} (h : k < r.length) : r.take (k + 1) = r.take k ++ [nb r k] := by
  rw [List.take_succ_eq_append_getElem h]
  congr 2
  unfold nb
  rw [List.getD_eq_getElem?_getD, List.getElem?_eq_getElem h]; rfl
theorem countP_or {α : Type} {p q r : α → Bool} : ∀ {l : List α}, (∀ x ∈ l, (r x = true ↔ p x = true ∨ q x = true) ∧ ¬ (p x = true ∧ q x = true)) → l.countP r = l.countP p + l.countP q
  | [], _ => rfl
  | x :: l, h => by
    obtain ⟨h1, h2⟩ := h x List.mem_cons_self
    have ih := countP_or fun y hy => h y (List.mem_cons_of_mem _ hy)
    rw [List.countP_cons, List.countP_cons, List.countP_cons, ih]
    by_cases hp : p x = true
    · have hq : ¬ q x = true := fun z => h2 ⟨hp, z⟩
      rw [if_pos (h1.mpr (.inl hp)), if_pos hp, if_neg hq]; omega
    · by_cases hq : q x = true
      · rw [if_pos (h1.mpr (.inr hq)), if_neg hp, if_pos hq]; omega
      · rw [if_neg (fun z => by rcases h1.mp z with y | y; exact hp y; exact hq y), if_neg hp, if_neg hq]; omega
theorem snoc_inj {a b : List Int} {x y : Int} : a ++ [x] = b ++ [y] ↔ a = b ∧ x = y := by
  constructor
  · intro h
    obtain ⟨h1, h2⟩ := List.append_inj' h rfl
    exact ⟨h1, List.singleton_inj.mp h2⟩
  · rintro ⟨rfl, rfl⟩; rfl
theorem cBf_next {S : List (List Int)} {p : List Int} {d : Int} (h : ∀ r ∈ S, p.length < r.length) : cBf S (p ++ [d + 1]) = cBf S (p ++ [d]) + cCe S (p ++ [d]) := by
  unfold cBf cCe
  refine countP_or fun r hr => ?_
  have hl := h r hr
  have hlen : (r.take p.length).length = p.length := by rw [List.length_take]; omega
  rw [List.length_append, List.length_append]
  show (lexB (r.take (p.length + 1)) _ = true ↔ lexB (r.take (p.length + 1)) _ = true ∨ decide (r.take (p.length + 1) = _) = true) ∧ ¬ (lexB (r.take (p.length + 1)) _ = true ∧ decide (r.take (p.length + 1) = _) = true)
  rw [decide_eq_true_iff, take_snoc hl, lexB_snoc hlen, lexB_snoc hlen, snoc_inj]
  constructor
  · constructor
    · rintro (k | ⟨k, k2⟩)
      · exact .inl (.inl k)
      · by_cases z : nb r p.length = d
        · exact .inr ⟨k, z⟩
        · exact .inl (.inr ⟨k, by omega⟩)
    · rintro ((k | ⟨k, k2⟩) | ⟨k, k2⟩)
      · exact .inl k
      · exact .inr ⟨k, by omega⟩
      · exact .inr ⟨k, by omega⟩
  · rintro ⟨k | ⟨k, k2⟩, k3, k4⟩
    · rw [k3, lexB_irr] at k; cases k
    · omega
theorem cBf_end {S : List (List Int)} {p : List Int} {m : Int} (h : ∀ r ∈ S, p.length < r.length ∧ ∀ x ∈ r, x < m) : cBf S (p ++ [m]) = cBf S p + cCe S p := by
  unfold cBf cCe
  refine countP_or fun r hr => ?_
  obtain ⟨hl, hx⟩ := h r hr
  have hlen : (r.take p.length).length = p.length := by rw [List.length_take]; omega
  rw [List.length_append]
  show (lexB (r.take (p.length + 1)) _ = true ↔ _) ∧ _
  rw [take_snoc hl, lexB_snoc hlen, decide_eq_true_iff]
  constructor
  · constructor
    · rintro (k | ⟨k, _⟩)
      · exact .inl k
      · exact .inr k
    · rintro (k | k)
      · exact .inl k
      · exact .inr ⟨k, hx _ (nb_idx hl rfl)⟩
  · rintro ⟨k, k2⟩
    rw [k2, lexB_irr] at k; cases k
/-- where a row stands in its sorted list -/
theorem cBf_idx : ∀ {S : List (List Int)} {p : List Int}, S.Pairwise (fun a b => lexB a b = true) → (∀ r ∈ S, r.length = p.length) → p ∈ S → S[cBf S p]? = some p ∧ S.idxOf p = cBf S p
  | [], p, _, _, h => by cases h
  | r :: S, p, hs, hl, h => by
    obtain ⟨h1, h2⟩ := List.pairwise_cons.mp hs
    have hr := hl r List.mem_cons_self
    have er : ∀ s : List Int, s.length = p.length → s.take p.length = s := fun s e => List.take_of_length_le (by omega)
    by_cases z : r = p
    · subst z
      have e0 : cBf (r :: S) r = 0 := by
        unfold cBf
        rw [List.countP_eq_zero]
        intro s hs'
        rcases List.mem_cons.mp hs' with y | y
        · rw [y, List.take_length, lexB_irr]; decide
        · rw [er s (hl s (List.mem_cons_of_mem _ y))]
          intro k
          have := lexB_trans (h1 s y) k
          rw [lexB_irr] at this; cases this
      rw [e0]
      exact ⟨rfl, by simp⟩
    · have hp : p ∈ S := by
        rcases List.mem_cons.mp h with y | y
        · exact absurd y.symm z
        · exact y
      obtain ⟨i1, i2⟩ := cBf_idx h2 (fun s hs' => hl s (List.mem_cons_of_mem _ hs')) hp
      have e1 : cBf (r :: S) p = cBf S p + 1 := by
        unfold cBf
        rw [List.countP_cons, er r hr, if_pos (h1 p hp)]
      rw [e1]
      refine ⟨by rw [List.getElem?_cons_succ]; exact i1, ?_⟩
      rw [List.idxOf_cons, i2, beq_false_of_ne z]; rfl
theorem cCe_all {S : List (List Int)} {p : List Int} (hl : ∀ r ∈ S, r.length = p.length) (h : 0 < cCe S p) : p ∈ S := by
  unfold cCe at h
  obtain ⟨r, hr, e⟩ := List.countP_pos_iff.mp h
  have e' := of_decide_eq_true e
  rw [List.take_of_length_le (Nat.le_of_eq (hl r hr))] at e'
  exact e' ▸ hr
/-! ### the dict of fixed numbers -/
/-- the first numbers are fixed, and no others -/
def Fx (fx : List (Int × Int)) (p : List Int) : Prop := ∀ i : Int, dget fx i = if 0 ≤ i ∧ i < p.length then some (nb p i.toNat) else none
theorem Fx.nil : Fx [] [] := fun i => by rw [if_neg (by simp)]; rfl
theorem Fx.put {fx : List (Int × Int)} {p : List Int} {d : Int} (h : Fx fx p) : Fx (dput fx p.length d) (p ++ [d]) := fun i => by
  rw [dget_dput, h i, List.length_append]
  by_cases z : (p.length : Int) = i
  · rw [if_pos z, if_pos (by simp; omega), show i.toNat = p.length by omega, nb_snL]
  · rw [if_neg z]
    by_cases y : 0 ≤ i ∧ i < p.length
    · rw [if_pos y, if_pos (by simp; omega), nb_sn0 (by omega)]
    · rw [if_neg y, if_neg (by simp; omega)]
theorem Fx.put2 {fx : List (Int × Int)} {p : List Int} {d e : Int} (h : Fx fx (p ++ [d])) : Fx (dput fx p.length e) (p ++ [e]) := fun i => by
  rw [dget_dput, h i, List.length_append, List.length_append]
  by_cases z : (p.length : Int) = i
  · rw [if_pos z, if_pos (by simp; omega), show i.toNat = p.length by omega, nb_snL]
  · rw [if_neg z]
    by_cases y : 0 ≤ i ∧ i < p.length
    · rw [if_pos (by simp; omega), if_pos (by simp; omega), nb_sn0 (by omega), nb_sn0 (by omega)]
    · rw [if_neg (by simp; omega), if_neg (by simp; omega)]
theorem Fx.okf {fx : List (Int × Int)} {p : List Int} (h : Fx fx p) {i : Nat} {j : Int} : okf fx i j = true ↔ (i < p.length → nb p i = j) := by
  rw [okf_iff, h i]
  unfold dgetV
  rw [h i]
  by_cases z : i < p.length
  · rw [if_pos (by omega)]
    simp [z]
  · rw [if_neg (by omega)]
    simp [z]
theorem Fx.agr {fx : List (Int × Int)} {p : List Int} (h : Fx fx p) : ∀ {a : Nat} {row : List Int}, agr fx a row = true ↔ ∀ i, i < row.length → a + i < p.length → nb p (a + i) = nb row i
  | a, [] => by
    constructor
    · intro _ i hi; cases hi
    · intro _; rfl
  | a, x :: row => by
    rw [TM.agr, Bool.and_eq_true, h.okf, Fx.agr h]
    constructor
    · rintro ⟨h1, h2⟩ i hi hp
      cases i with
      | zero => exact h1 hp
      | succ i =>
        have := h2 i (by simpa using hi) (by omega)
        rw [show a + 1 + i = a + (i + 1) by omega] at this
        exact this
    · intro k
      refine ⟨fun hp => k 0 (Nat.succ_pos _) hp, fun i hi hp => ?_⟩
      have := k (i + 1) (by simpa using hi) (by omega)
      rw [show a + (i + 1) = a + 1 + i by omega] at this
      exact this
theorem nb_ext {a b : List Int} (hl : a.length = b.length) (h : ∀ i, i < a.length → nb a i = nb b i) : a = b := by
  refine List.ext_getElem hl fun i h1 h2 => ?_
  have := h i h1
  unfold nb at this
  rw [List.getD_eq_getElem?_getD, List.getD_eq_getElem?_getD, List.getElem?_eq_getElem h1, List.getElem?_eq_getElem h2] at this
  exact this
theorem Fx.take {fx : List (Int × Int)} {p row : List Int} (h : Fx fx p) (hl : p.length ≤ row.length) : TM.agr fx 0 row = true ↔ row.take p.length = p := by
  rw [h.agr]
  constructor
  · intro k
    refine nb_ext (by rw [List.length_take]; omega) fun i hi => ?_
    rw [List.length_take] at hi
    have := k i (by omega) (by omega)
    rw [Nat.zero_add] at this
    rw [this, nb_take (by omega)]
  · intro k i hi hp
    rw [Nat.zero_add] at hp ⊢
    rw [← k, nb_take hp]
/-- the count with the first numbers fixed -/
theorem fC_pre {t : List Int} (h : isTree t = true) {m : Int} {fx : List (Int × Int)} {p : List Int} (hf : Fx fx p) (hl : p.length ≤ t.length) : fC t m fx = (cCe (rT t m) p : Int) := by
  unfold cCe
  rw [List.countP_eq_length_filter]
  refine fC_any h (rT_nodup.filter _) fun row => ?_
  rw [List.mem_filter, mem_rT, decide_eq_true_iff]
  constructor
  · rintro ⟨⟨a, b, c⟩, d⟩; exact ⟨a, b, c, (hf.take (by omega)).mpr d⟩
  · rintro ⟨a, b, c, d⟩; exact ⟨⟨a, b, c⟩, (hf.take (by omega)).mp d⟩
end TM


set_option linter.all false
set_option maxHeartbeats 1000000
namespace TM
open GL
/-! ### the walks of row_at and number_of_row -/
theorem rT_in {t : List Int} {m : Int} : ∀ r ∈ rT t m, r.length = t.length ∧ ∀ x ∈ r, 0 ≤ x ∧ x < m := fun r hr => ⟨(mem_rT.mp hr).1, (mem_rT.mp hr).2.1⟩
/-- what holds at a place of row_at, d being tried -/
structure RA (t : List Int) (m n0 : Int) (fx : List (Int × Int)) (p : List Int) (d number many : Int) : Prop where
  hfx : Fx fx (p ++ [d])
  pl : p.length < t.length
  d0 : 0 ≤ d
  dm : d ≤ m
  hn : 0 ≤ number
  num : n0 = (cBf (rT t m) (p ++ [d]) : Int) + number
  hmany : many = fC t m fx
  lt : n0 < (cBf (rT t m) p : Int) + cCe (rT t m) p
/-- what holds between the places -/
structure RB (t : List Int) (m n0 : Int) (fx : List (Int × Int)) (p : List Int) (number : Int) : Prop where
  hfx : Fx fx p
  pl : p.length ≤ t.length
  hn : 0 ≤ number
  num : n0 = (cBf (rT t m) p : Int) + number
  lt : number < (cCe (rT t m) p : Int)
theorem RA.cnt {t : List Int} (h : isTree t = true) {m n0 : Int} {fx : List (Int × Int)} {p : List Int} {d number many : Int} (r : RA t m n0 fx p d number many) : many = (cCe (rT t m) (p ++ [d]) : Int) := by
  rw [r.hmany, fC_pre h r.hfx (by rw [List.length_append]; exact r.pl)]
theorem RA.next {t : List Int} (h : isTree t = true) {m n0 : Int} {fx fx2 : List (Int × Int)} {p : List Int} {d number many : Int} (r : RA t m n0 fx p d number many) (hw : many ≤ number) (hf : fx2 = dput fx p.length (d + 1)) : RA t m n0 fx2 p (d + 1) (number - many) (fC t m fx2) ∧ d < m := by
  have ec := r.cnt h
  have e1 : cBf (rT t m) (p ++ [d + 1]) = cBf (rT t m) (p ++ [d]) + cCe (rT t m) (p ++ [d]) := cBf_next fun q hq => by rw [(rT_in q hq).1]; exact r.pl
  have hd : d < m := by
    have e2 : cBf (rT t m) (p ++ [m]) = cBf (rT t m) p + cCe (rT t m) p := cBf_end fun q hq => ⟨by rw [(rT_in q hq).1]; exact r.pl, fun x hx => ((rT_in q hq).2 x hx).2⟩
    refine Classical.byContradiction fun z => ?_
    have := r.dm
    have ed : d = m := by omega
    have h1 := r.num
    have h2 := r.lt
    have h3 := r.hn
    rw [ed, e2] at h1
    omega
  refine ⟨⟨by rw [hf]; exact r.hfx.put2, r.pl, by have := r.d0; omega, by omega, by omega, ?_, rfl, r.lt⟩, hd⟩
  rw [e1, r.num]
  omega
theorem RA.leave {t : List Int} (h : isTree t = true) {m n0 : Int} {fx : List (Int × Int)} {p : List Int} {d number many : Int} (r : RA t m n0 fx p d number many) (hw : number < many) : RB t m n0 fx (p ++ [d]) number :=
  ⟨r.hfx, by rw [List.length_append]; exact r.pl, r.hn, r.num, by rw [← r.cnt h]; exact hw⟩
theorem RB.done {t : List Int} {m n0 : Int} {fx : List (Int × Int)} {p : List Int} {number : Int} (r : RB t m n0 fx p number) (hp : p.length = t.length) : (rT t m)[n0.toNat]? = some p := by
  have hl : ∀ q ∈ rT t m, q.length = p.length := fun q hq => by rw [(rT_in q hq).1, hp]
  have h0 := r.hn
  have h1 := r.lt
  have hin : p ∈ rT t m := cCe_all hl (by omega)
  have hc : cCe (rT t m) p ≤ 1 := by
    unfold cCe
    have e : (rT t m).countP (fun q => decide (q.take p.length = p)) = (rT t m).count p := by
      unfold List.count
      refine List.countP_congr fun q hq => ?_
      rw [decide_eq_true_iff, List.take_of_length_le (Nat.le_of_eq (hl q hq))]
      exact beq_iff_eq.symm
    rw [e]
    exact List.nodup_iff_count.mp rT_nodup p
  have h2 := r.num
  rw [show n0.toNat = cBf (rT t m) p by omega]
  exact (cBf_idx rT_sorted hl hin).1
theorem Fx.get {fx : List (Int × Int)} {p : List Int} (h : Fx fx p) {i : Int} (hi : 0 ≤ i ∧ i < p.length) : (dget fx i).isSome = true ∧ dgetV fx i = nb p i.toNat := by
  unfold dgetV
  rw [h i, if_pos hi]
  exact ⟨rfl, rfl⟩
theorem Fx.out {fx : List (Int × Int)} {p : List Int} (h : Fx fx p) : (rg 0 p.length).map (fun c => dgetV fx c) = p := by
  refine List.ext_getElem? fun j => ?_
  rw [List.getElem?_map]
  by_cases hj : j < p.length
  · rw [rg_get 0 _ j (by omega)]
    show some (dgetV fx (0 + (j : Int))) = _
    rw [Int.zero_add, (h.get (i := (j : Int)) (by omega)).2, Int.toNat_natCast, List.getElem?_eq_getElem hj]
    unfold nb
    rw [List.getD_eq_getElem?_getD, List.getElem?_eq_getElem hj]; rfl
  · rw [List.getElem?_eq_none (by rw [rg_len]; omega), List.getElem?_eq_none (by omega)]; rfl
/-- number_of_row: the rows ahead -/
structure NR (t row : List Int) (m : Int) (fx : List (Int × Int)) (i : Nat) (number : Int) : Prop where
  hfx : Fx fx (row.take i)
  num : number = (cBf (rT t m) (row.take i) : Int)
/-- .. with a lesser number at the place -/
structure NS (t row : List Int) (m : Int) (fx0 fx : List (Int × Int)) (i j : Nat) (number : Int) : Prop where
  hfx : (j = 0 → fx = fx0) ∧ (0 < j → Fx fx (row.take i ++ [(j : Int) - 1]))
  f0 : Fx fx0 (row.take i)
  num : number = (cBf (rT t m) (row.take i ++ [(j : Int)]) : Int)
theorem NS.step {t row : List Int} (h : isTree t = true) {m : Int} {fx0 fx fx2 : List (Int × Int)} {i j : Nat} {number : Int} (r : NS t row m fx0 fx i j number) (hi : i < row.length) (hl : row.length = t.length) {pl le : Int} (hp : pl = i) (hle : le = j) (hf : fx2 = dput fx pl le) :
    NS t row m fx0 fx2 i (j + 1) (number + fC t m fx2) := by
  have hlen : (row.take i).length = i := by rw [List.length_take]; omega
  subst hp hle
  have f2 : Fx fx2 (row.take i ++ [(j : Int)]) := by
    rw [hf]
    by_cases z : j = 0
    · rw [r.hfx.1 z]
      have := r.f0.put (d := (j : Int))
      rwa [hlen] at this
    · have := (r.hfx.2 (by omega)).put2 (e := (j : Int))
      rwa [hlen] at this
  refine ⟨⟨fun z => by omega, fun _ => ?_⟩, r.f0, ?_⟩
  · rw [show ((j + 1 : Nat) : Int) - 1 = j by omega]; exact f2
  · have e1 : cBf (rT t m) (row.take i ++ [(j : Int) + 1]) = cBf (rT t m) (row.take i ++ [(j : Int)]) + cCe (rT t m) (row.take i ++ [(j : Int)]) := cBf_next fun q hq => by rw [(rT_in q hq).1, hlen]; omega
    rw [show ((j + 1 : Nat) : Int) = (j : Int) + 1 by omega, e1, r.num, fC_pre h f2 (by rw [List.length_append, hlen]; show i + 1 ≤ _; omega)]
    omega
theorem NS.leave {t row : List Int} {m : Int} {fx0 fx fx2 : List (Int × Int)} {i j : Nat} {number : Int} (r : NS t row m fx0 fx i j number) (hi : i < row.length) (hj : (j : Int) = nb row i) {pl du : Int} (hp : pl = i) (hd : du = nb row i) (hf : fx2 = dput fx pl du) : NR t row m fx2 (i + 1) number := by
  have hlen : (row.take i).length = i := by rw [List.length_take]; omega
  subst hp hd
  refine ⟨?_, by rw [r.num, hj, take_snoc hi]⟩
  rw [take_snoc hi, hf]
  by_cases z : j = 0
  · rw [r.hfx.1 z]
    have := r.f0.put (d := nb row i)
    rwa [hlen] at this
  · have := (r.hfx.2 (by omega)).put2 (e := nb row i)
    rwa [hlen] at this
theorem NR.done {t row : List Int} {m : Int} {fx : List (Int × Int)} {number : Int} {i : Nat} (r : NR t row m fx i number) (hi : i = row.length) (hin : row ∈ rT t m) : number = (((rT t m).idxOf row : Nat) : Int) := by
  rw [r.num, hi, List.take_length]
  congr 1
  exact (cBf_idx rT_sorted (fun q hq => by rw [(rT_in q hq).1, (rT_in row hin).1]) hin).2.symm
end TM
namespace TM
open GL
theorem dput_same {l : List (Int × Int)} {k a : Int} (h : (dget l k).isSome = true) : (dput l k a).length = l.length := by rw [dput_len, if_pos h]
theorem RB.out {t : List Int} {m n0 : Int} {fx : List (Int × Int)} {p : List Int} {number : Int} (r : RB t m n0 fx p number) (hp : p.length = t.length) : (rg 0 t.length).map (fun c => dgetV fx c) = gt (rT t m) n0 := by
  rw [← hp, r.hfx.out]
  have := r.done hp
  have h0 := r.hn
  have h1 := r.num
  unfold gt
  rw [List.getD_eq_getElem?_getD, this]; rfl
end TM
namespace TM
open GL
theorem NS.len {t row : List Int} {m : Int} {fx0 fx : List (Int × Int)} {i j : Nat} {number : Int} (r : NS t row m fx0 fx i j number) (hi : i < row.length) (h0 : fx0.length ≤ i) (h1 : fx.length ≤ i + 1) {pl le : Int} (hp : pl = i) : (dput fx pl le).length ≤ i + 1 := by
  by_cases z : j = 0
  · rw [r.hfx.1 z]
    exact Nat.le_trans dput_le (by omega)
  · have hlen : (row.take i).length = i := by rw [List.length_take]; omega
    rw [dput_same ((r.hfx.2 (by omega)).get (i := pl) (by rw [List.length_append, hlen]; simp; omega)).1]
    exact h1
end TM
namespace TM
open GL
end TM


set_option linter.all false
set_option maxHeartbeats 1000000
namespace TM
open GL
/-! ### few rows of a tree -/
end TM
namespace TM
open GL
end TM


set_option linter.all false
set_option maxHeartbeats 1000000
namespace TM
open GL
/-! ### all trees of so many places; orders -/
def nodeT (top : Nat) (ah be : List Int) : List Int := ah.map (fun e => if 0 ≤ e then e else (top : Int)) ++ [-1] ++ be.map (fun e => if 0 ≤ e then e + (top : Int) + 1 else (top : Int))
def allF : Nat → Nat → List (List Int)
  | 0, _ => [[]]
  | f + 1, n => if n = 0 then [[]] else (List.range n).flatMap fun top => (allF f top).flatMap fun ah => (allF f (n - 1 - top)).map fun be => nodeT top ah be
def allT (n : Nat) : List (List Int) := allF n n
theorem fmap_congr {α β : Type} {f g : α → List β} : ∀ {l : List α}, (∀ x ∈ l, f x = g x) → l.flatMap f = l.flatMap g
  | [], _ => rfl
  | x :: l, h => by rw [List.flatMap_cons, List.flatMap_cons, h x List.mem_cons_self, fmap_congr fun y hy => h y (List.mem_cons_of_mem _ hy)]
theorem allF_eq : ∀ {f g n : Nat}, n ≤ f → n ≤ g → allF f n = allF g n
  | 0, 0, n, _, _ => rfl
  | 0, g + 1, n, h, _ => by
    have : n = 0 := by omega
    subst this; rfl
  | f + 1, 0, n, _, h => by
    have : n = 0 := by omega
    subst this; rfl
  | f + 1, g + 1, n, h1, h2 => by
    unfold allF
    by_cases z : n = 0
    · rw [if_pos z, if_pos z]
    · rw [if_neg z, if_neg z]
      refine fmap_congr fun top ht => ?_
      have ht' := List.mem_range.mp ht
      rw [allF_eq (f := f) (g := g) (n := top) (by omega) (by omega), allF_eq (f := f) (g := g) (n := n - 1 - top) (by omega) (by omega)]
theorem allT_node {n : Nat} (h : n ≠ 0) : allT n = (List.range n).flatMap fun top => (allT top).flatMap fun ah => (allT (n - 1 - top)).map fun be => nodeT top ah be := by
  cases n with
  | zero => exact absurd rfl h
  | succ n =>
    show allF (n + 1) (n + 1) = _
    rw [allF, if_neg h]
    refine fmap_congr fun top ht => ?_
    have ht' := List.mem_range.mp ht
    rw [show allF n top = allT top from allF_eq (by omega) (Nat.le_refl _), show allF n (n + 1 - 1 - top) = allT (n + 1 - 1 - top) from allF_eq (by omega) (Nat.le_refl _)]
/-- every tree is among them -/
def nrm (a : Nat) (e x : Int) : Int := if x = e then -1 else x - a
theorem seg_split {t : List Int} {a b h : Nat} (h1 : a ≤ h) (h2 : h < b) (hb : b ≤ t.length) : (t.drop a).take (b - a) = (t.drop a).take (h - a) ++ [nb t h] ++ (t.drop (h + 1)).take (b - (h + 1)) := by
  have := take_split (row := t) (a := a) (n := h - a) (p := h) (by omega) (q := b - (h + 1)) (by omega)
  rw [show h - a + (b - (h + 1)) + 1 = b - a by omega] at this
  rw [this, List.append_assoc]; rfl
theorem mem_seg {t : List Int} {a n : Nat} {x : Int} (h : x ∈ (t.drop a).take n) (hl : a + n ≤ t.length) : ∃ q, a ≤ q ∧ q < a + n ∧ nb t q = x := by
  obtain ⟨i, hi, e⟩ := List.getElem_of_mem h
  rw [List.length_take, List.length_drop] at hi
  refine ⟨a + i, by omega, by omega, ?_⟩
  rw [List.getElem_take, List.getElem_drop] at e
  unfold nb
  rw [List.getD_eq_getElem?_getD, List.getElem?_eq_getElem (by omega)]
  exact e
theorem T.all {t : List Int} {a b : Nat} {e : Int} (h : T t a b e) : b ≤ t.length → (e < a ∨ (b : Int) ≤ e) → ((t.drop a).take (b - a)).map (nrm a e) ∈ allT (b - a) := by
  induction h with
  | nil a e => intro _ _; rw [Nat.sub_self, List.take_zero]; exact List.mem_singleton.mpr rfl
  | @node a b h e h1 h2 h3 t1 t2 i1 i2 =>
    intro hb he
    rw [allT_node (by omega)]
    have k2 : ((t.drop (h + 1)).take (b - (h + 1))).map (nrm (h + 1) h) ∈ allT (b - a - 1 - (h - a)) := by
      have := i2 hb (.inl (by omega))
      rwa [show b - (h + 1) = b - a - 1 - (h - a) by omega] at this ⊢
    refine List.mem_flatMap.mpr ⟨h - a, List.mem_range.mpr (by omega), List.mem_flatMap.mpr ⟨_, i1 (by omega) (.inr (by omega)), List.mem_map.mpr ⟨_, k2, ?_⟩⟩⟩
    · rw [seg_split h1 h2 hb]
      unfold nodeT
      rw [List.map_append, List.map_append, List.map_map, List.map_map]
      congr 1
      · congr 1
        · refine List.map_congr_left fun x hx => ?_
          obtain ⟨q, q1, q2, q3⟩ := mem_seg hx (by omega)
          have hi := t1.inn q q1 (by omega)
          rw [q3] at hi
          simp only [Function.comp_apply]
          have hne : x ≠ e := by rcases hi with z | z <;> omega
          have e2 : nrm a e x = x - a := if_neg hne
          by_cases z : x = h
          · have e1 : nrm a h x = -1 := if_pos z
            rw [e1, e2, if_neg (by decide)]; omega
          · have e1 : nrm a h x = x - a := if_neg z
            rw [e1, e2, if_pos (by rcases hi with y | y; exact absurd y z; omega)]
        · show [(-1 : Int)] = [nrm a e (nb t h)]
          rw [h3]; simp [nrm]
      · refine List.map_congr_left fun x hx => ?_
        obtain ⟨q, q1, q2, q3⟩ := mem_seg hx (by omega)
        have hi := t2.inn q q1 (by omega)
        rw [q3] at hi
        simp only [Function.comp_apply]
        have hne : x ≠ e := by rcases hi with z | z <;> omega
        have e2 : nrm a e x = x - a := if_neg hne
        by_cases z : x = h
        · have e1 : nrm (h + 1) h x = -1 := if_pos z
          rw [e1, e2, if_neg (by decide)]; omega
        · have e1 : nrm (h + 1) h x = x - (h + 1 : Nat) := if_neg z
          rw [e1, e2, if_pos (by rcases hi with y | y; exact absurd y z; omega)]; omega
def okT (n : Nat) : Bool := decide (allT n).Nodup && (allT n).all fun t => decide (t.length = n) && decide (treeOf (flatF t) = t)
end TM


set_option linter.all false
set_option maxHeartbeats 1000000
namespace TM
open GL
/-! ### orders -/
/-- how many places are under a place, with it, as far as the first i places and j on the way of the next are told -/
def szN (t : List Int) (i : Nat) (o : Int) : Int := 1 + (((List.range i).countP fun p : Nat => decide (o ∈ ups t (p : Int)) : Nat) : Int)
def szs (t : List Int) : List Int := (rg 0 t.length).map (szN t t.length)
def mo (t : List Int) : Int := (szs t).foldl (· / ·) ((((List.range t.length).map fun k : Nat => ((k : Int) + 1)).foldl (· * ·) 1))
def fac (n : Nat) : Int := ((List.range n).map fun k : Nat => ((k : Int) + 1)).foldl (· * ·) 1
/-- along a way -/
def szP (t L : List Int) (i j : Nat) : List Int := (rg 0 t.length).map fun o => szN t i o + if o ∈ L.take j then 1 else 0
/-- the orders of all trees of up to five places -/
def ordT (n : Nat) : Bool := decide (((allT n).map mo).sum = fac n)
end TM
namespace TM
open GL
def lenT : Bool := (List.range 6).all fun n => decide ((allT n).length ≤ 42)
end TM
namespace TM
open GL
end TM
namespace TM
open GL
theorem map_take {α β : Type} {l : List α} {i : Nat} {x : α} {f : α → β} (h : l[i]? = some x) : (l.take (i + 1)).map f = (l.take i).map f ++ [f x] := by
  rw [List.take_succ, List.map_append, h]; rfl
end TM


set_option Elab.async false
set_option linter.all false
set_option maxRecDepth 100000
set_option maxHeartbeats 1000000
namespace TM
open GL
section
variable {t : List Int} {m at_ many : Int} {numbers : List Int} {told : List (List Int)}
end
end TM


set_option Elab.async false
set_option linter.all false
set_option maxRecDepth 100000
set_option maxHeartbeats 1000000
namespace TM
open GL PySem L2
def okB (t : List Int) (m : Int) : Prop := t.length ≤ 12 ∧ 0 ≤ m ∧ m ≤ 12
instance {t : List Int} {m : Int} : Decidable (okB t m) := by unfold okB; infer_instance
noncomputable def duF (way : Int) (t : List Int) (m number : Int) : Option Int :=
  if way ≠ 2 ∧ isTree t = false then some 3
  else if way < 3 ∧ ¬ okB t m then some 2
  else if way = 1 ∧ ¬ (0 ≤ number ∧ number < fC t m []) then some 6
  else if way = 2 ∧ ¬ (∀ x ∈ t, 0 ≤ x ∧ x < m) then some 6 else none
noncomputable def okF (way : Int) (t : List Int) (m number : Int) : Sum Int (List Int) :=
  if way = 0 then .inl (fC t m []) else if way = 1 then .inr (gt (rT t m) number) else if way = 2 then .inl (((rT (treeOf t) m).idxOf t : Nat) : Int) else .inl (mo t)
noncomputable def heF {α : Type} (xs : Int → α) (way : Int) (t : List Int) (m number : Int) : Option (Sum α (Sum Int (List Int))) :=
  match duF way t m number with
  | some d => some (.inl (xs d))
  | none => some (.inr (okF way t m number))
section
variable {way : Int} {t : List Int} {m number d : Int} {α : Type} {xs : Int → α}
noncomputable def okI (way : Int) (t : List Int) (m number : Int) : Int := match okF way t m number with | .inl k => k | .inr _ => 0
end
end TM
namespace TM
open GL PySem L2
section
variable {way : Int} {t : List Int} {m number : Int} {α : Type} {xs : Int → α} {y : Int} {r : List Int}
end
end TM
namespace TM
open GL PySem L2
end TM


set_option Elab.async false
set_option linter.all false
set_option maxRecDepth 100000
set_option maxHeartbeats 1000000
namespace TM
open GL
def pr (l : List Int) : Int := l.foldr (· * ·) 1
structure Seg (t : List Int) (a b : Nat) (e : Int) : Prop where
  T : T t a b e
  out : e < a ∨ (b : Int) ≤ e
  bn : b ≤ t.length
  sep : ∀ q : Nat, q < t.length → (q < a ∨ b ≤ q) → (nb t q < a ∨ (b : Int) ≤ nb t q)
theorem Seg.all {t : List Int} (ht : isTree t = true) : Seg t 0 t.length (-1) :=
  ⟨(isTree_iff.mp ht).2, .inl (by omega), Nat.le_refl _, fun q h1 h2 => by omega⟩
theorem Seg.head {t : List Int} {a b : Nat} {e : Int} (s : Seg t a b e) (hab : a < b) : ∃ h : Nat, a ≤ h ∧ h < b ∧ nb t h = e ∧ (∀ q : Nat, a ≤ q → q < b → q ≠ h → (a : Int) ≤ nb t q ∧ nb t q < b) ∧ Seg t a h h ∧ Seg t (h + 1) b h := by
  obtain ⟨h, h1, h2, h3, h4, t1, t2⟩ := s.T.one hab s.out
  have ho := s.out
  have hb := s.bn
  refine ⟨h, h1, h2, h3, fun q q1 q2 q3 => ?_, ⟨t1, .inr (Int.le_refl _), by omega, fun q q1 q2 => ?_⟩, ⟨t2, .inl (by omega), s.bn, fun q q1 q2 => ?_⟩⟩
  · rcases s.T.in q q1 q2 with z | z
    · exact absurd (h4 q q1 q2 z) q3
    · exact z
  · by_cases y : q < a ∨ b ≤ q
    · rcases s.sep q q1 y with z | z <;> omega
    · by_cases y2 : q = h
      · subst y2; omega
      · rcases t2.in q (by omega) (by omega) with z | z <;> omega
  · by_cases y : q < a ∨ b ≤ q
    · rcases s.sep q q1 y with z | z <;> omega
    · by_cases y2 : q = h
      · subst y2; omega
      · rcases t1.in q (by omega) (by omega) with z | z <;> omega
theorem gt_nbN {t : List Int} {q : Nat} (h : q < t.length) : gt t (q : Int) = nb t q := by
  have := gt_get (l := t) (i := (q : Int)) (by omega)
  rw [Int.toNat_natCast] at this
  unfold nb
  rw [List.getD_eq_getElem?_getD, this]; rfl
def tms (t : List Int) : Int := pr (((rg 0 t.length).map (spanT t)).map fun c => c.2 - c.1 + 1)
end TM
namespace TM
open GL
theorem perm_sub {α : Type} [DecidableEq α] : ∀ {L T : List α}, L.Nodup → (∀ x ∈ L, x ∈ T) → ∃ T', T.Perm (L ++ T')
  | [], T, _, _ => ⟨T, List.Perm.refl _⟩
  | x :: L, T, hn, hs => by
    obtain ⟨n1, n2⟩ := List.nodup_cons.mp hn
    obtain ⟨T', h⟩ := perm_sub (T := T.erase x) n2 fun y hy => (List.mem_erase_of_ne (fun (e : y = x) => n1 (by rw [← e]; exact hy))).mpr (hs y (List.mem_cons_of_mem _ hy))
    exact ⟨T', (List.perm_cons_erase (hs x List.mem_cons_self)).trans (h.cons x)⟩
def catT : Bool := (List.range 6).all fun n => decide (catal (n : Int) = ((allT n).length : Int))
theorem nodup_map {α β : Type} {f : α → β} : ∀ {l : List α}, l.Nodup → (∀ x ∈ l, ∀ y ∈ l, f x = f y → x = y) → (l.map f).Nodup
  | [], _, _ => List.nodup_nil
  | x :: l, hn, h => by
    obtain ⟨n1, n2⟩ := List.nodup_cons.mp hn
    rw [List.map_cons]
    refine List.nodup_cons.mpr ⟨fun hm => ?_, nodup_map n2 fun a ha b hb => h a (List.mem_cons_of_mem _ ha) b (List.mem_cons_of_mem _ hb)⟩
    obtain ⟨y, hy, e⟩ := List.mem_map.mp hm
    exact n1 (h y (List.mem_cons_of_mem _ hy) x List.mem_cons_self e ▸ hy)
noncomputable def atL (n : Int) : List (List Int) := (rg 0 (catal n)).map fun i => hungF (unrank n i)
end TM
namespace TM
open GL
def facT : Bool := (List.range 41).all fun n => decide (fac n ≤ 10 ^ 50)
end TM
namespace TM
open GL
end TM


set_option Elab.async false
set_option linter.all false
set_option maxRecDepth 100000
set_option maxHeartbeats 1000000
namespace TM
open GL
/-! ### fitted: the least row of a tree above given bounds -/
def demP (t ls : List Int) (p o : Int) : Int × Int := (gt ls o + gt (flatF t) p - gt (flatF t) o, o)
def dmL (t ls : List Int) (p : Int) : List (Int × Int) := ([p] ++ ups t p).map (demP t ls p)
def dm (t ls : List Int) (p : Int) : Int × Int := bestL (dmL t ls p)
def rst (t ls : List Int) : List Int := (rg 0 t.length).map fun p => (dm t ls p).1
theorem bestP_cons (a y : Int × Int) (l : List (Int × Int)) : bestP a (y :: l) = bestP (if ltP a y then y else a) l := rfl
theorem bestP_mem : ∀ (l : List (Int × Int)) (a : Int × Int), bestP a l ∈ a :: l
  | [], a => List.mem_cons_self
  | y :: l, a => by
    rw [bestP_cons]
    have := bestP_mem l (if ltP a y then y else a)
    rcases List.mem_cons.mp this with h | h
    · rw [h]; split
      · exact List.mem_cons_of_mem _ List.mem_cons_self
      · exact List.mem_cons_self
    · exact List.mem_cons_of_mem _ (List.mem_cons_of_mem _ h)
theorem bestP_ge : ∀ (l : List (Int × Int)) (a : Int × Int), ∀ y ∈ a :: l, y.1 ≤ (bestP a l).1
  | [], a, y, h => by
    rcases List.mem_cons.mp h with h | h
    · rw [h]; exact Int.le_refl _
    · cases h
  | z :: l, a, y, h => by
    rw [bestP_cons]
    have ih := bestP_ge l (if ltP a z then z else a)
    have h0 := ih _ List.mem_cons_self
    have hl : (if ltP a z then z else a).1 = max a.1 z.1 := by
      unfold ltP
      split
      · rename_i g
        simp only [Bool.or_eq_true, Bool.and_eq_true, decide_eq_true_eq] at g
        omega
      · rename_i g
        simp only [Bool.or_eq_true, Bool.and_eq_true, decide_eq_true_eq] at g
        omega
    rcases List.mem_cons.mp h with h | h
    · subst h; omega
    · rcases List.mem_cons.mp h with h | h
      · subst h; omega
      · exact ih y (List.mem_cons_of_mem _ h)
theorem dm_mem {t ls : List Int} {p : Int} : ∃ o ∈ [p] ++ ups t p, dm t ls p = demP t ls p o := by
  have h := bestP_mem ((ups t p).map (demP t ls p)) (demP t ls p p)
  have e : dm t ls p = bestP (demP t ls p p) ((ups t p).map (demP t ls p)) := rfl
  rw [e]
  rcases List.mem_cons.mp h with h | h
  · exact ⟨p, List.mem_cons_self, h⟩
  · obtain ⟨o, ho, h⟩ := List.mem_map.mp h
    exact ⟨o, List.mem_cons_of_mem _ ho, h.symm⟩
theorem dm_ge {t ls : List Int} {p o : Int} (h : o ∈ [p] ++ ups t p) : gt ls o + gt (flatF t) p - gt (flatF t) o ≤ (dm t ls p).1 := by
  have := bestP_ge ((ups t p).map (demP t ls p)) (demP t ls p p) (demP t ls p o) (by
    rcases List.mem_cons.mp h with h | h
    · subst h; exact List.mem_cons_self
    · exact List.mem_cons_of_mem _ (List.mem_map_of_mem h))
  exact this
theorem flat_edge {t : List Int} (ht : isTree t = true) {p : Int} (hp : 0 ≤ p ∧ p < t.length) (he : ¬ gt t p = -1) : gt (flatF t) p = gt (flatF t) (gt t p) + (if p < gt t p then 1 else 0) := by
  have h1 := flat_le ht hp he
  have h2 := fits_step ht (flat_of_tree ht).2 hp he
  omega
theorem rst_len (t ls : List Int) : (rst t ls).length = t.length := by unfold rst; rw [List.length_map, rg_len]; omega
theorem gt_rst {t ls : List Int} {p : Int} (hp : 0 ≤ p ∧ p < t.length) : gt (rst t ls) p = (dm t ls p).1 := gt_map_rg hp
end TM
namespace TM
open GL PySem
/-- what fitted answers -/
def fitOk (t ls gs : List Int) (x : Sum (Str × Int × Int) (Str × List Int)) : Prop :=
  match x with
  | .inl a => a.1 = Str.ofString "clash" ∧ (0 ≤ a.2.2 ∧ a.2.2 < t.length) ∧ a.2.1 = (dm t ls a.2.2).2 ∧ gt gs a.2.2 < (dm t ls a.2.2).1
  | .inr a => a.1 = Str.ofString "row" ∧ a.2 = rst t ls ∧ ∀ p : Int, 0 ≤ p → p < t.length → (dm t ls p).1 ≤ gt gs p
instance : Inhabited Str := ⟨Str.ofString ""⟩
end TM
namespace TM
open GL PySem
end TM


set_option Elab.async false
set_option linter.all false
namespace TM
open GL L2 PySem
/-! ### the laws that draw rows of a tree -/
end TM
namespace TM
open GL L2 PySem
end TM
namespace TM
end TM
namespace TM
open GL L2 PySem
variable {t ls gs : List Int}
/-- what fitted tells -/
def fitF (t ls gs : List Int) : Sum (Str × Int × Int) (Str × List Int) := match (rg 0 t.length).find? fun p => decide (gt gs p < (dm t ls p).1) with
  | some p => .inl (Str.ofString "clash", (dm t ls p).2, p)
  | none => .inr (Str.ofString "row", rst t ls)
end TM


set_option Elab.async false
set_option linter.all false
namespace TM
open GL L2 PySem
variable {t ls gs r row least greatest : List Int}
theorem gt_eqq {l : List Int} {i : Nat} (h : i < l.length) : l[i]? = some (gt l i) := by
  have := gt_get (l := l) (i := (i : Int)) ⟨by omega, by omega⟩
  rwa [Int.toNat_natCast] at this
/-! ### places by their depth -/
def lamL (t : List Int) : List Int := (rg 0 t.length).mergeSort fun x y => decide (((ups t x).length : Int) ≤ ((ups t y).length : Int))
def lamP (t : List Int) : List (Int × Int) := (lamL t).map fun p => (rk t p, p)
/-- how great the numbers are -/
def KM (t : List Int) (L : List (Int × Int)) (row : List Int) (i : Nat) : Prop := ∀ k q, L[k]? = some q →
  (k < i → -(3000000000000000000000000000000000000000000000000000000000 + q.1 * 6000000000000000000000000000000000000000000000000000000001) ≤ gt row q.2 ∧ gt row q.2 ≤ 3000000000000000000000000000000000000000000000000000000000 + q.1 * 6000000000000000000000000000000000000000000000000000000001) ∧
  (i ≤ k → -3000000000000000000000000000000000000000000000000000000000 ≤ gt row q.2 ∧ gt row q.2 ≤ 3000000000000000000000000000000000000000000000000000000000)
/-! ### what fitted tells, of changed bounds -/
theorem flat_small (ht : isTree t = true) {p : Int} (hp : 0 ≤ p ∧ p < t.length) : 0 ≤ gt (flatF t) p ∧ gt (flatF t) p ≤ 40 := by
  have h1 := flat_nn ht _ (gt_mem (l := flatF t) (i := p) ⟨hp.1, by rw [flatF_len]; exact hp.2⟩)
  refine ⟨h1, ?_⟩
  rw [← flat_law ht, gt_map_rg hp]
  have := List.length_filter_le (fun o => decide (p < o)) (ups t p)
  have := ups_len40 ht hp
  omega
def liesB (row least greatest : List Int) : Bool := ((rg 0 row.length).map fun k => decide (gt least k ≤ gt row k ∧ gt row k ≤ gt greatest k)).all id
end TM
namespace TM
open GL L2 PySem
end TM
namespace TM
open GL L2 PySem
variable {t ls gs : List Int}
theorem dm_max {p : Int} : lmax (([p] ++ ups t p).map fun o => gt ls o + gt (flatF t) p - gt (flatF t) o) = (dm t ls p).1 := by
  obtain ⟨o, ho, h⟩ := dm_mem (t := t) (ls := ls) (p := p)
  have hs := lmax_spec (([p] ++ ups t p).map fun o => gt ls o + gt (flatF t) p - gt (flatF t) o) (by simp)
  have h1 := hs.2 (dm t ls p).1 (by rw [h]; exact List.mem_map.mpr ⟨o, ho, rfl⟩)
  obtain ⟨o2, ho2, e2⟩ := List.mem_map.mp hs.1
  have h2 := dm_ge (t := t) (ls := ls) ho2
  omega
/-- what fitted tells, with the words out of the way -/
def isRow (t ls gs row : List Int) : Prop := fitF t ls gs = .inr (Str.ofString "row", row)
def isClash (t ls gs : List Int) (a b : Int) : Prop := fitF t ls gs = .inl (Str.ofString "clash", a, b)
end TM


set_option Elab.async false
set_option linter.all false
namespace TM
open GL L2 PySem
variable {t ls gs row : List Int}
end TM


set_option Elab.async false
set_option linter.all false
namespace TM
open GL L2 PySem
variable {t way : List Int} {p here : Int}
/-! ### which tuples are trees, by chains that stop at an elder met before -/
structure WT (t : List Int) (p : Int) (way : List Int) (here : Int) : Prop where
  run : ∀ k, up t (way.length + k) (gt t p) = (up t k here).map (way ++ ·)
  nd : way.Nodup
  ins : ∀ o ∈ way, 0 ≤ o ∧ o < (t.length : Int)
end TM


set_option Elab.async false
set_option linter.all false
/-! ### stretches that come twice: trees by start, groups, the first two -/
namespace TM
open GL
/-- the trees of all stretches of so many places -/
def trs (row : List Int) (size : Int) : List (List Int) := (rg 0 ((row.length : Int) - size + 1)).map fun s => treeOf (sl row (some s) (some (s + size)))
theorem trs_len (row : List Int) (size : Int) : (trs row size).length = ((row.length : Int) - size + 1).toNat := by
  unfold trs; rw [List.length_map, rg_len]; congr 1; omega
section
variable {ts us : List (List Int)} {i : Nat} {t : List Int}
/-- where a tree stands among the first so many -/
def posF (ts : List (List Int)) (n : Int) (t : List Int) : List Int := (rg 0 n).filter fun i => decide (gt ts i = t)
/-- the places that have a tree not there before -/
def fstF (ts : List (List Int)) (n : Int) : List Int := (rg 0 n).filter fun i => decide (gt ts i ∉ sl ts none (some i))
def grp (ts : List (List Int)) (n : Int) : List (List Int × List Int) := (fstF ts n).map fun one => (gt ts one, posF ts n (gt ts one))
/-- the groups -/
def gps (ts : List (List Int)) : List (List Int) := (fstF ts ts.length).map fun one => posF ts ts.length (gt ts one)
/-! the first two -/
def later (ts : List (List Int)) (one : Int) : List Int := (rg (one + 1) ts.length).filter fun o => decide (gt ts o = gt ts one)
def ftF (ts : List (List Int)) : Option (List Int) := ((rg 0 ts.length).find? fun one => decide (later ts one ≠ [])).map fun one => [one, gt (later ts one) 0]
theorem ft_len {r : List Int} (h : ftF ts = some r) : r.length = 2 ∧ 2 ≤ ts.length := by
  unfold ftF at h
  cases hf : (rg 0 ts.length).find? fun one => decide (later ts one ≠ []) with
  | none => rw [hf] at h; cases h
  | some o =>
    rw [hf] at h
    have hr : [o, gt (later ts o) 0] = r := by simpa using h
    have hp := List.find?_some hf
    have hm := rg_mem.mp (List.mem_of_find?_eq_some hf)
    have hl := of_decide_eq_true hp
    obtain ⟨x, hx⟩ := List.exists_mem_of_ne_nil _ hl
    unfold later at hx
    rw [List.mem_filter, rg_mem] at hx
    subst hr
    exact ⟨rfl, by omega⟩
/-- what the longest is -/
def LT (row res : List Int) : Prop := ∃ size a b : Int, res = [size, a, b] ∧ 1 ≤ size ∧ ftF (trs row size) = some [a, b] ∧ ftF (trs row (size + 1)) = none ∧ ∀ s, 1 ≤ s → s < size → ftF (trs row (s + 1)) ≠ none
theorem LT.uniq {row r r' : List Int} (h : LT row r) (h' : LT row r') : r = r' := by
  obtain ⟨s, a, b, e, h1, h2, h3, h4⟩ := h
  obtain ⟨s', a', b', e', h1', h2', h3', h4'⟩ := h'
  have : s = s' := by
    rcases Int.lt_trichotomy s s' with z | z | z
    · exact absurd h3 (h4' s h1 z)
    · exact z
    · exact absurd h3' (h4 s' h1' z)
  subst this
  rw [h2] at h2'
  have e2 : [a, b] = [a', b'] := by simpa using h2'
  cases e2
  rw [e, e']
theorem LT.mk {row : List Int} {size : Int} {r : List Int} (h1 : 1 ≤ size) (h2 : ftF (trs row size) = some r) (h3 : ftF (trs row (size + 1)) = none) (h4 : ∀ s, 1 ≤ s → s < size → ftF (trs row (s + 1)) ≠ none) : LT row (size :: r) := by
  have hl := (ft_len h2).1
  match r, hl with
  | [a, b], _ => exact ⟨size, a, b, rfl, h1, h2, h3, h4⟩
theorem LT.out {row r : List Int} (h : LT row r) : (r.length = 3 ∧ 0 < gt r 0) ∧ ftF (trs row (gt r 0)) = some (sl r (some 1) none) ∧ ftF (trs row (gt r 0 + 1)) = none := by
  obtain ⟨s, a, b, e, h1, h2, h3, h4⟩ := h
  subst e
  have e0 : gt [s, a, b] 0 = s := rfl
  rw [e0]
  exact ⟨⟨rfl, by omega⟩, h2, h3⟩
/-! in two rows -/
def fbF (ts us : List (List Int)) : Option (List Int) := ((rg 0 ts.length).find? fun one => decide (gt ts one ∈ us)).map fun one => [one, ((us.idxOf (gt ts one) : Nat) : Int)]
theorem fb_len {r : List Int} (h : fbF ts us = some r) : r.length = 2 ∧ 1 ≤ ts.length := by
  unfold fbF at h
  cases hf : (rg 0 ts.length).find? fun one => decide (gt ts one ∈ us) with
  | none => rw [hf] at h; cases h
  | some o =>
    rw [hf] at h
    have hr : [o, ((us.idxOf (gt ts o) : Nat) : Int)] = r := by simpa using h
    have hm := rg_mem.mp (List.mem_of_find?_eq_some hf)
    subst hr
    exact ⟨rfl, by omega⟩
def LB2 (one other res : List Int) : Prop := ∃ size a b : Int, res = [size, a, b] ∧ 1 ≤ size ∧ fbF (trs one size) (trs other size) = some [a, b] ∧ fbF (trs one (size + 1)) (trs other (size + 1)) = none ∧ ∀ s, 1 ≤ s → s < size → fbF (trs one (s + 1)) (trs other (s + 1)) ≠ none
theorem LB2.uniq {one other r r' : List Int} (h : TM.LB2 one other r) (h' : TM.LB2 one other r') : r = r' := by
  obtain ⟨s, a, b, e, h1, h2, h3, h4⟩ := h
  obtain ⟨s', a', b', e', h1', h2', h3', h4'⟩ := h'
  have : s = s' := by
    rcases Int.lt_trichotomy s s' with z | z | z
    · exact absurd h3 (h4' s h1 z)
    · exact z
    · exact absurd h3' (h4 s' h1' z)
  subst this
  rw [h2] at h2'
  have e2 : [a, b] = [a', b'] := by simpa using h2'
  cases e2
  rw [e, e']
open Classical in
noncomputable def ltF (row : List Int) : List Int := if h : ∃ r, LT row r then Classical.choose h else []
open Classical in
noncomputable def lbF (one other : List Int) : List Int := if h : ∃ r, LB2 one other r then Classical.choose h else []
theorem LB2.mk {one other : List Int} {size : Int} {r : List Int} (h1 : 1 ≤ size) (h2 : fbF (trs one size) (trs other size) = some r) (h3 : fbF (trs one (size + 1)) (trs other (size + 1)) = none) (h4 : ∀ s, 1 ≤ s → s < size → fbF (trs one (s + 1)) (trs other (s + 1)) ≠ none) : LB2 one other (size :: r) := by
  have hl := (fb_len h2).1
  match r, hl with
  | [a, b], _ => exact ⟨size, a, b, rfl, h1, h2, h3, h4⟩
theorem LB2.out {one other r : List Int} (h : LB2 one other r) : (r.length = 3 ∧ 0 < gt r 0) ∧ fbF (trs one (gt r 0)) (trs other (gt r 0)) = some (sl r (some 1) none) ∧ fbF (trs one (gt r 0 + 1)) (trs other (gt r 0 + 1)) = none := by
  obtain ⟨s, a, b, e, h1, h2, h3, h4⟩ := h
  subst e
  have e0 : gt [s, a, b] 0 = s := rfl
  rw [e0]
  exact ⟨⟨rfl, by omega⟩, h2, h3⟩
theorem LT.big {row r : List Int} (h : LT row r) : gt r 0 ≤ row.length := by
  obtain ⟨s, a, b, e, h1, h2, h3, h4⟩ := h
  subst e
  have h5 := (ft_len h2).2
  rw [trs_len] at h5
  show s ≤ _
  omega
theorem LB2.big {one other r : List Int} (h : LB2 one other r) : gt r 0 ≤ one.length := by
  obtain ⟨s, a, b, e, h1, h2, h3, h4⟩ := h
  subst e
  have h5 := (fb_len h2).2
  rw [trs_len] at h5
  show s ≤ _
  omega
/-! where each tree came first -/
section
variable {d : List (List Int × Int)}
end
open Classical in
open Classical in
end
end TM


set_option Elab.async false
set_option linter.all false
set_option maxRecDepth 100000
set_option maxHeartbeats 1000000
/-! ### orders of a tree, reckoned span by span from the deepest places on -/
namespace TM
open GL
/-- the ways that p things and q things pass one another -/
def wy (p : Nat) : Nat → Int
  | 0 => 1
  | i + 1 => wy p i * ((p : Int) + i + 1) / ((i : Int) + 1)
def wyT : Bool := (List.range 41).all fun p => (List.range 41).all fun q => decide (40 < p + q) || (decide (1 ≤ wy p q) && decide (wy p q ≤ 2 ^ 62))
def wyF (p q : Int) : Int := wy p.toNat q.toNat
/-! places and their stretches -/
structure Pl (t : List Int) (p a b : Nat) : Prop where
  s : Seg t a b (nb t p)
  h1 : a ≤ p
  h2 : p < b
  hi : ∀ q : Nat, a ≤ q → q < b → q ≠ p → (a : Int) ≤ nb t q ∧ nb t q < b
  l : Seg t a p p
  r : Seg t (p + 1) b p
theorem place {t : List Int} : ∀ (n a b : Nat) (e : Int), b - a ≤ n → Seg t a b e → ∀ p, a ≤ p → p < b → ∃ a' b', Pl t p a' b'
  | 0, a, b, e, hn, s, p, h1, h2 => by omega
  | n + 1, a, b, e, hn, s, p, h1, h2 => by
    obtain ⟨h, k1, k2, k3, k4, k5, k6⟩ := s.head (by omega)
    rcases Nat.lt_trichotomy p h with z | z | z
    · exact place n a h h (by omega) k5 p h1 z
    · subst z
      exact ⟨a, b, by rw [k3]; exact s, k1, k2, k4, k5, k6⟩
    · exact place n (h + 1) b h (by omega) k6 p z h2
def lo (t : List Int) (p : Nat) : Nat := (spanT t (p : Int)).1.toNat
def hiP (t : List Int) (p : Nat) : Nat := ((spanT t (p : Int)).2 + 1).toNat
theorem Pl.left {t : List Int} {e A B c : Nat} (P : Pl t e A B) (hc : c < t.length) (h : nb t c = e) (hlt : c < e) : Pl t c A e := by
  have hAc : A ≤ c := by
    rcases Nat.lt_or_ge c A with z | z
    · have h1 := P.h1
      have h2 := P.h2
      rcases P.s.sep c hc (.inl z) with y | y <;> omega
    · exact z
  obtain ⟨h', k1, k2, k3, k4, k5, k6⟩ := P.l.head (by omega)
  have : c = h' := by
    apply Classical.byContradiction
    intro z
    have := k4 c hAc hlt z
    omega
  subst this
  exact ⟨by rw [h]; exact P.l, k1, k2, k4, k5, k6⟩
theorem Pl.right {t : List Int} {e A B c : Nat} (P : Pl t e A B) (hc : c < t.length) (h : nb t c = e) (hlt : e < c) : Pl t c (e + 1) B := by
  have hcB : c < B := by
    rcases Nat.lt_or_ge c B with z | z
    · exact z
    · have h1 := P.h1
      have h2 := P.h2
      rcases P.s.sep c hc (.inr z) with y | y <;> omega
  obtain ⟨h', k1, k2, k3, k4, k5, k6⟩ := P.r.head (by omega)
  have : c = h' := by
    apply Classical.byContradiction
    intro z
    have := k4 c hlt hcB z
    omega
  subst this
  exact ⟨by rw [h]; exact P.r, k1, k2, k4, k5, k6⟩
/-- how many orders a stretch has -/
def prs (t : List Int) (a b : Nat) : Int := pr ((List.range' a (b - a)).map fun p : Nat => szN t t.length (p : Int))
def Fs (t : List Int) (a b : Nat) : Int := ((fct (b - a) : Nat) : Int) / prs t a b
end TM


set_option Elab.async false
set_option linter.all false
set_option maxRecDepth 100000
set_option maxHeartbeats 1000000
/-! ### .. the state of that reckoning -/
namespace TM
open GL
def rkU (t : List Int) (q : Nat) : Nat := (ups t (q : Int)).length
/-- those that are done -/
def pc (t : List Int) (deep : Int) (i q : Nat) : Bool := decide (deep < (rkU t q : Int) ∨ ((rkU t q : Int) = deep ∧ q < i))
def lf (t : List Int) (D : Nat → Bool) (p : Nat) : Bool := (List.range t.length).any fun c => D c && decide (nb t c = (p : Int) ∧ c < p)
def rt (t : List Int) (D : Nat → Bool) (p : Nat) : Bool := (List.range t.length).any fun c => D c && decide (nb t c = (p : Int) ∧ p < c)
def sdP (t : List Int) (D : Nat → Bool) (p : Nat) : List Int := [if lf t D p = true then (p : Int) - lo t p else 0, if rt t D p = true then (hiP t p : Int) - p - 1 else 0]
def mnP (t : List Int) (D : Nat → Bool) (p : Nat) : Int := (if D p = true then wy (p - lo t p) (hiP t p - (p + 1)) else 1) * (if lf t D p = true then Fs t (lo t p) p else 1) * (if rt t D p = true then Fs t (p + 1) (hiP t p) else 1)
def sdF (t : List Int) (D : Nat → Bool) : List (List Int) := (List.range t.length).map (sdP t D)
def mnF (t : List Int) (D : Nat → Bool) : List Int := (List.range t.length).map (mnP t D)
def FsP (t : List Int) (p : Nat) : Int := Fs t (lo t p) (hiP t p)
def szQ (t : List Int) (p : Nat) : Int := (hiP t p : Int) - lo t p
section
variable {t : List Int} (ht : isTree t = true) {D D' : Nat → Bool} {p : Nat} (hp : p < t.length)
include ht hp
end
end TM


set_option Elab.async false
set_option linter.all false
set_option maxRecDepth 100000
set_option maxHeartbeats 1000000
/-! ### .. its loops -/
namespace TM
open GL
section
variable {t : List Int} {D D' : Nat → Bool}
end
/-! all orders of few places -/
def ordN : Nat → List (List Int)
  | 0 => [[]]
  | n + 1 => (ordN n).flatMap fun row => (rg 0 ((n : Int) + 1)).map fun a => sl row none (some a) ++ [(n : Int)] ++ sl row (some a) none
def ordC (n : Nat) : Bool := (allT n).all fun t => decide (mo t = (((ordN n).filter fun row => decide (treeOf row = t)).length : Int))
end TM
namespace TM
open GL
def ordL (n : Nat) : Bool := decide ((ordN n).length ≤ 120) && (ordN n).all fun r => decide (r.length ≤ 5)
def ordX (number : Int) (row : List Int) : List (List Int) := (rg 0 (number + 1)).map fun a => sl row none (some a) ++ [number] ++ sl row (some a) none
end TM
namespace TM
open GL
theorem gt_natG {α : Type} [Inhabited α] {l : List α} {i : Nat} {a : α} (h : l[i]? = some a) : gt l (i : Int) = a := by
  have hi := (List.getElem?_eq_some_iff.mp h).1
  have := gt_get (l := l) (i := (i : Int)) (by omega)
  rw [show (i : Int).toNat = i by omega, h] at this
  exact (Option.some.inj this).symm
end TM


set_option linter.all false
set_option maxHeartbeats 1000000
namespace TM
open GL
/-! ### rows grown and shrunk -/
def mel (begin e : Int) : Option Int := if e < 0 then none else some (begin + e)
def marked (numbers : List Int) (begin : Int) : List (Int × Option Int) := (enu (treeOf numbers)).map fun z => (begin + z.1, mel begin z.2)
def markedT (numbers : List Int) (begin : Int) (i : Nat) : List (Int × Option Int) := ((enu (treeOf numbers)).take i).map fun z => (begin + z.1, mel begin z.2)
def chgP (ahead behind : List (Int × Option Int)) (m : Int) : Bool := decide ((dget behind m).isSome = true ∧ ¬ dgetV ahead m = dgetV behind m)
def chgL (ahead behind : List (Int × Option Int)) (ms : List Int) : List (Int × Option Int × Option Int) := (ms.filter (chgP ahead behind)).map fun m => (m, dgetV ahead m, dgetV behind m)
def chg (ahead behind : List (Int × Option Int)) : List (Int × Option Int × Option Int) := chgL ahead behind (isort (ahead.map Prod.fst))
def fm (n : List Int) (m : Int) : Int := if n.length = 0 then 0 else m
abbrev GS := List Int × Int × List (List Int × Int) × Unit
def led (n : List Int) (b way x : Int) : List Int × Int :=
  if way = 0 then ([x] ++ n, b - (if decide (0 < (n.length : Int)) = true then 1 else 0)) else if way = 1 then (n ++ [x], b) else if way = 2 then (sl n (some 1) none, (b + 1) * (if decide (1 < (n.length : Int)) = true then 1 else 0)) else (sl n none (some (-1)), b * (if decide (1 < (n.length : Int)) = true then 1 else 0))
def done (g : GS) (way x : Int) : GS :=
  if way = 0 then ([x] ++ g.1, fm g.1 g.2.1 - (if decide ((0 : Int) < (g.1.length : Int)) = true then 1 else 0), g.2.2.1 ++ [(g.1, g.2.1)], ()) else if way = 1 then (g.1 ++ [x], fm g.1 g.2.1, g.2.2.1 ++ [(g.1, g.2.1)], ()) else if way = 2 then (sl g.1 (some 1) none, g.2.1 + 1, g.2.2.1 ++ [(g.1, g.2.1)], ()) else (sl g.1 none (some (-1)), g.2.1, g.2.2.1 ++ [(g.1, g.2.1)], ())
def backed (g : GS) : GS := if g.2.2.1 = [] then g else ((gtB g.2.2.1 1).1, (gtB g.2.2.1 1).2, g.2.2.1.dropLast, ())
def Gone (g p : List (List Int × Int)) : Prop := p = g.map fun z => (z.1, fm z.1 z.2)
/-- from b to a at most one mark has another elder -/
def Nb (a b : List Int × Int) : Prop := (chg (marked b.1 b.2) (marked a.1 a.2)).length ≤ 1 ∧ a.1.length ≤ 40
def Near (p : List (List Int × Int)) (c : List Int × Int) : Prop := p ≠ [] → Nb (gtB p 1) c
def Lin (p : List (List Int × Int)) (c : List Int × Int) : Prop := ∀ (i : Nat) (a b : List Int × Int), p[i]? = some a → (p ++ [c])[i + 1]? = some b → Nb a b
def J (g : GS) (p : List (List Int × Int)) (n : List Int) (b : Int) : Prop := g.1 = n ∧ fm g.1 g.2.1 = b ∧ Gone g.2.2.1 p ∧ Lin p (n, b) ∧ n.length ≤ 40
/-- a mark in both, with another elder -/
def Dif (n' : List Int) (b' : Int) (n : List Int) (b m : Int) : Prop := (b' ≤ m ∧ m < b' + n'.length) ∧ (b ≤ m ∧ m < b + n.length) ∧ mel b' (eld n' n'.length (m - b').toNat) ≠ mel b (eld n n.length (m - b).toNat)
theorem Dif.symm {n' n : List Int} {b' b m : Int} (h : Dif n' b' n b m) : Dif n b n' b' m := ⟨h.2.1, h.1, fun z => h.2.2 z.symm⟩
/-! a number behind -/
/-! a number ahead -/
end TM


set_option linter.all false
set_option maxHeartbeats 1000000
namespace TM
open GL
end TM
namespace TM
open GL
end TM


set_option linter.all false
set_option maxHeartbeats 1000000
namespace TM
open GL
/-! ### deeds that may be refused (k74) -/
abbrev CHL := List (Int × Option Int × Option Int)
inductive Heard (xT xE xP xN : Addr) (g : GS) (way x : Int) : Option (Sum Addr (Sum CHL (List (Option Int)))) → GS → Prop where
  | big : way < 2 → 40 ≤ g.1.length → Heard xT xE xP xN g way x (some (Sum.inl xT)) g
  | small : 2 ≤ way → way < 4 → g.1 = [] → Heard xT xE xP xN g way x (some (Sum.inl xE)) g
  | past : way = 4 → g.2.2.1 = [] → Heard xT xE xP xN g way x (some (Sum.inl xP)) g
  | place : 4 < way → dget (marked g.1 g.2.1) x = none → Heard xT xE xP xN g way x (some (Sum.inl xN)) g
  | elder : 4 < way → dget (marked g.1 g.2.1) x ≠ none → Heard xT xE xP xN g way x (some (Sum.inr (Sum.inr [dgetV (marked g.1 g.2.1) x]))) g
  | deed (l : CHL) : way < 4 → ¬ (way < 2 ∧ 40 ≤ g.1.length) → ¬ (2 ≤ way ∧ g.1 = []) → Heard xT xE xP xN g way x (some (Sum.inr (Sum.inl l))) (done g way x)
  | back (l : CHL) : way = 4 → g.2.2.1 ≠ [] → Heard xT xE xP xN g way x (some (Sum.inr (Sum.inl l))) (backed g)
def dueN (way many : Int) (past : List (List Int × Int)) : Option Int :=
  if way < 2 ∧ many = 40 then some 2 else if (way = 2 ∨ way = 3) ∧ many = 0 then some 1 else if way = 4 ∧ past = [] then some 7 else none
end TM


set_option linter.all false
set_option maxHeartbeats 1000000
namespace TM
open GL
/-! ### the watch -/
def dbk (given : List Int) (x : Int) : Int := bk (given ++ [x]) given.length
def rcGo (b bd : List Int) (far : Int) : Nat → Int → Int
  | 0, m => m
  | f + 1, m => if gt b m = cutb far m then m else rcGo b bd far f (gt bd (m - 1))
def rc0 (b bd : List Int) (m : Int) : Int := if m = b.length then gt bd (m - 1) else m
def rc (b bd : List Int) (far m : Int) : Int := rcGo b bd far (b.length + 1) (rc0 b bd m) + 1
abbrev Wst := List (List Int) × List (List Int) × List Int × List (List Int) × Unit
def lens (s : Wst) (x : Int) : List Int := (rg 0 s.1.length).map fun at_ => rc (gt s.1 at_) (gt s.2.1 at_) (dbk s.2.2.1 x) (gt (gtB s.2.2.2.1 1) at_)
def tells (s : Wst) (x : Int) : List Int := (rg 0 (lens s x).length).filter fun at_ => decide (gt (lens s x) at_ = ((gt s.1 at_).length : Int))
def given1 (s : Wst) (x : Int) : Wst := (s.1, s.2.1, s.2.2.1 ++ [x], s.2.2.2.1 ++ [lens s x], ())
def back1 (s : Wst) : Wst := (s.1, s.2.1, s.2.2.1.dropLast, s.2.2.2.1.dropLast, ())
structure RowOk (b bd : List Int) (m : Int) : Prop where
  b0 : 0 < b.length
  bl : b.length ≤ 12
  dl : bd.length = b.length
  g0 : gt b 0 = 0
  m0 : 0 ≤ m
  ml : m ≤ b.length
  go : ∀ t : Int, 1 ≤ t → t ≤ b.length → 0 ≤ gt bd (t - 1) ∧ gt bd (t - 1) < t
structure WOk (s : Wst) : Prop where
  l2 : s.2.1.length = s.1.length
  ne : s.2.2.2.1 ≠ []
  l3 : (gtB s.2.2.2.1 1).length = s.1.length
  few : s.1.length ≤ 12
  big : s.2.2.1.length ≤ 1000
  lb : s.2.2.2.1.length ≤ 2000
  row : ∀ i : Int, 0 ≤ i → i < s.1.length → RowOk (gt s.1 i) (gt s.2.1 i) (gt (gtB s.2.2.2.1 1) i)
/-- the loop's word -/
def RcI (b bd : List Int) (far m0 m : Int) : Prop := (0 ≤ m ∧ m < b.length) ∧ ∃ f : Nat, m < f ∧ rcGo b bd far (b.length + 1) m0 = rcGo b bd far f m
/-! ### what the watch knows, by rows and numbers -/
def rchGo (row text : List Int) : Nat → Nat
  | 0 => 0
  | n + 1 => if n + 1 ≤ text.length ∧ kinB (row.take (n + 1)) (text.drop (text.length - (n + 1))) = true then n + 1 else rchGo row text n
/-- the most numbers of the row's beginning that the text's end is kin to -/
def rch (row text : List Int) : Int := rchGo row text row.length
/-- the watch of these rows with these numbers given -/
noncomputable def wS (rows : List (List Int)) (given : List Int) : Wst := (rows.map backs, rows.map borders, given, (List.range (given.length + 1)).map fun i => rows.map fun r => rch r (given.take i), ())
def RowsOk (rows : List (List Int)) : Prop := (0 < rows.length ∧ rows.length ≤ 12) ∧ ∀ r ∈ rows, 1 ≤ r.length ∧ r.length ≤ 12
/-- the rows that end here -/
def ended (rows : List (List Int)) (text : List Int) : List Int := (rg 0 rows.length).filter fun at_ => decide (rch (gt rows at_) text = ((gt rows at_).length : Int))
def reachNow (s : Wst) : Int := lmax (gtB s.2.2.2.1 1)
end TM
namespace TM
open GL
end TM


set_option linter.all false
set_option maxHeartbeats 1000000
namespace TM
open GL
/-! ### k49: watched, sought and grouped -/
/-- where a row ends in a text's first numbers -/
def endsB (row text : List Int) (i : Nat) : List Int := ((List.range i).filter fun j => decide (rch row (text.take (j + 1)) = (row.length : Int))).map fun (j : Nat) => (j : Int) + 1
def mostB (row text : List Int) : Nat → Int
  | 0 => 0
  | i + 1 => max (mostB row text i) (rch row (text.take (i + 1)))
/-! the row itself -/
/-! windows -/
end TM
namespace TM
open GL
structure Own (row : List Int) (w : Wst) (x : Int) : Prop where
  g : given1 w x = wS [row] (row ++ [x])
  b : back1 (wS [row] (row ++ [x])) = wS [row] row
  b2 : back1 (wS [row] row) = wS [row] row.dropLast
  k0 : WOk w
  k1 : WOk (wS [row] row)
  k2 : WOk (wS [row] (row ++ [x]))
  k3 : WOk (wS [row] row.dropLast)
  r1 : reachNow (wS [row] row) = row.length
  r2 : reachNow (wS [row] (row ++ [x])) ≤ gtB (borders row) 1 + 1
  r3 : reachNow (wS [row] row.dropLast) = (row.length : Int) - 1
end TM
namespace TM
open GL
end TM
namespace TM
open GL
end TM


set_option linter.all false
set_option maxHeartbeats 1000000
namespace TM
open GL
/-! ### k92: starts by a watch -/
/-- what a watch of the rows tells, number by number -/
def toldW (rows : List (List Int)) (text : List Int) (n : Nat) : List (List Int) := (List.range n).map fun i => ended rows (text.take (i + 1))
/-! reached -/
/-- the sizes that are found, of the first rows -/
structure Szs (rows : List (List Int)) (text : List Int) (n : Nat) (sizes : List Int) : Prop where
  z : 0 ∈ sizes
  nn : ∀ s ∈ sizes, 0 ≤ s
  lt : ∀ s ∈ sizes, s = 0 ∨ ∃ r ∈ rows.take n, s ≤ rch r text
  has : ∀ r ∈ rows.take n, rch r text ∈ sizes
  len : sizes.length ≤ 1 + 12 * n
structure Sz1 (rows : List (List Int)) (text row : List Int) (n : Nat) (k : Nat) (sizes : List Int) : Prop where
  z : 0 ∈ sizes
  nn : ∀ s ∈ sizes, 0 ≤ s
  lt : ∀ s ∈ sizes, s = 0 ∨ (∃ r ∈ rows.take n, s ≤ rch r text) ∨ s ≤ rch row text
  has : ∀ r ∈ rows.take n, rch r text ∈ sizes
  own : rch row text ≤ k → rch row text ∈ sizes
  len : sizes.length ≤ 1 + 12 * n + k
/-! the row itself, from its second number on -/
end TM
namespace TM
open GL
end TM


set_option linter.all false
set_option maxHeartbeats 1000000
namespace TM
open GL
/-! ### k95: a grown row and a watch -/
/-- the trees of the last numbers -/
def lastsT (numbers : List Int) : List (List Int) := (rg 1 (min 12 (numbers.length : Int) + 1)).map fun size => treeOf (sl (flatF (treeOf numbers)) (some ((numbers.length : Int) - size)) (some ((numbers.length : Int) - 1 + 1)))
/-- the most that is reached, of the first rows -/
structure MR (rows : List (List Int)) (numbers : List Int) (n : Nat) (m : Int) : Prop where
  nn : 0 ≤ m
  at_ : m = 0 ∨ ∃ r ∈ rows.take n, m ≤ rch r numbers
  all : ∀ r ∈ rows.take n, rch r numbers ≤ m
structure MR1 (rows : List (List Int)) (numbers row : List Int) (n k : Nat) (m : Int) : Prop where
  nn : 0 ≤ m
  at_ : m = 0 ∨ (∃ r ∈ rows.take n, m ≤ rch r numbers) ∨ m ≤ rch row numbers
  all : ∀ r ∈ rows.take n, rch r numbers ≤ m
  own : rch row numbers ≤ k → rch row numbers ≤ m
/-! both -/
structure WG (rows : List (List Int)) (w : Wst) (g : GS) (n : Nat) : Prop where
  w : w = wS rows g.1
  len : g.1.length ≤ n
  past : g.2.2.1.length ≤ 2 * n
end TM
namespace TM
open GL
structure WG2 (rows : List (List Int)) (w : Wst) (g : GS) (n : Nat) : Prop where
  w : w = wS rows g.1
  len : g.1.length ≤ n
  past : g.2.2.1.length ≤ 2 * n + 1
end TM


set_option linter.all false
set_option maxHeartbeats 1000000
namespace TM
open GL
/-! ### k44: numbers taken back -/
def begT (row : List Int) : List (List Int) := (rg 1 ((row.length : Int) + 1)).map fun k => treeOf (sl row none (some k))
def begsT (rows : List (List Int)) : List (List (List Int)) := rows.map begT
/-- how many of a row's beginnings' trees the given numbers' end reaches -/
def rcTGo (begun : List (List Int)) (given : List Int) : Nat → Nat
  | 0 => 0
  | n + 1 => if n + 1 ≤ given.length ∧ gt begun (n : Int) = treeOf (given.drop (given.length - (n + 1))) then n + 1 else rcTGo begun given n
def rcT (begun : List (List Int)) (given : List Int) : Int := rcTGo begun given begun.length
def endT (trees : List (List (List Int))) (given : List Int) (n : Nat) : List Int := (rg 0 (n : Int)).filter fun at_ => decide (rcT (gt trees at_) given = ((gt trees at_).length : Int))
def mostT (trees : List (List (List Int))) (given : List Int) : Int := lmax (trees.map fun b => rcT b given)
/-! the loops -/
def lastT (given : List Int) : List (List Int) := (rg 1 (min 12 (given.length : Int) + 1)).map fun k => treeOf (sl given (some (-k)) none)
structure ET (trees : List (List (List Int))) (given : List Int) (n : Nat) (ended_ : List Int) (m : Int) : Prop where
  e : ended_ = endT trees given n
  nn : 0 ≤ m
  at_ : m = 0 ∨ ∃ b ∈ trees.take n, m ≤ rcT b given
  all : ∀ b ∈ trees.take n, rcT b given ≤ m
structure ET1 (trees : List (List (List Int))) (given : List Int) (begun : List (List Int)) (n k : Nat) (ended_ : List Int) (m : Int) : Prop where
  e : ended_ = endT trees given n ++ (if begun.length ≤ k ∧ rcT begun given = (begun.length : Int) then [(n : Int)] else [])
  nn : 0 ≤ m
  at_ : m = 0 ∨ (∃ b ∈ trees.take n, m ≤ rcT b given) ∨ m ≤ rcT begun given
  all : ∀ b ∈ trees.take n, rcT b given ≤ m
  own : rcT begun given ≤ k → rcT begun given ≤ m
/-! numbers taken back -/
def backW (w : Wst) : Wst := if w.2.2.1 = [] then w else back1 w
structure WV (rows : List (List Int)) (w : Wst) (given : List Int) (n : Nat) : Prop where
  w : w = wS rows given
  len : given.length ≤ n
end TM
namespace TM
open GL
end TM


set_option linter.all false
set_option maxHeartbeats 1000000
namespace TM
open GL
/-! ### places paired anew -/
variable {B : List (List Int)} {u u' : List (Option Int)} {a b x : Int} {seen seen' : List Int}
def BOk (B : List (List Int)) : Prop := B.length ≤ 40 ∧ ∀ a : Int, ∀ b ∈ gt B a, 0 ≤ b ∧ b < B.length
def UOk (B : List (List Int)) (u : List (Option Int)) : Prop := u.length = B.length ∧ ∀ b : Int, 0 ≤ b → b < B.length → ∀ a, gt u b = some a → (0 ≤ a ∧ a < B.length) ∧ b ∈ gt B a
def InR (B : List (List Int)) (seen : List Int) : Prop := seen.Nodup ∧ ∀ x ∈ seen, 0 ≤ x ∧ x < B.length
structure PIn (B : List (List Int)) (u : List (Option Int)) (a : Int) (seen : List Int) : Prop where
  bo : BOk B
  uo : UOk B u
  ar : 0 ≤ a ∧ a < B.length
  sr : InR B seen
def Cl (B : List (List Int)) (u : List (Option Int)) (U S : Int → Prop) : Prop := (∀ a, U a → ∀ b ∈ gt B a, S b) ∧ ∀ b, S b → (0 ≤ b ∧ b < B.length) ∧ ∃ v, gt u b = some v ∧ U v
structure POut (B : List (List Int)) (u : List (Option Int)) (a : Int) (seen : List Int) (res : Bool) (u' : List (Option Int)) (seen' : List Int) : Prop where
  uo : UOk B u'
  sr : InR B seen'
  sub : (∀ x ∈ seen, x ∈ seen') ∧ seen.length ≤ seen'.length
  keep : ∀ x ∈ seen, gt u' x = gt u x
  yes : res = true → ∀ v, u'.count (some v) = u.count (some v) + if v = a then 1 else 0
  no : res = false → u' = u ∧ (∀ b ∈ gt B a, b ∈ seen') ∧ ∀ b ∈ seen', b ∉ seen → ∃ v, gt u b = some v ∧ ∀ c ∈ gt B v, c ∈ seen'
  cl : ∀ U S, Cl B u U S → (U a → res = false) ∧ ∀ b, S b → gt u' b = gt u b
structure PLoop (B : List (List Int)) (u : List (Option Int)) (a : Int) (seen0 : List Int) (i : Nat) (seen : List Int) : Prop where
  sr : InR B seen
  sub : (∀ x ∈ seen0, x ∈ seen) ∧ seen0.length ≤ seen.length
  done : ∀ b ∈ (gt B a).take i, b ∈ seen
  mate : ∀ b ∈ seen, b ∉ seen0 → ∃ v, gt u b = some v ∧ ∀ c ∈ gt B v, c ∈ seen
theorem gt_setG {α : Type} [Inhabited α] {l : List α} {p q : Int} {x : α} (hp : 0 ≤ p ∧ p < l.length) (hq : 0 ≤ q) : gt (l.set p.toNat x) q = if q = p then x else gt l q := by
  unfold gt
  rw [List.getD_eq_getElem?_getD, List.getD_eq_getElem?_getD, List.getElem?_set]
  by_cases c : q = p
  · subst c; rw [if_pos rfl, if_pos rfl, if_pos (by omega)]; rfl
  · rw [if_neg (by omega), if_neg c]
theorem inr_len (h : InR B seen) : seen.length ≤ B.length := nodup_len h.1 h.2
theorem inr_add (h : InR B seen) (hx : 0 ≤ x ∧ x < B.length) (hn : x ∉ seen) : InR B (seen ++ [x]) := by
  refine ⟨?_, fun y hy => ?_⟩
  · rw [List.nodup_append]
    refine ⟨h.1, by simp, fun y hy z hz => ?_⟩
    rw [List.mem_singleton] at hz; subst hz
    intro e; subst e; exact hn hy
  · rcases List.mem_append.mp hy with z | z
    · exact h.2 y z
    · rw [List.mem_singleton] at z; subst z; exact hx
theorem item_b (h : BOk B) {i : Nat} (hx : (gt B a)[i]? = some x) : 0 ≤ x ∧ x < B.length := h.2 a x (List.mem_of_getElem? hx)
theorem pl_init (h : PIn B u a seen) : PLoop B u a seen 0 seen := ⟨h.sr, ⟨fun _ z => z, Nat.le_refl _⟩, fun b hb => by simp at hb, fun b hb hn => absurd hb hn⟩
theorem take_add {l : List Int} {i : Nat} (hx : l[i]? = some x) : ∀ b ∈ l.take (i + 1), b ∈ l.take i ∨ b = x := fun b hb => by
  rw [List.take_add_one, hx] at hb
  rcases List.mem_append.mp hb with z | z
  · exact .inl z
  · right; simpa using z
theorem pl_skip {s0 : List Int} {i : Nat} (h : PLoop B u a s0 i seen) (hx : (gt B a)[i]? = some x) (hi : x ∈ seen) : PLoop B u a s0 (i + 1) seen :=
  ⟨h.sr, h.sub, fun b hb => by rcases take_add hx b hb with z | z; exact h.done b z; subst z; exact hi, h.mate⟩
theorem pl_in {s0 : List Int} {i : Nat} (h0 : PIn B u a s0) (h : PLoop B u a s0 i seen) (hx : (gt B a)[i]? = some x) (hn : x ∉ seen) (hs : ¬ gt u x = none) : PIn B u (oget (gt u x)) (seen ++ [x]) := by
  have hb := item_b h0.bo hx
  exact ⟨h0.bo, h0.uo, (h0.uo.2 x hb.1 hb.2 _ (oget_some hs)).1, inr_add h.sr hb hn⟩
theorem pl_rank {s0 : List Int} {i n : Nat} (h0 : PIn B u a s0) (h : PLoop B u a s0 i seen) (hx : (gt B a)[i]? = some x) (hn : x ∉ seen) (hr : B.length - s0.length < n + 1) : B.length - (seen ++ [x]).length < n := by
  have h1 := inr_len (inr_add h.sr (item_b h0.bo hx) hn)
  have h2 := h.sub.2
  rw [List.length_append, List.length_singleton] at h1 ⊢
  omega
theorem pl_false {s0 : List Int} {i : Nat} (h : PLoop B u a s0 i seen) (hx : (gt B a)[i]? = some x) (hs : ¬ gt u x = none) (hp : POut B u (oget (gt u x)) (seen ++ [x]) false u' seen') : u' = u ∧ PLoop B u a s0 (i + 1) seen' := by
  obtain ⟨e, h1, h2⟩ := hp.no rfl
  refine ⟨e, hp.sr, ⟨fun y hy => hp.sub.1 y (List.mem_append_left _ (h.sub.1 y hy)), by have := h.sub.2; have := hp.sub.2; rw [List.length_append, List.length_singleton] at this; omega⟩, fun b hb => ?_, fun b hb hn => ?_⟩
  · rcases take_add hx b hb with z | z
    · exact hp.sub.1 b (List.mem_append_left _ (h.done b z))
    · subst z; exact hp.sub.1 b (List.mem_append_right _ (List.mem_singleton.mpr rfl))
  · by_cases c : b ∈ seen
    · obtain ⟨v, hv, hc⟩ := h.mate b c hn
      exact ⟨v, hv, fun y hy => hp.sub.1 y (List.mem_append_left _ (hc y hy))⟩
    · by_cases d : b = x
      · subst d; exact ⟨_, oget_some hs, h1⟩
      · exact h2 b hb (fun z => by rcases List.mem_append.mp z with z | z; exact c z; exact d (List.mem_singleton.mp z))
theorem pl_end {s0 : List Int} (h0 : PIn B u a s0) (h : PLoop B u a s0 (gt B a).length seen) : POut B u a s0 false u seen := by
  refine ⟨h0.uo, h.sr, h.sub, fun _ _ => rfl, fun z => (by cases z), fun _ => ⟨rfl, fun b hb => h.done b (by rw [List.take_length]; exact hb), h.mate⟩, fun U S _ => ⟨fun _ => rfl, fun _ _ => rfl⟩⟩
theorem uok_set (h : UOk B u) (hx : 0 ≤ x ∧ x < B.length) (ha : 0 ≤ a ∧ a < B.length) (hm : x ∈ gt B a) : UOk B (u.set x.toNat (some a)) := by
  refine ⟨by rw [List.length_set]; exact h.1, fun b h0 h1 v hv => ?_⟩
  rw [gt_setG (by rw [h.1]; exact hx) h0] at hv
  by_cases c : b = x
  · rw [if_pos c] at hv; cases hv; subst c; exact ⟨ha, hm⟩
  · rw [if_neg c] at hv; exact h.2 b h0 h1 v hv
theorem cnt_set {e : Option Int} (hx : 0 ≤ x ∧ x < u.length) (v : Int) : (u.set x.toNat e).count (some v) + (if gt u x = some v then 1 else 0) = u.count (some v) + if e = some v then 1 else 0 := by
  have hl : x.toNat < u.length := by omega
  have e1 : u[x.toNat] = gt u x := by
    have := gt_get hx
    rw [List.getElem?_eq_getElem hl] at this
    exact Option.some.inj this
  rw [List.count_set hl, e1]
  have hp : gt u x = some v → 0 < u.count (some v) := fun z => List.count_pos_iff.mpr (z ▸ List.mem_of_getElem? (gt_get hx))
  by_cases c : gt u x = some v <;> by_cases d : e = some v <;> simp [c, d] <;> (try have := hp c) <;> omega
theorem pl_true {s0 : List Int} {i : Nat} (h0 : PIn B u a s0) (h : PLoop B u a s0 i seen) (hx : (gt B a)[i]? = some x) (hn : x ∉ seen)
    (hp : (gt u x = none ∧ u' = u ∧ seen' = seen ++ [x]) ∨ (¬ gt u x = none ∧ POut B u (oget (gt u x)) (seen ++ [x]) true u' seen')) : POut B u a s0 true (u'.set x.toNat (some a)) seen' := by
  have hb := item_b h0.bo hx
  have hm : x ∈ gt B a := List.mem_of_getElem? hx
  have hU : UOk B u' := by rcases hp with ⟨_, e, _⟩ | ⟨_, p⟩; rw [e]; exact h0.uo; exact p.uo
  have hS : InR B seen' := by rcases hp with ⟨_, _, e⟩ | ⟨_, p⟩; rw [e]; exact inr_add h.sr hb hn; exact p.sr
  have hul : 0 ≤ x ∧ x < u'.length := by rw [hU.1]; exact hb
  have hsub : (∀ y ∈ seen ++ [x], y ∈ seen') ∧ (seen ++ [x]).length ≤ seen'.length := by rcases hp with ⟨_, _, e⟩ | ⟨_, p⟩; rw [e]; exact ⟨fun _ z => z, Nat.le_refl _⟩; exact p.sub
  have hkeep : ∀ y ∈ seen ++ [x], gt u' y = gt u y := by rcases hp with ⟨_, e, _⟩ | ⟨_, p⟩; rw [e]; exact fun _ _ => rfl; exact p.keep
  have hne : ∀ y ∈ s0, y ≠ x := fun y hy e => hn (e ▸ h.sub.1 y hy)
  refine ⟨uok_set hU hb h0.ar hm, hS, ⟨fun y hy => hsub.1 y (List.mem_append_left _ (h.sub.1 y hy)), by have := h.sub.2; have := hsub.2; rw [List.length_append, List.length_singleton] at this; omega⟩, fun y hy => ?_, fun _ v => ?_, fun z => (by cases z), fun U S hc => ?_⟩
  · rw [gt_setG hul (h0.sr.2 y hy).1, if_neg (hne y hy)]
    exact hkeep y (List.mem_append_left _ (h.sub.1 y hy))
  · have hcs := cnt_set (e := some a) hul v
    rw [hkeep x (by simp)] at hcs
    have e1 : (if some a = some v then 1 else 0) = (if v = a then 1 else 0 : Nat) := by
      by_cases c : v = a
      · rw [if_pos c, if_pos (by rw [c])]
      · rw [if_neg c, if_neg (fun z => c (Option.some.inj z).symm)]
    rw [e1] at hcs
    rcases hp with ⟨e0, e, _⟩ | ⟨e0, p⟩
    · rw [e0, if_neg (by intro z; cases z), e] at hcs
      rw [e]; omega
    · have hy := p.yes rfl v
      have e2 : (if gt u x = some v then 1 else 0) = (if v = oget (gt u x) then 1 else 0 : Nat) := by
        by_cases c : v = oget (gt u x)
        · rw [if_pos c, if_pos (by rw [c]; exact oget_some e0)]
        · rw [if_neg c, if_neg (fun z => c (by rw [z]; rfl))]
      rw [e2] at hcs
      omega
  · have hxS : ¬ S x := fun z => by
      obtain ⟨_, v, hv, hvU⟩ := hc.2 x z
      rcases hp with ⟨e0, _, _⟩ | ⟨e0, p⟩
      · rw [e0] at hv; cases hv
      · have := (p.cl U S hc).1 (by rw [hv]; exact hvU)
        cases this
    refine ⟨fun hUa => absurd (hc.1 a hUa x hm) hxS, fun y hy => ?_⟩
    have hyr := (hc.2 y hy).1
    rw [gt_setG hul hyr.1, if_neg (fun e : y = x => hxS (e ▸ hy))]
    rcases hp with ⟨_, e, _⟩ | ⟨_, p⟩
    · rw [e]
    · exact (p.cl U S hc).2 y hy
/-! ### each place paired -/
structure UpI (B : List (List Int)) (u : List (Option Int)) (i : Nat) : Prop where
  bo : BOk B
  uo : UOk B u
  one : ∀ v, u.count (some v) ≤ 1
  late : ∀ v : Int, (i : Int) ≤ v → u.count (some v) = 0
  cl : ∀ v : Int, 0 ≤ v → v < i → u.count (some v) = 0 → ∃ U S, Cl B u U S ∧ U v
structure UpOk (B : List (List Int)) (u : List (Option Int)) : Prop where
  bo : BOk B
  uo : UOk B u
  one : ∀ v, u.count (some v) ≤ 1
  cl : ∀ v : Int, 0 ≤ v → v < B.length → u.count (some v) = 0 → ∃ U S, Cl B u U S ∧ U v
theorem pu_init (h : BOk B) {u : List (Option Int)} (hu : u = B.map fun _ => none) : UpI B u 0 := by
  have e : u = List.replicate B.length none := by rw [hu, List.map_const']
  have hc : ∀ v : Int, u.count (some v) = 0 := fun v => by rw [e, List.count_replicate]; simp
  refine ⟨h, ⟨by rw [hu, List.length_map], fun b h0 h1 a ha => ?_⟩, fun v => by rw [hc v]; omega, fun v _ => hc v, fun v h0 h1 => absurd h1 (by omega)⟩
  have := List.mem_of_getElem? (gt_get (l := u) (i := b) ⟨h0, by rw [hu, List.length_map]; exact h1⟩)
  rw [ha, e, List.mem_replicate] at this
  cases this.2
theorem pu_in {i : Nat} (h : UpI B u i) (hi : i < B.length) (hx : x = (i : Int)) : PIn B u x [] := ⟨h.bo, h.uo, by omega, List.nodup_nil, fun _ z => absurd z (by simp)⟩
theorem pu_step {i : Nat} {r : Bool} (h : UpI B u i) (hi : i < B.length) (hx : x = (i : Int)) (hp : POut B u x [] r u' seen') : UpI B u' (i + 1) := by
  have h0 := h.late x (by omega)
  cases r with
  | true =>
    have hy := hp.yes rfl
    refine ⟨h.bo, hp.uo, fun v => ?_, fun v hv => ?_, fun v hv0 hv1 hv => ?_⟩
    · rw [hy v]
      by_cases c : v = x
      · rw [if_pos c, c, h0]; omega
      · rw [if_neg c]; have := h.one v; omega
    · rw [hy v, if_neg (by omega), h.late v (by omega)]
    · rw [hy v] at hv
      have hvx : v ≠ x := fun z => by rw [if_pos z] at hv; omega
      obtain ⟨U, S, hc, hU⟩ := h.cl v hv0 (by omega) (by omega)
      refine ⟨U, S, ⟨hc.1, fun b hb => ⟨(hc.2 b hb).1, ?_⟩⟩, hU⟩
      rw [(hp.cl U S hc).2 b hb]; exact (hc.2 b hb).2
  | false =>
    obtain ⟨e, h1, h2⟩ := hp.no rfl
    subst e
    refine ⟨h.bo, hp.uo, h.one, fun v hv => h.late v (by omega), fun v hv0 hv1 hv => ?_⟩
    by_cases c : v = x
    · subst c
      refine ⟨fun w => w = v ∨ ∃ b ∈ seen', gt u' b = some w, fun b => b ∈ seen', ⟨fun w hw b hb => ?_, fun b hb => ?_⟩, .inl rfl⟩
      · rcases hw with rfl | ⟨d, hd, e⟩
        · exact h1 b hb
        · obtain ⟨w', hw', hc⟩ := h2 d hd (by simp)
          rw [e] at hw'; cases hw'
          exact hc b hb
      · obtain ⟨w, hw, _⟩ := h2 b hb (by simp)
        exact ⟨hp.sr.2 b hb, w, hw, .inr ⟨b, hb, hw⟩⟩
    · exact h.cl v hv0 (by omega) hv
theorem pu_end (h : UpI B u B.length) : UpOk B u := ⟨h.bo, h.uo, h.one, h.cl⟩
end TM


set_option linter.all false
set_option maxHeartbeats 1000000
namespace TM
open GL
variable {B : List (List Int)} {u : List (Option Int)} {a b x at_ : Int} {above met : List Int}
theorem pl_setr {s0 seen seen' : List Int} {u' : List (Option Int)} {i : Nat} (h0 : PIn B u a s0) (hx : (gt B a)[i]? = some x)
    (hp : (gt u x = none ∧ u' = u ∧ seen' = seen ++ [x]) ∨ (¬ gt u x = none ∧ POut B u (oget (gt u x)) (seen ++ [x]) true u' seen')) : 0 ≤ x ∧ x < u'.length := by
  have hb := item_b h0.bo hx
  rcases hp with ⟨_, e, _⟩ | ⟨_, p⟩
  · rw [e, h0.uo.1]; exact hb
  · rw [p.uo.1]; exact hb
theorem cnt0 {v : Int} : u.count (some v) = 0 ↔ ¬ some v ∈ u := by rw [List.count_eq_zero]
theorem opt_at {b v : Int} (h0 : 0 ≤ b) (h1 : b < u.length) (h : gt u b = some v) : some v ∈ u := h ▸ List.mem_of_getElem? (gt_get ⟨h0, h1⟩)
theorem opt_inj (h : ∀ v, u.count (some v) ≤ 1) {b c v : Int} (hb : 0 ≤ b ∧ b < u.length) (hc : 0 ≤ c ∧ c < u.length) (e1 : gt u b = some v) (e2 : gt u c = some v) : b = c := by
  refine Classical.byContradiction fun hn => ?_
  have k := cnt_set (e := none) hb v
  rw [if_pos e1, if_neg (by intro z; cases z)] at k
  have hz : (u.set b.toNat none).count (some v) = 0 := by have := h v; omega
  refine cnt0.mp hz ?_
  have : gt (u.set b.toNat none) c = some v := by rw [gt_setG hb hc.1, if_neg (fun z => hn z.symm)]; exact e2
  exact opt_at hc.1 (by rw [List.length_set]; exact hc.2) this
/-! ### unpaired -/
def UU (B : List (List Int)) (u : List (Option Int)) (v : Int) : Prop := ∃ U S, Cl B u U S ∧ U v
def SS (B : List (List Int)) (u : List (Option Int)) (b : Int) : Prop := ∃ U S, Cl B u U S ∧ S b
theorem uu_ss (h : UU B u a) (hb : b ∈ gt B a) : SS B u b := by
  obtain ⟨U, S, hc, hU⟩ := h
  exact ⟨U, S, hc, hc.1 a hU b hb⟩
theorem ss_uu (h : SS B u b) : (0 ≤ b ∧ b < B.length) ∧ ∃ v, gt u b = some v ∧ UU B u v := by
  obtain ⟨U, S, hc, hS⟩ := h
  obtain ⟨h1, v, h2, h3⟩ := hc.2 b hS
  exact ⟨h1, v, h2, U, S, hc, h3⟩
def ab0 (u : List (Option Int)) : List Int := (rg 0 (u.length : Int)).filter fun c => decide (¬ some c ∈ u)
structure AbI (B : List (List Int)) (u : List (Option Int)) (above met : List Int) (at_ : Int) : Prop where
  h0 : 0 ≤ at_
  e : above = ab0 u ++ met.map fun b => oget (gt u b)
  m : InR B met
  ss : ∀ b ∈ met, SS B u b
  fr : ∀ b ∈ met, ∃ a ∈ above, b ∈ gt B a
  done : ∀ (k : Nat) v, (k : Int) < at_ → above[k]? = some v → ∀ c ∈ gt B v, c ∈ met
structure AbL (B : List (List Int)) (u : List (Option Int)) (a : Int) (i : Nat) (above met : List Int) (at_ : Int) : Prop where
  ai : AbI B u above met at_
  at_ : above[at_.toNat]? = some a
  r : ∀ c ∈ (gt B a).take i, c ∈ met
theorem ab_init (h : UpOk B u) : AbI B u (ab0 u) [] 0 := ⟨Int.le_refl _, by simp, ⟨List.nodup_nil, fun _ z => absurd z (by simp)⟩, fun _ z => absurd z (by simp), fun _ z => absurd z (by simp), fun k v hk => absurd hk (by omega)⟩
theorem ab_in (h : UpOk B u) (hi : AbI B u above met at_) {v : Int} (hv : v ∈ above) : UU B u v ∧ 0 ≤ v ∧ v < B.length := by
  rw [hi.e] at hv
  rcases List.mem_append.mp hv with z | z
  · obtain ⟨z1, z2⟩ := List.mem_filter.mp z
    have hr := rg_mem.mp z1
    have hn := of_decide_eq_true z2
    rw [h.uo.1] at hr
    exact ⟨h.cl v hr.1 hr.2 (cnt0.mpr hn), hr⟩
  · obtain ⟨b, hb, e⟩ := List.mem_map.mp z
    obtain ⟨hr, w, hw, hU⟩ := ss_uu (hi.ss b hb)
    rw [hw] at e
    have e' : w = v := e
    rw [e'] at hw hU
    exact ⟨hU, (h.uo.2 b hr.1 hr.2 v hw).1⟩
theorem ab_nd (h : UpOk B u) (hi : AbI B u above met at_) : above.Nodup := by
  rw [hi.e, List.nodup_append]
  refine ⟨(rg_nodup _ _).filter _, nodup_map hi.m.1 fun x hx y hy e => ?_, fun v hv w hw e => ?_⟩
  · obtain ⟨hr, p, hp, _⟩ := ss_uu (hi.ss x hx)
    obtain ⟨hr', q, hq, _⟩ := ss_uu (hi.ss y hy)
    rw [hp, hq] at e
    cases (show p = q from e)
    exact opt_inj h.one (by rw [h.uo.1]; exact hr) (by rw [h.uo.1]; exact hr') hp hq
  · subst e
    obtain ⟨b, hb, e⟩ := List.mem_map.mp hw
    obtain ⟨hr, p, hp, _⟩ := ss_uu (hi.ss b hb)
    rw [hp] at e
    cases (show p = v from e)
    exact of_decide_eq_true (List.mem_filter.mp hv).2 (opt_at hr.1 (by rw [h.uo.1]; exact hr.2) hp)
theorem ab_len (h : UpOk B u) (hi : AbI B u above met at_) : above.length ≤ B.length := nodup_len (ab_nd h hi) fun q hq => (ab_in h hi hq).2
theorem abl_init (h : UpOk B u) (hi : AbI B u above met at_) (hw : at_ < above.length) : AbL B u (gt above at_) 0 above met at_ := ⟨hi, gt_get ⟨hi.h0, hw⟩, fun c hc => absurd hc (by simp)⟩
theorem abl_a (h : UpOk B u) (hi : AbL B u a i above met at_) : UU B u a ∧ 0 ≤ a ∧ a < B.length := ab_in h hi.ai (List.mem_of_getElem? hi.at_)
theorem abl_some {i : Nat} (h : UpOk B u) (hi : AbL B u a i above met at_) (hx : (gt B a)[i]? = some x) : SS B u x ∧ (0 ≤ x ∧ x < B.length) ∧ ¬ gt u x = none := by
  have h1 := uu_ss (abl_a h hi).1 (List.mem_of_getElem? hx)
  obtain ⟨h2, v, h3, _⟩ := ss_uu h1
  exact ⟨h1, h2, by rw [h3]; intro z; cases z⟩
theorem abl_skip {i : Nat} (hi : AbL B u a i above met at_) (hx : (gt B a)[i]? = some x) (hm : x ∈ met) : AbL B u a (i + 1) above met at_ :=
  ⟨hi.ai, hi.at_, fun c hc => by rcases take_add hx c hc with z | z; exact hi.r c z; subst z; exact hm⟩
theorem abl_add {i : Nat} (h : UpOk B u) (hi : AbL B u a i above met at_) (hx : (gt B a)[i]? = some x) (hm : x ∉ met) : AbL B u a (i + 1) (above ++ [oget (gt u x)]) (met ++ [x]) at_ := by
  obtain ⟨h1, h2, h3⟩ := abl_some h hi hx
  have hal := (List.getElem?_eq_some_iff.mp hi.at_).1
  have hap : (above ++ [oget (gt u x)])[at_.toNat]? = some a := by rw [List.getElem?_append_left hal]; exact hi.at_
  refine ⟨⟨hi.ai.h0, ?_, inr_add hi.ai.m h2 hm, fun b hb => ?_, fun b hb => ?_, fun k v hk hv c hc => ?_⟩, hap, fun c hc => ?_⟩
  · rw [List.map_append, ← List.append_assoc, ← hi.ai.e]; rfl
  · rcases List.mem_append.mp hb with z | z
    · exact hi.ai.ss b z
    · rw [List.mem_singleton.mp z]; exact h1
  · rcases List.mem_append.mp hb with z | z
    · obtain ⟨c, hc, e⟩ := hi.ai.fr b z
      exact ⟨c, List.mem_append_left _ hc, e⟩
    · rw [List.mem_singleton.mp z]; exact ⟨a, List.mem_of_getElem? hap, List.mem_of_getElem? hx⟩
  · have h0 := hi.ai.h0
    rw [List.getElem?_append_left (by omega)] at hv
    exact List.mem_append_left _ (hi.ai.done k v hk hv c hc)
  · rcases take_add hx c hc with z | z
    · exact List.mem_append_left _ (hi.r c z)
    · subst z; exact List.mem_append_right _ (List.mem_singleton.mpr rfl)
theorem abl_end (hi : AbL B u a (gt B a).length above met at_) : AbI B u above met (at_ + 1) := by
  have h0 := hi.ai.h0
  refine ⟨by omega, hi.ai.e, hi.ai.m, hi.ai.ss, hi.ai.fr, fun k v hk hv c hc => ?_⟩
  by_cases z : (k : Int) < at_
  · exact hi.ai.done k v z hv c hc
  · have := hi.at_
    rw [show at_.toNat = k by omega, hv] at this
    cases this
    exact hi.r c (by rw [List.take_length]; exact hc)
def Trn (B : List (List Int)) : Prop := ∀ a b c : Int, (0 ≤ a ∧ a < B.length) → b ∈ gt B a → c ∈ gt B b → c ∈ gt B a
structure UnOk (B : List (List Int)) (u : List (Option Int)) (kept : List Int) : Prop where
  rise : kept.Pairwise (· < ·)
  r : ∀ p ∈ kept, 0 ≤ p ∧ p < B.length
  no : ∀ a ∈ kept, ∀ b ∈ gt B a, b ∉ kept
  many : Trn B → kept.length = (ab0 u).length
theorem nd_sorted {l : List Int} (hn : l.Nodup) : (isort l).Pairwise (· < ·) := by
  have h1 := isort_sorted l
  have h2 : (isort l).Nodup := (isort_perm l).nodup_iff.mpr hn
  exact List.Pairwise.imp₂ (fun a b h z => by omega) h1 h2
theorem ab_end (h : UpOk B u) (hi : AbI B u above met at_) (hw : ¬ at_ < above.length) : UnOk B u ((isort above).filter fun c => decide (¬ c ∈ met)) := by
  have hd : ∀ a ∈ above, ∀ c ∈ gt B a, c ∈ met := fun a ha c hc => by
    obtain ⟨k, hk⟩ := List.getElem?_of_mem ha
    have := (List.getElem?_eq_some_iff.mp hk).1
    exact hi.done k a (by omega) hk c hc
  have hk : ∀ p, p ∈ (isort above).filter (fun c => decide (¬ c ∈ met)) ↔ p ∈ above ∧ ¬ p ∈ met := fun p => by
    rw [List.mem_filter, (isort_perm above).mem_iff, decide_eq_true_iff]
  have hnd := ab_nd h hi
  refine ⟨(nd_sorted hnd).filter _, fun p hp => (ab_in h hi ((hk p).mp hp).1).2, fun a ha b hb hb2 => ?_, fun ht => ?_⟩
  · exact ((hk b).mp hb2).2 (hd a ((hk a).mp ha).1 b hb)
  · have hma : ∀ b ∈ met, b ∈ above := fun b hb => by
      obtain ⟨a, ha, hba⟩ := hi.fr b hb
      have har := (ab_in h hi ha).2
      have hbr := hi.m.2 b hb
      by_cases c : some b ∈ u
      · obtain ⟨k, hk⟩ := List.getElem?_of_mem c
        have hkl := (List.getElem?_eq_some_iff.mp hk).1
        have hg : gt u (k : Int) = some b := gt_natG hk
        have hkl' : (k : Int) < B.length := by have := h.uo.1; omega
        have hcb := (h.uo.2 k (by omega) hkl' b hg).2
        have hcm := hd a ha _ (ht a b k har hba hcb)
        rw [hi.e]
        refine List.mem_append_right _ (List.mem_map.mpr ⟨_, hcm, ?_⟩)
        rw [hg]; rfl
      · rw [hi.e]
        refine List.mem_append_left _ (List.mem_filter.mpr ⟨rg_mem.mpr (by rw [h.uo.1]; exact hbr), decide_eq_true c⟩)
    have e1 : ((isort above).filter fun c => decide (¬ c ∈ met)).length = (above.filter fun c => decide (¬ c ∈ met)).length := ((isort_perm above).filter _).length_eq
    have e2 : (above.filter fun c => decide (c ∈ met)).length = met.length := by
      refine (List.perm_ext_iff_of_nodup (hnd.filter _) hi.m.1 |>.mpr fun b => ?_).length_eq
      rw [List.mem_filter, decide_eq_true_iff]
      exact ⟨fun z => z.2, fun z => ⟨hma b z, z⟩⟩
    have e3 := List.length_eq_countP_add_countP (fun c => decide (c ∈ met)) (l := above)
    rw [List.countP_eq_length_filter, List.countP_eq_length_filter, e2] at e3
    have e4 : (above.filter fun c => decide (¬ decide (c ∈ met) = true)).length = (above.filter fun c => decide (¬ c ∈ met)).length := by
      congr 1
      refine List.filter_congr fun c _ => ?_
      simp
    rw [e4] at e3
    have e5 : above.length = (ab0 u).length + met.length := by rw [congrArg List.length hi.e, List.length_append, List.length_map]
    rw [e1]; omega
/-! ### chains -/
structure UOne (u : List (Option Int)) : Prop where
  len : u.length ≤ 40
  r : ∀ b : Int, 0 ≤ b → b < u.length → ∀ a, gt u b = some a → 0 ≤ a ∧ a < u.length
  one : ∀ v, u.count (some v) ≤ 1
theorem one_of_up (h : UpOk B u) : UOne u := ⟨by have := h.bo.1; have := h.uo.1; omega, fun b h0 h1 a ha => by have := h.uo.1; rw [h.uo.1] at h1 ⊢; exact (h.uo.2 b h0 h1 a ha).1, h.one⟩
def LwI (u lw : List (Option Int)) (i : Nat) : Prop := lw.length = u.length ∧ ∀ a : Int, 0 ≤ a → a < u.length → ∀ b, gt lw a = some b ↔ (0 ≤ b ∧ b < (i : Int) ∧ gt u b = some a)
theorem gt_mapnone {α : Type} [Inhabited α] {l : List α} {a : Int} (h : 0 ≤ a ∧ a < l.length) : gt (l.map fun _ => (none : Option Int)) a = none := by
  have := List.mem_of_getElem? (gt_get (l := l.map fun _ => (none : Option Int)) (i := a) (by rw [List.length_map]; exact h))
  obtain ⟨_, _, e⟩ := List.mem_map.mp this
  exact e.symm
theorem lw_init {lw : List (Option Int)} (e : lw = u.map fun _ => none) : LwI u lw 0 := by
  subst e
  refine ⟨by rw [List.length_map], fun a h0 h1 b => ?_⟩
  rw [gt_mapnone ⟨h0, h1⟩]
  exact ⟨fun z => (by cases z), fun z => absurd z.2.1 (by omega)⟩
theorem lw_none {lw : List (Option Int)} {i : Nat} (h : LwI u lw i) (hu : gt u (i : Int) = none) : LwI u lw (i + 1) := by
  refine ⟨h.1, fun a h0 h1 b => (h.2 a h0 h1 b).trans ⟨fun z => ⟨z.1, by omega, z.2.2⟩, fun z => ⟨z.1, ?_, z.2.2⟩⟩⟩
  by_cases c : b = (i : Int)
  · rw [c, hu] at z; cases z.2.2
  · omega
theorem lw_set {lw : List (Option Int)} {i : Nat} (ho : UOne u) (h : LwI u lw i) (hi : i < u.length) (hu : gt u (i : Int) = some a) : LwI u (lw.set a.toNat (some (i : Int))) (i + 1) := by
  have har := ho.r i (by omega) (by omega) a hu
  refine ⟨by rw [List.length_set]; exact h.1, fun c h0 h1 b => ?_⟩
  rw [gt_setG (by rw [h.1]; exact har) h0]
  by_cases e : c = a
  · rw [if_pos e]
    subst e
    constructor
    · intro z; cases z; exact ⟨by omega, by omega, hu⟩
    · rintro ⟨z0, z1, z2⟩
      rw [opt_inj ho.one ⟨z0, by omega⟩ ⟨by omega, by omega⟩ z2 hu]
  · rw [if_neg e]
    refine (h.2 c h0 h1 b).trans ⟨fun z => ⟨z.1, by omega, z.2.2⟩, fun z => ⟨z.1, ?_, z.2.2⟩⟩
    by_cases d : b = (i : Int)
    · rw [d, hu] at z; exact absurd (Option.some.inj z.2.2).symm e
    · omega
structure ChW (u : List (Option Int)) (h : Int) (chain : List Int) : Prop where
  hd : chain[0]? = some h
  nn : gt u h = none
  nd : chain.Nodup
  r : ∀ x ∈ chain, 0 ≤ x ∧ x < u.length
  ln : ∀ (k : Nat) x y, chain[k]? = some x → chain[k + 1]? = some y → gt u y = some x
theorem cw_len {h : Int} {c : List Int} (w : ChW u h c) : 0 < c.length ∧ c.length ≤ u.length := ⟨(List.getElem?_eq_some_iff.mp w.hd).1, nodup_len w.nd w.r⟩
theorem cw_init {i : Nat} (hi : i < u.length) (hx : x = (i : Int)) (hn : gt u x = none) : ChW u x [x] := by
  refine ⟨rfl, hn, by simp, fun y hy => ?_, fun k y z h1 h2 => ?_⟩
  · rw [List.mem_singleton.mp hy]; omega
  · rw [List.getElem?_eq_none (by simp)] at h2; cases h2
theorem cw_last {h : Int} {c : List Int} (w : ChW u h c) : c[c.length - 1]? = some (gtB c 1) ∧ 0 ≤ gtB c 1 ∧ gtB c 1 < u.length := by
  have hl := cw_len w
  have := gtB_get (l := c) (k := 1) ⟨by decide, hl.1⟩
  exact ⟨this, w.r _ (List.mem_of_getElem? this)⟩
theorem cw_step {h : Int} {c : List Int} {lw : List (Option Int)} (hl : LwI u lw u.length) (w : ChW u h c) (hs : ¬ gt lw (gtB c 1) = none) :
    ChW u h (c ++ [oget (gt lw (gtB c 1))]) ∧ u.length - (c ++ [oget (gt lw (gtB c 1))]).length < u.length - c.length := by
  obtain ⟨l1, l2⟩ := cw_last w
  have hc := cw_len w
  obtain ⟨h0, h1, h2⟩ := (hl.2 _ l2.1 l2.2 _).mp (oget_some hs)
  have hn : oget (gt lw (gtB c 1)) ∉ c := fun hm => by
    obtain ⟨j, hj⟩ := List.getElem?_of_mem hm
    cases j with
    | zero =>
      rw [w.hd] at hj
      rw [← Option.some.inj hj, w.nn] at h2
      cases h2
    | succ k =>
      have hk := (List.getElem?_eq_some_iff.mp hj).1
      have hx : c[k]? = some c[k] := List.getElem?_eq_getElem (by omega)
      have := w.ln k _ _ hx hj
      rw [h2] at this
      have e1 := l1
      rw [Option.some.inj this] at e1
      have e2 := (List.getElem?_eq_some_iff.mp e1).2
      exact (List.pairwise_iff_getElem.mp w.nd) k (c.length - 1) (by omega) (by omega) (by omega) e2.symm
  have w2 : ChW u h (c ++ [oget (gt lw (gtB c 1))]) := by
    refine ⟨by rw [List.getElem?_append_left hc.1]; exact w.hd, w.nn, ?_, fun y hy => ?_, fun k y z h3 h4 => ?_⟩
    · rw [List.nodup_append]
      refine ⟨w.nd, by simp, fun y hy z hz e => ?_⟩
      rw [List.mem_singleton] at hz; subst hz; subst e; exact hn hy
    · rcases List.mem_append.mp hy with z | z
      · exact w.r y z
      · rw [List.mem_singleton.mp z]; exact ⟨h0, h1⟩
    · by_cases d : k + 1 < c.length
      · rw [List.getElem?_append_left (by omega)] at h3 h4
        exact w.ln k y z h3 h4
      · have hk := (List.getElem?_eq_some_iff.mp h4).1
        rw [List.length_append, List.length_singleton] at hk
        have ek : k = c.length - 1 := by omega
        rw [List.getElem?_append_left (by omega), ek, l1] at h3
        rw [List.getElem?_append_right (by omega), show k + 1 - c.length = 0 by omega] at h4
        cases h3; cases h4
        exact h2
  refine ⟨w2, ?_⟩
  have := cw_len w2
  rw [List.length_append, List.length_singleton] at this ⊢
  omega
def GoodC (u : List (Option Int)) (c : List Int) : Prop := ∃ h, ChW u h c ∧ ∀ b : Int, 0 ≤ b → b < u.length → ¬ gt u b = some (gtB c 1)
theorem cw_good {h : Int} {c : List Int} {lw : List (Option Int)} (hl : LwI u lw u.length) (w : ChW u h c) (hs : ¬ ¬ gt lw (gtB c 1) = none) : GoodC u c := by
  obtain ⟨_, l2⟩ := cw_last w
  refine ⟨h, w, fun b h0 h1 hb => ?_⟩
  have := (hl.2 _ l2.1 l2.2 b).mpr ⟨h0, h1, hb⟩
  exact hs (by rw [this]; intro z; cases z)
structure ChI (u : List (Option Int)) (cs : List (List Int)) (i : Nat) : Prop where
  hd : cs.map (fun c => gt c 0) = (rg 0 (i : Int)).filter fun b => decide (gt u b = none)
  good : ∀ c ∈ cs, GoodC u c
theorem ch_init : ChI u [] 0 := ⟨rfl, fun c hc => absurd hc (by simp)⟩
theorem rg_snocN (i : Nat) : rg 0 ((i + 1 : Nat) : Int) = rg 0 (i : Int) ++ [(i : Int)] := by
  unfold rg
  rw [show ((i + 1 : Nat) : Int) - 0 = ((i + 1 : Nat) : Int) by omega, show (i : Int) - 0 = (i : Int) by omega, Int.toNat_natCast, Int.toNat_natCast, List.range_succ, List.map_append]
  simp
theorem ch_skip {cs : List (List Int)} {i : Nat} (h : ChI u cs i) (hn : ¬ gt u (i : Int) = none) : ChI u cs (i + 1) := by
  refine ⟨?_, h.good⟩
  rw [rg_snocN, List.filter_append, h.hd]
  simp [hn]
theorem ch_add {cs : List (List Int)} {c : List Int} {i : Nat} (h : ChI u cs i) (hn : gt u (i : Int) = none) (w : ChW u (i : Int) c) (g : GoodC u c) : ChI u (cs ++ [c]) (i + 1) := by
  refine ⟨?_, fun d hd => ?_⟩
  · rw [rg_snocN, List.filter_append, List.map_append, h.hd]
    have : gt c 0 = (i : Int) := by
      have := gt_natG (i := 0) w.hd
      exact this
    simp [hn, this]
  · rcases List.mem_append.mp hd with z | z
    · exact h.good d z
    · rw [List.mem_singleton.mp z]; exact g
theorem ch_len {cs : List (List Int)} {i : Nat} (h : ChI u cs i) : cs.length ≤ i := by
  have := congrArg List.length h.hd
  rw [List.length_map] at this
  rw [this]
  refine Nat.le_trans (List.length_filter_le ..) ?_
  rw [rg_len]; omega
def ChOk (u : List (Option Int)) (cs : List (List Int)) : Prop := ChI u cs u.length
/-! ### the row made -/
def leastK (row kept : List Int) : List Int := (rg 0 (row.length : Int)).map fun c => gt [dmin row 0 - (row.length : Int), gt row c] (if decide (c ∈ kept) = true then (1 : Int) else 0)
theorem leastK_len (row kept : List Int) : (leastK row kept).length = row.length := by unfold leastK; rw [List.length_map, rg_len]; omega
theorem rst_take {t ls : List Int} {i : Nat} (hi : i < t.length) : (rst t ls).take (i + 1) = (rst t ls).take i ++ [(dm t ls (i : Int)).1] := by
  rw [List.take_add_one, gt_eqq (by rw [rst_len]; exact hi), gt_rst (by omega)]
  rfl
theorem rw_step {t ls made F : List Int} {i : Nat} (hi : i < t.length) (hF : F = flatF t) (hm : made = (rst t ls).take i) (hx : x = (i : Int)) :
    made ++ [lmax (([x] ++ ups t x).map fun o => gt ls o + gt F x - gt F o)] = (rst t ls).take (i + 1) := by
  subst hF; subst hx
  rw [dm_max, hm, rst_take hi]
end TM


set_option linter.all false
set_option maxHeartbeats 1000000
namespace TM
open GL
variable {t row kept made : List Int} {a b c : Int} {chains : List (List Int)} {u : List (Option Int)}
/-! ### what clashes beneath each place -/
def benF (t row : List Int) : List (List Int) := (rg 0 (t.length : Int)).map fun c => ((clash t row).filter fun p => decide (p.1 = c)).map fun p => p.2
theorem mem_clashF : (a, b) ∈ clash t row ↔ (0 ≤ b ∧ b < t.length) ∧ a ∈ ups t b ∧ gt row b < gt row a + gt (flatF t) b - gt (flatF t) a := by
  unfold clash
  rw [(psort_perm _).mem_iff]
  unfold clB
  rw [List.mem_flatMap]
  constructor
  · rintro ⟨n, hn, h⟩
    unfold clAt at h
    obtain ⟨x, hx, e⟩ := List.mem_map.mp h
    cases e
    obtain ⟨h1, h2⟩ := List.mem_filter.mp hx
    have := List.mem_range.mp hn
    exact ⟨by omega, h1, of_decide_eq_true h2⟩
  · rintro ⟨hb, ha, hc⟩
    refine ⟨b.toNat, List.mem_range.mpr (by omega), ?_⟩
    rw [Int.toNat_of_nonneg hb.1]
    exact List.mem_map.mpr ⟨a, List.mem_filter.mpr ⟨ha, decide_eq_true hc⟩, rfl⟩
theorem ben_len : (benF t row).length = t.length := by unfold benF; rw [List.length_map, rg_len]; omega
theorem ben_gt (ha : 0 ≤ a ∧ a < t.length) : gt (benF t row) a = ((clash t row).filter fun p => decide (p.1 = a)).map fun p => p.2 := gt_map_rg ha
theorem ben_iff (ha : 0 ≤ a ∧ a < t.length) : b ∈ gt (benF t row) a ↔ (a, b) ∈ clash t row := by
  rw [ben_gt ha, List.mem_map]
  constructor
  · rintro ⟨⟨x, y⟩, h, e⟩
    obtain ⟨h1, h2⟩ := List.mem_filter.mp h
    have h3 : x = a := of_decide_eq_true h2
    have h4 : y = b := e
    rw [← h3, ← h4]; exact h1
  · intro h
    exact ⟨(a, b), List.mem_filter.mpr ⟨h, decide_eq_true rfl⟩, rfl⟩
theorem ben_row (h : b ∈ gt (benF t row) a) : 0 ≤ b ∧ b < t.length := by
  by_cases c : a.toNat < t.length
  · have e : gt (benF t row) a = gt (benF t row) (a.toNat : Int) := by unfold gt; rw [Int.toNat_natCast]
    rw [e, ben_iff (by omega)] at h
    exact (mem_clashF.mp h).1
  · unfold gt at h
    rw [List.getD_eq_getElem?_getD, List.getElem?_eq_none (by rw [ben_len]; omega)] at h
    cases h
theorem ben_ok (ht : isTree t = true) : BOk (benF t row) := ⟨by rw [ben_len]; exact (isTree_iff.mp ht).1, fun a b h => by rw [ben_len]; exact ben_row h⟩
def MostR (t row : List Int) (r : List Int × List Int × List (List Int)) : Prop := isTree t = true ∧ row.length = t.length ∧ ∃ u, UpOk (benF t row) u ∧ UnOk (benF t row) u r.1 ∧ r.2.1 = rst t (leastK row r.1) ∧ ChOk u r.2.2
end TM
namespace TM
open GL
theorem enu_it {α : Type} [Inhabited α] {l : List α} {i : Nat} {x : Int × α} (h : (enu l)[i]? = some x) : i < l.length ∧ x.1 = (i : Int) ∧ x.2 = gt l (i : Int) := by
  have hl := (List.getElem?_eq_some_iff.mp h).1
  rw [enu_len] at hl
  have := enu_at h
  refine ⟨hl, ?_⟩
  have hg := gt_get (l := l) (i := (i : Int)) (by omega)
  rw [Int.toNat_natCast] at hg
  simp_all
end TM


set_option linter.all false
set_option maxHeartbeats 1000000
namespace TM
open GL
variable {t row kept made : List Int} {a b c x : Int} {cs chains : List (List Int)} {u : List (Option Int)} {B : List (List Int)}
theorem ups_split (ht : isTree t = true) : ∀ (n : Nat) (b : Int), (ups t b).length = n → 0 ≤ b ∧ b < t.length → ∀ a ∈ ups t b, ∃ l, ups t b = l ++ a :: ups t a
  | n, b, hn, hb, a, ha => by
    by_cases e : gt t b = -1
    · rw [ups_none e] at ha; cases ha
    · obtain ⟨h1, h2⟩ := ups_cons ht hb e
      rw [h2] at ha
      rcases List.mem_cons.mp ha with z | z
      · subst z; exact ⟨[], h2⟩
      · cases n with
        | zero => rw [h2] at hn; cases hn
        | succ n =>
          rw [h2, List.length_cons] at hn
          obtain ⟨l, hl⟩ := ups_split ht n _ (by omega) h1 a z
          exact ⟨gt t b :: l, by rw [h2, hl]; rfl⟩
theorem ups_short (ht : isTree t = true) (hb : 0 ≤ b ∧ b < t.length) (ha : a ∈ ups t b) : (ups t a).length < (ups t b).length := by
  obtain ⟨l, hl⟩ := ups_split ht _ b rfl hb a ha
  rw [hl, List.length_append, List.length_cons]; omega
theorem ups_transi (ht : isTree t = true) (hc : 0 ≤ c ∧ c < t.length) (hb : b ∈ ups t c) (ha : a ∈ ups t b) : a ∈ ups t c := by
  obtain ⟨l, hl⟩ := ups_split ht _ c rfl hc b hb
  rw [hl]
  exact List.mem_append_right _ (List.mem_cons_of_mem _ ha)
theorem ben_up (ha : 0 ≤ a ∧ a < t.length) (h : b ∈ gt (benF t row) a) : (0 ≤ b ∧ b < t.length) ∧ a ∈ ups t b ∧ gt row b < gt row a + gt (flatF t) b - gt (flatF t) a := mem_clashF.mp ((ben_iff ha).mp h)
theorem ben_trn (ht : isTree t = true) : Trn (benF t row) := fun a b c ha hb hc => by
  rw [ben_len] at ha
  obtain ⟨b1, b2, b3⟩ := ben_up ha hb
  obtain ⟨c1, c2, c3⟩ := ben_up b1 hc
  exact (ben_iff ha).mpr (mem_clashF.mpr ⟨c1, ups_transi ht c1 c2 b2, by omega⟩)
/-! ### chains part the places -/
theorem chain_deep (ht : isTree t = true) (h : UpOk (benF t row) u) {p a : Int} (hp : 0 ≤ p ∧ p < t.length) (e : gt u p = some a) : (0 ≤ a ∧ a < t.length) ∧ (a, p) ∈ clash t row ∧ (ups t a).length < (ups t p).length := by
  obtain ⟨h1, h2⟩ := h.uo.2 p hp.1 (by rw [ben_len]; exact hp.2) a e
  rw [ben_len] at h1
  obtain ⟨_, b2, _⟩ := ben_up h1 h2
  exact ⟨h1, (ben_iff h1).mp h2, ups_short ht hp b2⟩
theorem up_lenF (h : UpOk (benF t row) u) : u.length = t.length := h.uo.1.trans ben_len
theorem ch_cover (ht : isTree t = true) (h : UpOk (benF t row) u) (hc : ChOk u cs) : ∀ (n : Nat) (p : Int), (ups t p).length ≤ n → 0 ≤ p ∧ p < t.length → ∃ c ∈ cs, p ∈ c
  | n, p, hn, hp => by
    have hul := up_lenF h
    cases e : gt u p with
    | none =>
      have hm : p ∈ cs.map fun c => gt c 0 := by
        rw [hc.hd]
        exact List.mem_filter.mpr ⟨rg_mem.mpr (by rw [hul]; exact hp), decide_eq_true e⟩
      obtain ⟨c, hcm, hce⟩ := List.mem_map.mp hm
      obtain ⟨hh, w, _⟩ := hc.good c hcm
      have : gt c 0 = hh := gt_natG (i := 0) w.hd
      exact ⟨c, hcm, by rw [← hce, this]; exact List.mem_of_getElem? w.hd⟩
    | some a =>
      obtain ⟨h1, _, h3⟩ := chain_deep ht h hp e
      cases n with
      | zero => omega
      | succ n =>
        obtain ⟨c, hcm, hac⟩ := ch_cover ht h hc n a (by omega) h1
        obtain ⟨hh, w, hlast⟩ := hc.good c hcm
        obtain ⟨k, hk⟩ := List.getElem?_of_mem hac
        have hkl := (List.getElem?_eq_some_iff.mp hk).1
        by_cases d : k + 1 < c.length
        · have hy : c[k + 1]? = some c[k + 1] := List.getElem?_eq_getElem d
          have hy2 := w.ln k _ _ hk hy
          have hyr := w.r _ (List.mem_of_getElem? hy)
          have : p = c[k + 1] := opt_inj h.one (by rw [hul]; exact hp) hyr e hy2
          exact ⟨c, hcm, by rw [this]; exact List.mem_of_getElem? hy⟩
        · obtain ⟨l1, _⟩ := cw_last w
          rw [show c.length - 1 = k by omega, hk] at l1
          exact absurd (e.trans l1) (hlast p hp.1 (by rw [hul]; exact hp.2))
theorem cw_same {h h' : Int} {d : List Int} (w : ChW u h cs0) (w' : ChW u h' d) : ∀ (k j : Nat) (p : Int), cs0[k]? = some p → d[j]? = some p → h = h'
  | 0, 0, p, h1, h2 => by rw [w.hd] at h1; rw [w'.hd] at h2; exact Option.some.inj (h1.trans h2.symm)
  | 0, j + 1, p, h1, h2 => by
    rw [w.hd] at h1
    have hj := (List.getElem?_eq_some_iff.mp h2).1
    have := w'.ln j _ _ (List.getElem?_eq_getElem (by omega)) h2
    rw [← Option.some.inj h1, w.nn] at this; cases this
  | k + 1, 0, p, h1, h2 => by
    rw [w'.hd] at h2
    have hj := (List.getElem?_eq_some_iff.mp h1).1
    have := w.ln k _ _ (List.getElem?_eq_getElem (by omega)) h1
    rw [← Option.some.inj h2, w'.nn] at this; cases this
  | k + 1, j + 1, p, h1, h2 => by
    have hk := (List.getElem?_eq_some_iff.mp h1).1
    have hj := (List.getElem?_eq_some_iff.mp h2).1
    have e1 := w.ln k _ _ (List.getElem?_eq_getElem (by omega)) h1
    have e2 := w'.ln j _ _ (List.getElem?_eq_getElem (by omega)) h2
    exact cw_same w w' k j cs0[k] (List.getElem?_eq_getElem (by omega)) (by rw [List.getElem?_eq_getElem (by omega)]; exact (e1.symm.trans e2 ▸ rfl))
theorem ch_nodup (hc : ChOk u cs) : cs.flatten.Nodup := by
  unfold List.Nodup
  rw [List.pairwise_flatten]
  refine ⟨fun l hl => ?_, ?_⟩
  · obtain ⟨_, w, _⟩ := hc.good l hl; exact w.nd
  · have hn : (cs.map fun c => gt c 0).Nodup := by rw [hc.hd]; exact (rg_nodup _ _).filter _
    unfold List.Nodup at hn
    rw [List.pairwise_map] at hn
    refine List.Pairwise.imp_of_mem (fun {c d} hcm hdm hne x hx y hy e => ?_) hn
    subst e
    obtain ⟨hh, w, _⟩ := hc.good c hcm
    obtain ⟨hh', w', _⟩ := hc.good d hdm
    obtain ⟨k, hk⟩ := List.getElem?_of_mem hx
    obtain ⟨j, hj⟩ := List.getElem?_of_mem hy
    have := cw_same w w' k j x hk hj
    have e1 : gt c 0 = hh := gt_natG (i := 0) w.hd
    have e2 : gt d 0 = hh' := gt_natG (i := 0) w'.hd
    exact hne (by rw [e1, e2]; exact this)
theorem ch_perm (ht : isTree t = true) (h : UpOk (benF t row) u) (hc : ChOk u cs) : cs.flatten.Perm (rg 0 (t.length : Int)) := by
  refine (List.perm_ext_iff_of_nodup (ch_nodup hc) (rg_nodup _ _)).mpr fun p => ?_
  rw [List.mem_flatten, rg_mem]
  constructor
  · rintro ⟨c, hcm, hp⟩
    obtain ⟨_, w, _⟩ := hc.good c hcm
    have := w.r p hp
    rw [up_lenF h] at this; exact this
  · exact fun hp => ch_cover ht h hc _ p (Nat.le_refl _) hp
theorem ch_many (h : UpOk B u) (hc : ChOk u cs) : cs.length = (ab0 u).length := by
  have e0 : cs.length = ((rg 0 (u.length : Int)).filter fun b => decide (gt u b = none)).length := by rw [← hc.hd, List.length_map]
  have e1 := List.length_eq_countP_add_countP (fun b => decide (gt u b = none)) (l := rg 0 (u.length : Int))
  have e2 := List.length_eq_countP_add_countP (fun c => decide (¬ some c ∈ u)) (l := rg 0 (u.length : Int))
  rw [List.countP_eq_length_filter, List.countP_eq_length_filter] at e1 e2
  have hp : (((rg 0 (u.length : Int)).filter fun b => decide (¬ decide (gt u b = none) = true)).map fun b => oget (gt u b)).Perm ((rg 0 (u.length : Int)).filter fun c => decide (¬ decide (¬ some c ∈ u) = true)) := by
    have hs : ∀ b ∈ (rg 0 (u.length : Int)).filter (fun b => decide (¬ decide (gt u b = none) = true)), (0 ≤ b ∧ b < u.length) ∧ gt u b = some (oget (gt u b)) := fun b hb => by
      obtain ⟨h1, h2⟩ := List.mem_filter.mp hb
      exact ⟨rg_mem.mp h1, oget_some (by simpa using h2)⟩
    refine (List.perm_ext_iff_of_nodup (nodup_map ((rg_nodup _ _).filter _) fun x hx y hy e => ?_) ((rg_nodup _ _).filter _)).mpr fun v => ?_
    · obtain ⟨x1, x2⟩ := hs x hx
      obtain ⟨y1, y2⟩ := hs y hy
      rw [← e] at y2
      exact opt_inj h.one x1 y1 x2 y2
    · rw [List.mem_map, List.mem_filter]
      constructor
      · rintro ⟨b, hb, e⟩
        obtain ⟨b1, b2⟩ := hs b hb
        rw [e] at b2
        have hv := (h.uo.2 b b1.1 (by rw [← h.uo.1]; exact b1.2) v b2).1
        refine ⟨rg_mem.mpr (by rw [h.uo.1]; exact hv), ?_⟩
        simp [opt_at b1.1 b1.2 b2]
      · rintro ⟨h1, h2⟩
        have hm : some v ∈ u := by simpa using h2
        obtain ⟨k, hk⟩ := List.getElem?_of_mem hm
        have hkl := (List.getElem?_eq_some_iff.mp hk).1
        have hg : gt u (k : Int) = some v := gt_natG hk
        refine ⟨(k : Int), List.mem_filter.mpr ⟨rg_mem.mpr (by omega), by simp [hg]⟩, by rw [hg]; rfl⟩
  have e3 := hp.length_eq
  rw [List.length_map] at e3
  unfold ab0
  omega
/-! ### the row made keeps the kept numbers -/
end TM


set_option linter.all false
set_option maxHeartbeats 1000000
namespace TM
open GL PySem
variable {t row kept made S ls gs : List Int} {a b c x : Int} {cs chains : List (List Int)} {u : List (Option Int)} {B : List (List Int)} {r : List Int × List Int × List (List Int)}
/-! ### no more places without a clash than chains -/
def Ind (t row S : List Int) : Prop := ∀ a b : Int, (a, b) ∈ clash t row → a ∈ S → b ∈ S → False
theorem clash_in (ht : isTree t = true) (h : (a, b) ∈ clash t row) : (0 ≤ a ∧ a < t.length) ∧ (0 ≤ b ∧ b < t.length) ∧ a ∈ ups t b ∧ gt row b < gt row a + gt (flatF t) b - gt (flatF t) a := by
  obtain ⟨h1, h2, h3⟩ := mem_clashF.mp h
  exact ⟨ups_inside ht h1 a (List.mem_append_right _ h2), h1, h2, h3⟩
theorem clash_tr (ht : isTree t = true) (h1 : (a, b) ∈ clash t row) (h2 : (b, c) ∈ clash t row) : (a, c) ∈ clash t row := by
  obtain ⟨a1, a2, a3, a4⟩ := clash_in ht h1
  obtain ⟨b1, b2, b3, b4⟩ := clash_in ht h2
  exact mem_clashF.mpr ⟨b2, ups_transi ht b2 b3 a3, by omega⟩
theorem chain_rel (ht : isTree t = true) (h : UpOk (benF t row) u) {hd : Int} {c : List Int} (w : ChW u hd c) : ∀ (n k : Nat) (x y : Int), c[k]? = some x → c[k + 1 + n]? = some y → (x, y) ∈ clash t row
  | 0, k, x, y, h1, h2 => by
    have hy := w.r y (List.mem_of_getElem? h2)
    rw [up_lenF h] at hy
    exact (chain_deep ht h hy (w.ln k x y h1 h2)).2.1
  | n + 1, k, x, y, h1, h2 => by
    have hk := (List.getElem?_eq_some_iff.mp h2).1
    have hz : c[k + 1 + n]? = some c[k + 1 + n] := List.getElem?_eq_getElem (by omega)
    have i1 := chain_rel ht h w n k x _ h1 hz
    have hy := w.r y (List.mem_of_getElem? h2)
    rw [up_lenF h] at hy
    exact clash_tr ht i1 (chain_deep ht h hy (w.ln (k + 1 + n) _ y hz h2)).2.1
theorem chain_two (ht : isTree t = true) (h : UpOk (benF t row) u) {hd : Int} {c : List Int} (w : ChW u hd c) (hx : a ∈ c) (hy : b ∈ c) (hne : a ≠ b) : (a, b) ∈ clash t row ∨ (b, a) ∈ clash t row := by
  obtain ⟨k, hk⟩ := List.getElem?_of_mem hx
  obtain ⟨j, hj⟩ := List.getElem?_of_mem hy
  by_cases e : k < j
  · left; exact chain_rel ht h w (j - (k + 1)) k a b hk (by rw [show k + 1 + (j - (k + 1)) = j by omega]; exact hj)
  · by_cases e2 : j < k
    · right; exact chain_rel ht h w (k - (j + 1)) j b a hj (by rw [show j + 1 + (k - (j + 1)) = k by omega]; exact hk)
    · have : k = j := by omega
      subst this
      exact absurd (Option.some.inj (hk.symm.trans hj)) hne
theorem ind_le (ht : isTree t = true) (h : UpOk (benF t row) u) (hc : ChOk u cs) (hn : S.Nodup) (hr : ∀ p ∈ S, 0 ≤ p ∧ p < t.length) (hi : Ind t row S) : S.length ≤ cs.length := by
  have hx : ∀ p : Int, ∃ c : List Int, p ∈ S → c ∈ cs ∧ p ∈ c := fun p => by
    by_cases z : p ∈ S
    · obtain ⟨c, h1, h2⟩ := ch_cover ht h hc _ p (Nat.le_refl _) (hr p z)
      exact ⟨c, fun _ => ⟨h1, h2⟩⟩
    · exact ⟨[], fun y => absurd y z⟩
  have hf := fun p => Classical.choose_spec (hx p)
  have nd : (S.map fun p => Classical.choose (hx p)).Nodup := nodup_map hn fun p hp q hq e => by
    refine Classical.byContradiction fun ne => ?_
    obtain ⟨p1, p2⟩ := hf p hp
    obtain ⟨q1, q2⟩ := hf q hq
    have e' : Classical.choose (hx p) = Classical.choose (hx q) := e
    rw [← e'] at q2
    obtain ⟨_, w, _⟩ := hc.good _ p1
    rcases chain_two ht h w p2 q2 ne with z | z
    · exact hi _ _ z hp hq
    · exact hi _ _ z hq hp
  obtain ⟨T', hT⟩ := perm_sub (T := cs) nd (fun c hcm => by
    obtain ⟨p, hp, e⟩ := List.mem_map.mp hcm
    rw [← e]; exact (hf p hp).1)
  have := hT.length_eq
  rw [List.length_append, List.length_map] at this
  omega
structure Most (t row kept : List Int) (chains : List (List Int)) : Prop where
  rise : kept.Pairwise (· < ·)
  r : ∀ p ∈ kept, 0 ≤ p ∧ p < t.length
  ind : Ind t row kept
  all : ∀ S : List Int, S.Nodup → (∀ p ∈ S, 0 ≤ p ∧ p < t.length) → Ind t row S → S.length ≤ kept.length
  ch : ∀ c ∈ chains, c ≠ [] ∧ c.Nodup ∧ (∀ p ∈ c, 0 ≤ p ∧ p < t.length) ∧ ∀ (k : Nat) x y, c[k]? = some x → c[k + 1]? = some y → (x, y) ∈ clash t row
  places : chains.flatten.Perm (rg 0 (t.length : Int))
  many : chains.length = kept.length
theorem most_of (h : MostR t row r) : isTree t = true ∧ row.length = t.length ∧ Most t row r.1 r.2.2 ∧ r.2.1 = rst t (leastK row r.1) := by
  obtain ⟨ht, hl, u, h1, h2, h3, h4⟩ := h
  have hm : r.2.2.length = r.1.length := (ch_many h1 h4).trans (h2.many (ben_trn ht)).symm
  have hr : ∀ p ∈ r.1, 0 ≤ p ∧ p < t.length := fun p hp => by have := h2.r p hp; rw [ben_len] at this; exact this
  refine ⟨ht, hl, ⟨h2.rise, hr, fun a b hab ha hb => h2.no a ha b ((ben_iff (hr a ha)).mpr hab) hb, fun S hn hS hi => ?_, fun c hc => ?_, ch_perm ht h1 h4, hm⟩, h3⟩
  · rw [← hm]; exact ind_le ht h1 h4 hn hS hi
  · obtain ⟨hd, w, _⟩ := h4.good c hc
    have hcl := cw_len w
    refine ⟨fun z => by rw [z] at hcl; exact absurd hcl.1 (by decide), w.nd, fun p hp => by have := w.r p hp; rw [up_lenF h1] at this; exact this, fun k x y hx hy => ?_⟩
    exact chain_rel ht h1 w 0 k x y hx hy
/-! ### with bounds at some places -/
def lsK (row kept : List Int) (f : Int) : List Int := (rg 0 (row.length : Int)).map fun p => if p ∈ kept then gt row p else 0 - f
def gsK (row kept : List Int) (f : Int) : List Int := (rg 0 (row.length : Int)).map fun p => if p ∈ kept then gt row p else f
end TM
namespace TM
open GL PySem
variable {t row kept made S ls gs : List Int} {a b c x : Int} {cs chains : List (List Int)}
def indB (t row S : List Int) : Bool := !((clash t row).map fun c => decide (c.1 ∈ S) && decide (c.2 ∈ S)).any id
theorem indB_iff : indB t row S = true ↔ Ind t row S := by
  unfold indB
  rw [Bool.not_eq_true', ← Bool.not_eq_true, List.any_eq_true]
  constructor
  · intro h a b hab ha hb
    exact h ⟨true, List.mem_map.mpr ⟨(a, b), hab, by simp [ha, hb]⟩, rfl⟩
  · rintro h ⟨y, hy, e⟩
    obtain ⟨c, hc, e2⟩ := List.mem_map.mp hy
    have e3 : y = true := e
    rw [e3, Bool.and_eq_true, decide_eq_true_iff, decide_eq_true_iff] at e2
    exact h c.1 c.2 hc e2.1 e2.2
def PairsOf (t row kept : List Int) (pairs : List (Int × Int)) : Prop := ∀ a b : Int, (a, b) ∈ clash t row → a ∈ kept → b ∈ kept → (a, b) ∈ pairs
def farK (row : List Int) : Int := lmax (row.map fun x => ((x.natAbs : Nat) : Int)) + 100
end TM
namespace TM
open GL PySem
variable {t row kept made S ls gs c : List Int} {a b x y : Int}
end TM


set_option linter.all false
set_option maxHeartbeats 1000000
namespace TM
open GL PySem
variable {t row kept made S m2 : List Int} {a b c x most : Int} {chains : List (List Int)}
/-! ### all sets of places -/
theorem bits_ex (q : Nat → Bool) : ∀ n : Nat, ∃ j, j < 2 ^ n ∧ ∀ c, c < n → j.testBit c = q c
  | 0 => ⟨0, by decide, fun c hc => absurd hc (by omega)⟩
  | n + 1 => by
    obtain ⟨j, h1, h2⟩ := bits_ex q n
    have hz : j.testBit n = false := Nat.testBit_lt_two_pow h1
    by_cases hq : q n = true
    · refine ⟨2 ^ n + j, by rw [Nat.pow_succ]; omega, fun c hc => ?_⟩
      by_cases e : c = n
      · subst e; rw [Nat.testBit_two_pow_add_eq, hz, hq]; rfl
      · rw [Nat.testBit_two_pow_add_gt (by omega)]; exact h2 c (by omega)
    · refine ⟨j, by rw [Nat.pow_succ]; omega, fun c hc => ?_⟩
      by_cases e : c = n
      · subst e; rw [hz]; simp at hq; exact hq.symm
      · exact h2 c (by omega)
def someF (n : Nat) (x : Int) : List Int := (rg 0 (n : Int)).filter fun c => decide ((x / 2 ^ c.toNat) % 2 ^ 1 = (1 : Int))
theorem bit_is (j k : Nat) : (((j : Int) / 2 ^ k) % 2 ^ 1 = (1 : Int)) ↔ j.testBit k = true := by
  rw [Nat.testBit_eq_decide_div_mod_eq, decide_eq_true_iff]
  have : ((j : Int) / 2 ^ k) % 2 ^ 1 = ((j / 2 ^ k % 2 : Nat) : Int) := by
    rw [Int.natCast_emod, Int.natCast_ediv, Int.natCast_pow]
    rfl
  rw [this]; omega
theorem some_ex {n : Nat} (hp : kept.Pairwise (· < ·)) (hr : ∀ p ∈ kept, 0 ≤ p ∧ p < (n : Int)) : ∃ j : Nat, j < 2 ^ n ∧ someF n (j : Int) = kept := by
  obtain ⟨j, h1, h2⟩ := bits_ex (fun c => decide ((c : Int) ∈ kept)) n
  refine ⟨j, h1, rise_uniq ((rg_sorted _ _).filter _) hp fun y => ?_⟩
  unfold someF
  rw [List.mem_filter, rg_mem, decide_eq_true_iff, bit_is]
  constructor
  · rintro ⟨hy, hb⟩
    rw [h2 _ (by omega)] at hb
    have := of_decide_eq_true hb
    rwa [Int.toNat_of_nonneg hy.1] at this
  · intro hy
    have := hr y hy
    refine ⟨this, ?_⟩
    rw [h2 _ (by omega)]
    exact decide_eq_true (by rw [Int.toNat_of_nonneg this.1]; exact hy)
theorem some_in {n : Nat} : (someF n x).Nodup ∧ ∀ p ∈ someF n x, 0 ≤ p ∧ p < (n : Int) := ⟨(rg_nodup _ _).filter _, fun p hp => rg_mem.mp (List.mem_filter.mp hp).1⟩
structure MostI (t kept : List Int) (i : Nat) (most : Int) : Prop where
  r : 0 ≤ most ∧ most ≤ kept.length
  done : ∀ j : Nat, j < i → someF t.length (j : Int) = kept → (kept.length : Int) ≤ most
theorem mi_init : MostI t kept 0 0 := ⟨by omega, fun j hj => absurd hj (by omega)⟩
theorem mi_yes {i : Nat} (hm : Most t row kept chains) (h : MostI t kept i most) (hx : x = (i : Int)) (hS : S = someF t.length x) (hi : Ind t row S) : MostI t kept (i + 1) (max most (S.length : Int)) := by
  have h1 : S.length ≤ kept.length := hm.all S (hS ▸ some_in.1) (hS ▸ some_in.2) hi
  have h0 := h.r
  refine ⟨by omega, fun j hj e => ?_⟩
  by_cases c : j = i
  · subst c
    rw [hx, e] at hS
    rw [hS]; omega
  · have := h.done j (by omega) e
    omega
theorem mi_no {i : Nat} (hm : Most t row kept chains) (h : MostI t kept i most) (hx : x = (i : Int)) (hS : S = someF t.length x) (hi : ¬ Ind t row S) : MostI t kept (i + 1) most := by
  refine ⟨h.r, fun j hj e => ?_⟩
  by_cases c : j = i
  · subst c
    rw [hx, e] at hS
    exact absurd (hS ▸ hm.ind) hi
  · exact h.done j (by omega) e
theorem mi_end (hm : Most t row kept chains) {n : Nat} (h : MostI t kept n most) (hn : n = 2 ^ t.length) : (kept.length : Int) = most := by
  obtain ⟨j, h1, h2⟩ := some_ex hm.rise hm.r
  have := h.done j (by omega) h2
  have := h.r
  omega
theorem any_ind {pairs : List (Int × Int)} (h : pairs = clash t row) : ((pairs.map fun c => decide (c.1 ∈ S) && decide (c.2 ∈ S)).any id = true) ↔ ¬ Ind t row S := by
  rw [← indB_iff]; unfold indB; rw [h]; simp
/-! ### a row with some numbers -/
def mdB (t row kept : List Int) (b : Int) (L : List Int) (i : Nat) : List Int := (lmin row - 50 + gt (flatF t) b) :: (((L.take i).filter fun a => decide (a ∈ kept)).map fun a => gt row a + gt (flatF t) b - gt (flatF t) a)
def mdF (t row kept : List Int) : List Int := (rg 0 (t.length : Int)).map fun b => lmax (mdB t row kept b ([b] ++ ups t b) ([b] ++ ups t b).length)
theorem md_len : (mdF t row kept).length = t.length := by unfold mdF; rw [List.length_map, rg_len]; omega
theorem md_at {p : Int} (hp : 0 ≤ p ∧ p < t.length) : gt (mdF t row kept) p = lmax (mdB t row kept p ([p] ++ ups t p) ([p] ++ ups t p).length) := gt_map_rg hp
theorem mdB_0 {L : List Int} : mdB t row kept b L 0 = [lmin row - 50 + gt (flatF t) b] := by unfold mdB; simp
theorem mdB_yes {L : List Int} {i : Nat} (h : L[i]? = some a) (hk : a ∈ kept) : mdB t row kept b L (i + 1) = mdB t row kept b L i ++ [gt row a + gt (flatF t) b - gt (flatF t) a] := by
  unfold mdB
  rw [List.take_add_one, h]
  simp [List.filter_append, hk]
theorem mdB_no {L : List Int} {i : Nat} (h : L[i]? = some a) (hk : ¬ a ∈ kept) : mdB t row kept b L (i + 1) = mdB t row kept b L i := by
  unfold mdB
  rw [List.take_add_one, h]
  simp [List.filter_append, hk]
theorem mdB_len {L : List Int} {i : Nat} : (mdB t row kept b L i).length ≤ L.length + 1 := by
  unfold mdB
  rw [List.length_cons, List.length_map]
  have := List.length_filter_le (fun a => decide (a ∈ kept)) (L.take i)
  rw [List.length_take] at this
  omega
theorem md_take {i : Nat} (hi : i < t.length) (hx : x = (i : Int)) {F : List Int} (hF : F = mdB t row kept x ([x] ++ ups t x) ([x] ++ ups t x).length) : (mdF t row kept).take (i + 1) = (mdF t row kept).take i ++ [lmax F] := by
  rw [List.take_add_one, gt_eqq (by rw [md_len]; exact hi), md_at (by omega), hF, hx]; rfl
theorem md_mem {p y : Int} : y ∈ mdB t row kept p ([p] ++ ups t p) ([p] ++ ups t p).length ↔ y = lmin row - 50 + gt (flatF t) p ∨ ∃ o ∈ [p] ++ ups t p, o ∈ kept ∧ y = gt row o + gt (flatF t) p - gt (flatF t) o := by
  unfold mdB
  rw [List.take_length, List.mem_cons, List.mem_map]
  refine or_congr Iff.rfl ⟨?_, ?_⟩
  · rintro ⟨o, ho, e⟩
    obtain ⟨h1, h2⟩ := List.mem_filter.mp ho
    exact ⟨o, h1, of_decide_eq_true h2, e.symm⟩
  · rintro ⟨o, h1, h2, e⟩
    exact ⟨o, List.mem_filter.mpr ⟨h1, decide_eq_true h2⟩, e.symm⟩
theorem md_ne {p : Int} : mdB t row kept p ([p] ++ ups t p) ([p] ++ ups t p).length ≠ [] := by unfold mdB; simp
theorem md_tree (ht : isTree t = true) : treeOf (mdF t row kept) = t := by
  refine fits_tree ht md_len fun p hp he => ?_
  have hg := gt_nbN (t := t) (q := p) hp
  have hne : ¬ gt t (p : Int) = -1 := by rw [hg]; omega
  obtain ⟨u1, u2⟩ := ups_cons ht (p := (p : Int)) (by omega) hne
  have hf := flat_edge ht (p := (p : Int)) (by omega) hne
  rw [hg] at u1 u2 hf
  have e1 : nb (mdF t row kept) p = gt (mdF t row kept) (p : Int) := (gt_nb _ _).symm
  have e2 : nb (mdF t row kept) (nb t p).toNat = gt (mdF t row kept) (nb t p) := by rw [← gt_nb, show (((nb t p).toNat : Nat) : Int) = nb t p by omega]
  rw [e1, e2, md_at u1, md_at (p := (p : Int)) (by omega)]
  have h1 := (lmax_spec _ (md_ne (t := t) (row := row) (kept := kept) (p := nb t p))).1
  have h2 := (lmax_spec _ (md_ne (t := t) (row := row) (kept := kept) (p := (p : Int)))).2
  rcases md_mem.mp h1 with e | ⟨o, ho, hk, e⟩
  · have := h2 _ (md_mem.mpr (.inl rfl))
    rw [e]; omega
  · have := h2 _ (md_mem.mpr (.inr ⟨o, List.mem_append_right _ (by rw [u2]; exact ho), hk, rfl⟩))
    rw [e]; omega
theorem md_keep (ht : isTree t = true) (hl : row.length = t.length) (hi : Ind t row kept) {p : Int} (hp : p ∈ kept) (hpr : 0 ≤ p ∧ p < t.length) : gt (mdF t row kept) p = gt row p := by
  rw [md_at hpr]
  have h1 := (lmax_spec _ (md_ne (t := t) (row := row) (kept := kept) (p := p))).1
  have h2 := (lmax_spec _ (md_ne (t := t) (row := row) (kept := kept) (p := p))).2 _ (md_mem.mpr (.inr ⟨p, List.mem_append_left _ (List.mem_singleton.mpr rfl), hp, rfl⟩))
  have hfp := flat_small ht hpr
  have hrm := gt_mem (l := row) (i := p) (by rw [hl]; exact hpr)
  have hmn := (lmin_spec row (fun z => by rw [z] at hrm; cases hrm)).2 _ hrm
  rcases md_mem.mp h1 with e | ⟨o, ho, hk, e⟩
  · rw [e] at h2 ⊢; omega
  · rcases List.mem_append.mp ho with z | z
    · rw [e, List.mem_singleton.mp z]; omega
    · have hn : ¬ gt row p < gt row o + gt (flatF t) p - gt (flatF t) o := fun q => hi o p (mem_clashF.mpr ⟨hpr, z, q⟩) hk hp
      rw [e] at h2 ⊢; omega
theorem md_all (ht : isTree t = true) (hl : row.length = t.length) (hi : Ind t row S) (hS : ∀ p ∈ S, 0 ≤ p ∧ p < t.length) (hm : (¬ row = [] → made = mdF t row S) ∧ (¬ ¬ row = [] → made = m2)) (h2 : m2 = row) :
    treeOf made = t ∧ made.length = t.length ∧ ∀ p ∈ S, gt made p = gt row p := by
  by_cases e : row = []
  · have e2 := hm.2 (fun z => z e)
    have ht0 : t = [] := List.eq_nil_of_length_eq_zero (by rw [← hl, e]; rfl)
    rw [e2, h2]
    refine ⟨by rw [e, ht0]; rfl, hl, fun p hp => rfl⟩
  · rw [hm.1 e]
    exact ⟨md_tree ht, md_len, fun p hp => md_keep ht hl hi hp (hS p hp)⟩
theorem clash_kin (ht : isTree t = true) (hr : treeOf row = t) : clash t row = [] := by
  refine List.eq_nil_iff_forall_not_mem.mpr fun p hp => ?_
  obtain ⟨a, b⟩ := p
  obtain ⟨h1, h2, h3⟩ := mem_clashF.mp hp
  have := (goes_up ht hr _ b (Nat.le_refl _) h1).2 a h2
  omega
end TM
namespace TM
open GL PySem
theorem keep_all {made row S : List Int} (h : ∀ p ∈ S, gt made p = gt row p) : (S.map fun c => decide (gt made c = gt row c)).all id = true := by
  rw [List.all_eq_true]
  intro y hy
  obtain ⟨c, hc, e⟩ := List.mem_map.mp hy
  rw [← e]
  exact decide_eq_true (h c hc)
end TM


set_option Elab.async false
set_option linter.all false
set_option maxRecDepth 100000
set_option maxHeartbeats 4000000
namespace Law
open PySem L2 GL
def topS (i : Nat) : Stmt := PySem.Challenge.pw_dipkin_k66_whole_none_stay_more.main.body.getD i (.Pass ⟨0, 0, 0, 0⟩)
def PIlaw : HO → Prop := fun o => ∃ x y : Int, o = .lst [.int x, .int y]
def sp_law_pool (K : PySem.W.Frag) : Sp := spF (aCons (rScr K) (aCons rInt aNil)) (fun (a : (List Int) × Int × Unit) => (0 ≤ a.2.1 ∧ a.2.1 ≤ 1000000)) (rList rInt) (fun (a : (List Int) × Int × Unit) b => ∃ x y, b = [x, y]) (fun _ _ => False)
theorem call_law_pool {C : Cn} {Γ : List Ent} {E : XK} {K : PySem.W.Frag} {t1 : TE} {t2 : TE} {a1 : (List Int)} {a2 : Int} (h1 : Ev C t1 Γ .h (rScr K) a1) (h2 : Ev C t2 Γ .h rInt a2) (hp0 : 0 ≤ a2 ∧ a2 ≤ 1000000) : EvX C (tCall (sp_law_pool K) [] E (tCons t1 (tCons t2 tNil))) Γ (ResF C (rList rInt) (fun (b : (List Int)) => ∃ x y, b = [x, y])) := ed_call2 h1 h2 hp0 exc0 (fun _ z => z)
theorem callx_law_pool {C : Cn} {Γ : List Ent} {E : XK} {K : PySem.W.Frag} {t1 : TE} {t2 : TE} {P1 : (List Int) → Prop} {P2 : Int → Prop} (h1 : EvP C t1 Γ .h (rScr K) P1) (h2 : EvP C t2 Γ .h rInt P2) (hp0 : ∀ a1 a2, P1 a1 → P2 a2 → (0 ≤ a2 ∧ a2 ≤ 1000000)) : EvX C (tCall (sp_law_pool K) [] E (tCons t1 (tCons t2 tNil))) Γ (ResF C (rList rInt) (fun (b : (List Int)) => ∃ a1 a2, P1 a1 ∧ P2 a2 ∧ (∃ x y, b = [x, y]))) := ex_call2 h1 h2 (fun a1 a2 _p1 _p2 => hp0 a1 a2 _p1 _p2) exc0 (fun a1 a2 _p1 _p2 => fun _ z => z)
def t_law_pool (K : PySem.W.Frag) (E : XK) : TS :=
(tSeq (tAsg (tC (.int 0)) (gName 2))
(tCut (tIfS (tTest (tOp (rI0 fun i j => .bl (decide (i < j))) (tVar 1) (tCB (rLenS K) (tCons (tVar 0) tNil)))) (tSeq (tAsg (tOp (rI (fun _ j => 0 < j) fun i j => .int (i % j)) (tOp (rIxK K .l) (tVar 0) (tVar 1)) (tOp (rI CMulW fun i j => .int (i * j)) (tOp (rI CMulW fun i j => .int (i * j)) (tOp (rI CMulW fun i j => .int (i * j)) (tOp (rI CPow fun i j => .int (i ^ j.toNat)) (tC (.int 10)) (tC (.int 64))) (tOp (rI CPow fun i j => .int (i ^ j.toNat)) (tC (.int 10)) (tC (.int 64)))) (tOp (rI CPow fun i j => .int (i ^ j.toNat)) (tC (.int 10)) (tC (.int 64)))) (tOp (rI CPow fun i j => .int (i ^ j.toNat)) (tC (.int 10)) (tC (.int 64))))) (gName 2))
tNext) tNext)
(tSeq (tRet (tLst (tCons (tCB (fun xs H Q => ∃ i j, xs = [.int i, .int j] ∧ Q (.int (if j > i then j else i)) H) (tCons (tC (.int 0)) (tCons (tOp (rI0 fun i j => .int (i - j)) (tVar 2) (tOp (rI CPow fun i j => .int (i ^ j.toNat)) (tC (.int 10)) (tC (.int 18)))) tNil))) (tCons (tOp (rI (fun _ j => 0 < j) fun i j => .int (i % j)) (tOp (rI CMul fun i j => .int (i * j)) (tOp (rI0 fun i j => .int (i + j)) (tOp (rI0 fun i j => .int (i + j)) (tOp (rI (fun _ j => 0 < j) fun i j => .int (i % j)) (tVar 2) (tC (.int 2147483629))) (tOp (rI CMul fun i j => .int (i * j)) (tC (.int 7919)) (tVar 1))) (tC (.int 1))) (tC (.int 48271))) (tC (.int 2147483647))) tNil)))) tNext)))
theorem go_law_pool {K : PySem.W.Frag} {C : Cn} {D : Ends} {E : XK} (script_ : (List Int)) (k_ : Int) (hp0 : 0 ≤ k_ ∧ k_ ≤ 1000000) (hR : RetOk C D (rList rInt) (fun (b : (List Int)) => ∃ x y, b = [x, y])) :
    Go C (t_law_pool K E) D [.val .m (rScr K) script_, .val .m rInt k_, .no] := by
  unfold t_law_pool
  refine q_asg (i := 2) (ℓ := .g) (ev_int) (fun cell1 hcell1 => ?_)
  replace hcell1 : cell1 = (0 : Int) := hcell1
  refine q_cut (S := Int) (fun s => [.val .m (rScr K) script_, .val .m rInt k_, .val .g rInt s]) (fun s => (((k_ < ((script_).length : Int)) → s = ((gt script_ k_) % (10000000000000000000000000000000000000000000000000000000000000000000000000000000000000000000000000000000000000000000000000000000000000000000000000000000000000000000000000000000000000000000000000000000000000000000000000000000000000000000000000000000000000000 : Int))) ∧ (¬ (k_ < ((script_).length : Int)) → s = cell1))) (c_ifC (ec_tst (ev_lt (((ev_var (R := rInt) (a := k_) rfl)).toh) ((ev_lenScr ((ev_var (R := (rScr K)) (a := script_) rfl)).toh)))) (fun h2 => ?_) (fun h2 => ?_)) (fun s h2j => ?_)
  · refine q_asg (i := 2) (ℓ := .g) ((ev_mod ((ev_ixScr ((ev_var (R := (rScr K)) (a := script_) rfl)).toh (((ev_var (R := rInt) (a := k_) rfl)).toh) (by first | omega | assumption | (simp; done) | (constructor <;> omega) | (simp; omega)))) ((ev_eqc (ev_mulW ((ev_eqc (ev_mulW ((ev_eqc (ev_mulW ((ev_eqc (ev_pow (ev_int) (ev_int) (by unfold CPow; decide)) (c := 10000000000000000000000000000000000000000000000000000000000000000) (by decide +kernel))) ((ev_eqc (ev_pow (ev_int) (ev_int) (by unfold CPow; decide)) (c := 10000000000000000000000000000000000000000000000000000000000000000) (by decide +kernel))) (wide_mul (a := 214) (b := 214) (by decide +kernel) (by decide +kernel) (by decide) (by decide) (by decide))) (c := 100000000000000000000000000000000000000000000000000000000000000000000000000000000000000000000000000000000000000000000000000000000) (by decide +kernel))) ((ev_eqc (ev_pow (ev_int) (ev_int) (by unfold CPow; decide)) (c := 10000000000000000000000000000000000000000000000000000000000000000) (by decide +kernel))) (wide_mul (a := 427) (b := 214) (by decide +kernel) (by decide +kernel) (by decide) (by decide) (by decide))) (c := 1000000000000000000000000000000000000000000000000000000000000000000000000000000000000000000000000000000000000000000000000000000000000000000000000000000000000000000000000000000000000000000000000) (by decide +kernel))) ((ev_eqc (ev_pow (ev_int) (ev_int) (by unfold CPow; decide)) (c := 10000000000000000000000000000000000000000000000000000000000000000) (by decide +kernel))) (wide_mul (a := 639) (b := 214) (by decide +kernel) (by decide +kernel) (by decide) (by decide) (by decide))) (c := 10000000000000000000000000000000000000000000000000000000000000000000000000000000000000000000000000000000000000000000000000000000000000000000000000000000000000000000000000000000000000000000000000000000000000000000000000000000000000000000000000000000000000000) (by decide +kernel))) (by decide +kernel))) (fun cell3 hcell3 => ?_)
    replace hcell3 : cell3 = ((gt script_ k_) % (10000000000000000000000000000000000000000000000000000000000000000000000000000000000000000000000000000000000000000000000000000000000000000000000000000000000000000000000000000000000000000000000000000000000000000000000000000000000000000000000000000000000000000 : Int)) := hcell3
    refine q_next (hol_in cell3 ?_ (LeG.k (LeG.k (LeG.k LeG.nil))))
    show (((k_ < ((script_).length : Int)) → cell3 = ((gt script_ k_) % (10000000000000000000000000000000000000000000000000000000000000000000000000000000000000000000000000000000000000000000000000000000000000000000000000000000000000000000000000000000000000000000000000000000000000000000000000000000000000000000000000000000000000000 : Int))) ∧ (¬ (k_ < ((script_).length : Int)) → cell3 = cell1))
    first | exact ⟨fun _ => by assumption, fun z => absurd (by assumption) z⟩ | exact ⟨fun z => absurd z (by assumption), fun _ => by assumption⟩ | exact ⟨fun _ => rfl, fun z => absurd (by assumption) z⟩ | exact ⟨fun z => absurd z (by assumption), fun _ => rfl⟩ | (constructor <;> intro _ <;> first | assumption | rfl | contradiction | omega)
  · refine q_next (hol_in cell1 ?_ (LeG.k (LeG.k (LeG.k LeG.nil))))
    show (((k_ < ((script_).length : Int)) → cell1 = ((gt script_ k_) % (10000000000000000000000000000000000000000000000000000000000000000000000000000000000000000000000000000000000000000000000000000000000000000000000000000000000000000000000000000000000000000000000000000000000000000000000000000000000000000000000000000000000000000 : Int))) ∧ (¬ (k_ < ((script_).length : Int)) → cell1 = cell1))
    first | exact ⟨fun _ => by assumption, fun z => absurd (by assumption) z⟩ | exact ⟨fun z => absurd z (by assumption), fun _ => by assumption⟩ | exact ⟨fun _ => rfl, fun z => absurd (by assumption) z⟩ | exact ⟨fun z => absurd z (by assumption), fun _ => rfl⟩ | (constructor <;> intro _ <;> first | assumption | rfl | contradiction | omega)
  revert s h2j; intro cell4 h2j
  replace h2j : (((k_ < ((script_).length : Int)) → cell4 = ((gt script_ k_) % (10000000000000000000000000000000000000000000000000000000000000000000000000000000000000000000000000000000000000000000000000000000000000000000000000000000000000000000000000000000000000000000000000000000000000000000000000000000000000000000000000000000000000000 : Int))) ∧ (¬ (k_ < ((script_).length : Int)) → cell4 = cell1)) := h2j
  refine q_ret ((ev_new (ℓ := .g) (en_lstd (ℓ := .g) (em_cons ((ev_max2 (ev_int) ((ev_sub (((ev_var (R := rInt) (a := cell4) rfl)).toh) ((ev_eqc (ev_pow (ev_int) (ev_int) (by unfold CPow; decide)) (c := 1000000000000000000) (by decide +kernel))))))) (em_cons ((ev_mod ((ev_mul ((ev_add ((ev_add ((ev_mod (((ev_var (R := rInt) (a := cell4) rfl)).toh) (ev_int) (by decide +kernel))) ((ev_mul (ev_int) (((ev_var (R := rInt) (a := k_) rfl)).toh) (.inl (by decide)))))) (ev_int))) (ev_int) (.inr (by decide)))) (ev_int) (by decide +kernel))) em_nil)) (Nat.le_of_ble_eq_true rfl)))) hR (fun r5 hr5 => ?_)
  replace hr5 : r5 = [(max (0 : Int) (cell4 - (1000000000000000000 : Int))), (((((cell4 % (2147483629 : Int)) + ((7919 : Int) * k_)) + (1 : Int)) * (48271 : Int)) % (2147483647 : Int))] := hr5
  show ∃ x y, r5 = [x, y]
  (try rw [hr5])
  exact ⟨_, _, rfl⟩
abbrev s_law_pool : Stmt := topS 25
theorem sc_law_pool : FnScope ["script", "k", "cell"] ["script", "k"] (defScope s_law_pool) := ⟨rfl, rfl, rfl, by decide +kernel, rfl, by decide +kernel, by decide +kernel⟩
theorem ok_law_pool {P : Program} {w : PySem.World} {K : PySem.W.Frag} {mg : Str → Option Value} {base : Heap} {f : Addr} {fd : FuncData} (F : Fun K "_law_pool" "_law_pool" s_law_pool f fd) (m_len : mg "len" = none) (m_max : mg "max" = none) : FnOk P w K mg base CX0 1 f fd ["script", "k"] (sp_law_pool K) := by
  have sc := sc_law_pool
  refine F.ok sc (fun vs H Q E h => ?_) (fun cdv A outer s H vs Q E hr h => ?_)
  · obtain ⟨a_, ha_, _⟩ := h
    obtain ⟨v1, _, rfl, _ha1, ⟨v2, _, rfl, _ha2, rfl⟩⟩ := ha_
    rfl
  · obtain ⟨⟨script_, k_, _⟩, ⟨v1, _, rfl, ha1, ⟨v2, _, rfl, ha2, rfl⟩⟩, hp0, hR, hE⟩ := spF_open PIlaw (n := fun _ H' => Q .non H') h
    refine ⟨t_law_pool K E, ?_, go_law_pool (C := (Cn0 PIlaw H)) script_ k_ hp0 hR _ (W0 H []) (world_of (bok0 (PI := PIlaw) H) ⟨⟨by decide, v1, rfl, (rScr K).mono (mw0 (PI := PIlaw) H) ha1⟩, ⟨⟨by decide, v2, rfl, rInt.mono (mw0 (PI := PIlaw) H) ha2⟩, ⟨trivial, trivial⟩⟩⟩ rfl)⟩
    unfold t_law_pool
    exact (pss_cons (ps_set (i := 2) sc.nd rfl (Or.inl rfl) pe_int)
(pss_cut (ps_if (pt_cmpR op_lt (pv 1) (pe_callB call_len_seq (by rfl) m_len bt_len (pa_cons (pv 0) pa_nil)) (nomark _)) (pss_cons (ps_set (i := 2) sc.nd rfl (Or.inl rfl) (pe_op op_mod (pe_ix ix_list (pv 0) (pv 1) (fun _ _ => rfl)) (pe_op op_mulW (pe_op op_mulW (pe_op op_mulW (pe_op op_pow pe_int pe_int) (pe_op op_pow pe_int pe_int)) (pe_op op_pow pe_int pe_int)) (pe_op op_pow pe_int pe_int))))
pss_nil) pss_nil)
(pss_cons (ps_ret (pe_lst (pa_cons (pe_callB (call_max2 rfl) (by rfl) m_max (by decide +kernel) (pa_cons pe_int (pa_cons (pe_op op_sub (pv 2) (pe_op op_pow pe_int pe_int)) pa_nil))) (pa_cons (pe_op op_mod (pe_op op_mul (pe_op op_add (pe_op op_add (pe_op op_mod (pv 2) pe_int) (pe_op op_mul pe_int (pv 1))) pe_int) pe_int) pe_int) pa_nil)))) pss_nil)))
def sp_law_hung : Sp := spF (aCons (rTup rInt) aNil) (fun (a : (List Int) × Unit) => (a.1.length ≤ 1000) ∧ (TM.dok a.1)) (rTup rInt) (fun (a : (List Int) × Unit) b => b = TM.hungF a.1) (fun _ _ => False)
theorem call_law_hung {C : Cn} {Γ : List Ent} {E : XK} {t1 : TE} {a1 : (List Int)} (h1 : Ev C t1 Γ .h (rTup rInt) a1) (hp0 : a1.length ≤ 1000) (hp1 : TM.dok a1) : EvX C (tCall (sp_law_hung) [] E (tCons t1 tNil)) Γ (ResF C (rTup rInt) (fun b => b = TM.hungF a1)) := ed_call1 h1 ⟨hp0, hp1⟩ exc0 (fun _ z => z)
theorem callx_law_hung {C : Cn} {Γ : List Ent} {E : XK} {t1 : TE} {P1 : (List Int) → Prop} (h1 : EvP C t1 Γ .h (rTup rInt) P1) (hp0 : ∀ a1, P1 a1 → (a1.length ≤ 1000)) (hp1 : ∀ a1, P1 a1 → (TM.dok a1)) : EvX C (tCall (sp_law_hung) [] E (tCons t1 tNil)) Γ (ResF C (rTup rInt) (fun b => ∃ a1, P1 a1 ∧ (b = TM.hungF a1))) := ex_call1 h1 (fun a1 _p1 => ⟨hp0 a1 _p1, hp1 a1 _p1⟩) exc0 (fun a1 _p1 => fun _ z => z)
def t_law_hung (K : PySem.W.Frag) (E : XK) : TS :=
(tSeq (tAsg (tOp rRep (tLst (tCons (tUn (rU fun i => .int (-i)) (tC (.int 1))) tNil)) (tCB (rLenS K) (tCons (tVar 0) tNil))) (gName 1))
(tSeq (tAsg (tLst tNil) (gName 2))
(tSeq (tFor (iEnumE K (tCons (tVar 0) tNil)) (gTup K 2 (gCons (gName 3) (gCons (gName 4) gNil)))
(tSeq (tFor (iRng1 (tCons (tVar 4) tNil)) (gName 5)
(tSeq (tAsg (tOp (rIxK K .l) (tLst (tCons (tOp (rIxK K .l) (tVar 1) (tOp (rIxK K .l) (tVar 2) (tUn (rU fun i => .int (-i)) (tC (.int 1))))) (tCons (tVar 3) tNil))) (tCB (fun xs H Q => (∃ i, xs = [.int i] ∧ Q (.int i) H) ∨ ∃ k, xs = [.bl k] ∧ Q (.int (if k then 1 else 0)) H) (tCons (tOp rEq (tVar 5) (tOp (rI0 fun i j => .int (i - j)) (tVar 4) (tC (.int 1)))) tNil))) (gSub (tVar 1) (tOp (rIxK K .l) (tVar 2) (tUn (rU fun i => .int (-i)) (tC (.int 1)))) rSetL))
(tSeq (tDrop (tBM0 K "list" rPop (tVar 2)))
tNext)))
(tCut (tIfS (tTest (tOp (rNeD K) (tVar 2) (tLst tNil))) (tSeq (tAsg (tOp (rIxK K .l) (tVar 2) (tUn (rU fun i => .int (-i)) (tC (.int 1)))) (gSub (tVar 1) (tVar 3) rSetL))
tNext) tNext)
(tSeq (tDrop (tBM K "list" rAppend (tVar 2) (tCons (tVar 3) tNil)))
tNext))))
(tSeq (tRet (tCB (rTupOf K) (tCons (tVar 1) tNil))) tNext))))
theorem go_law_hung {K : PySem.W.Frag} {C : Cn} {D : Ends} {E : XK} (drops_ : (List Int)) (hp0 : drops_.length ≤ 1000) (hp1 : TM.dok drops_) (hR : RetOk C D (rTup rInt) (fun b => b = TM.hungF drops_)) :
    Go C (t_law_hung K E) D [.val .m (rTup rInt) drops_, .no, .no, .no, .no, .no] := by
  unfold t_law_hung
  refine q_asgN (i := 1) (ℓ := .g) (en_repd (es_list (ev_new (ℓ := .g) (en_lstd (ℓ := .g) (em_cons ((ev_neg (ev_int))) em_nil) (Nat.le_of_ble_eq_true rfl)))) ((ev_len (es_tup (ev_var (R := (rTup rInt)) (a := drops_) rfl)))) (by omega)) (fun p2 elders1 helders1 => ?_)
  refine q_asgN (i := 2) (ℓ := .g) (en_lstd (ℓ := .g) (R := rInt) em_nil) (fun p4 still3 hstill3 => ?_)
  subst hstill3
  refine q_forD2 (i := 3) (j := 4) (σS := (List Int) × (List Int)) (fun s => [.val .m (rTup rInt) drops_, .own p2 .g rInt s.1, .own p4 .g rInt s.2, .no, .no, .no]) (fun (i : Nat) (s : (List Int) × (List Int)) => (s.1 = (TM.hst drops_ i).1) ∧ (s.2 = (TM.hst drops_ i).2) ∧ (s.2.length ≤ i)) (elders1, ([] : List Int)) (ei_enumEd (b := true) (hc := (by intro _; decide)) (ev_seqT (ev_var (R := (rTup rInt)) (a := drops_) rfl))) (by
        show (elders1 = (TM.hst drops_ 0).1) ∧ (([] : List Int) = (TM.hst drops_ 0).2) ∧ (([] : List Int).length ≤ 0)
        exact ⟨by rw [helders1]; rfl, rfl, Nat.le_refl _⟩) (LeG.k (LeG.k (LeG.k (LeG.f (LeG.f (LeG.f LeG.nil)))))) (fun C1 hc1 i1 x5 s hx5 hI0 => ?_) (fun s hI0 => ?_)
  · obtain ⟨elders6, still7⟩ := s
    replace hI0 : (elders6 = (TM.hst drops_ i1).1) ∧ (still7 = (TM.hst drops_ i1).2) ∧ (still7.length ≤ i1) := hI0
    obtain ⟨hI0_0, hI0_1, hI0_2⟩ := hI0
    have hR := hR.ex hc1
    have hx5l := at_lt hx5
    have hx5r := enu_at hx5
    rw [enu_len] at hx5l
    obtain ⟨hn1, hn2, hn3⟩ := TM.enu_num hx5
    have hok := TM.dok_okD hp1 i1 (Nat.le_of_lt hn2)
    have hdn : x5.2 = TM.nb drops_ i1 := by rw [hn3, hn1, TM.gt_nb]
    have hd := TM.dok_okD hp1 (i1 + 1) hn2 i1 (Nat.lt_succ_self _)
    rw [← hdn] at hd
    have hel := TM.hst_len (Nat.le_of_lt hn2) hok
    have hin : ∀ x ∈ (TM.hst drops_ i1).2, 0 ≤ x ∧ x < (TM.hst drops_ i1).1.length := fun x hx => by
      have := TM.hst_in (Nat.le_of_lt hn2) hok x hx; omega
    have hsl : (still7).length = (TM.hst drops_ i1).2.length := by rw [hI0_1]
    have hst2 := hI0_2
    refine q_forD (j := 5) (σS := (List Int) × (List Int)) (fun s => [.val .m (rTup rInt) drops_, .own p2 .g rInt s.1, .own p4 .g rInt s.2, .val .m rInt x5.1, .val .m rInt x5.2, .no]) (fun (i : Nat) (s : (List Int) × (List Int)) => (s.2 = (TM.hst drops_ i1).2.take ((TM.hst drops_ i1).2.length - i)) ∧ (s.1 = TM.hmid (TM.hst drops_ i1).1 (TM.hst drops_ i1).2 x5.2 x5.1 i)) (elders6, still7) (ei_rg1d (b := true) (ℓ := .g) (((ev_var (R := rInt) (a := x5.2) rfl)).toh) (by omega)) (by
          show (still7 = (TM.hst drops_ i1).2.take ((TM.hst drops_ i1).2.length - 0)) ∧ (elders6 = TM.hmid (TM.hst drops_ i1).1 (TM.hst drops_ i1).2 x5.2 x5.1 0)
          exact ⟨by rw [hI0_1, Nat.sub_zero, List.take_length], by rw [hI0_0]; unfold TM.hmid; rw [if_neg (by omega)]⟩) (LeG.k (LeG.k (LeG.k (LeG.k (LeG.k (LeG.f LeG.nil)))))) (fun C2 hc2 i2 x8 s hx8 hI1 => ?_) (fun s hI1 => ?_)
    · obtain ⟨elders9, still10⟩ := s
      replace hI1 : (still10 = (TM.hst drops_ i1).2.take ((TM.hst drops_ i1).2.length - i2)) ∧ (elders9 = TM.hmid (TM.hst drops_ i1).1 (TM.hst drops_ i1).2 x5.2 x5.1 i2) := hI1
      obtain ⟨hI1_0, hI1_1⟩ := hI1
      have hR := hR.ex hc2
      have hx8l := at_lt hx8
      have hx8r := rg_at hx8
      rw [rg_len] at hx8l
      have ht2 : (i2 : Int) < x5.2 := by omega
      obtain ⟨hm1, hm2, hm3⟩ := TM.hung_mid (E1 := elders9) (S1 := still10) hd hin hI1_0 hI1_1 ht2
      have hm4 := List.length_pos_iff.mpr hm1
      refine q_set (i := 1) (p := p2) rfl ((ev_ix (es_list (ev_new (ℓ := .g) (en_lstd (ℓ := .g) (em_cons ((ev_ix (es_own (R := rInt) (l := elders9) rfl) (((ev_ixB (n := 1) (es_own (R := rInt) (l := still10) rfl) (by first | omega | (have := List.length_pos_iff.mpr (show ¬ still10 = [] by assumption); omega)))).toh) (by omega))) (em_cons (((ev_var (R := rInt) (a := x5.1) rfl)).fl fl_int) em_nil)) (Nat.le_of_ble_eq_true rfl)))) ((ev_intB' ((ev_eqI (((ev_var (R := rInt) (a := x8) rfl)).toh) ((ev_sub (((ev_var (R := rInt) (a := x5.2) rfl)).toh) (ev_int))))))) (by split <;> exact ⟨by decide, show _ < (2 : Int) by decide⟩))) (((ev_ixB (n := 1) (es_own (R := rInt) (l := still10) rfl) (by first | omega | (have := List.length_pos_iff.mpr (show ¬ still10 = [] by assumption); omega)))).toh) (fun n hn => by subst hn; exact (by omega)) (fun e11 n12 he11 hn12 => ?_)
      replace he11 : e11 = (gt [(gt elders9 (gtB still10 1)), x5.1] (if (decide (x8 = (x5.2 - (1 : Int)))) = true then (1 : Int) else 0)) := he11
      replace hn12 : n12 = (gtB still10 1) := hn12
      rw [he11, hn12]
      refine q_popD (i := 2) (p := p4) rfl (by exact hm1) ?_
      refine q_next (hol_in (((elders9).set ((gtB still10 1)).toNat (gt [(gt elders9 (gtB still10 1)), x5.1] (if (decide (x8 = (x5.2 - (1 : Int)))) = true then (1 : Int) else 0))), (still10).dropLast) ?_ (LeG.k (LeG.k (LeG.k (LeG.k (LeG.k (LeG.f LeG.nil)))))))
      show ((still10).dropLast = (TM.hst drops_ i1).2.take ((TM.hst drops_ i1).2.length - (i2 + 1))) ∧ (((elders9).set ((gtB still10 1)).toNat (gt [(gt elders9 (gtB still10 1)), x5.1] (if (decide (x8 = (x5.2 - (1 : Int)))) = true then (1 : Int) else 0))) = TM.hmid (TM.hst drops_ i1).1 (TM.hst drops_ i1).2 x5.2 x5.1 (i2 + 1))
      exact TM.hung_turn hd hin hI1_0 hI1_1 ht2 (by rw [TM.pick_two, show x8 = ((i2 : Nat) : Int) by omega])
    obtain ⟨elders13, still14⟩ := s
    replace hI1 : (still14 = (TM.hst drops_ i1).2.take ((TM.hst drops_ i1).2.length - ((rg 0 x5.2)).length)) ∧ (elders13 = TM.hmid (TM.hst drops_ i1).1 (TM.hst drops_ i1).2 x5.2 x5.1 ((rg 0 x5.2)).length) := hI1
    obtain ⟨hI1_0, hI1_1⟩ := hI1
    simp only [rg_len] at hI1_0 hI1_1
    show Go _ _ _ [.val .m (rTup rInt) drops_, .own p2 .g rInt elders13, .own p4 .g rInt still14, .val .m rInt x5.1, .val .m rInt x5.2, .no]
    rw [Int.sub_zero] at hI1_0 hI1_1
    have hml : (elders13).length = (TM.hst drops_ i1).1.length := by rw [hI1_1]; unfold TM.hmid; split <;> simp
    have hsl2 : (still14).length ≤ i1 := by rw [hI1_0, List.length_take]; omega
    refine q_cut (S := (List Int)) (fun s => [.val .m (rTup rInt) drops_, .own p2 .g rInt s, .own p4 .g rInt still14, .val .m rInt x5.1, .val .m rInt x5.2, .no]) (fun s => (still14 ≠ [] → s = elders13.set x5.1.toNat (gtB still14 1)) ∧ (still14 = [] → s = elders13)) (c_ifC (ec_tstN (ev_neD (eqr_list eqr_int) (Nat.le_of_ble_eq_true rfl) (ev_own (R := rInt) (l := still14) rfl) (((ev_new (ℓ := .g) (en_lstd (ℓ := .g) (R := rInt) em_nil))).toh))) (fun h15 => ?_) (fun h15 => ?_)) (fun s h15j => ?_)
    · refine q_set (i := 1) (p := p2) rfl ((ev_ixB (n := 1) (es_own (R := rInt) (l := still14) rfl) (by first | omega | (have := List.length_pos_iff.mpr (show ¬ still14 = [] by assumption); omega)))) (((ev_var (R := rInt) (a := x5.1) rfl)).toh) (fun n hn => by subst hn; exact (by omega)) (fun e16 n17 he16 hn17 => ?_)
      replace he16 : e16 = (gtB still14 1) := he16
      replace hn17 : n17 = x5.1 := hn17
      rw [he16, hn17]
      refine q_next (hol_in ((elders13).set (x5.1).toNat (gtB still14 1)) ?_ (LeG.k (LeG.k (LeG.k (LeG.k (LeG.k (LeG.f LeG.nil)))))))
      show (still14 ≠ [] → ((elders13).set (x5.1).toNat (gtB still14 1)) = elders13.set x5.1.toNat (gtB still14 1)) ∧ (still14 = [] → ((elders13).set (x5.1).toNat (gtB still14 1)) = elders13)
      first | exact ⟨fun _ => rfl, fun z => absurd z (by assumption)⟩ | exact ⟨fun z => absurd (Classical.not_not.mp (by assumption)) z, fun _ => rfl⟩
    · refine q_next (hol_in elders13 ?_ (LeG.k (LeG.k (LeG.k (LeG.k (LeG.k (LeG.f LeG.nil)))))))
      show (still14 ≠ [] → elders13 = elders13.set x5.1.toNat (gtB still14 1)) ∧ (still14 = [] → elders13 = elders13)
      first | exact ⟨fun _ => rfl, fun z => absurd z (by assumption)⟩ | exact ⟨fun z => absurd (Classical.not_not.mp (by assumption)) z, fun _ => rfl⟩
    revert s h15j; intro elders18 h15j
    replace h15j : (still14 ≠ [] → elders18 = elders13.set x5.1.toNat (gtB still14 1)) ∧ (still14 = [] → elders18 = elders13) := h15j
    obtain ⟨h15j0, h15j1⟩ := h15j
    rw [hn1, Int.toNat_natCast] at h15j0
    obtain ⟨ho1, ho2⟩ := TM.hung_one hd hdn hI1_0 (by rw [← hn1]; exact hI1_1) h15j0 h15j1
    refine q_app (i := 2) (p := p4) rfl (((ev_var (R := rInt) (a := x5.1) rfl)).fl fl_int) (by omega) (fun e19 he19 => ?_)
    replace he19 : e19 = x5.1 := he19
    rw [he19]; clear he19 e19
    refine q_next (hol_in (elders18, (still14 ++ [x5.1])) ?_ (LeG.k (LeG.k (LeG.k (LeG.f (LeG.f (LeG.f LeG.nil)))))))
    show (elders18 = (TM.hst drops_ (i1 + 1)).1) ∧ ((still14 ++ [x5.1]) = (TM.hst drops_ (i1 + 1)).2) ∧ ((still14 ++ [x5.1]).length ≤ (i1 + 1))
    exact ⟨ho1, by rw [hn1]; exact ho2, by rw [List.length_append, List.length_singleton]; omega⟩
  obtain ⟨elders20, still21⟩ := s
  replace hI0 : (elders20 = (TM.hst drops_ ((enu drops_)).length).1) ∧ (still21 = (TM.hst drops_ ((enu drops_)).length).2) ∧ (still21.length ≤ ((enu drops_)).length) := hI0
  obtain ⟨hI0_0, hI0_1, hI0_2⟩ := hI0
  simp only [enu_len] at hI0_0 hI0_1 hI0_2
  show Go _ _ _ [.val .m (rTup rInt) drops_, .own p2 .g rInt elders20, .own p4 .g rInt still21, .no, .no, .no]
  refine q_ret ((ev_tupL (ℓ := .g) (es_own (R := rInt) (l := elders20) rfl))) hR (fun r22 hr22 => ?_)
  replace hr22 : r22 = elders20 := hr22
  show r22 = TM.hungF drops_
  rw [hr22]
  rw [hI0_0]; rfl
abbrev s_law_hung : Stmt := topS 29
theorem sc_law_hung : FnScope ["drops", "elders", "still", "place", "drop", "turn"] ["drops"] (defScope s_law_hung) := ⟨rfl, rfl, rfl, by decide +kernel, rfl, by decide +kernel, by decide +kernel⟩
theorem ok_law_hung {P : Program} {w : PySem.World} {K : PySem.W.Frag} {mg : Str → Option Value} {base : Heap} {f : Addr} {fd : FuncData} (F : Fun K "_law_hung" "_law_hung" s_law_hung f fd) (m_enumerate : mg "enumerate" = none) (m_int : mg "int" = none) (m_len : mg "len" = none) (m_range : mg "range" = none) (m_tuple : mg "tuple" = none) : FnOk P w K mg base CX0 1 f fd ["drops"] sp_law_hung := by
  have sc := sc_law_hung
  refine F.ok sc (fun vs H Q E h => ?_) (fun cdv A outer s H vs Q E hr h => ?_)
  · obtain ⟨a_, ha_, _⟩ := h
    obtain ⟨v1, _, rfl, _ha1, rfl⟩ := ha_
    rfl
  · obtain ⟨⟨drops_, _⟩, ⟨v1, _, rfl, ha1, rfl⟩, ⟨hp0, hp1⟩, hR, hE⟩ := spF_open PIlaw (n := fun _ H' => Q .non H') h
    refine ⟨t_law_hung K E, ?_, go_law_hung (C := (Cn0 PIlaw H)) drops_ hp0 hp1 hR _ (W0 H []) (world_of (bok0 (PI := PIlaw) H) ⟨⟨by decide, v1, rfl, (rTup rInt).mono (mw0 (PI := PIlaw) H) ha1⟩, ⟨trivial, ⟨trivial, ⟨trivial, ⟨trivial, ⟨trivial, trivial⟩⟩⟩⟩⟩⟩ rfl)⟩
    unfold t_law_hung
    exact (pss_cons (ps_set (i := 1) sc.nd rfl (Or.inl rfl) (pe_op op_rep (pe_lst (pa_cons (pe_un un_neg pe_int) pa_nil)) (pe_callB call_len_seq (by rfl) m_len bt_len (pa_cons (pv 0) pa_nil))))
(pss_cons (ps_set (i := 2) sc.nd rfl (Or.inl rfl) (pe_lst pa_nil))
(pss_cons (ps_for PassesOwn.never rfl (pi_enumE (by rfl) m_enumerate (pa_cons (pv 0) pa_nil)) (pg_tup rfl (pgs_cons (pg_name (i := 3) sc.nd rfl (Or.inl rfl)) (pgs_cons (pg_name (i := 4) sc.nd rfl (Or.inl rfl)) pgs_nil)))
(pss_cons (ps_for PassesOwn.never rfl (pi_range1 rfl m_range (pa_cons (pv 4) pa_nil)) (pg_name (i := 5) sc.nd rfl (Or.inl rfl))
(pss_cons (ps_asg (pe_ix ix_list (pe_lst (pa_cons (pe_ix ix_list (pv 1) (pe_ix ix_list (pv 2) (pe_un un_neg pe_int) (fun _ _ => rfl)) (fun _ _ => rfl)) (pa_cons (pv 3) pa_nil))) (pe_callTy call_int1 (by rfl) m_int bt_int (pa_cons (pe_cmpR op_eq (pv 5) (pe_op op_sub (pv 4) pe_int) (nomark _)) pa_nil)) (fun _ _ => rfl)) (pg_sub (pv 1) (pe_ix ix_list (pv 2) (pe_un un_neg pe_int) (fun _ _ => rfl)) set_list))
(pss_cons (ps_expr (pe_bm0 PySem.F.plainAttrs_list PySem.F.slot_list_pop PySem.F.type_list_pop mt_pop (pv 2)))
pss_nil)))
(pss_cut (ps_if (pt_cmpR (op_neD (roomUn hr)) (pv 2) (pe_lst pa_nil) (nomark _)) (pss_cons (ps_asg (pe_ix ix_list (pv 2) (pe_un un_neg pe_int) (fun _ _ => rfl)) (pg_sub (pv 1) (pv 3) set_list))
pss_nil) pss_nil)
(pss_cons (ps_expr (pe_bm PySem.F.plainAttrs_list PySem.F.slot_list_append PySem.F.type_list_append mt_append (pv 2) (pa_cons (pv 3) pa_nil)))
pss_nil))))
(pss_cons (ps_ret (pe_callTy call_tuple_of (by rfl) m_tuple bt_tuple (pa_cons (pv 1) pa_nil))) pss_nil))))
def sp_law_pick : Sp := spV PIlaw (aCons rInt aNil) (fun (a : Int × Unit) => (0 < a.1 ∧ a.1 < 1606938044258990275541962092341162602522202993782792835301376)) rInt (fun (a : Int × Unit) b => 0 ≤ b ∧ b < a.1)
theorem volx_law_pick {C : Cn} {Γ : List Ent} {E : XK} {i : Nat} {p : Addr} {t1 : TE} {P1 : Int → Prop} (hv : Γ[i]? = some (.vol p)) (hPI : C.PI = PIlaw) (h1 : EvP C t1 Γ .h rInt P1) (hp0 : ∀ a1, P1 a1 → (0 < a1 ∧ a1 < 1606938044258990275541962092341162602522202993782792835301376)) : EvX C (tCall sp_law_pick [] E (tCons (tVar i) (tCons t1 tNil))) Γ (ResF C rInt (fun (b : Int) => ∃ a1, P1 a1 ∧ (0 ≤ b ∧ b < a1))) := ex_vol1 hv hPI h1 (fun a1 _p1 => hp0 a1 _p1)
theorem vol_law_pick {C : Cn} {Γ : List Ent} {E : XK} {i : Nat} {p : Addr} {t1 : TE} {a1 : Int} (hv : Γ[i]? = some (.vol p)) (hPI : C.PI = PIlaw) (h1 : Ev C t1 Γ .h rInt a1) (hp0 : 0 < a1 ∧ a1 < 1606938044258990275541962092341162602522202993782792835301376) : EvX C (tCall sp_law_pick [] E (tCons (tVar i) (tCons t1 tNil))) Γ (ResF C rInt (fun (b : Int) => 0 ≤ b ∧ b < a1)) := (volx_law_pick hv hPI h1 (fun y1 e1 => by subst e1; exact hp0)).imp fun b h => by obtain ⟨y1, e1, po⟩ := h; subst e1; exact po
theorem volnx_law_pick {C : Cn} {Γ : List Ent} {E : XK} {te : TE} {γ : Type} {S0 : Rl γ} {Pz : List γ → Prop} (f0 : Flat S0) (h0 : EvX C te Γ (ResF C (rList S0) Pz)) (hvz : ∀ xs l, Pz l → (∀ H, All2 (S0.is H) xs l) → PIlaw (.lst xs)) {t1 : TE} {P1 : Int → Prop} (h1 : EvP C t1 Γ .h rInt P1) (hp0 : ∀ a1, P1 a1 → (0 < a1 ∧ a1 < 1606938044258990275541962092341162602522202993782792835301376)) : EvX C (tCall sp_law_pick [] E (tCons te (tCons t1 tNil))) Γ (ResF C rInt (fun (b : Int) => ∃ a1, P1 a1 ∧ (0 ≤ b ∧ b < a1))) := ex_voln1 f0 h0 hvz h1 fl_int (fun a1 _p1 => hp0 a1 _p1)
theorem voln_law_pick {C : Cn} {Γ : List Ent} {E : XK} {te : TE} {γ : Type} {S0 : Rl γ} {Pz : List γ → Prop} (f0 : Flat S0) (h0 : EvX C te Γ (ResF C (rList S0) Pz)) (hvz : ∀ xs l, Pz l → (∀ H, All2 (S0.is H) xs l) → PIlaw (.lst xs)) {t1 : TE} {a1 : Int} (h1 : Ev C t1 Γ .h rInt a1) (hp0 : 0 < a1 ∧ a1 < 1606938044258990275541962092341162602522202993782792835301376) : EvX C (tCall sp_law_pick [] E (tCons te (tCons t1 tNil))) Γ (ResF C rInt (fun (b : Int) => 0 ≤ b ∧ b < a1)) := (volnx_law_pick f0 h0 hvz h1 (fun y1 e1 => by subst e1; exact hp0)).imp fun b h => by obtain ⟨y1, e1, po⟩ := h; subst e1; exact po
def t_law_pick (K : PySem.W.Frag) (E : XK) : TS :=
(tSeq (tIfS (tTest (tOp (rI0 fun i j => .bl (decide (j < i))) (tOp (rIxK K .l) (tVar 0) (tC (.int 0))) (tC (.int 0)))) (tSeq (tAsg (tOp (rI (fun _ j => 0 < j) fun i j => .int (i % j)) (tOp (rIxK K .l) (tVar 0) (tC (.int 0))) (tVar 1)) (gName 2))
(tSeq (tAsg (tOp (rI CDivW fun i j => .int (i / j)) (tOp (rIxK K .l) (tVar 0) (tC (.int 0))) (tVar 1)) (gSub (tVar 0) (tC (.int 0)) rSetL))
(tSeq (tRet (tVar 2)) tNext))) tNext)
(tSeq (tAsg (tOp (rI (fun _ j => 0 < j) fun i j => .int (i % j)) (tOp (rI0 fun i j => .int (i + j)) (tOp (rI CMul fun i j => .int (i * j)) (tOp (rIxK K .l) (tVar 0) (tC (.int 1))) (tC (.int 69621))) (tC (.int 12345))) (tC (.int 2147483647))) (gSub (tVar 0) (tC (.int 1)) rSetL))
(tSeq (tRet (tOp (rI (fun _ j => 0 < j) fun i j => .int (i % j)) (tOp (rI CDiv fun i j => .int (i / j)) (tOp (rI (fun _ j => 0 < j) fun i j => .int (i % j)) (tOp (rI CMul fun i j => .int (i * j)) (tOp (rIxK K .l) (tVar 0) (tC (.int 1))) (tOp (rIxK K .l) (tVar 0) (tC (.int 1)))) (tC (.int 2147483629))) (tC (.int 64))) (tVar 1))) tNext)))
abbrev s_law_pick : Stmt := topS 26
theorem sc_law_pick : FnScope ["pool", "many", "digit"] ["pool", "many"] (defScope s_law_pick) := ⟨rfl, rfl, rfl, by decide +kernel, rfl, by decide +kernel, by decide +kernel⟩
theorem ok_law_pick {P : Program} {w : PySem.World} {K : PySem.W.Frag} {mg : Str → Option Value} {base : Heap} {f : Addr} {fd : FuncData} (F : Fun K "_law_pick" "_law_pick" s_law_pick f fd) : FnOk P w K mg base CX0 1 f fd ["pool", "many"] sp_law_pick := by
  have sc := sc_law_pick
  refine F.ok sc (fun vs H Q E h => ?_) (fun cdv A outer s H vs Q E hr h => ?_)
  · obtain ⟨p_, r_, a_, o_, rfl, _, _, h1_, _⟩ := h
    obtain ⟨v1, _, rfl, _ha1, rfl⟩ := h1_
    rfl
  · obtain ⟨p_, r_, ⟨many_, _⟩, o_, rfl, ho_, hPI_, ⟨v1, _, rfl, ha1, rfl⟩, hp0, hq_⟩ := h
    refine ⟨t_law_pick K E, ?_, ?_⟩
    · unfold t_law_pick
      exact (pss_cons (ps_if (pt_cmpR op_gt (pe_ix ix_list (pv 0) pe_int (fun _ _ => rfl)) pe_int (nomark _)) (pss_cons (ps_set (i := 2) sc.nd rfl (Or.inl rfl) (pe_op op_mod (pe_ix ix_list (pv 0) pe_int (fun _ _ => rfl)) (pv 1)))
(pss_cons (ps_asg (pe_op op_fdivW (pe_ix ix_list (pv 0) pe_int (fun _ _ => rfl)) (pv 1)) (pg_sub (pv 0) pe_int set_list))
(pss_cons (ps_ret (pv 2)) pss_nil))) pss_nil)
(pss_cons (ps_asg (pe_op op_mod (pe_op op_add (pe_op op_mul (pe_ix ix_list (pv 0) pe_int (fun _ _ => rfl)) pe_int) pe_int) pe_int) (pg_sub (pv 0) pe_int set_list))
(pss_cons (ps_ret (pe_op op_mod (pe_op op_fdiv (pe_op op_mod (pe_op op_mul (pe_ix ix_list (pv 0) pe_int (fun _ _ => rfl)) (pe_ix ix_list (pv 0) pe_int (fun _ _ => rfl))) pe_int) pe_int) (pv 1))) pss_nil)))
    · unfold t_law_pick
      obtain ⟨x, y, rfl⟩ := hPI_
      change rInt.is _ v1 many_ at ha1
      change 0 < many_ ∧ many_ < 1606938044258990275541962092341162602522202993782792835301376 at hp0
      obtain rfl : v1 = .int many_ := ha1
      have hl : SqL K H p_ [V.int x, V.int y] := .inl (.inl ho_)
      have hlg : many_.natAbs.log2 < 9000 := Nat.lt_trans (PySem.Flt.log2_lt_of (k := 200) (by decide) (by omega)) (by decide)
      refine ⟨.ref p_, rfl, p_, _, 0, .int x, rfl, rfl, hl, rfl, x, 0, rfl, rfl, _, rfl, ?_⟩
      by_cases hx : 0 < x
      · show (if decide (0 < x) = true then _ else _)
        rw [if_pos (decide_eq_true hx)]
        refine ⟨.ref p_, rfl, p_, _, 0, .int x, rfl, rfl, hl, rfl, .int many_, rfl, x, many_, rfl, rfl, hp0.1, ?_⟩
        refine ⟨.ref p_, rfl, p_, _, 0, .int x, rfl, rfl, hl, rfl, .int many_, rfl, x, many_, rfl, rfl, ⟨hp0.1, hlg⟩, ?_⟩
        refine ⟨.ref p_, rfl, p_, _, 0, 0, rfl, rfl, ho_, rfl, .int (x % many_), rfl, ?_⟩
        exact hq_ _ _ (x % many_) same_hid_upd ⟨_, upd_same, _, _, rfl⟩ rfl ⟨Int.emod_nonneg _ (by omega), Int.emod_lt_of_pos _ hp0.1⟩
      · show (if decide (0 < x) = true then _ else _)
        rw [if_neg (by rw [decide_eq_true_iff]; exact hx)]
        refine ⟨.ref p_, rfl, p_, _, 1, .int y, rfl, rfl, hl, rfl, y, 69621, rfl, rfl, .inr (by decide), _, 12345, rfl, rfl, _, 2147483647, rfl, rfl, (by decide : (0 : Int) < 2147483647), ?_⟩
        refine ⟨.ref p_, rfl, p_, _, 1, 1, rfl, rfl, ho_, rfl, ?_⟩
        have hy0 : 0 ≤ (y * 69621 + 12345) % 2147483647 := Int.emod_nonneg _ (by decide)
        have hy1 : (y * 69621 + 12345) % 2147483647 < 2147483647 := Int.emod_lt_of_pos _ (by decide)
        show tSeq _ _ _ _ (upd H p_ (.lst [V.int x, V.int ((y * 69621 + 12345) % 2147483647)]))
        generalize (y * 69621 + 12345) % 2147483647 = z at hy0 hy1 ⊢
        have hl2 : SqL K (upd H p_ (.lst [V.int x, V.int z])) p_ [V.int x, V.int z] := .inl (.inl upd_same)
        refine ⟨.ref p_, rfl, p_, _, 1, .int z, rfl, rfl, hl2, rfl, .ref p_, rfl, p_, _, 1, .int z, rfl, rfl, hl2, rfl, z, z, rfl, rfl, .inl ⟨by omega, by omega⟩, _, 2147483629, rfl, rfl, (by decide : (0 : Int) < 2147483629), _, 64, rfl, rfl, by unfold CDiv; decide, .int many_, rfl, _, many_, rfl, rfl, hp0.1, ?_⟩
        exact hq_ _ _ _ same_hid_upd ⟨_, upd_same, _, _, rfl⟩ rfl ⟨Int.emod_nonneg _ (by omega), Int.emod_lt_of_pos _ hp0.1⟩
def sp_law_drops : Sp := spV PIlaw (aCons rInt aNil) (fun (a : Int × Unit) => (0 ≤ a.1 ∧ a.1 ≤ 1000)) (rTup rInt) (fun (a : Int × Unit) b => (b.length : Int) = a.1 ∧ TM.dok b)
theorem volx_law_drops {C : Cn} {Γ : List Ent} {E : XK} {i : Nat} {p : Addr} {t1 : TE} {P1 : Int → Prop} (hv : Γ[i]? = some (.vol p)) (hPI : C.PI = PIlaw) (h1 : EvP C t1 Γ .h rInt P1) (hp0 : ∀ a1, P1 a1 → (0 ≤ a1 ∧ a1 ≤ 1000)) : EvX C (tCall sp_law_drops [] E (tCons (tVar i) (tCons t1 tNil))) Γ (ResF C (rTup rInt) (fun (b : (List Int)) => ∃ a1, P1 a1 ∧ ((b.length : Int) = a1 ∧ TM.dok b))) := ex_vol1 hv hPI h1 (fun a1 _p1 => hp0 a1 _p1)
theorem vol_law_drops {C : Cn} {Γ : List Ent} {E : XK} {i : Nat} {p : Addr} {t1 : TE} {a1 : Int} (hv : Γ[i]? = some (.vol p)) (hPI : C.PI = PIlaw) (h1 : Ev C t1 Γ .h rInt a1) (hp0 : 0 ≤ a1 ∧ a1 ≤ 1000) : EvX C (tCall sp_law_drops [] E (tCons (tVar i) (tCons t1 tNil))) Γ (ResF C (rTup rInt) (fun (b : (List Int)) => (b.length : Int) = a1 ∧ TM.dok b)) := (volx_law_drops hv hPI h1 (fun y1 e1 => by subst e1; exact hp0)).imp fun b h => by obtain ⟨y1, e1, po⟩ := h; subst e1; exact po
theorem volnx_law_drops {C : Cn} {Γ : List Ent} {E : XK} {te : TE} {γ : Type} {S0 : Rl γ} {Pz : List γ → Prop} (f0 : Flat S0) (h0 : EvX C te Γ (ResF C (rList S0) Pz)) (hvz : ∀ xs l, Pz l → (∀ H, All2 (S0.is H) xs l) → PIlaw (.lst xs)) {t1 : TE} {P1 : Int → Prop} (h1 : EvP C t1 Γ .h rInt P1) (hp0 : ∀ a1, P1 a1 → (0 ≤ a1 ∧ a1 ≤ 1000)) : EvX C (tCall sp_law_drops [] E (tCons te (tCons t1 tNil))) Γ (ResF C (rTup rInt) (fun (b : (List Int)) => ∃ a1, P1 a1 ∧ ((b.length : Int) = a1 ∧ TM.dok b))) := ex_voln1 f0 h0 hvz h1 fl_int (fun a1 _p1 => hp0 a1 _p1)
theorem voln_law_drops {C : Cn} {Γ : List Ent} {E : XK} {te : TE} {γ : Type} {S0 : Rl γ} {Pz : List γ → Prop} (f0 : Flat S0) (h0 : EvX C te Γ (ResF C (rList S0) Pz)) (hvz : ∀ xs l, Pz l → (∀ H, All2 (S0.is H) xs l) → PIlaw (.lst xs)) {t1 : TE} {a1 : Int} (h1 : Ev C t1 Γ .h rInt a1) (hp0 : 0 ≤ a1 ∧ a1 ≤ 1000) : EvX C (tCall sp_law_drops [] E (tCons te (tCons t1 tNil))) Γ (ResF C (rTup rInt) (fun (b : (List Int)) => (b.length : Int) = a1 ∧ TM.dok b)) := (volnx_law_drops f0 h0 hvz h1 (fun y1 e1 => by subst e1; exact hp0)).imp fun b h => by obtain ⟨y1, e1, po⟩ := h; subst e1; exact po
def t_law_drops (K : PySem.W.Frag) (E : XK) : TS :=
(tSeq (tAsg (tCall sp_law_pick [] E0 (tCons (tVar 0) (tCons (tC (.int 4)) tNil))) (gName 2))
(tSeq (tAsg (tLst tNil) (gName 3))
(tSeq (tAsg (tC (.int 0)) (gName 4))
(tSeq (tFor (iRng1 (tCons (tVar 1) tNil)) (gName 5)
(tSeq (tAsg (tCall sp_law_pick [] E0 (tCons (tVar 0) (tCons (tOp (rI0 fun i j => .int (i + j)) (tVar 4) (tC (.int 1))) tNil))) (gName 6))
(tCut (tIfS (tAnd (tTest (tOp rEq (tVar 2) (tC (.int 1)))) (tTest (tOp (rI0 fun i j => .bl (decide (j < i))) (tCall sp_law_pick [] E0 (tCons (tVar 0) (tCons (tC (.int 5)) tNil))) (tC (.int 0))))) (tSeq (tAsg (tC (.int 0)) (gName 6))
tNext) tNext)
(tCut (tIfS (tAnd (tTest (tOp rEq (tVar 2) (tC (.int 2)))) (tTest (tOp (rI0 fun i j => .bl (decide (j < i))) (tCall sp_law_pick [] E0 (tCons (tVar 0) (tCons (tC (.int 4)) tNil))) (tC (.int 0))))) (tSeq (tAsg (tVar 4) (gName 6))
tNext) tNext)
(tCut (tIfS (tTest (tOp rEq (tVar 2) (tC (.int 3)))) (tSeq (tAsg (tCB (rNuC3 nuMin3) (tCons (tVar 4) (tCons (tVar 6) (tCons (tOp (rI0 fun i j => .int (i + j)) (tC (.int 1)) (tCall sp_law_pick [] E0 (tCons (tVar 0) (tCons (tC (.int 2)) tNil)))) tNil)))) (gName 6))
tNext) tNext)
(tSeq (tDrop (tBM K "list" rAppend (tVar 3) (tCons (tVar 6) tNil)))
(tSeq (tAsg (tOp (rI0 fun i j => .int (i + j)) (tOp (rI0 fun i j => .int (i - j)) (tVar 4) (tVar 6)) (tC (.int 1))) (gName 4))
tNext)))))))
(tSeq (tRet (tCB (rTupOf K) (tCons (tVar 3) tNil))) tNext)))))
theorem go_law_drops {K : PySem.W.Frag} {C : Cn} {D : Ends} {E : XK} (p_pool : Addr) (many_ : Int) (hp0 : 0 ≤ many_ ∧ many_ ≤ 1000) (hR : RetOk C D (rTup rInt) (fun (b : (List Int)) => (b.length : Int) = many_ ∧ TM.dok b)) (hPI : C.PI = PIlaw) :
    Go C (t_law_drops K E) D [.vol p_pool, .val .m rInt many_, .no, .no, .no, .no, .no] := by
  unfold t_law_drops
  refine q_asg (i := 2) (ℓ := .g) (ev_call (vol_law_pick (i := 0) rfl hPI (ev_int) (by
        first | omega | assumption | (simp; done) | (constructor <;> omega) | (simp; omega)))) (fun way2 hway2 => ?_)
  replace hway2 : 0 ≤ way2 ∧ way2 < (4 : Int) := hway2
  refine q_asgN (i := 3) (ℓ := .g) (en_lstd (ℓ := .g) (R := rInt) em_nil) (fun p4 found3 hfound3 => ?_)
  subst hfound3
  refine q_asg (i := 4) (ℓ := .g) (ev_int) (fun still5 hstill5 => ?_)
  replace hstill5 : still5 = (0 : Int) := hstill5
  refine q_forD (j := 5) (σS := (List Int) × Int) (fun s => [.vol p_pool, .val .m rInt many_, .val .g rInt way2, .own p4 .g rInt s.1, .val .g rInt s.2, .no, .no]) (fun (i : Nat) (s : (List Int) × Int) => (s.1.length = i) ∧ (TM.dok s.1) ∧ (s.2 = s.1.length - s.1.sum) ∧ (0 ≤ s.2 ∧ s.2 ≤ s.1.length)) (([] : List Int), still5) (ei_rg1d (b := true) (ℓ := .g) (((ev_var (R := rInt) (a := many_) rfl)).toh) (by first | omega | assumption | (simp; done) | (constructor <;> omega) | (simp; omega))) (by
        show (([] : List Int).length = 0) ∧ (TM.dok ([] : List Int)) ∧ (still5 = ([] : List Int).length - ([] : List Int).sum) ∧ (0 ≤ still5 ∧ still5 ≤ ([] : List Int).length)
        rw [hstill5]; exact ⟨rfl, TM.dok_nil, rfl, by simp⟩) (LeG.k (LeG.k (LeG.k (LeG.k (LeG.k (LeG.f (LeG.f LeG.nil))))))) (fun C1 hc1 i1 x6 s hx6 hI0 => ?_) (fun s hI0 => ?_)
  · obtain ⟨found7, still8⟩ := s
    replace hI0 : (found7.length = i1) ∧ (TM.dok found7) ∧ (still8 = found7.length - found7.sum) ∧ (0 ≤ still8 ∧ still8 ≤ found7.length) := hI0
    obtain ⟨hI0_0, hI0_1, hI0_2, hI0_3⟩ := hI0
    have hR := hR.ex hc1
    have hPI := hc1.pi.trans hPI
    have hx6l := at_lt hx6
    have hx6r := rg_at hx6
    rw [rg_len] at hx6l
    refine q_asg (i := 6) (ℓ := .g) (ev_call (vol_law_pick (i := 0) rfl hPI ((ev_add (((ev_var (R := rInt) (a := still8) rfl)).toh) (ev_int))) (by
          first | omega | assumption | (simp; done) | (constructor <;> omega) | (simp; omega)))) (fun drop10 hdrop10 => ?_)
    replace hdrop10 : 0 ≤ drop10 ∧ drop10 < (still8 + (1 : Int)) := hdrop10
    refine q_cut (S := Int) (fun s => [.vol p_pool, .val .m rInt many_, .val .g rInt way2, .own p4 .g rInt found7, .val .g rInt still8, .val .g rInt x6, .val .g rInt s]) (fun s => (0 ≤ s ∧ s ≤ still8)) (c_if (eb_andT (EvB.tt (ec_tst (ev_eqI (((ev_var (R := rInt) (a := way2) rfl)).toh) (ev_int)))) (EvB.tt (eb_tst (evp_cmp ((ev_call (vol_law_pick (i := 0) rfl hPI (ev_int) (by
          first | omega | assumption | (simp; done) | (constructor <;> omega) | (simp; omega)))).toh) (ev_int))))) (fun h12 => ?_) (fun h12 => ?_)) (fun s h12j => ?_)
    · refine q_asg (i := 6) (ℓ := .g) (ev_int) (fun drop13 hdrop13 => ?_)
      replace hdrop13 : drop13 = (0 : Int) := hdrop13
      refine q_next (hol_in drop13 ?_ (LeG.k (LeG.k (LeG.k (LeG.k (LeG.k (LeG.k (LeG.k LeG.nil))))))))
      show (0 ≤ drop13 ∧ drop13 ≤ still8)
      omega
    · refine q_next (hol_in drop10 ?_ (LeG.k (LeG.k (LeG.k (LeG.k (LeG.k (LeG.k (LeG.k LeG.nil))))))))
      show (0 ≤ drop10 ∧ drop10 ≤ still8)
      omega
    revert s h12j; intro drop14 h12j
    replace h12j : (0 ≤ drop14 ∧ drop14 ≤ still8) := h12j
    refine q_cut (S := Int) (fun s => [.vol p_pool, .val .m rInt many_, .val .g rInt way2, .own p4 .g rInt found7, .val .g rInt still8, .val .g rInt x6, .val .g rInt s]) (fun s => (0 ≤ s ∧ s ≤ still8)) (c_if (eb_andT (EvB.tt (ec_tst (ev_eqI (((ev_var (R := rInt) (a := way2) rfl)).toh) (ev_int)))) (EvB.tt (eb_tst (evp_cmp ((ev_call (vol_law_pick (i := 0) rfl hPI (ev_int) (by
          first | omega | assumption | (simp; done) | (constructor <;> omega) | (simp; omega)))).toh) (ev_int))))) (fun h16 => ?_) (fun h16 => ?_)) (fun s h16j => ?_)
    · refine q_asg (i := 6) (ℓ := .g) ((ev_var (R := rInt) (a := still8) rfl)) (fun drop17 hdrop17 => ?_)
      replace hdrop17 : drop17 = still8 := hdrop17
      refine q_next (hol_in drop17 ?_ (LeG.k (LeG.k (LeG.k (LeG.k (LeG.k (LeG.k (LeG.k LeG.nil))))))))
      show (0 ≤ drop17 ∧ drop17 ≤ still8)
      omega
    · refine q_next (hol_in drop14 ?_ (LeG.k (LeG.k (LeG.k (LeG.k (LeG.k (LeG.k (LeG.k LeG.nil))))))))
      show (0 ≤ drop14 ∧ drop14 ≤ still8)
      omega
    revert s h16j; intro drop18 h16j
    replace h16j : (0 ≤ drop18 ∧ drop18 ≤ still8) := h16j
    refine q_cut (S := Int) (fun s => [.vol p_pool, .val .m rInt many_, .val .g rInt way2, .own p4 .g rInt found7, .val .g rInt still8, .val .g rInt x6, .val .g rInt s]) (fun s => (0 ≤ s ∧ s ≤ still8)) (c_ifC (ec_tst (ev_eqI (((ev_var (R := rInt) (a := way2) rfl)).toh) (ev_int))) (fun h19 => ?_) (fun h19 => ?_)) (fun s h19j => ?_)
    · refine q_asg (i := 6) (ℓ := .g) (evp_min3 (((ev_var (R := rInt) (a := still8) rfl)).toh) (((ev_var (R := rInt) (a := drop18) rfl)).toh) (evp_add (ev_int) ((ev_call (vol_law_pick (i := 0) rfl hPI (ev_int) (by
            first | omega | assumption | (simp; done) | (constructor <;> omega) | (simp; omega)))).toh))) (fun drop21 hdrop21 => ?_)
      obtain ⟨x22, y23, z24, hx22, hy23, ⟨x25, y26, hx25, hy26, hz24⟩, hdrop21⟩ := hdrop21
      refine q_next (hol_in drop21 ?_ (LeG.k (LeG.k (LeG.k (LeG.k (LeG.k (LeG.k (LeG.k LeG.nil))))))))
      show (0 ≤ drop21 ∧ drop21 ≤ still8)
      omega
    · refine q_next (hol_in drop18 ?_ (LeG.k (LeG.k (LeG.k (LeG.k (LeG.k (LeG.k (LeG.k LeG.nil))))))))
      show (0 ≤ drop18 ∧ drop18 ≤ still8)
      omega
    revert s h19j; intro drop27 h19j
    replace h19j : (0 ≤ drop27 ∧ drop27 ≤ still8) := h19j
    refine q_app (i := 3) (p := p4) rfl ((ev_var (R := rInt) (a := drop27) rfl)) (by omega) (fun e28 he28 => ?_)
    replace he28 : e28 = drop27 := he28
    rw [he28]; clear he28 e28
    refine q_asg (i := 4) (ℓ := .g) ((ev_add ((ev_sub (((ev_var (R := rInt) (a := still8) rfl)).toh) (((ev_var (R := rInt) (a := drop27) rfl)).toh))) (ev_int))) (fun still29 hstill29 => ?_)
    replace hstill29 : still29 = ((still8 - drop27) + (1 : Int)) := hstill29
    refine q_next (hol_in ((found7 ++ [drop27]), still29) ?_ (LeG.k (LeG.k (LeG.k (LeG.k (LeG.k (LeG.f (LeG.f LeG.nil))))))))
    show ((found7 ++ [drop27]).length = (i1 + 1)) ∧ (TM.dok (found7 ++ [drop27])) ∧ (still29 = (found7 ++ [drop27]).length - (found7 ++ [drop27]).sum) ∧ (0 ≤ still29 ∧ still29 ≤ (found7 ++ [drop27]).length)
    have hsn := TM.dok_snoc (d := drop27) hI0_1 (by omega)
    refine ⟨by rw [List.length_append, hI0_0]; rfl, hsn, ?_, ?_⟩
    · rw [hstill29, List.length_append, List.sum_append]; simp; omega
    · rw [hstill29, List.length_append]; simp; omega
  obtain ⟨found30, still31⟩ := s
  replace hI0 : (found30.length = ((rg 0 many_)).length) ∧ (TM.dok found30) ∧ (still31 = found30.length - found30.sum) ∧ (0 ≤ still31 ∧ still31 ≤ found30.length) := hI0
  obtain ⟨hI0_0, hI0_1, hI0_2, hI0_3⟩ := hI0
  simp only [rg_len] at hI0_0 hI0_1 hI0_2 hI0_3
  show Go _ _ _ [.vol p_pool, .val .m rInt many_, .val .g rInt way2, .own p4 .g rInt found30, .val .g rInt still31, .no, .no]
  refine q_ret ((ev_tupL (ℓ := .g) (es_own (R := rInt) (l := found30) rfl))) hR (fun r32 hr32 => ?_)
  replace hr32 : r32 = found30 := hr32
  show (r32.length : Int) = many_ ∧ TM.dok r32
  (try rw [hr32])
  exact ⟨by omega, hI0_1⟩
abbrev s_law_drops : Stmt := topS 28
theorem sc_law_drops : FnScope ["pool", "many", "way", "found", "still", "k", "drop"] ["pool", "many"] (defScope s_law_drops) := ⟨rfl, rfl, rfl, by decide +kernel, rfl, by decide +kernel, by decide +kernel⟩
theorem ok_law_drops {P : Program} {w : PySem.World} {K : PySem.W.Frag} {mg : Str → Option Value} {base : Heap} {f : Addr} {fd : FuncData} (F : Fun K "_law_drops" "_law_drops" s_law_drops f fd) {f_law_pick : Addr} {d_law_pick : FuncData} (c_law_pick : Cal P w K mg base CX0 1 "_law_pick" ["pool", "many"] sp_law_pick f_law_pick d_law_pick) (m_min : mg "min" = none) (m_range : mg "range" = none) (m_tuple : mg "tuple" = none) : FnOk P w K mg base CX0 2 f fd ["pool", "many"] sp_law_drops := by
  have sc := sc_law_drops
  refine F.ok sc (fun vs H Q E h => ?_) (fun cdv A outer s H vs Q E hr h => ?_)
  · obtain ⟨p_, r_, a_, o_, rfl, _, _, h1_, _⟩ := h
    obtain ⟨v1, _, rfl, _ha1, rfl⟩ := h1_
    rfl
  · obtain ⟨p_pool, r_, ⟨many_, _⟩, rfl, bk_, ⟨v1, _, rfl, ha1, rfl⟩, hp0, hR⟩ := spV_open (n := fun _ H' => Q .non H') h
    refine ⟨t_law_drops K E, ?_, go_law_drops (C := (CnV H p_pool PIlaw)) p_pool many_ hp0 hR rfl _ (W0 H [p_pool]) (world_of bk_ ⟨⟨rfl, List.mem_singleton.mpr rfl, fun ⟨_, z⟩ => by cases z⟩, ⟨⟨by decide, v1, rfl, rInt.mono (mwV H p_pool PIlaw) ha1⟩, ⟨trivial, ⟨trivial, ⟨trivial, ⟨trivial, ⟨trivial, trivial⟩⟩⟩⟩⟩⟩⟩ rfl)⟩
    unfold t_law_drops
    exact (pss_cons (ps_set (i := 2) sc.nd rfl (Or.inl rfl) (pe_call c_law_pick.ok (hr.mono (by decide)) (by rfl) c_law_pick.g c_law_pick.kp c_law_pick.b .nil pass0 (pa_cons (pv 0) (pa_cons pe_int pa_nil))))
(pss_cons (ps_set (i := 3) sc.nd rfl (Or.inl rfl) (pe_lst pa_nil))
(pss_cons (ps_set (i := 4) sc.nd rfl (Or.inl rfl) pe_int)
(pss_cons (ps_for PassesOwn.never rfl (pi_range1 rfl m_range (pa_cons (pv 1) pa_nil)) (pg_name (i := 5) sc.nd rfl (Or.inl rfl))
(pss_cons (ps_set (i := 6) sc.nd rfl (Or.inl rfl) (pe_call c_law_pick.ok (hr.mono (by decide)) (by rfl) c_law_pick.g c_law_pick.kp c_law_pick.b .nil pass0 (pa_cons (pv 0) (pa_cons (pe_op op_add (pv 4) pe_int) pa_nil))))
(pss_cut (ps_if (PW.pt (pw_and (pt_cmpR op_eq (pv 2) pe_int (nomark _)) (pw_and1 (pt_cmpR op_gt (pe_call c_law_pick.ok (hr.mono (by decide)) (by rfl) c_law_pick.g c_law_pick.kp c_law_pick.b .nil pass0 (pa_cons (pv 0) (pa_cons pe_int pa_nil))) pe_int (nomark _))))) (pss_cons (ps_set (i := 6) sc.nd rfl (Or.inl rfl) pe_int)
pss_nil) pss_nil)
(pss_cut (ps_if (PW.pt (pw_and (pt_cmpR op_eq (pv 2) pe_int (nomark _)) (pw_and1 (pt_cmpR op_gt (pe_call c_law_pick.ok (hr.mono (by decide)) (by rfl) c_law_pick.g c_law_pick.kp c_law_pick.b .nil pass0 (pa_cons (pv 0) (pa_cons pe_int pa_nil))) pe_int (nomark _))))) (pss_cons (ps_set (i := 6) sc.nd rfl (Or.inl rfl) (pv 4))
pss_nil) pss_nil)
(pss_cut (ps_if (pt_cmpR op_eq (pv 2) pe_int (nomark _)) (pss_cons (ps_set (i := 6) sc.nd rfl (Or.inl rfl) (pe_callB (call_min3Nu rfl) (by rfl) m_min bt_min (pa_cons (pv 4) (pa_cons (pv 6) (pa_cons (pe_op op_add pe_int (pe_call c_law_pick.ok (hr.mono (by decide)) (by rfl) c_law_pick.g c_law_pick.kp c_law_pick.b .nil pass0 (pa_cons (pv 0) (pa_cons pe_int pa_nil)))) pa_nil)))))
pss_nil) pss_nil)
(pss_cons (ps_expr (pe_bm PySem.F.plainAttrs_list PySem.F.slot_list_append PySem.F.type_list_append mt_append (pv 3) (pa_cons (pv 6) pa_nil)))
(pss_cons (ps_set (i := 4) sc.nd rfl (Or.inl rfl) (pe_op op_add (pe_op op_sub (pv 4) (pv 6)) pe_int))
pss_nil)))))))
(pss_cons (ps_ret (pe_callTy call_tuple_of (by rfl) m_tuple bt_tuple (pa_cons (pv 3) pa_nil))) pss_nil)))))
def sp_law_size : Sp := spV PIlaw (aCons rInt aNil) (fun (a : Int × Unit) => (0 ≤ a.1 ∧ a.1 ≤ 1000000)) rInt (fun (a : Int × Unit) b => 0 ≤ b ∧ b ≤ a.1)
theorem volx_law_size {C : Cn} {Γ : List Ent} {E : XK} {i : Nat} {p : Addr} {t1 : TE} {P1 : Int → Prop} (hv : Γ[i]? = some (.vol p)) (hPI : C.PI = PIlaw) (h1 : EvP C t1 Γ .h rInt P1) (hp0 : ∀ a1, P1 a1 → (0 ≤ a1 ∧ a1 ≤ 1000000)) : EvX C (tCall sp_law_size [] E (tCons (tVar i) (tCons t1 tNil))) Γ (ResF C rInt (fun (b : Int) => ∃ a1, P1 a1 ∧ (0 ≤ b ∧ b ≤ a1))) := ex_vol1 hv hPI h1 (fun a1 _p1 => hp0 a1 _p1)
theorem vol_law_size {C : Cn} {Γ : List Ent} {E : XK} {i : Nat} {p : Addr} {t1 : TE} {a1 : Int} (hv : Γ[i]? = some (.vol p)) (hPI : C.PI = PIlaw) (h1 : Ev C t1 Γ .h rInt a1) (hp0 : 0 ≤ a1 ∧ a1 ≤ 1000000) : EvX C (tCall sp_law_size [] E (tCons (tVar i) (tCons t1 tNil))) Γ (ResF C rInt (fun (b : Int) => 0 ≤ b ∧ b ≤ a1)) := (volx_law_size hv hPI h1 (fun y1 e1 => by subst e1; exact hp0)).imp fun b h => by obtain ⟨y1, e1, po⟩ := h; subst e1; exact po
theorem volnx_law_size {C : Cn} {Γ : List Ent} {E : XK} {te : TE} {γ : Type} {S0 : Rl γ} {Pz : List γ → Prop} (f0 : Flat S0) (h0 : EvX C te Γ (ResF C (rList S0) Pz)) (hvz : ∀ xs l, Pz l → (∀ H, All2 (S0.is H) xs l) → PIlaw (.lst xs)) {t1 : TE} {P1 : Int → Prop} (h1 : EvP C t1 Γ .h rInt P1) (hp0 : ∀ a1, P1 a1 → (0 ≤ a1 ∧ a1 ≤ 1000000)) : EvX C (tCall sp_law_size [] E (tCons te (tCons t1 tNil))) Γ (ResF C rInt (fun (b : Int) => ∃ a1, P1 a1 ∧ (0 ≤ b ∧ b ≤ a1))) := ex_voln1 f0 h0 hvz h1 fl_int (fun a1 _p1 => hp0 a1 _p1)
theorem voln_law_size {C : Cn} {Γ : List Ent} {E : XK} {te : TE} {γ : Type} {S0 : Rl γ} {Pz : List γ → Prop} (f0 : Flat S0) (h0 : EvX C te Γ (ResF C (rList S0) Pz)) (hvz : ∀ xs l, Pz l → (∀ H, All2 (S0.is H) xs l) → PIlaw (.lst xs)) {t1 : TE} {a1 : Int} (h1 : Ev C t1 Γ .h rInt a1) (hp0 : 0 ≤ a1 ∧ a1 ≤ 1000000) : EvX C (tCall sp_law_size [] E (tCons te (tCons t1 tNil))) Γ (ResF C rInt (fun (b : Int) => 0 ≤ b ∧ b ≤ a1)) := (volnx_law_size f0 h0 hvz h1 (fun y1 e1 => by subst e1; exact hp0)).imp fun b h => by obtain ⟨y1, e1, po⟩ := h; subst e1; exact po
def t_law_size (K : PySem.W.Frag) (E : XK) : TS :=
(tSeq (tRet (tCB (fun xs H Q => ∃ i j, xs = [.int i, .int j] ∧ Q (.int (if j < i then j else i)) H) (tCons (tVar 1) (tCons (tOp (rIxK K .t) (tTup (tCons (tCall sp_law_pick [] E0 (tCons (tVar 0) (tCons (tC (.int 4)) tNil))) (tCons (tCall sp_law_pick [] E0 (tCons (tVar 0) (tCons (tC (.int 9)) tNil))) (tCons (tCall sp_law_pick [] E0 (tCons (tVar 0) (tCons (tOp (rI0 fun i j => .int (i + j)) (tVar 1) (tC (.int 1))) tNil))) (tCons (tVar 1) tNil))))) (tCall sp_law_pick [] E0 (tCons (tVar 0) (tCons (tC (.int 4)) tNil)))) tNil)))) tNext)
theorem go_law_size {K : PySem.W.Frag} {C : Cn} {D : Ends} {E : XK} (p_pool : Addr) (most_ : Int) (hp0 : 0 ≤ most_ ∧ most_ ≤ 1000000) (hR : RetOk C D rInt (fun (b : Int) => 0 ≤ b ∧ b ≤ most_)) (hPI : C.PI = PIlaw) :
    Go C (t_law_size K E) D [.vol p_pool, .val .m rInt most_] := by
  unfold t_law_size
  refine q_ret (evp_min2 (((ev_var (R := rInt) (a := most_) rfl)).toh) ((evp_pick (es_tup (ev_tup (ℓ := .g) (emp_cons (ev_call (vol_law_pick (i := 0) rfl hPI (ev_int) (by
        first | omega | assumption | (simp; done) | (constructor <;> omega) | (simp; omega)))) (emp_cons (ev_call (vol_law_pick (i := 0) rfl hPI (ev_int) (by
        first | omega | assumption | (simp; done) | (constructor <;> omega) | (simp; omega)))) (emp_cons (ev_call (vol_law_pick (i := 0) rfl hPI ((ev_add (((ev_var (R := rInt) (a := most_) rfl)).toh) (ev_int))) (by
        first | omega | assumption | (simp; done) | (constructor <;> omega) | (simp; omega)))) (emp_cons (((ev_var (R := rInt) (a := most_) rfl)).fl fl_int) em_nilP)))) (by intro l5 h4; obtain ⟨x12, l13, rfl, hx12, ⟨x10, l11, rfl, hx10, ⟨x8, l9, rfl, hx8, ⟨x6, l7, rfl, hx6, rfl⟩⟩⟩⟩ := h4; simp))) ((ev_call (vol_law_pick (i := 0) rfl hPI (ev_int) (by
        first | omega | assumption | (simp; done) | (constructor <;> omega) | (simp; omega)))).toh) (by
        intro l15 i16 h17 h18
        obtain ⟨x25, l26, rfl, hx25, ⟨x23, l24, rfl, hx23, ⟨x21, l22, rfl, hx21, ⟨x19, l20, rfl, hx19, rfl⟩⟩⟩⟩ := h17
        obtain h18 := h18
        subst_vars; simp; omega)).toh)) hR (fun r27 hr27 => ?_)
  obtain ⟨x28, y29, hx28, ⟨l30, ⟨x38, l39, rfl, hx38, ⟨x36, l37, rfl, hx36, ⟨x34, l35, rfl, hx34, ⟨x32, l33, rfl, hx32, rfl⟩⟩⟩⟩, hy29⟩, hr27⟩ := hr27
  show 0 ≤ r27 ∧ r27 ≤ most_
  simp only [List.mem_cons, List.not_mem_nil, or_false] at *; omega
abbrev s_law_size : Stmt := topS 27
theorem sc_law_size : FnScope ["pool", "most"] ["pool", "most"] (defScope s_law_size) := ⟨rfl, rfl, rfl, by decide +kernel, rfl, by decide +kernel, by decide +kernel⟩
theorem ok_law_size {P : Program} {w : PySem.World} {K : PySem.W.Frag} {mg : Str → Option Value} {base : Heap} {f : Addr} {fd : FuncData} (F : Fun K "_law_size" "_law_size" s_law_size f fd) {f_law_pick : Addr} {d_law_pick : FuncData} (c_law_pick : Cal P w K mg base CX0 1 "_law_pick" ["pool", "many"] sp_law_pick f_law_pick d_law_pick) (m_min : mg "min" = none) : FnOk P w K mg base CX0 2 f fd ["pool", "most"] sp_law_size := by
  have sc := sc_law_size
  refine F.ok sc (fun vs H Q E h => ?_) (fun cdv A outer s H vs Q E hr h => ?_)
  · obtain ⟨p_, r_, a_, o_, rfl, _, _, h1_, _⟩ := h
    obtain ⟨v1, _, rfl, _ha1, rfl⟩ := h1_
    rfl
  · obtain ⟨p_pool, r_, ⟨most_, _⟩, rfl, bk_, ⟨v1, _, rfl, ha1, rfl⟩, hp0, hR⟩ := spV_open (n := fun _ H' => Q .non H') h
    refine ⟨t_law_size K E, ?_, go_law_size (C := (CnV H p_pool PIlaw)) p_pool most_ hp0 hR rfl _ (W0 H [p_pool]) (world_of bk_ ⟨⟨rfl, List.mem_singleton.mpr rfl, fun ⟨_, z⟩ => by cases z⟩, ⟨⟨by decide, v1, rfl, rInt.mono (mwV H p_pool PIlaw) ha1⟩, trivial⟩⟩ rfl)⟩
    unfold t_law_size
    exact (pss_cons (ps_ret (pe_callB (call_min2 rfl) (by rfl) m_min bt_min (pa_cons (pv 1) (pa_cons (pe_ix ix_tup (pe_tup (pa_cons (pe_call c_law_pick.ok (hr.mono (by decide)) (by rfl) c_law_pick.g c_law_pick.kp c_law_pick.b .nil pass0 (pa_cons (pv 0) (pa_cons pe_int pa_nil))) (pa_cons (pe_call c_law_pick.ok (hr.mono (by decide)) (by rfl) c_law_pick.g c_law_pick.kp c_law_pick.b .nil pass0 (pa_cons (pv 0) (pa_cons pe_int pa_nil))) (pa_cons (pe_call c_law_pick.ok (hr.mono (by decide)) (by rfl) c_law_pick.g c_law_pick.kp c_law_pick.b .nil pass0 (pa_cons (pv 0) (pa_cons (pe_op op_add (pv 1) pe_int) pa_nil))) (pa_cons (pv 1) pa_nil))))) (pe_call c_law_pick.ok (hr.mono (by decide)) (by rfl) c_law_pick.g c_law_pick.kp c_law_pick.b .nil pass0 (pa_cons (pv 0) (pa_cons pe_int pa_nil))) (fun _ _ => rfl)) pa_nil)))) pss_nil)
def sp_law_tree : Sp := spV PIlaw (aCons rInt aNil) (fun (a : Int × Unit) => (0 ≤ a.1 ∧ a.1 ≤ 40)) (rTup rInt) (fun (a : Int × Unit) b => TM.isTree b = true ∧ (b.length : Int) ≤ a.1)
theorem volx_law_tree {C : Cn} {Γ : List Ent} {E : XK} {i : Nat} {p : Addr} {t1 : TE} {P1 : Int → Prop} (hv : Γ[i]? = some (.vol p)) (hPI : C.PI = PIlaw) (h1 : EvP C t1 Γ .h rInt P1) (hp0 : ∀ a1, P1 a1 → (0 ≤ a1 ∧ a1 ≤ 40)) : EvX C (tCall sp_law_tree [] E (tCons (tVar i) (tCons t1 tNil))) Γ (ResF C (rTup rInt) (fun (b : (List Int)) => ∃ a1, P1 a1 ∧ (TM.isTree b = true ∧ (b.length : Int) ≤ a1))) := ex_vol1 hv hPI h1 (fun a1 _p1 => hp0 a1 _p1)
theorem vol_law_tree {C : Cn} {Γ : List Ent} {E : XK} {i : Nat} {p : Addr} {t1 : TE} {a1 : Int} (hv : Γ[i]? = some (.vol p)) (hPI : C.PI = PIlaw) (h1 : Ev C t1 Γ .h rInt a1) (hp0 : 0 ≤ a1 ∧ a1 ≤ 40) : EvX C (tCall sp_law_tree [] E (tCons (tVar i) (tCons t1 tNil))) Γ (ResF C (rTup rInt) (fun (b : (List Int)) => TM.isTree b = true ∧ (b.length : Int) ≤ a1)) := (volx_law_tree hv hPI h1 (fun y1 e1 => by subst e1; exact hp0)).imp fun b h => by obtain ⟨y1, e1, po⟩ := h; subst e1; exact po
theorem volnx_law_tree {C : Cn} {Γ : List Ent} {E : XK} {te : TE} {γ : Type} {S0 : Rl γ} {Pz : List γ → Prop} (f0 : Flat S0) (h0 : EvX C te Γ (ResF C (rList S0) Pz)) (hvz : ∀ xs l, Pz l → (∀ H, All2 (S0.is H) xs l) → PIlaw (.lst xs)) {t1 : TE} {P1 : Int → Prop} (h1 : EvP C t1 Γ .h rInt P1) (hp0 : ∀ a1, P1 a1 → (0 ≤ a1 ∧ a1 ≤ 40)) : EvX C (tCall sp_law_tree [] E (tCons te (tCons t1 tNil))) Γ (ResF C (rTup rInt) (fun (b : (List Int)) => ∃ a1, P1 a1 ∧ (TM.isTree b = true ∧ (b.length : Int) ≤ a1))) := ex_voln1 f0 h0 hvz h1 fl_int (fun a1 _p1 => hp0 a1 _p1)
theorem voln_law_tree {C : Cn} {Γ : List Ent} {E : XK} {te : TE} {γ : Type} {S0 : Rl γ} {Pz : List γ → Prop} (f0 : Flat S0) (h0 : EvX C te Γ (ResF C (rList S0) Pz)) (hvz : ∀ xs l, Pz l → (∀ H, All2 (S0.is H) xs l) → PIlaw (.lst xs)) {t1 : TE} {a1 : Int} (h1 : Ev C t1 Γ .h rInt a1) (hp0 : 0 ≤ a1 ∧ a1 ≤ 40) : EvX C (tCall sp_law_tree [] E (tCons te (tCons t1 tNil))) Γ (ResF C (rTup rInt) (fun (b : (List Int)) => TM.isTree b = true ∧ (b.length : Int) ≤ a1)) := (volnx_law_tree f0 h0 hvz h1 (fun y1 e1 => by subst e1; exact hp0)).imp fun b h => by obtain ⟨y1, e1, po⟩ := h; subst e1; exact po
def t_law_tree (K : PySem.W.Frag) (E : XK) : TS :=
(tSeq (tRet (tCall sp_law_hung [] E0 (tCons (tCall sp_law_drops [] E0 (tCons (tVar 0) (tCons (tCall sp_law_size [] E0 (tCons (tVar 0) (tCons (tVar 1) tNil))) tNil))) tNil))) tNext)
theorem go_law_tree {K : PySem.W.Frag} {C : Cn} {D : Ends} {E : XK} (p_pool : Addr) (most_ : Int) (hp0 : 0 ≤ most_ ∧ most_ ≤ 40) (hR : RetOk C D (rTup rInt) (fun (b : (List Int)) => TM.isTree b = true ∧ (b.length : Int) ≤ most_)) (hPI : C.PI = PIlaw) :
    Go C (t_law_tree K E) D [.vol p_pool, .val .m rInt most_] := by
  unfold t_law_tree
  refine q_ret (ev_call (callx_law_hung ((ev_call (volx_law_drops (i := 0) rfl hPI ((ev_call (vol_law_size (i := 0) rfl hPI (((ev_var (R := rInt) (a := most_) rfl)).toh) (by
        first | omega | assumption | (simp; done) | (constructor <;> omega) | (simp; omega)))).toh) (by
        intro many2 hmany2
        obtain hmany2 := hmany2
        first | omega | assumption | (simp; done) | (constructor <;> omega) | (simp; omega)))).toh) (by
        intro drops3 hdrops3
        obtain ⟨many4, hmany4, hdrops3⟩ := hdrops3
        first | omega | assumption | (simp; done) | (constructor <;> omega) | (simp; omega)) (by
        intro drops3 hdrops3
        obtain ⟨many5, hmany5, hdrops3⟩ := hdrops3
        exact (show _ ∧ TM.dok _ by assumption).2))) hR (fun r6 hr6 => ?_)
  obtain ⟨drops7, ⟨many8, hmany8, hdrops7⟩, hr6⟩ := hr6
  show TM.isTree r6 = true ∧ (r6.length : Int) ≤ most_
  have hk := (show _ ∧ TM.dok _ by assumption)
  have ho := TM.dok_okD hk.2 _ (Nat.le_refl _)
  have ht := TM.hungF_tree ho (by omega)
  have hl := (TM.hungF_T ho).2
  subst_vars
  exact ⟨ht, by omega⟩
abbrev s_law_tree : Stmt := topS 30
theorem sc_law_tree : FnScope ["pool", "most"] ["pool", "most"] (defScope s_law_tree) := ⟨rfl, rfl, rfl, by decide +kernel, rfl, by decide +kernel, by decide +kernel⟩
theorem ok_law_tree {P : Program} {w : PySem.World} {K : PySem.W.Frag} {mg : Str → Option Value} {base : Heap} {f : Addr} {fd : FuncData} (F : Fun K "_law_tree" "_law_tree" s_law_tree f fd) {f_law_size : Addr} {d_law_size : FuncData} (c_law_size : Cal P w K mg base CX0 2 "_law_size" ["pool", "most"] sp_law_size f_law_size d_law_size) {f_law_drops : Addr} {d_law_drops : FuncData} (c_law_drops : Cal P w K mg base CX0 2 "_law_drops" ["pool", "many"] sp_law_drops f_law_drops d_law_drops) {f_law_hung : Addr} {d_law_hung : FuncData} (c_law_hung : Cal P w K mg base CX0 1 "_law_hung" ["drops"] sp_law_hung f_law_hung d_law_hung) : FnOk P w K mg base CX0 3 f fd ["pool", "most"] sp_law_tree := by
  have sc := sc_law_tree
  refine F.ok sc (fun vs H Q E h => ?_) (fun cdv A outer s H vs Q E hr h => ?_)
  · obtain ⟨p_, r_, a_, o_, rfl, _, _, h1_, _⟩ := h
    obtain ⟨v1, _, rfl, _ha1, rfl⟩ := h1_
    rfl
  · obtain ⟨p_pool, r_, ⟨most_, _⟩, rfl, bk_, ⟨v1, _, rfl, ha1, rfl⟩, hp0, hR⟩ := spV_open (n := fun _ H' => Q .non H') h
    refine ⟨t_law_tree K E, ?_, go_law_tree (C := (CnV H p_pool PIlaw)) p_pool most_ hp0 hR rfl _ (W0 H [p_pool]) (world_of bk_ ⟨⟨rfl, List.mem_singleton.mpr rfl, fun ⟨_, z⟩ => by cases z⟩, ⟨⟨by decide, v1, rfl, rInt.mono (mwV H p_pool PIlaw) ha1⟩, trivial⟩⟩ rfl)⟩
    unfold t_law_tree
    exact (pss_cons (ps_ret (pe_call c_law_hung.ok (hr.mono (by decide)) (by rfl) c_law_hung.g c_law_hung.kp c_law_hung.b .nil pass0 (pa_cons (pe_call c_law_drops.ok (hr.mono (by decide)) (by rfl) c_law_drops.g c_law_drops.kp c_law_drops.b .nil pass0 (pa_cons (pv 0) (pa_cons (pe_call c_law_size.ok (hr.mono (by decide)) (by rfl) c_law_size.g c_law_size.kp c_law_size.b .nil pass0 (pa_cons (pv 0) (pa_cons (pv 1) pa_nil))) pa_nil))) pa_nil))) pss_nil)
def sp_law_over : Sp := spF (aCons (rTup rInt) (aCons rInt aNil)) (fun (a : (List Int) × Int × Unit) => (0 ≤ a.2.1 ∧ a.2.1 < a.1.length) ∧ (a.1.length ≤ 1000)) (rOpt (rList rInt)) (fun (a : (List Int) × Int × Unit) b => b = TM.upM a.1 a.2.1) (fun _ _ => False)
theorem call_law_over {C : Cn} {Γ : List Ent} {E : XK} {t1 : TE} {t2 : TE} {a1 : (List Int)} {a2 : Int} (h1 : Ev C t1 Γ .h (rTup rInt) a1) (h2 : Ev C t2 Γ .h rInt a2) (hp0 : 0 ≤ a2 ∧ a2 < a1.length) (hp1 : a1.length ≤ 1000) : EvX C (tCall (sp_law_over) [] E (tCons t1 (tCons t2 tNil))) Γ (ResF C (rOpt (rList rInt)) (fun b => b = TM.upM a1 a2)) := ed_call2 h1 h2 ⟨hp0, hp1⟩ exc0 (fun _ z => z)
theorem callx_law_over {C : Cn} {Γ : List Ent} {E : XK} {t1 : TE} {t2 : TE} {P1 : (List Int) → Prop} {P2 : Int → Prop} (h1 : EvP C t1 Γ .h (rTup rInt) P1) (h2 : EvP C t2 Γ .h rInt P2) (hp0 : ∀ a1 a2, P1 a1 → P2 a2 → (0 ≤ a2 ∧ a2 < a1.length)) (hp1 : ∀ a1 a2, P1 a1 → P2 a2 → (a1.length ≤ 1000)) : EvX C (tCall (sp_law_over) [] E (tCons t1 (tCons t2 tNil))) Γ (ResF C (rOpt (rList rInt)) (fun b => ∃ a1 a2, P1 a1 ∧ P2 a2 ∧ (b = TM.upM a1 a2))) := ex_call2 h1 h2 (fun a1 a2 _p1 _p2 => ⟨hp0 a1 a2 _p1 _p2, hp1 a1 a2 _p1 _p2⟩) exc0 (fun a1 a2 _p1 _p2 => fun _ z => z)
def t_law_over (K : PySem.W.Frag) (E : XK) : TS :=
(tSeq (tAsg (tLst tNil) (gName 2))
(tSeq (tAsg (tOp (rIxK K .t) (tVar 0) (tVar 1)) (gName 3))
(tSeq (tWhile (tTest (tOp rNe (tVar 3) (tUn (rU fun i => .int (-i)) (tC (.int 1)))))
(tSeq (tIfS (tOr (tTest (tOp (rI0 fun i j => .bl (decide (i < j))) (tVar 3) (tC (.int 0)))) (tOr (tTest (tOp (rI0 fun i j => .bl (decide (j ≤ i))) (tVar 3) (tCB (rLenS K) (tCons (tVar 0) tNil)))) (tTest (tOp (rI0 fun i j => .bl (decide (j < i))) (tCB (rLenS K) (tCons (tVar 2) tNil)) (tCB (rLenS K) (tCons (tVar 0) tNil)))))) (tSeq (tRet (tC .non)) tNext) tNext)
(tSeq (tDrop (tBM K "list" rAppend (tVar 2) (tCons (tVar 3) tNil)))
(tSeq (tAsg (tOp (rIxK K .t) (tVar 0) (tVar 3)) (gName 3))
tNext))))
(tSeq (tRet (tVar 2)) tNext))))
theorem go_law_over {K : PySem.W.Frag} {C : Cn} {D : Ends} {E : XK} (tree_ : (List Int)) (place_ : Int) (hp0 : 0 ≤ place_ ∧ place_ < tree_.length) (hp1 : tree_.length ≤ 1000) (hR : RetOk C D (rOpt (rList rInt)) (fun b => b = TM.upM tree_ place_)) :
    Go C (t_law_over K E) D [.val .m (rTup rInt) tree_, .val .m rInt place_, .no, .no] := by
  unfold t_law_over
  refine q_asgN (i := 2) (ℓ := .g) (en_lstd (ℓ := .g) (R := rInt) em_nil) (fun p2 found1 hfound1 => ?_)
  subst hfound1
  refine q_asg (i := 3) (ℓ := .g) (((ev_ix (es_tup (ev_var (R := (rTup rInt)) (a := tree_) rfl)) (((ev_var (R := rInt) (a := place_) rfl)).toh) (by first | omega | assumption | (simp; done) | (constructor <;> omega) | (simp; omega)))).fl fl_int) (fun here3 hhere3 => ?_)
  replace hhere3 : here3 = (gt tree_ place_) := hhere3
  refine q_while (S := (List Int) × Int) (fun s => [.val .m (rTup rInt) tree_, .val .m rInt place_, .own p2 .g rInt s.1, .val .g rInt s.2]) (fun (s : (List Int) × Int) => (s.1.length ≤ tree_.length + 1) ∧ (TM.upM tree_ place_ = (TM.up tree_ (tree_.length + 1 - s.1.length) s.2).map (s.1 ++ ·))) (fun (s : (List Int) × Int) => tree_.length + 1 - s.1.length) (fun (s : (List Int) × Int) => (¬ s.2 = (-(1 : Int)))) (([] : List Int), here3) (by
        show (([] : List Int).length ≤ tree_.length + 1) ∧ (TM.upM tree_ place_ = (TM.up tree_ (tree_.length + 1 - ([] : List Int).length) here3).map (([] : List Int) ++ ·))
        refine ⟨Nat.zero_le _, ?_⟩
        rw [hhere3]; exact (TM.map_nil_app _).symm) (LeG.k (LeG.k (LeG.k (LeG.k LeG.nil)))) (fun s hI0 => ?_) (fun s hI0 hw => ?_) (fun s hI0 hw => ?_)
  · obtain ⟨found4, here5⟩ := s
    replace hI0 : (found4.length ≤ tree_.length + 1) ∧ (TM.upM tree_ place_ = (TM.up tree_ (tree_.length + 1 - found4.length) here5).map (found4 ++ ·)) := hI0
    obtain ⟨hI0_0, hI0_1⟩ := hI0
    exact (ec_tstN (ev_neI (((ev_var (R := rInt) (a := here5) rfl)).toh) ((ev_neg (ev_int)))))
  · obtain ⟨found6, here7⟩ := s
    replace hI0 : (found6.length ≤ tree_.length + 1) ∧ (TM.upM tree_ place_ = (TM.up tree_ (tree_.length + 1 - found6.length) here7).map (found6 ++ ·)) := hI0
    obtain ⟨hI0_0, hI0_1⟩ := hI0
    replace hw : (¬ here7 = (-(1 : Int))) := hw
    show Go _ _ _ [.val .m (rTup rInt) tree_, .val .m rInt place_, .own p2 .g rInt found6, .val .g rInt here7]
    refine q_ifT (ec_or (ec_tst (ev_lt (((ev_var (R := rInt) (a := here7) rfl)).toh) (ev_int))) (fun hb8 => (ec_or (ec_tst (ev_ge (((ev_var (R := rInt) (a := here7) rfl)).toh) ((ev_len (es_tup (ev_var (R := (rTup rInt)) (a := tree_) rfl)))))) (fun hb9 => (ec_tst (ev_gt ((ev_len (es_own (R := rInt) (l := found6) rfl))) ((ev_len (es_tup (ev_var (R := (rTup rInt)) (a := tree_) rfl)))))))))) (fun h11 => ?_) (fun h11 => ?_)
    · refine q_ret ((ev_non (R := (rList rInt)))) hR (fun r12 hr12 => ?_)
      replace hr12 : r12 = none := hr12
      show r12 = TM.upM tree_ place_
      rw [hr12]
      rw [hI0_1, TM.up_none hw (by omega)]; rfl
    refine q_app (i := 2) (p := p2) rfl ((ev_var (R := rInt) (a := here7) rfl)) (by omega) (fun e13 he13 => ?_)
    replace he13 : e13 = here7 := he13
    rw [he13]; clear he13 e13
    refine q_asg (i := 3) (ℓ := .g) (((ev_ix (es_tup (ev_var (R := (rTup rInt)) (a := tree_) rfl)) (((ev_var (R := rInt) (a := here7) rfl)).toh) (by omega))).fl fl_int) (fun here14 hhere14 => ?_)
    replace hhere14 : here14 = (gt tree_ here7) := hhere14
    refine q_next (hol_in ((found6 ++ [here7]), here14) ?_ (LeG.k (LeG.k (LeG.k (LeG.k LeG.nil)))))
    show (((found6 ++ [here7]).length ≤ tree_.length + 1) ∧ (TM.upM tree_ place_ = (TM.up tree_ (tree_.length + 1 - (found6 ++ [here7]).length) here14).map ((found6 ++ [here7]) ++ ·))) ∧ tree_.length + 1 - (found6 ++ [here7]).length < tree_.length + 1 - found6.length
    rw [hhere14]
    refine ⟨⟨by simp; omega, ?_⟩, by simp; omega⟩
    exact TM.way_stepN hI0_0 hI0_1 hw (by omega) (by omega)
  obtain ⟨found15, here16⟩ := s
  replace hI0 : (found15.length ≤ tree_.length + 1) ∧ (TM.upM tree_ place_ = (TM.up tree_ (tree_.length + 1 - found15.length) here16).map (found15 ++ ·)) := hI0
  obtain ⟨hI0_0, hI0_1⟩ := hI0
  replace hw : ¬ (¬ here16 = (-(1 : Int))) := hw
  show Go _ _ _ [.val .m (rTup rInt) tree_, .val .m rInt place_, .own p2 .g rInt found15, .val .g rInt here16]
  refine q_frz (i := 2) (p := p2) rfl ?_
  refine q_ret ((ev_some (ev_var (R := (rList rInt)) (a := found15) rfl) nn_list)) hR (fun r17 hr17 => ?_)
  replace hr17 : r17 = (some found15) := hr17
  show r17 = TM.upM tree_ place_
  rw [hr17]
  rw [hI0_1, show here16 = -1 from Classical.not_not.mp hw, TM.up_top]; simp
abbrev s_law_over : Stmt := topS 31
theorem sc_law_over : FnScope ["tree", "place", "found", "here"] ["tree", "place"] (defScope s_law_over) := ⟨rfl, rfl, rfl, by decide +kernel, rfl, by decide +kernel, by decide +kernel⟩
theorem ok_law_over {P : Program} {w : PySem.World} {K : PySem.W.Frag} {mg : Str → Option Value} {base : Heap} {f : Addr} {fd : FuncData} (F : Fun K "_law_over" "_law_over" s_law_over f fd) (m_len : mg "len" = none) : FnOk P w K mg base CX0 1 f fd ["tree", "place"] sp_law_over := by
  have sc := sc_law_over
  refine F.ok sc (fun vs H Q E h => ?_) (fun cdv A outer s H vs Q E hr h => ?_)
  · obtain ⟨a_, ha_, _⟩ := h
    obtain ⟨v1, _, rfl, _ha1, ⟨v2, _, rfl, _ha2, rfl⟩⟩ := ha_
    rfl
  · obtain ⟨⟨tree_, place_, _⟩, ⟨v1, _, rfl, ha1, ⟨v2, _, rfl, ha2, rfl⟩⟩, ⟨hp0, hp1⟩, hR, hE⟩ := spF_open PIlaw (n := fun _ H' => Q .non H') h
    refine ⟨t_law_over K E, ?_, go_law_over (C := (Cn0 PIlaw H)) tree_ place_ hp0 hp1 hR _ (W0 H []) (world_of (bok0 (PI := PIlaw) H) ⟨⟨by decide, v1, rfl, (rTup rInt).mono (mw0 (PI := PIlaw) H) ha1⟩, ⟨⟨by decide, v2, rfl, rInt.mono (mw0 (PI := PIlaw) H) ha2⟩, ⟨trivial, ⟨trivial, trivial⟩⟩⟩⟩ rfl)⟩
    unfold t_law_over
    exact (pss_cons (ps_set (i := 2) sc.nd rfl (Or.inl rfl) (pe_lst pa_nil))
(pss_cons (ps_set (i := 3) sc.nd rfl (Or.inl rfl) (pe_ix ix_tup (pv 0) (pv 1) (fun _ _ => rfl)))
(pss_cons (ps_while PassesOwn.never (pt_cmpR op_ne (pv 3) (pe_un un_neg pe_int) (nomark _))
(pss_cons (ps_if (PW.pt (pw_or (pt_cmpR op_lt (pv 3) pe_int (nomark _)) (pw_or (pt_cmpR op_ge (pv 3) (pe_callB call_len_seq (by rfl) m_len bt_len (pa_cons (pv 0) pa_nil)) (nomark _)) (pw_or1 (pt_cmpR op_gt (pe_callB call_len_seq (by rfl) m_len bt_len (pa_cons (pv 2) pa_nil)) (pe_callB call_len_seq (by rfl) m_len bt_len (pa_cons (pv 0) pa_nil)) (nomark _)))))) (pss_cons (ps_ret pe_non) pss_nil) pss_nil)
(pss_cons (ps_expr (pe_bm PySem.F.plainAttrs_list PySem.F.slot_list_append PySem.F.type_list_append mt_append (pv 2) (pa_cons (pv 3) pa_nil)))
(pss_cons (ps_set (i := 3) sc.nd rfl (Or.inl rfl) (pe_ix ix_tup (pv 0) (pv 3) (fun _ _ => rfl)))
pss_nil))))
(pss_cons (ps_ret (pv 2)) pss_nil))))
def sp_law_kin_row : Sp := spV PIlaw (aCons (rTup rInt) aNil) (fun (a : (List Int) × Unit) => (TM.isTree a.1 = true)) (rTup rInt) (fun (a : (List Int) × Unit) b => TM.treeOf b = a.1 ∧ b.length = a.1.length)
theorem volx_law_kin_row {C : Cn} {Γ : List Ent} {E : XK} {i : Nat} {p : Addr} {t1 : TE} {P1 : (List Int) → Prop} (hv : Γ[i]? = some (.vol p)) (hPI : C.PI = PIlaw) (h1 : EvP C t1 Γ .h (rTup rInt) P1) (hp0 : ∀ a1, P1 a1 → (TM.isTree a1 = true)) : EvX C (tCall sp_law_kin_row [] E (tCons (tVar i) (tCons t1 tNil))) Γ (ResF C (rTup rInt) (fun (b : (List Int)) => ∃ a1, P1 a1 ∧ (TM.treeOf b = a1 ∧ b.length = a1.length))) := ex_vol1 hv hPI h1 (fun a1 _p1 => hp0 a1 _p1)
theorem vol_law_kin_row {C : Cn} {Γ : List Ent} {E : XK} {i : Nat} {p : Addr} {t1 : TE} {a1 : (List Int)} (hv : Γ[i]? = some (.vol p)) (hPI : C.PI = PIlaw) (h1 : Ev C t1 Γ .h (rTup rInt) a1) (hp0 : TM.isTree a1 = true) : EvX C (tCall sp_law_kin_row [] E (tCons (tVar i) (tCons t1 tNil))) Γ (ResF C (rTup rInt) (fun (b : (List Int)) => TM.treeOf b = a1 ∧ b.length = a1.length)) := (volx_law_kin_row hv hPI h1 (fun y1 e1 => by subst e1; exact hp0)).imp fun b h => by obtain ⟨y1, e1, po⟩ := h; subst e1; exact po
def t_law_kin_row (K : PySem.W.Frag) (E : XK) : TS :=
(tSeq (tAsg (tOp (rI0 fun i j => .int (i + j)) (tC (.int 1)) (tCall sp_law_pick [] E0 (tCons (tVar 0) (tCons (tC (.int 3)) tNil)))) (gName 2))
(tSeq (tAsg (tOp (rI CMul fun i j => .int (i * j)) (tOp (rI0 fun i j => .int (i - j)) (tCall sp_law_pick [] E0 (tCons (tVar 0) (tCons (tC (.int 9)) tNil))) (tC (.int 4))) (tOp (rIxK K .t) (tTup (tCons (tC (.int 1)) (tCons (tC (.int 1)) (tCons (tOp (rI CPow fun i j => .int (i ^ j.toNat)) (tC (.int 10)) (tC (.int 58))) tNil)))) (tCall sp_law_pick [] E0 (tCons (tVar 0) (tCons (tC (.int 3)) tNil))))) (gName 3))
(tSeq (tAsg (tOp rRep (tLst (tCons (tVar 3) tNil)) (tCB (rLenS K) (tCons (tVar 1) tNil))) (gName 4))
(tSeq (tAsg (tLst tNil) (gName 5))
(tSeq (tFor (iRng1 (tCons (tCB (rLenS K) (tCons (tVar 1) tNil)) tNil)) (gName 6)
(tSeq (tDrop (tBM K "list" rAppend (tVar 5) (tCons (tTup (tCons (tCB (rLenS K) (tCons (tCall sp_law_over [] E0 (tCons (tVar 1) (tCons (tVar 6) tNil))) tNil)) (tCons (tVar 6) tNil))) tNil)))
tNext))
(tSeq (tFor (iList K (tCB (rSortedPO K) (tCons (tVar 5) tNil))) (gTup K 2 (gCons (gName 7) (gCons (gName 6) gNil)))
(tSeq (tAsg (tOp (rIxK K .t) (tVar 1) (tVar 6)) (gName 8))
(tSeq (tIfS (tTest (tOp (rI0 fun i j => .bl (decide (j ≤ i))) (tVar 8) (tC (.int 0)))) (tSeq (tAsg (tOp (rI0 fun i j => .int (i + j)) (tOp (rIxK K .l) (tVar 4) (tVar 8)) (tCB (fun xs H Q => (∃ i, xs = [.int i] ∧ Q (.int i) H) ∨ ∃ k, xs = [.bl k] ∧ Q (.int (if k then 1 else 0)) H) (tCons (tOp (rI0 fun i j => .bl (decide (i < j))) (tVar 6) (tVar 8)) tNil))) (gName 9))
(tSeq (tAsg (tOp (rI0 fun i j => .int (i + j)) (tVar 9) (tCall sp_law_pick [] E0 (tCons (tVar 0) (tCons (tVar 2) tNil)))) (gSub (tVar 4) (tVar 6) rSetL))
tNext)) tNext)
tNext)))
(tSeq (tRet (tCB (rTupOf K) (tCons (tVar 4) tNil))) tNext)))))))
theorem go_law_kin_row {K : PySem.W.Frag} {C : Cn} {D : Ends} {E : XK} (p_pool : Addr) (tree_ : (List Int)) (hp0 : TM.isTree tree_ = true) (hR : RetOk C D (rTup rInt) (fun (b : (List Int)) => TM.treeOf b = tree_ ∧ b.length = tree_.length)) (hPI : C.PI = PIlaw) :
    Go C (t_law_kin_row K E) D [.vol p_pool, .val .m (rTup rInt) tree_, .no, .no, .no, .no, .no, .no, .no, .no] := by
  unfold t_law_kin_row
  have htl := TM.isTree_len hp0
  refine q_asg (i := 2) (ℓ := .g) (evp_add (ev_int) ((ev_call (vol_law_pick (i := 0) rfl hPI (ev_int) (by
        first | omega | assumption | (simp; done) | (constructor <;> omega) | (simp; omega)))).toh)) (fun rise2 hrise2 => ?_)
  obtain ⟨x3, y4, hx3, hy4, hrise2⟩ := hrise2
  refine q_asg (i := 3) (ℓ := .g) (evp_mul (evp_sub ((ev_call (vol_law_pick (i := 0) rfl hPI (ev_int) (by
        first | omega | assumption | (simp; done) | (constructor <;> omega) | (simp; omega)))).toh) (ev_int)) ((evp_pick (es_tup (ev_tup (ℓ := .g) (emp_cons (ev_int) (emp_cons (ev_int) (emp_cons ((ev_eqc (ev_pow (ev_int) (ev_int) (by unfold CPow; decide)) (c := 10000000000000000000000000000000000000000000000000000000000) (by decide +kernel))) em_nilP))) (by intro l7 h6; obtain ⟨x12, l13, rfl, hx12, ⟨x10, l11, rfl, hx10, ⟨x8, l9, rfl, hx8, rfl⟩⟩⟩ := h6; simp))) ((ev_call (vol_law_pick (i := 0) rfl hPI (ev_int) (by
        first | omega | assumption | (simp; done) | (constructor <;> omega) | (simp; omega)))).toh) (by
        intro l15 i16 h17 h18
        obtain ⟨x23, l24, rfl, hx23, ⟨x21, l22, rfl, hx21, ⟨x19, l20, rfl, hx19, rfl⟩⟩⟩ := h17
        obtain h18 := h18
        omega)).toh) (by
        intro x25 y26 h27 h28
        obtain ⟨x29, y30, hx29, hy30, h27⟩ := h27
        obtain ⟨l31, ⟨x37, l38, rfl, hx37, ⟨x35, l36, rfl, hx35, ⟨x33, l34, rfl, hx33, rfl⟩⟩⟩, h28⟩ := h28
        unfold CMul; omega)) (fun begin39 hbegin39 => ?_)
  obtain ⟨x40, y41, ⟨x42, y43, hx42, hy43, hx40⟩, ⟨l44, ⟨x50, l51, rfl, hx50, ⟨x48, l49, rfl, hx48, ⟨x46, l47, rfl, hx46, rfl⟩⟩⟩, hy41⟩, hbegin39⟩ := hbegin39
  refine q_asgN (i := 4) (ℓ := .g) (en_repd (es_list (ev_new (ℓ := .g) (en_lstd (ℓ := .g) (em_cons ((ev_var (R := rInt) (a := begin39) rfl)) em_nil) (Nat.le_of_ble_eq_true rfl)))) ((ev_len (es_tup (ev_var (R := (rTup rInt)) (a := tree_) rfl)))) (by omega)) (fun p53 found52 hfound52 => ?_)
  refine q_asgN (i := 5) (ℓ := .g) (en_lstd (ℓ := .g) (R := (rPair rInt rInt)) em_nil) (fun p55 ranks54 hranks54 => ?_)
  subst hranks54
  refine q_forD (j := 6) (σS := (List (Int × Int))) (fun s => [.vol p_pool, .val .m (rTup rInt) tree_, .val .g rInt rise2, .val .g rInt begin39, .own p53 .g rInt found52, .own p55 .g (rPair rInt rInt) s, .no, .no, .no, .no]) (fun (i : Nat) (s : (List (Int × Int))) => (s = TM.ranksB tree_ i) ∧ (s.length = i)) ([] : List (Int × Int)) (ei_rg1d (b := true) (ℓ := .g) ((ev_len (es_tup (ev_var (R := (rTup rInt)) (a := tree_) rfl)))) (by omega)) (by
        show (([] : List (Int × Int)) = TM.ranksB tree_ 0) ∧ (([] : List (Int × Int)).length = 0)
        exact ⟨rfl, rfl⟩) (LeG.k (LeG.k (LeG.k (LeG.k (LeG.k (LeG.k (LeG.f (LeG.f (LeG.f (LeG.f LeG.nil)))))))))) (fun C1 hc1 i1 x56 s hx56 hI0 => ?_) (fun s hI0 => ?_)
  · revert s hI0; intro ranks57 hI0
    replace hI0 : (ranks57 = TM.ranksB tree_ i1) ∧ (ranks57.length = i1) := hI0
    obtain ⟨hI0_0, hI0_1⟩ := hI0
    have hR := hR.ex hc1
    have hPI := hc1.pi.trans hPI
    have hx56l := at_lt hx56
    have hx56r := rg_at hx56
    rw [rg_len] at hx56l
    refine q_app (i := 5) (p := p55) rfl ((ev_paird (ℓ := .g) ((ev_len (es_list (ev_the (ev_call (call_law_over (((ev_var (R := (rTup rInt)) (a := tree_) rfl)).toh) (((ev_var (R := rInt) (a := x56) rfl)).toh) (by omega) (by omega))) (by exact oget_some (by rw [TM.upM_tree hp0 (by omega)]; simp)))))) ((ev_var (R := rInt) (a := x56) rfl)))) (by omega) (fun e58 he58 => ?_)
    replace he58 : e58 = ((((oget (TM.upM tree_ x56))).length : Int), x56) := he58
    rw [he58]; clear he58 e58
    refine q_next (hol_in (ranks57 ++ [((((oget (TM.upM tree_ x56))).length : Int), x56)]) ?_ (LeG.k (LeG.k (LeG.k (LeG.k (LeG.k (LeG.k (LeG.f (LeG.f (LeG.f (LeG.f LeG.nil)))))))))))
    show ((ranks57 ++ [((((oget (TM.upM tree_ x56))).length : Int), x56)]) = TM.ranksB tree_ (i1 + 1)) ∧ ((ranks57 ++ [((((oget (TM.upM tree_ x56))).length : Int), x56)]).length = (i1 + 1))
    refine ⟨?_, by rw [List.length_append, hI0_1]; rfl⟩
    rw [hI0_0, TM.ranksB_succ, TM.upM_tree hp0 (by omega), show ((i1 : Nat) : Int) = x56 by omega]; rfl
  revert s hI0; intro ranks59 hI0
  replace hI0 : (ranks59 = TM.ranksB tree_ ((rg 0 ((tree_).length : Int))).length) ∧ (ranks59.length = ((rg 0 ((tree_).length : Int))).length) := hI0
  obtain ⟨hI0_0, hI0_1⟩ := hI0
  simp only [rg_len] at hI0_0 hI0_1
  show Go _ _ _ [.vol p_pool, .val .m (rTup rInt) tree_, .val .g rInt rise2, .val .g rInt begin39, .own p53 .g rInt found52, .own p55 .g (rPair rInt rInt) ranks59, .no, .no, .no, .no]
  have hRL : TM.RL tree_ (psort ranks59) := by rw [hI0_0, Int.sub_zero, Int.toNat_natCast]; exact TM.rl_of _
  refine q_frz (i := 5) (p := p55) rfl ?_
  refine q_forD2 (i := 7) (j := 6) (σS := (List Int)) (fun s => [.vol p_pool, .val .m (rTup rInt) tree_, .val .g rInt rise2, .val .g rInt begin39, .own p53 .g rInt s, .val .g (rList (rPair rInt rInt)) ranks59, .no, .no, .no, .no]) (fun (i : Nat) (s : (List Int)) => (TM.KR tree_ (psort ranks59) s i)) found52 (ei_list (b := true) (hc := (by intro _; decide)) (hl := (by intro _; decide)) (es_list (ev_new (ℓ := .g) (en_sortP (es_list (ev_var (R := (rList (rPair rInt rInt))) (a := ranks59) rfl)))))) (by
        show (TM.KR tree_ (psort ranks59) found52 0)
        exact TM.kr_init (by rw [hfound52, List.length_replicate]; omega)) (LeG.k (LeG.k (LeG.k (LeG.k (LeG.k (LeG.k (LeG.f (LeG.f (LeG.f (LeG.f LeG.nil)))))))))) (fun C2 hc2 i2 x60 s hx60 hI1 => ?_) (fun s hI1 => ?_)
  · revert s hI1; intro found61 hI1
    replace hI1 : (TM.KR tree_ (psort ranks59) found61 i2) := hI1
    have hR := hR.ex hc2
    have hPI := hc2.pi.trans hPI
    have hx60l := at_lt hx60
    obtain ⟨q1, q2, q3⟩ := hRL.it _ (List.mem_of_getElem? hx60)
    have hfl := hI1.1
    refine q_asg (i := 8) (ℓ := .g) (((ev_ix (es_tup (ev_var (R := (rTup rInt)) (a := tree_) rfl)) (((ev_var (R := rInt) (a := x60.2) rfl)).toh) (by omega))).fl fl_int) (fun elder62 helder62 => ?_)
    replace helder62 : elder62 = (gt tree_ x60.2) := helder62
    have hel := fun z => TM.rk_elder hp0 ⟨q2, q3⟩ z
    rw [← helder62] at hel
    refine q_ifC (ec_tst (ev_ge (((ev_var (R := rInt) (a := elder62) rfl)).toh) (ev_int))) (fun h63 => ?_) (fun h63 => ?_)
    · obtain ⟨he1, he2⟩ := hel (by omega)
      refine q_asg (i := 9) (ℓ := .g) ((ev_add (((ev_ix (es_own (R := rInt) (l := found61) rfl) (((ev_var (R := rInt) (a := elder62) rfl)).toh) (by omega))).toh) ((ev_intB' ((ev_lt (((ev_var (R := rInt) (a := x60.2) rfl)).toh) (((ev_var (R := rInt) (a := elder62) rfl)).toh))))))) (fun least64 hleast64 => ?_)
      replace hleast64 : least64 = ((gt found61 elder62) + (if (decide (x60.2 < elder62)) = true then (1 : Int) else 0)) := hleast64
      refine q_set (i := 4) (p := p53) rfl (evp_add (((ev_var (R := rInt) (a := least64) rfl)).toh) ((ev_call (vol_law_pick (i := 0) rfl hPI (((ev_var (R := rInt) (a := rise2) rfl)).toh) (by
            first | omega | assumption | (simp; done) | (constructor <;> omega) | (simp; omega)))).toh)) (((ev_var (R := rInt) (a := x60.2) rfl)).toh) (by
            intro n68 h69
            obtain h69 := h69
            omega) (fun e66 n67 he66 hn67 => ?_)
      obtain ⟨x70, y71, hx70, hy71, he66⟩ := he66
      refine q_next (?_ : Go _ tNext _ _)
      refine q_next (hol_in ((found61).set (n67).toNat e66) ?_ (LeG.k (LeG.k (LeG.k (LeG.k (LeG.k (LeG.k (LeG.f (LeG.f (LeG.f (LeG.f LeG.nil)))))))))))
      show (TM.KR tree_ (psort ranks59) ((found61).set (n67).toNat e66) (i2 + 1))
      first
        | exact TM.kr_same hI1 hx60 (by rw [← helder62]; omega)
        | (have hle := hleast64
           have hee := helder62
           simp only [decide_eq_true_eq] at hle
           rw [hee] at hle
           subst_vars
           exact TM.kr_step hp0 hRL hI1 (by assumption) (by omega) (by omega))
    · refine q_next (?_ : Go _ tNext _ _)
      refine q_next (hol_in found61 ?_ (LeG.k (LeG.k (LeG.k (LeG.k (LeG.k (LeG.k (LeG.f (LeG.f (LeG.f (LeG.f LeG.nil)))))))))))
      show (TM.KR tree_ (psort ranks59) found61 (i2 + 1))
      first
        | exact TM.kr_same hI1 hx60 (by rw [← helder62]; omega)
        | (have hle := h_none
           have hee := helder62
           simp only [decide_eq_true_eq] at hle
           rw [hee] at hle
           subst_vars
           exact TM.kr_step hp0 hRL hI1 (by assumption) (by omega) (by omega))
  revert s hI1; intro found72 hI1
  replace hI1 : (TM.KR tree_ (psort ranks59) found72 ((psort ranks59)).length) := hI1
  show Go _ _ _ [.vol p_pool, .val .m (rTup rInt) tree_, .val .g rInt rise2, .val .g rInt begin39, .own p53 .g rInt found72, .val .g (rList (rPair rInt rInt)) ranks59, .no, .no, .no, .no]
  refine q_ret ((ev_tupL (ℓ := .g) (es_own (R := rInt) (l := found72) rfl))) hR (fun r73 hr73 => ?_)
  replace hr73 : r73 = found72 := hr73
  show TM.treeOf r73 = tree_ ∧ r73.length = tree_.length
  (try rw [hr73])
  exact ⟨TM.kr_done hp0 hRL hI1, hI1.1⟩
abbrev s_law_kin_row : Stmt := topS 34
theorem sc_law_kin_row : FnScope ["pool", "tree", "rise", "begin", "found", "ranks", "place", "rank", "elder", "least"] ["pool", "tree"] (defScope s_law_kin_row) := ⟨rfl, rfl, rfl, by decide +kernel, rfl, by decide +kernel, by decide +kernel⟩
theorem ok_law_kin_row {P : Program} {w : PySem.World} {K : PySem.W.Frag} {mg : Str → Option Value} {base : Heap} {f : Addr} {fd : FuncData} (F : Fun K "_law_kin_row" "_law_kin_row" s_law_kin_row f fd) {f_law_pick : Addr} {d_law_pick : FuncData} (c_law_pick : Cal P w K mg base CX0 1 "_law_pick" ["pool", "many"] sp_law_pick f_law_pick d_law_pick) {f_law_over : Addr} {d_law_over : FuncData} (c_law_over : Cal P w K mg base CX0 1 "_law_over" ["tree", "place"] sp_law_over f_law_over d_law_over) (m_int : mg "int" = none) (m_len : mg "len" = none) (m_range : mg "range" = none) (m_sorted : mg "sorted" = none) (m_tuple : mg "tuple" = none) : FnOk P w K mg base CX0 2 f fd ["pool", "tree"] sp_law_kin_row := by
  have sc := sc_law_kin_row
  refine F.ok sc (fun vs H Q E h => ?_) (fun cdv A outer s H vs Q E hr h => ?_)
  · obtain ⟨p_, r_, a_, o_, rfl, _, _, h1_, _⟩ := h
    obtain ⟨v1, _, rfl, _ha1, rfl⟩ := h1_
    rfl
  · obtain ⟨p_pool, r_, ⟨tree_, _⟩, rfl, bk_, ⟨v1, _, rfl, ha1, rfl⟩, hp0, hR⟩ := spV_open (n := fun _ H' => Q .non H') h
    refine ⟨t_law_kin_row K E, ?_, go_law_kin_row (C := (CnV H p_pool PIlaw)) p_pool tree_ hp0 hR rfl _ (W0 H [p_pool]) (world_of bk_ ⟨⟨rfl, List.mem_singleton.mpr rfl, fun ⟨_, z⟩ => by cases z⟩, ⟨⟨by decide, v1, rfl, (rTup rInt).mono (mwV H p_pool PIlaw) ha1⟩, ⟨trivial, ⟨trivial, ⟨trivial, ⟨trivial, ⟨trivial, ⟨trivial, ⟨trivial, ⟨trivial, trivial⟩⟩⟩⟩⟩⟩⟩⟩⟩⟩ rfl)⟩
    unfold t_law_kin_row
    exact (pss_cons (ps_set (i := 2) sc.nd rfl (Or.inl rfl) (pe_op op_add pe_int (pe_call c_law_pick.ok (hr.mono (by decide)) (by rfl) c_law_pick.g c_law_pick.kp c_law_pick.b .nil pass0 (pa_cons (pv 0) (pa_cons pe_int pa_nil)))))
(pss_cons (ps_set (i := 3) sc.nd rfl (Or.inl rfl) (pe_op op_mul (pe_op op_sub (pe_call c_law_pick.ok (hr.mono (by decide)) (by rfl) c_law_pick.g c_law_pick.kp c_law_pick.b .nil pass0 (pa_cons (pv 0) (pa_cons pe_int pa_nil))) pe_int) (pe_ix ix_tup (pe_tup (pa_cons pe_int (pa_cons pe_int (pa_cons (pe_op op_pow pe_int pe_int) pa_nil)))) (pe_call c_law_pick.ok (hr.mono (by decide)) (by rfl) c_law_pick.g c_law_pick.kp c_law_pick.b .nil pass0 (pa_cons (pv 0) (pa_cons pe_int pa_nil))) (fun _ _ => rfl))))
(pss_cons (ps_set (i := 4) sc.nd rfl (Or.inl rfl) (pe_op op_rep (pe_lst (pa_cons (pv 3) pa_nil)) (pe_callB call_len_seq (by rfl) m_len bt_len (pa_cons (pv 1) pa_nil))))
(pss_cons (ps_set (i := 5) sc.nd rfl (Or.inl rfl) (pe_lst pa_nil))
(pss_cons (ps_for PassesOwn.never rfl (pi_range1 rfl m_range (pa_cons (pe_callB call_len_seq (by rfl) m_len bt_len (pa_cons (pv 1) pa_nil)) pa_nil)) (pg_name (i := 6) sc.nd rfl (Or.inl rfl))
(pss_cons (ps_expr (pe_bm PySem.F.plainAttrs_list PySem.F.slot_list_append PySem.F.type_list_append mt_append (pv 5) (pa_cons (pe_tup (pa_cons (pe_callB call_len_seq (by rfl) m_len bt_len (pa_cons (pe_call c_law_over.ok (hr.mono (by decide)) (by rfl) c_law_over.g c_law_over.kp c_law_over.b .nil pass0 (pa_cons (pv 1) (pa_cons (pv 6) pa_nil))) pa_nil)) (pa_cons (pv 6) pa_nil))) pa_nil)))
pss_nil))
(pss_cons (ps_for PassesOwn.never rfl (pi_list (pe_callB cr_sortedPO (by rfl) m_sorted bt_sorted (pa_cons (pv 5) pa_nil))) (pg_tup rfl (pgs_cons (pg_name (i := 7) sc.nd rfl (Or.inl rfl)) (pgs_cons (pg_name (i := 6) sc.nd rfl (Or.inl rfl)) pgs_nil)))
(pss_cons (ps_set (i := 8) sc.nd rfl (Or.inl rfl) (pe_ix ix_tup (pv 1) (pv 6) (fun _ _ => rfl)))
(pss_cons (ps_if (pt_cmpR op_ge (pv 8) pe_int (nomark _)) (pss_cons (ps_set (i := 9) sc.nd rfl (Or.inl rfl) (pe_op op_add (pe_ix ix_list (pv 4) (pv 8) (fun _ _ => rfl)) (pe_callTy call_int1 (by rfl) m_int bt_int (pa_cons (pe_cmpR op_lt (pv 6) (pv 8) (nomark _)) pa_nil))))
(pss_cons (ps_asg (pe_op op_add (pv 9) (pe_call c_law_pick.ok (hr.mono (by decide)) (by rfl) c_law_pick.g c_law_pick.kp c_law_pick.b .nil pass0 (pa_cons (pv 0) (pa_cons (pv 2) pa_nil)))) (pg_sub (pv 4) (pv 6) set_list))
pss_nil)) pss_nil)
pss_nil)))
(pss_cons (ps_ret (pe_callTy call_tuple_of (by rfl) m_tuple bt_tuple (pa_cons (pv 4) pa_nil))) pss_nil)))))))
def sp_law_near_row : Sp := spV PIlaw (aCons (rTup rInt) aNil) (fun (a : (List Int) × Unit) => (TM.isTree a.1 = true)) (rTup rInt) (fun (a : (List Int) × Unit) b => b.length = a.1.length)
theorem volx_law_near_row {C : Cn} {Γ : List Ent} {E : XK} {i : Nat} {p : Addr} {t1 : TE} {P1 : (List Int) → Prop} (hv : Γ[i]? = some (.vol p)) (hPI : C.PI = PIlaw) (h1 : EvP C t1 Γ .h (rTup rInt) P1) (hp0 : ∀ a1, P1 a1 → (TM.isTree a1 = true)) : EvX C (tCall sp_law_near_row [] E (tCons (tVar i) (tCons t1 tNil))) Γ (ResF C (rTup rInt) (fun (b : (List Int)) => ∃ a1, P1 a1 ∧ (b.length = a1.length))) := ex_vol1 hv hPI h1 (fun a1 _p1 => hp0 a1 _p1)
theorem vol_law_near_row {C : Cn} {Γ : List Ent} {E : XK} {i : Nat} {p : Addr} {t1 : TE} {a1 : (List Int)} (hv : Γ[i]? = some (.vol p)) (hPI : C.PI = PIlaw) (h1 : Ev C t1 Γ .h (rTup rInt) a1) (hp0 : TM.isTree a1 = true) : EvX C (tCall sp_law_near_row [] E (tCons (tVar i) (tCons t1 tNil))) Γ (ResF C (rTup rInt) (fun (b : (List Int)) => b.length = a1.length)) := (volx_law_near_row hv hPI h1 (fun y1 e1 => by subst e1; exact hp0)).imp fun b h => by obtain ⟨y1, e1, po⟩ := h; subst e1; exact po
def t_law_near_row (K : PySem.W.Frag) (E : XK) : TS :=
(tSeq (tAsg (tCB (rLenS K) (tCons (tVar 1) tNil)) (gName 2))
(tSeq (tAsg (tCB (rListOf K) (tCons (tCall sp_law_kin_row [] E0 (tCons (tVar 0) (tCons (tVar 1) tNil))) tNil)) (gName 3))
(tSeq (tAsg (tCall sp_law_pick [] E0 (tCons (tVar 0) (tCons (tC (.int 5)) tNil))) (gName 4))
(tSeq (tFor (iRng1 (tCons (tOp (rIxK K .l) (tLst (tCons (tC (.int 0)) (tCons (tCall sp_law_pick [] E0 (tCons (tVar 0) (tCons (tC (.int 3)) tNil))) (tCons (tCall sp_law_pick [] E0 (tCons (tVar 0) (tCons (tOp (rI0 fun i j => .int (i + j)) (tVar 2) (tC (.int 1))) tNil))) tNil)))) (tCall sp_law_pick [] E0 (tCons (tVar 0) (tCons (tC (.int 3)) tNil)))) tNil)) (gName 5)
(tSeq (tIfS (tTest (tOp (rI0 fun i j => .bl (decide (j < i))) (tVar 2) (tC (.int 0)))) (tSeq (tAsg (tCall sp_law_pick [] E0 (tCons (tVar 0) (tCons (tVar 2) tNil))) (gName 6))
(tSeq (tAsg (tOp (rI0 fun i j => .int (i + j)) (tOp (rIxK K .l) (tVar 3) (tVar 6)) (tOp (rI CMul fun i j => .int (i * j)) (tOp (rI0 fun i j => .int (i - j)) (tCall sp_law_pick [] E0 (tCons (tVar 0) (tCons (tC (.int 9)) tNil))) (tC (.int 4))) (tOp (rIxK K .t) (tTup (tCons (tC (.int 1)) (tCons (tC (.int 1)) (tCons (tC (.int 1)) (tCons (tOp (rI CPow fun i j => .int (i ^ j.toNat)) (tC (.int 10)) (tC (.int 57))) tNil))))) (tCall sp_law_pick [] E0 (tCons (tVar 0) (tCons (tC (.int 4)) tNil)))))) (gSub (tVar 3) (tVar 6) rSetL))
tNext)) tNext)
tNext))
(tCut (tIfS (tTest (tOp rEq (tVar 4) (tC (.int 2)))) (tSeq (tAsg (tLc (iRng1 (tCons (tVar 2) tNil)) (gName 8) tYes (tCall sp_law_pick [] E0 (tCons (tVar 0) (tCons (tC (.int 4)) tNil))) [8]) (gName 3))
tNext) tNext)
(tCut (tIfS (tTest (tOp rEq (tVar 4) (tC (.int 3)))) (tSeq (tAsg (tLc (iRng1 (tCons (tVar 2) tNil)) (gName 8) tYes (tOp (rI0 fun i j => .int (i - j)) (tCall sp_law_pick [] E0 (tCons (tVar 0) (tCons (tOp (rI0 fun i j => .int (i + j)) (tVar 2) (tC (.int 1))) tNil))) (tC (.int 9))) [8]) (gName 3))
tNext) tNext)
(tCut (tIfS (tTest (tOp rEq (tVar 4) (tC (.int 4)))) (tSeq (tAsg (tOp (rI0 fun i j => .int (i - j)) (tC (.int 1)) (tOp (rI CMul fun i j => .int (i * j)) (tC (.int 2)) (tCall sp_law_pick [] E0 (tCons (tVar 0) (tCons (tC (.int 2)) tNil))))) (gName 7))
(tSeq (tAsg (tLc (iRng1 (tCons (tVar 2) tNil)) (gName 8) tYes (tOp (rI CDiv fun i j => .int (i / j)) (tOp (rI CMul fun i j => .int (i * j)) (tVar 7) (tVar 8)) (tOp (rI0 fun i j => .int (i + j)) (tC (.int 1)) (tCall sp_law_pick [] E0 (tCons (tVar 0) (tCons (tC (.int 3)) tNil))))) [8]) (gName 3))
tNext)) tNext)
(tSeq (tRet (tCB (rTupOf K) (tCons (tVar 3) tNil))) tNext))))))))
theorem go_law_near_row {K : PySem.W.Frag} {C : Cn} {D : Ends} {E : XK} (p_pool : Addr) (tree_ : (List Int)) (hp0 : TM.isTree tree_ = true) (hR : RetOk C D (rTup rInt) (fun (b : (List Int)) => b.length = tree_.length)) (hPI : C.PI = PIlaw) :
    Go C (t_law_near_row K E) D [.vol p_pool, .val .m (rTup rInt) tree_, .no, .no, .no, .no, .no, .no, .no] := by
  unfold t_law_near_row
  have htl := TM.isTree_len hp0
  refine q_asg (i := 2) (ℓ := .g) ((ev_len (es_tup (ev_var (R := (rTup rInt)) (a := tree_) rfl)))) (fun many1 hmany1 => ?_)
  replace hmany1 : many1 = ((tree_).length : Int) := hmany1
  refine q_asgN (i := 3) (ℓ := .g) (en_list (es_tup (ev_call (vol_law_kin_row (i := 0) rfl hPI (((ev_var (R := (rTup rInt)) (a := tree_) rfl)).toh) (by
        first | omega | assumption | (simp; done) | (constructor <;> omega) | (simp; omega)))))) (fun p4 row3 hrow3 => ?_)
  refine q_asg (i := 4) (ℓ := .g) (ev_call (vol_law_pick (i := 0) rfl hPI (ev_int) (by
        first | omega | assumption | (simp; done) | (constructor <;> omega) | (simp; omega)))) (fun way6 hway6 => ?_)
  replace hway6 : 0 ≤ way6 ∧ way6 < (5 : Int) := hway6
  refine q_forR (j := 5) (σS := (List Int)) (fun s => [.vol p_pool, .val .m (rTup rInt) tree_, .val .g rInt many1, .own p4 .g rInt s, .val .g rInt way6, .no, .no, .no, .no]) (fun (l : List Int) (i : Nat) (s : (List Int)) => (s.length = tree_.length)) row3 (((evp_pick (es_list (ev_new (en_lst (ℓ := .g) (emp_cons (ev_int) (emp_cons (ev_call (vol_law_pick (i := 0) rfl hPI (ev_int) (by
        first | omega | assumption | (simp; done) | (constructor <;> omega) | (simp; omega)))) (emp_cons (ev_call (vol_law_pick (i := 0) rfl hPI ((ev_add (((ev_var (R := rInt) (a := many1) rfl)).toh) (ev_int))) (by
        first | omega | assumption | (simp; done) | (constructor <;> omega) | (simp; omega)))) em_nilP))) (by intro l10 h9; obtain ⟨x15, l16, rfl, hx15, ⟨x13, l14, rfl, hx13, ⟨x11, l12, rfl, hx11, rfl⟩⟩⟩ := h9; simp)))) ((ev_call (vol_law_pick (i := 0) rfl hPI (ev_int) (by
        first | omega | assumption | (simp; done) | (constructor <;> omega) | (simp; omega)))).toh) (by
        intro l18 i19 h20 h21
        obtain ⟨x26, l27, rfl, hx26, ⟨x24, l25, rfl, hx24, ⟨x22, l23, rfl, hx22, rfl⟩⟩⟩ := h20
        obtain h21 := h21
        subst_vars; simp; omega)).toh)) (fun n_ hn_ => (by
        obtain ⟨l30, ⟨x36, l37, rfl, hx36, ⟨x34, l35, rfl, hx34, ⟨x32, l33, rfl, hx32, rfl⟩⟩⟩, hn_⟩ := hn_
        simp only [List.mem_cons, List.not_mem_nil, or_false] at hn_; omega)) (fun n28 hn28 => (by
        show (row3.length = tree_.length)
        first | omega | assumption | (simp; done) | (constructor <;> omega) | (simp; omega))) (LeG.k (LeG.k (LeG.k (LeG.k (LeG.k (LeG.f (LeG.f (LeG.f (LeG.f LeG.nil))))))))) (fun C1 hc1 n28 hn28 i1 x29 s hx29 hI0 => ?_) (fun n28 hn28 s hI0 => ?_)
  · revert s hI0; intro row38 hI0
    replace hI0 : (row38.length = tree_.length) := hI0
    obtain ⟨l39, ⟨x45, l46, rfl, hx45, ⟨x43, l44, rfl, hx43, ⟨x41, l42, rfl, hx41, rfl⟩⟩⟩, hn28⟩ := hn28
    have hmem_ := hn28
    try simp only [List.mem_cons, List.not_mem_nil, or_false] at hn28
    have hR := hR.ex hc1
    have hPI := hc1.pi.trans hPI
    have hx29l := at_lt hx29
    have hx29r := rg_at hx29
    rw [rg_len] at hx29l
    refine q_ifC (ec_tst (ev_gt (((ev_var (R := rInt) (a := many1) rfl)).toh) (ev_int))) (fun h47 => ?_) (fun h47 => ?_)
    · refine q_asg (i := 6) (ℓ := .g) (ev_call (vol_law_pick (i := 0) rfl hPI (((ev_var (R := rInt) (a := many1) rfl)).toh) (by
            first | omega | assumption | (simp; done) | (constructor <;> omega) | (simp; omega)))) (fun at49 hat49 => ?_)
      replace hat49 : 0 ≤ at49 ∧ at49 < many1 := hat49
      refine q_set (i := 3) (p := p4) rfl (evp_add (((ev_ix (es_own (R := rInt) (l := row38) rfl) (((ev_var (R := rInt) (a := at49) rfl)).toh) (by omega))).toh) (evp_mul (evp_sub ((ev_call (vol_law_pick (i := 0) rfl hPI (ev_int) (by
            first | omega | assumption | (simp; done) | (constructor <;> omega) | (simp; omega)))).toh) (ev_int)) ((evp_pick (es_tup (ev_tup (ℓ := .g) (emp_cons (ev_int) (emp_cons (ev_int) (emp_cons (ev_int) (emp_cons ((ev_eqc (ev_pow (ev_int) (ev_int) (by unfold CPow; decide)) (c := 1000000000000000000000000000000000000000000000000000000000) (by decide +kernel))) em_nilP)))) (by intro l52 h51; obtain ⟨x59, l60, rfl, hx59, ⟨x57, l58, rfl, hx57, ⟨x55, l56, rfl, hx55, ⟨x53, l54, rfl, hx53, rfl⟩⟩⟩⟩ := h51; simp))) ((ev_call (vol_law_pick (i := 0) rfl hPI (ev_int) (by
            first | omega | assumption | (simp; done) | (constructor <;> omega) | (simp; omega)))).toh) (by
            intro l62 i63 h64 h65
            obtain ⟨x72, l73, rfl, hx72, ⟨x70, l71, rfl, hx70, ⟨x68, l69, rfl, hx68, ⟨x66, l67, rfl, hx66, rfl⟩⟩⟩⟩ := h64
            obtain h65 := h65
            subst_vars; simp; omega)).toh) (by
            intro x74 y75 h76 h77
            obtain ⟨x78, y79, hx78, hy79, h76⟩ := h76
            obtain ⟨l80, ⟨x88, l89, rfl, hx88, ⟨x86, l87, rfl, hx86, ⟨x84, l85, rfl, hx84, ⟨x82, l83, rfl, hx82, rfl⟩⟩⟩⟩, h77⟩ := h77
            unfold CMul; omega))) (((ev_var (R := rInt) (a := at49) rfl)).toh) (by
            intro n92 h93
            obtain h93 := h93
            first | omega | (subst_vars; omega)) (fun e90 n91 he90 hn91 => ?_)
      obtain ⟨x94, y95, hx94, ⟨x96, y97, ⟨x98, y99, hx98, hy99, hx96⟩, ⟨l100, ⟨x108, l109, rfl, hx108, ⟨x106, l107, rfl, hx106, ⟨x104, l105, rfl, hx104, ⟨x102, l103, rfl, hx102, rfl⟩⟩⟩⟩, hy97⟩, hy95⟩, he90⟩ := he90
      refine q_next (?_ : Go _ tNext _ _)
      refine q_next (hol_in ((row38).set (n91).toNat e90) ?_ (LeG.k (LeG.k (LeG.k (LeG.k (LeG.k (LeG.f (LeG.f (LeG.f (LeG.f LeG.nil))))))))))
      show (((row38).set (n91).toNat e90).length = tree_.length)
      all_goals (first | omega | assumption | (simp; done) | (constructor <;> omega) | (simp; omega))
    · refine q_next (?_ : Go _ tNext _ _)
      refine q_next (hol_in row38 ?_ (LeG.k (LeG.k (LeG.k (LeG.k (LeG.k (LeG.f (LeG.f (LeG.f (LeG.f LeG.nil))))))))))
      show (row38.length = tree_.length)
      all_goals (first | omega | assumption | (simp; done) | (constructor <;> omega) | (simp; omega))
  revert s hI0; intro row110 hI0
  replace hI0 : (row110.length = tree_.length) := hI0
  obtain ⟨l111, ⟨x117, l118, rfl, hx117, ⟨x115, l116, rfl, hx115, ⟨x113, l114, rfl, hx113, rfl⟩⟩⟩, hn28⟩ := hn28
  have hmem_ := hn28
  try simp only [List.mem_cons, List.not_mem_nil, or_false] at hn28
  show Go _ _ _ [.vol p_pool, .val .m (rTup rInt) tree_, .val .g rInt many1, .own p4 .g rInt row110, .val .g rInt way6, .no, .no, .no, .no]
  refine q_cut (S := (List Int) × Addr) (fun s => [.vol p_pool, .val .m (rTup rInt) tree_, .val .g rInt many1, .own s.2 .g rInt s.1, .val .g rInt way6, .no, .no, .no, .no]) (fun s => (s.1.length = tree_.length)) (c_ifC (ec_tst (ev_eqI (((ev_var (R := rInt) (a := way6) rfl)).toh) (ev_int))) (fun h119 => ?_) (fun h119 => ?_)) (fun s h119j => ?_)
  · refine q_asgN (i := 3) (ℓ := .g) (en_lcd (ℓ' := .g) (ei_rg1d (b := false) (ℓ := .g) (((ev_var (R := rInt) (a := many1) rfl)).toh) (by first | omega | assumption | (simp; done) | (constructor <;> omega) | (simp; omega))) (by rw [rg_len]; omega) (fun c120 hc121 => by
            have hc121_ := rg_mem.mp hc121
            exact (ev_call (vol_law_pick (i := 0) rfl hPI (ev_int) (by
                      first | omega | assumption | (simp; done) | (constructor <;> omega) | (simp; omega)))))) (fun p125 row124 hrow124 => ?_)
    obtain ⟨hrow124_len, hrow124_at⟩ := hrow124
    refine q_next (hol_in (row124, p125) ?_ (LeG.k (LeG.k (LeG.k (LeG.k (LeG.k (LeG.f (LeG.f (LeG.f (LeG.f LeG.nil))))))))))
    show (row124.length = tree_.length)
    first | omega | (simp only [rg_len] at *; omega)
  · refine q_next (hol_in (row110, p4) ?_ (LeG.k (LeG.k (LeG.k (LeG.k (LeG.k (LeG.f (LeG.f (LeG.f (LeG.f LeG.nil))))))))))
    show (row110.length = tree_.length)
    first | omega | (simp only [rg_len] at *; omega)
  obtain ⟨row126, row127⟩ := s
  replace h119j : (row126.length = tree_.length) := h119j
  refine q_cut (S := (List Int) × Addr) (fun s => [.vol p_pool, .val .m (rTup rInt) tree_, .val .g rInt many1, .own s.2 .g rInt s.1, .val .g rInt way6, .no, .no, .no, .no]) (fun s => (s.1.length = tree_.length)) (c_ifC (ec_tst (ev_eqI (((ev_var (R := rInt) (a := way6) rfl)).toh) (ev_int))) (fun h128 => ?_) (fun h128 => ?_)) (fun s h128j => ?_)
  · refine q_asgN (i := 3) (ℓ := .g) (en_lcd (ℓ' := .g) (ei_rg1d (b := false) (ℓ := .g) (((ev_var (R := rInt) (a := many1) rfl)).toh) (by first | omega | assumption | (simp; done) | (constructor <;> omega) | (simp; omega))) (by rw [rg_len]; omega) (fun c129 hc130 => by
            have hc130_ := rg_mem.mp hc130
            exact (evp_sub ((ev_call (vol_law_pick (i := 0) rfl hPI ((ev_add (((ev_var (R := rInt) (a := many1) rfl)).toh) (ev_int))) (by
                      first | omega | assumption | (simp; done) | (constructor <;> omega) | (simp; omega)))).toh) (ev_int)))) (fun p134 row133 hrow133 => ?_)
    obtain ⟨hrow133_len, hrow133_at⟩ := hrow133
    refine q_next (hol_in (row133, p134) ?_ (LeG.k (LeG.k (LeG.k (LeG.k (LeG.k (LeG.f (LeG.f (LeG.f (LeG.f LeG.nil))))))))))
    show (row133.length = tree_.length)
    first | omega | (simp only [rg_len] at *; omega)
  · refine q_next (hol_in (row126, row127) ?_ (LeG.k (LeG.k (LeG.k (LeG.k (LeG.k (LeG.f (LeG.f (LeG.f (LeG.f LeG.nil))))))))))
    show (row126.length = tree_.length)
    first | omega | (simp only [rg_len] at *; omega)
  obtain ⟨row135, row136⟩ := s
  replace h128j : (row135.length = tree_.length) := h128j
  refine q_cut (S := (List Int) × Addr) (fun s => [.vol p_pool, .val .m (rTup rInt) tree_, .val .g rInt many1, .own s.2 .g rInt s.1, .val .g rInt way6, .no, .no, .no, .no]) (fun s => (s.1.length = tree_.length)) (c_ifC (ec_tst (ev_eqI (((ev_var (R := rInt) (a := way6) rfl)).toh) (ev_int))) (fun h137 => ?_) (fun h137 => ?_)) (fun s h137j => ?_)
  · refine q_asg (i := 7) (ℓ := .g) (evp_sub (ev_int) (evp_mul (ev_int) ((ev_call (vol_law_pick (i := 0) rfl hPI (ev_int) (by
          first | omega | assumption | (simp; done) | (constructor <;> omega) | (simp; omega)))).toh) (by
          intro x139 y140 h141 h142
          obtain h141 := h141
          obtain h142 := h142
          left; subst_vars; decide))) (fun turned143 hturned143 => ?_)
    obtain ⟨x144, y145, hx144, ⟨x146, y147, hx146, hy147, hy145⟩, hturned143⟩ := hturned143
    refine q_asgN (i := 3) (ℓ := .g) (en_lcd (ℓ' := .g) (ei_rg1d (b := false) (ℓ := .g) (((ev_var (R := rInt) (a := many1) rfl)).toh) (by first | omega | assumption | (simp; done) | (constructor <;> omega) | (simp; omega))) (by rw [rg_len]; omega) (fun c148 hc149 => by
            have hc149_ := rg_mem.mp hc149
            exact (evp_fdiv ((ev_mul (((ev_var (R := rInt) (a := turned143) rfl)).toh) (((ev_var (R := rInt) (a := c148) rfl)).toh) (by unfold CMul; omega))) (evp_add (ev_int) ((ev_call (vol_law_pick (i := 0) rfl hPI (ev_int) (by
                      first | omega | assumption | (simp; done) | (constructor <;> omega) | (simp; omega)))).toh)) (by
                      intro x152 y153 h154 h155
                      obtain h154 := h154
                      obtain ⟨x156, y157, hx156, hy157, h155⟩ := h155
                      unfold CDiv; omega)))) (fun p159 row158 hrow158 => ?_)
    obtain ⟨hrow158_len, hrow158_at⟩ := hrow158
    refine q_next (hol_in (row158, p159) ?_ (LeG.k (LeG.k (LeG.k (LeG.k (LeG.k (LeG.f (LeG.f (LeG.f (LeG.f LeG.nil))))))))))
    show (row158.length = tree_.length)
    first | omega | (simp only [rg_len] at *; omega)
  · refine q_next (hol_in (row135, row136) ?_ (LeG.k (LeG.k (LeG.k (LeG.k (LeG.k (LeG.f (LeG.f (LeG.f (LeG.f LeG.nil))))))))))
    show (row135.length = tree_.length)
    first | omega | (simp only [rg_len] at *; omega)
  obtain ⟨row160, row161⟩ := s
  replace h137j : (row160.length = tree_.length) := h137j
  refine q_ret ((ev_tupL (ℓ := .g) (es_own (R := rInt) (l := row160) rfl))) hR (fun r162 hr162 => ?_)
  replace hr162 : r162 = row160 := hr162
  show r162.length = tree_.length
  (try rw [hr162])
  omega
abbrev s_law_near_row : Stmt := topS 35
theorem sc_law_near_row : FnScope ["pool", "tree", "many", "row", "way", "turn", "at", "turned", "place"] ["pool", "tree"] (defScope s_law_near_row) := ⟨rfl, rfl, rfl, by decide +kernel, rfl, by decide +kernel, by decide +kernel⟩
theorem ok_law_near_row {P : Program} {w : PySem.World} {K : PySem.W.Frag} {mg : Str → Option Value} {base : Heap} {f : Addr} {fd : FuncData} (F : Fun K "_law_near_row" "_law_near_row" s_law_near_row f fd) {f_law_kin_row : Addr} {d_law_kin_row : FuncData} (c_law_kin_row : Cal P w K mg base CX0 2 "_law_kin_row" ["pool", "tree"] sp_law_kin_row f_law_kin_row d_law_kin_row) {f_law_pick : Addr} {d_law_pick : FuncData} (c_law_pick : Cal P w K mg base CX0 1 "_law_pick" ["pool", "many"] sp_law_pick f_law_pick d_law_pick) (m_len : mg "len" = none) (m_list : mg "list" = none) (m_range : mg "range" = none) (m_tuple : mg "tuple" = none) : FnOk P w K mg base CX0 3 f fd ["pool", "tree"] sp_law_near_row := by
  have sc := sc_law_near_row
  refine F.ok sc (fun vs H Q E h => ?_) (fun cdv A outer s H vs Q E hr h => ?_)
  · obtain ⟨p_, r_, a_, o_, rfl, _, _, h1_, _⟩ := h
    obtain ⟨v1, _, rfl, _ha1, rfl⟩ := h1_
    rfl
  · obtain ⟨p_pool, r_, ⟨tree_, _⟩, rfl, bk_, ⟨v1, _, rfl, ha1, rfl⟩, hp0, hR⟩ := spV_open (n := fun _ H' => Q .non H') h
    refine ⟨t_law_near_row K E, ?_, go_law_near_row (C := (CnV H p_pool PIlaw)) p_pool tree_ hp0 hR rfl _ (W0 H [p_pool]) (world_of bk_ ⟨⟨rfl, List.mem_singleton.mpr rfl, fun ⟨_, z⟩ => by cases z⟩, ⟨⟨by decide, v1, rfl, (rTup rInt).mono (mwV H p_pool PIlaw) ha1⟩, ⟨trivial, ⟨trivial, ⟨trivial, ⟨trivial, ⟨trivial, ⟨trivial, ⟨trivial, trivial⟩⟩⟩⟩⟩⟩⟩⟩⟩ rfl)⟩
    unfold t_law_near_row
    exact (pss_cons (ps_set (i := 2) sc.nd rfl (Or.inr rfl) (pe_callB call_len_seq (by rfl) m_len bt_len (pa_cons (pv 1) pa_nil)))
(pss_cons (ps_set (i := 3) sc.nd rfl (Or.inl rfl) (pe_callTy call_list_of (by rfl) m_list bt_list (pa_cons (pe_call c_law_kin_row.ok (hr.mono (by decide)) (by rfl) c_law_kin_row.g c_law_kin_row.kp c_law_kin_row.b .nil pass0 (pa_cons (pv 0) (pa_cons (pv 1) pa_nil))) pa_nil)))
(pss_cons (ps_set (i := 4) sc.nd rfl (Or.inl rfl) (pe_call c_law_pick.ok (hr.mono (by decide)) (by rfl) c_law_pick.g c_law_pick.kp c_law_pick.b .nil pass0 (pa_cons (pv 0) (pa_cons pe_int pa_nil))))
(pss_cons (ps_for PassesOwn.never rfl (pi_range1 rfl m_range (pa_cons (pe_ix ix_list (pe_lst (pa_cons pe_int (pa_cons (pe_call c_law_pick.ok (hr.mono (by decide)) (by rfl) c_law_pick.g c_law_pick.kp c_law_pick.b .nil pass0 (pa_cons (pv 0) (pa_cons pe_int pa_nil))) (pa_cons (pe_call c_law_pick.ok (hr.mono (by decide)) (by rfl) c_law_pick.g c_law_pick.kp c_law_pick.b .nil pass0 (pa_cons (pv 0) (pa_cons (pe_op op_add (pv 2) pe_int) pa_nil))) pa_nil)))) (pe_call c_law_pick.ok (hr.mono (by decide)) (by rfl) c_law_pick.g c_law_pick.kp c_law_pick.b .nil pass0 (pa_cons (pv 0) (pa_cons pe_int pa_nil))) (fun _ _ => rfl)) pa_nil)) (pg_name (i := 5) sc.nd rfl (Or.inl rfl))
(pss_cons (ps_if (pt_cmpR op_gt (pv 2) pe_int (nomark _)) (pss_cons (ps_set (i := 6) sc.nd rfl (Or.inl rfl) (pe_call c_law_pick.ok (hr.mono (by decide)) (by rfl) c_law_pick.g c_law_pick.kp c_law_pick.b .nil pass0 (pa_cons (pv 0) (pa_cons (pv 2) pa_nil))))
(pss_cons (ps_asg (pe_op op_add (pe_ix ix_list (pv 3) (pv 6) (fun _ _ => rfl)) (pe_op op_mul (pe_op op_sub (pe_call c_law_pick.ok (hr.mono (by decide)) (by rfl) c_law_pick.g c_law_pick.kp c_law_pick.b .nil pass0 (pa_cons (pv 0) (pa_cons pe_int pa_nil))) pe_int) (pe_ix ix_tup (pe_tup (pa_cons pe_int (pa_cons pe_int (pa_cons pe_int (pa_cons (pe_op op_pow pe_int pe_int) pa_nil))))) (pe_call c_law_pick.ok (hr.mono (by decide)) (by rfl) c_law_pick.g c_law_pick.kp c_law_pick.b .nil pass0 (pa_cons (pv 0) (pa_cons pe_int pa_nil))) (fun _ _ => rfl)))) (pg_sub (pv 3) (pv 6) set_list))
pss_nil)) pss_nil)
pss_nil))
(pss_cut (ps_if (pt_cmpR op_eq (pv 4) pe_int (nomark _)) (pss_cons (ps_setLc (i := 3) (own := [("place", 8)]) (g := (gName 8)) rfl sc.nd rfl rfl (sw_true rfl rfl rfl (by decide +kernel)) (pi_range1 rfl m_range (pa_cons (pv 2) pa_nil)) (blkOk_by (own := [("place", 8)]) (N := ["pool", "tree", "many", "row", "way", "turn", "at", "turned", "place"]) (sc := defScope s_law_near_row) (by decide +kernel)) (fun _ _ _ _ _ => pg_name (i := 8) sc.nd rfl (Or.inl rfl)) (fun _ _ _ _ _ => pts_nil) (fun _ _ _ _ _ => (pe_call c_law_pick.ok (hr.mono (by decide)) (by rfl) c_law_pick.g c_law_pick.kp c_law_pick.b .nil pass0 (pa_cons (pv 0) (pa_cons pe_int pa_nil)))))
pss_nil) pss_nil)
(pss_cut (ps_if (pt_cmpR op_eq (pv 4) pe_int (nomark _)) (pss_cons (ps_setLc (i := 3) (own := [("place", 8)]) (g := (gName 8)) rfl sc.nd rfl rfl (sw_true rfl rfl rfl (by decide +kernel)) (pi_range1 rfl m_range (pa_cons (pv 2) pa_nil)) (blkOk_by (own := [("place", 8)]) (N := ["pool", "tree", "many", "row", "way", "turn", "at", "turned", "place"]) (sc := defScope s_law_near_row) (by decide +kernel)) (fun _ _ _ _ _ => pg_name (i := 8) sc.nd rfl (Or.inl rfl)) (fun _ _ _ _ _ => pts_nil) (fun _ _ _ _ _ => (pe_op op_sub (pe_call c_law_pick.ok (hr.mono (by decide)) (by rfl) c_law_pick.g c_law_pick.kp c_law_pick.b .nil pass0 (pa_cons (pv 0) (pa_cons (pe_op op_add (pv 2) pe_int) pa_nil))) pe_int)))
pss_nil) pss_nil)
(pss_cut (ps_if (pt_cmpR op_eq (pv 4) pe_int (nomark _)) (pss_cons (ps_set (i := 7) sc.nd rfl (Or.inr rfl) (pe_op op_sub pe_int (pe_op op_mul pe_int (pe_call c_law_pick.ok (hr.mono (by decide)) (by rfl) c_law_pick.g c_law_pick.kp c_law_pick.b .nil pass0 (pa_cons (pv 0) (pa_cons pe_int pa_nil))))))
(pss_cons (ps_setLc (i := 3) (own := [("place", 8)]) (g := (gName 8)) rfl sc.nd rfl rfl (sw_true rfl rfl rfl (by decide +kernel)) (pi_range1 rfl m_range (pa_cons (pv 2) pa_nil)) (blkOk_by (own := [("place", 8)]) (N := ["pool", "tree", "many", "row", "way", "turn", "at", "turned", "place"]) (sc := defScope s_law_near_row) (by decide +kernel)) (fun _ _ _ _ _ => pg_name (i := 8) sc.nd rfl (Or.inl rfl)) (fun _ _ _ _ _ => pts_nil) (fun _ _ _ _ _ => (pe_op op_fdiv (pe_op op_mul (pv 7) (pv 8)) (pe_op op_add pe_int (pe_call c_law_pick.ok (hr.mono (by decide)) (by rfl) c_law_pick.g c_law_pick.kp c_law_pick.b .nil pass0 (pa_cons (pv 0) (pa_cons pe_int pa_nil)))))))
pss_nil)) pss_nil)
(pss_cons (ps_ret (pe_callTy call_tuple_of (by rfl) m_tuple bt_tuple (pa_cons (pv 3) pa_nil))) pss_nil))))))))
def sp_way_up : Sp := spF (aCons (rSeq rInt) (aCons rInt aNil)) (fun (a : (List Int) × Int × Unit) => (0 ≤ a.2.1 ∧ a.2.1 < a.1.length) ∧ (a.1.length ≤ 100000)) (rOpt (rList rInt)) (fun (a : (List Int) × Int × Unit) b => b = TM.up a.1 a.1.length (gt a.1 a.2.1)) (fun _ _ => False)
theorem call_way_up {C : Cn} {Γ : List Ent} {E : XK} {t1 : TE} {t2 : TE} {a1 : (List Int)} {a2 : Int} (h1 : Ev C t1 Γ .h (rSeq rInt) a1) (h2 : Ev C t2 Γ .h rInt a2) (hp0 : 0 ≤ a2 ∧ a2 < a1.length) (hp1 : a1.length ≤ 100000) : EvX C (tCall (sp_way_up) [] E (tCons t1 (tCons t2 tNil))) Γ (ResF C (rOpt (rList rInt)) (fun b => b = TM.up a1 a1.length (gt a1 a2))) := ed_call2 h1 h2 ⟨hp0, hp1⟩ exc0 (fun _ z => z)
theorem callx_way_up {C : Cn} {Γ : List Ent} {E : XK} {t1 : TE} {t2 : TE} {P1 : (List Int) → Prop} {P2 : Int → Prop} (h1 : EvP C t1 Γ .h (rSeq rInt) P1) (h2 : EvP C t2 Γ .h rInt P2) (hp0 : ∀ a1 a2, P1 a1 → P2 a2 → (0 ≤ a2 ∧ a2 < a1.length)) (hp1 : ∀ a1 a2, P1 a1 → P2 a2 → (a1.length ≤ 100000)) : EvX C (tCall (sp_way_up) [] E (tCons t1 (tCons t2 tNil))) Γ (ResF C (rOpt (rList rInt)) (fun b => ∃ a1 a2, P1 a1 ∧ P2 a2 ∧ (b = TM.up a1 a1.length (gt a1 a2)))) := ex_call2 h1 h2 (fun a1 a2 _p1 _p2 => ⟨hp0 a1 a2 _p1 _p2, hp1 a1 a2 _p1 _p2⟩) exc0 (fun a1 a2 _p1 _p2 => fun _ z => z)
def t_way_up (K : PySem.W.Frag) (E : XK) : TS :=
(tSeq (tAsg (tLst tNil) (gName 2))
(tSeq (tAsg (tOp (rIxK K .e) (tVar 0) (tVar 1)) (gName 3))
(tSeq (tWhile (tTest (tOp rNe (tVar 3) (tUn (rU fun i => .int (-i)) (tC (.int 1)))))
(tSeq (tIfS (tOr (tTest (tOp (rI0 fun i j => .bl (decide (i < j))) (tVar 3) (tC (.int 0)))) (tOr (tTest (tOp (rI0 fun i j => .bl (decide (j ≤ i))) (tVar 3) (tCB (rLenS K) (tCons (tVar 0) tNil)))) (tTest (tOp rEq (tCB (rLenS K) (tCons (tVar 2) tNil)) (tCB (rLenS K) (tCons (tVar 0) tNil)))))) (tSeq (tRet (tC .non)) tNext) tNext)
(tSeq (tDrop (tBM K "list" rAppend (tVar 2) (tCons (tVar 3) tNil)))
(tSeq (tAsg (tOp (rIxK K .e) (tVar 0) (tVar 3)) (gName 3))
tNext))))
(tSeq (tRet (tVar 2)) tNext))))
theorem go_way_up {K : PySem.W.Frag} {C : Cn} {D : Ends} {E : XK} (tree_ : (List Int)) (place_ : Int) (hp0 : 0 ≤ place_ ∧ place_ < tree_.length) (hp1 : tree_.length ≤ 100000) (hR : RetOk C D (rOpt (rList rInt)) (fun b => b = TM.up tree_ tree_.length (gt tree_ place_))) :
    Go C (t_way_up K E) D [.val .m (rSeq rInt) tree_, .val .m rInt place_, .no, .no] := by
  unfold t_way_up
  refine q_asgN (i := 2) (ℓ := .g) (en_lstd (ℓ := .g) (R := rInt) em_nil) (fun p2 found1 hfound1 => ?_)
  subst hfound1
  refine q_asg (i := 3) (ℓ := .g) (((ev_ix (es_seq (ev_var (R := (rSeq rInt)) (a := tree_) rfl)) (((ev_var (R := rInt) (a := place_) rfl)).toh) (by first | omega | assumption | (simp; done) | (constructor <;> omega) | (simp; omega)))).fl fl_int) (fun here3 hhere3 => ?_)
  replace hhere3 : here3 = (gt tree_ place_) := hhere3
  refine q_while (S := (List Int) × Int) (fun s => [.val .m (rSeq rInt) tree_, .val .m rInt place_, .own p2 .g rInt s.1, .val .g rInt s.2]) (fun (s : (List Int) × Int) => (s.1.length ≤ tree_.length) ∧ (TM.up tree_ tree_.length (gt tree_ place_) = (TM.up tree_ (tree_.length - s.1.length) s.2).map (s.1 ++ ·))) (fun (s : (List Int) × Int) => tree_.length - s.1.length) (fun (s : (List Int) × Int) => (¬ s.2 = (-(1 : Int)))) (([] : List Int), here3) (by
        show (([] : List Int).length ≤ tree_.length) ∧ (TM.up tree_ tree_.length (gt tree_ place_) = (TM.up tree_ (tree_.length - ([] : List Int).length) here3).map (([] : List Int) ++ ·))
        refine ⟨Nat.zero_le _, ?_⟩
        rw [hhere3]; exact (TM.map_nil_app _).symm) (LeG.k (LeG.k (LeG.k (LeG.k LeG.nil)))) (fun s hI0 => ?_) (fun s hI0 hw => ?_) (fun s hI0 hw => ?_)
  · obtain ⟨found4, here5⟩ := s
    replace hI0 : (found4.length ≤ tree_.length) ∧ (TM.up tree_ tree_.length (gt tree_ place_) = (TM.up tree_ (tree_.length - found4.length) here5).map (found4 ++ ·)) := hI0
    obtain ⟨hI0_0, hI0_1⟩ := hI0
    exact (ec_tstN (ev_neI (((ev_var (R := rInt) (a := here5) rfl)).toh) ((ev_neg (ev_int)))))
  · obtain ⟨found6, here7⟩ := s
    replace hI0 : (found6.length ≤ tree_.length) ∧ (TM.up tree_ tree_.length (gt tree_ place_) = (TM.up tree_ (tree_.length - found6.length) here7).map (found6 ++ ·)) := hI0
    obtain ⟨hI0_0, hI0_1⟩ := hI0
    replace hw : (¬ here7 = (-(1 : Int))) := hw
    show Go _ _ _ [.val .m (rSeq rInt) tree_, .val .m rInt place_, .own p2 .g rInt found6, .val .g rInt here7]
    refine q_ifT (ec_or (ec_tst (ev_lt (((ev_var (R := rInt) (a := here7) rfl)).toh) (ev_int))) (fun hb8 => (ec_or (ec_tst (ev_ge (((ev_var (R := rInt) (a := here7) rfl)).toh) ((ev_len (es_seq (ev_var (R := (rSeq rInt)) (a := tree_) rfl)))))) (fun hb9 => (ec_tst (ev_eqI ((ev_len (es_own (R := rInt) (l := found6) rfl))) ((ev_len (es_seq (ev_var (R := (rSeq rInt)) (a := tree_) rfl)))))))))) (fun h11 => ?_) (fun h11 => ?_)
    · refine q_ret ((ev_non (R := (rList rInt)))) hR (fun r12 hr12 => ?_)
      replace hr12 : r12 = none := hr12
      show r12 = TM.up tree_ tree_.length (gt tree_ place_)
      rw [hr12]
      rw [hI0_1, TM.up_none hw (by omega)]; rfl
    refine q_app (i := 2) (p := p2) rfl ((ev_var (R := rInt) (a := here7) rfl)) (by omega) (fun e13 he13 => ?_)
    replace he13 : e13 = here7 := he13
    rw [he13]; clear he13 e13
    refine q_asg (i := 3) (ℓ := .g) (((ev_ix (es_seq (ev_var (R := (rSeq rInt)) (a := tree_) rfl)) (((ev_var (R := rInt) (a := here7) rfl)).toh) (by omega))).fl fl_int) (fun here14 hhere14 => ?_)
    replace hhere14 : here14 = (gt tree_ here7) := hhere14
    refine q_next (hol_in ((found6 ++ [here7]), here14) ?_ (LeG.k (LeG.k (LeG.k (LeG.k LeG.nil)))))
    show (((found6 ++ [here7]).length ≤ tree_.length) ∧ (TM.up tree_ tree_.length (gt tree_ place_) = (TM.up tree_ (tree_.length - (found6 ++ [here7]).length) here14).map ((found6 ++ [here7]) ++ ·))) ∧ tree_.length - (found6 ++ [here7]).length < tree_.length - found6.length
    rw [hhere14]
    refine ⟨⟨by simp; omega, ?_⟩, by simp; omega⟩
    exact TM.way_step hI0_0 hI0_1 hw (by omega)
  obtain ⟨found15, here16⟩ := s
  replace hI0 : (found15.length ≤ tree_.length) ∧ (TM.up tree_ tree_.length (gt tree_ place_) = (TM.up tree_ (tree_.length - found15.length) here16).map (found15 ++ ·)) := hI0
  obtain ⟨hI0_0, hI0_1⟩ := hI0
  replace hw : ¬ (¬ here16 = (-(1 : Int))) := hw
  show Go _ _ _ [.val .m (rSeq rInt) tree_, .val .m rInt place_, .own p2 .g rInt found15, .val .g rInt here16]
  refine q_frz (i := 2) (p := p2) rfl ?_
  refine q_ret ((ev_some (ev_var (R := (rList rInt)) (a := found15) rfl) nn_list)) hR (fun r17 hr17 => ?_)
  replace hr17 : r17 = (some found15) := hr17
  show r17 = TM.up tree_ tree_.length (gt tree_ place_)
  rw [hr17]
  rw [hI0_1, show here16 = -1 from Classical.not_not.mp hw, TM.up_top]; simp
abbrev s_way_up : Stmt := topS 7
theorem sc_way_up : FnScope ["tree", "place", "found", "here"] ["tree", "place"] (defScope s_way_up) := ⟨rfl, rfl, rfl, by decide +kernel, rfl, by decide +kernel, by decide +kernel⟩
theorem ok_way_up {P : Program} {w : PySem.World} {K : PySem.W.Frag} {mg : Str → Option Value} {base : Heap} {f : Addr} {fd : FuncData} (F : Fun K "way_up" "way_up" s_way_up f fd) (m_len : mg "len" = none) : FnOk P w K mg base CX0 1 f fd ["tree", "place"] sp_way_up := by
  have sc := sc_way_up
  refine F.ok sc (fun vs H Q E h => ?_) (fun cdv A outer s H vs Q E hr h => ?_)
  · obtain ⟨a_, ha_, _⟩ := h
    obtain ⟨v1, _, rfl, _ha1, ⟨v2, _, rfl, _ha2, rfl⟩⟩ := ha_
    rfl
  · obtain ⟨⟨tree_, place_, _⟩, ⟨v1, _, rfl, ha1, ⟨v2, _, rfl, ha2, rfl⟩⟩, ⟨hp0, hp1⟩, hR, hE⟩ := spF_open PIlaw (n := fun _ H' => Q .non H') h
    refine ⟨t_way_up K E, ?_, go_way_up (C := (Cn0 PIlaw H)) tree_ place_ hp0 hp1 hR _ (W0 H []) (world_of (bok0 (PI := PIlaw) H) ⟨⟨by decide, v1, rfl, (rSeq rInt).mono (mw0 (PI := PIlaw) H) ha1⟩, ⟨⟨by decide, v2, rfl, rInt.mono (mw0 (PI := PIlaw) H) ha2⟩, ⟨trivial, ⟨trivial, trivial⟩⟩⟩⟩ rfl)⟩
    unfold t_way_up
    exact (pss_cons (ps_set (i := 2) sc.nd rfl (Or.inl rfl) (pe_lst pa_nil))
(pss_cons (ps_set (i := 3) sc.nd rfl (Or.inl rfl) (pe_ix ix_seq (pv 0) (pv 1) (fun _ _ => rfl)))
(pss_cons (ps_while PassesOwn.never (pt_cmpR op_ne (pv 3) (pe_un un_neg pe_int) (nomark _))
(pss_cons (ps_if (PW.pt (pw_or (pt_cmpR op_lt (pv 3) pe_int (nomark _)) (pw_or (pt_cmpR op_ge (pv 3) (pe_callB call_len_seq (by rfl) m_len bt_len (pa_cons (pv 0) pa_nil)) (nomark _)) (pw_or1 (pt_cmpR op_eq (pe_callB call_len_seq (by rfl) m_len bt_len (pa_cons (pv 2) pa_nil)) (pe_callB call_len_seq (by rfl) m_len bt_len (pa_cons (pv 0) pa_nil)) (nomark _)))))) (pss_cons (ps_ret pe_non) pss_nil) pss_nil)
(pss_cons (ps_expr (pe_bm PySem.F.plainAttrs_list PySem.F.slot_list_append PySem.F.type_list_append mt_append (pv 2) (pa_cons (pv 3) pa_nil)))
(pss_cons (ps_set (i := 3) sc.nd rfl (Or.inl rfl) (pe_ix ix_seq (pv 0) (pv 3) (fun _ _ => rfl)))
pss_nil))))
(pss_cons (ps_ret (pv 2)) pss_nil))))
def sp_flat_numbers : Sp := spF (aCons (rSeq rInt) aNil) (fun (a : (List Int) × Unit) => (a.1.length ≤ 100000)) (rOpt (rList rInt)) (fun (a : (List Int) × Unit) b => b = TM.flatN a.1) (fun _ _ => False)
theorem call_flat_numbers {C : Cn} {Γ : List Ent} {E : XK} {t1 : TE} {a1 : (List Int)} (h1 : Ev C t1 Γ .h (rSeq rInt) a1) (hp0 : a1.length ≤ 100000) : EvX C (tCall (sp_flat_numbers) [] E (tCons t1 tNil)) Γ (ResF C (rOpt (rList rInt)) (fun b => b = TM.flatN a1)) := ed_call1 h1 hp0 exc0 (fun _ z => z)
theorem callx_flat_numbers {C : Cn} {Γ : List Ent} {E : XK} {t1 : TE} {P1 : (List Int) → Prop} (h1 : EvP C t1 Γ .h (rSeq rInt) P1) (hp0 : ∀ a1, P1 a1 → (a1.length ≤ 100000)) : EvX C (tCall (sp_flat_numbers) [] E (tCons t1 tNil)) Γ (ResF C (rOpt (rList rInt)) (fun b => ∃ a1, P1 a1 ∧ (b = TM.flatN a1))) := ex_call1 h1 (fun a1 _p1 => hp0 a1 _p1) exc0 (fun a1 _p1 => fun _ z => z)
def t_flat_numbers (K : PySem.W.Frag) (E : XK) : TS :=
(tSeq (tAsg (tLst tNil) (gName 1))
(tSeq (tFor (iRng1 (tCons (tCB (rLenS K) (tCons (tVar 0) tNil)) tNil)) (gName 2)
(tSeq (tAsg (tCall sp_way_up [] E0 (tCons (tVar 0) (tCons (tVar 2) tNil))) (gName 3))
(tSeq (tIfS (tTest (tOp (fun x y H Q => y = .non ∧ Q (.bl (decide (x = .non))) H) (tVar 3) (tC .non))) (tSeq (tRet (tC .non)) tNext) tNext)
(tSeq (tDrop (tBM K "list" rAppend (tVar 1) (tCons (tCB (rLenS K) (tCons (tLc (iList K (tVar 3)) (gName 4) (tTest (tOp (rI0 fun i j => .bl (decide (j < i))) (tVar 4) (tVar 2))) (tVar 4) [4]) tNil)) tNil)))
tNext))))
(tSeq (tRet (tVar 1)) tNext)))
theorem go_flat_numbers {K : PySem.W.Frag} {C : Cn} {D : Ends} {E : XK} (tree_ : (List Int)) (hp0 : tree_.length ≤ 100000) (hR : RetOk C D (rOpt (rList rInt)) (fun b => b = TM.flatN tree_)) :
    Go C (t_flat_numbers K E) D [.val .m (rSeq rInt) tree_, .no, .no, .no, .no] := by
  unfold t_flat_numbers
  refine q_asgN (i := 1) (ℓ := .g) (en_lstd (ℓ := .g) (R := rInt) em_nil) (fun p2 numbers1 hnumbers1 => ?_)
  subst hnumbers1
  refine q_forD (j := 2) (σS := (List Int)) (fun s => [.val .m (rSeq rInt) tree_, .own p2 .g rInt s, .no, .no, .no]) (fun (i : Nat) (s : (List Int)) => (s.length = i) ∧ (∀ p : Nat, p < i → TM.flatAt tree_ p = some (TM.nb s p))) ([] : List Int) (ei_rg1d (b := true) (ℓ := .g) ((ev_len (es_seq (ev_var (R := (rSeq rInt)) (a := tree_) rfl)))) (by first | omega | assumption | (simp; done) | (constructor <;> omega) | (simp; omega))) (by
        show (([] : List Int).length = 0) ∧ (∀ p : Nat, p < 0 → TM.flatAt tree_ p = some (TM.nb ([] : List Int) p))
        exact ⟨rfl, fun p hp => absurd hp (by omega)⟩) (LeG.k (LeG.k (LeG.f (LeG.f (LeG.f LeG.nil))))) (fun C1 hc1 i1 x3 s hx3 hI0 => ?_) (fun s hI0 => ?_)
  · revert s hI0; intro numbers4 hI0
    replace hI0 : (numbers4.length = i1) ∧ (∀ p : Nat, p < i1 → TM.flatAt tree_ p = some (TM.nb numbers4 p)) := hI0
    obtain ⟨hI0_0, hI0_1⟩ := hI0
    have hR := hR.ex hc1
    have hx3l := at_lt hx3
    have hx3r := rg_at hx3
    rw [rg_len] at hx3l
    refine q_asg (i := 3) (ℓ := .g) ((ev_call (call_way_up (((ev_var (R := (rSeq rInt)) (a := tree_) rfl)).toh) (((ev_var (R := rInt) (a := x3) rfl)).toh) (by first | omega | assumption | (simp; done) | (constructor <;> omega) | (simp; omega)) (by first | omega | assumption | (simp; done) | (constructor <;> omega) | (simp; omega))))) (fun way5 hway5 => ?_)
    replace hway5 : way5 = (TM.up tree_ tree_.length (gt tree_ x3)) := hway5
    refine q_ifT (ec_isN (ev_var (R := (rOpt (rList rInt))) (a := way5) rfl)) (fun h6 => ?_) (fun h6 => ?_)
    · refine q_ret ((ev_non (R := (rList rInt)))) hR (fun r7 hr7 => ?_)
      replace hr7 : r7 = none := hr7
      show r7 = TM.flatN tree_
      rw [hr7]
      exact (TM.flatN_none' hx3 (by rw [← hway5]; assumption)).symm
    obtain ⟨g8, hg8⟩ : ∃ x, way5 = some x := some_of (by first | assumption | (intro z; simp_all))
    refine q_app (i := 1) (p := p2) rfl ((ev_len (es_list (ev_new (ℓ := .g) (EvN.imp (en_filtd (ℓ' := .g) (fun c9 : Int => (x3 < c9)) (fun c9 : Int => c9) (ei_list (b := false) (hc := (by intro h; exact absurd h (by decide))) (hl := (by intro h; exact absurd h (by decide))) (es_list (ev_the (ev_var (R := (rOpt (rList rInt))) (a := way5) rfl) hg8))) (by have := TM.up_len _ _ _ _ (hway5.symm.trans (by assumption)); omega) (fun c9 hc10 => (ec_tst (ev_gt (((ev_var (R := rInt) (a := c9) rfl)).toh) (((ev_var (R := rInt) (a := x3) rfl)).toh)))) (fun c9 hc10 hp11 => (ev_var (R := rInt) (a := c9) rfl))) (fun _ e => e.trans (List.map_id' _))))))) (by first | omega | assumption | (simp; done) | (constructor <;> omega) | (simp; omega)) (fun e12 he12 => ?_)
    replace he12 : e12 = (((g8.filter (fun c9 : Int => decide (x3 < c9)))).length : Int) := he12
    rw [he12]; clear he12 e12
    refine q_next (hol_in (numbers4 ++ [(((g8.filter (fun c9 : Int => decide (x3 < c9)))).length : Int)]) ?_ (LeG.k (LeG.k (LeG.f (LeG.f (LeG.f LeG.nil))))))
    show ((numbers4 ++ [(((g8.filter (fun c9 : Int => decide (x3 < c9)))).length : Int)]).length = (i1 + 1)) ∧ (∀ p : Nat, p < (i1 + 1) → TM.flatAt tree_ p = some (TM.nb (numbers4 ++ [(((g8.filter (fun c9 : Int => decide (x3 < c9)))).length : Int)]) p))
    refine TM.flat_step hI0_0 hI0_1 ?_
    rw [TM.flatAt_eq (rg_at hx3).1, ← hway5, show way5 = some _ by assumption]; rfl
  revert s hI0; intro numbers13 hI0
  replace hI0 : (numbers13.length = ((rg 0 ((tree_).length : Int))).length) ∧ (∀ p : Nat, p < ((rg 0 ((tree_).length : Int))).length → TM.flatAt tree_ p = some (TM.nb numbers13 p)) := hI0
  obtain ⟨hI0_0, hI0_1⟩ := hI0
  simp only [rg_len] at hI0_0 hI0_1
  show Go _ _ _ [.val .m (rSeq rInt) tree_, .own p2 .g rInt numbers13, .no, .no, .no]
  refine q_frz (i := 1) (p := p2) rfl ?_
  refine q_ret ((ev_some (ev_var (R := (rList rInt)) (a := numbers13) rfl) nn_list)) hR (fun r14 hr14 => ?_)
  replace hr14 : r14 = (some numbers13) := hr14
  show r14 = TM.flatN tree_
  rw [hr14]
  exact (TM.flatN_some (by omega) fun p hp => hI0_1 p (by omega)).symm
abbrev s_flat_numbers : Stmt := topS 8
theorem sc_flat_numbers : FnScope ["tree", "numbers", "place", "way", "other"] ["tree"] (defScope s_flat_numbers) := ⟨rfl, rfl, rfl, by decide +kernel, rfl, by decide +kernel, by decide +kernel⟩
theorem ok_flat_numbers {P : Program} {w : PySem.World} {K : PySem.W.Frag} {mg : Str → Option Value} {base : Heap} {f : Addr} {fd : FuncData} (F : Fun K "flat_numbers" "flat_numbers" s_flat_numbers f fd) {f_way_up : Addr} {d_way_up : FuncData} (c_way_up : Cal P w K mg base CX0 1 "way_up" ["tree", "place"] sp_way_up f_way_up d_way_up) (m_len : mg "len" = none) (m_range : mg "range" = none) : FnOk P w K mg base CX0 2 f fd ["tree"] sp_flat_numbers := by
  have sc := sc_flat_numbers
  refine F.ok sc (fun vs H Q E h => ?_) (fun cdv A outer s H vs Q E hr h => ?_)
  · obtain ⟨a_, ha_, _⟩ := h
    obtain ⟨v1, _, rfl, _ha1, rfl⟩ := ha_
    rfl
  · obtain ⟨⟨tree_, _⟩, ⟨v1, _, rfl, ha1, rfl⟩, hp0, hR, hE⟩ := spF_open PIlaw (n := fun _ H' => Q .non H') h
    refine ⟨t_flat_numbers K E, ?_, go_flat_numbers (C := (Cn0 PIlaw H)) tree_ hp0 hR _ (W0 H []) (world_of (bok0 (PI := PIlaw) H) ⟨⟨by decide, v1, rfl, (rSeq rInt).mono (mw0 (PI := PIlaw) H) ha1⟩, ⟨trivial, ⟨trivial, ⟨trivial, ⟨trivial, trivial⟩⟩⟩⟩⟩ rfl)⟩
    unfold t_flat_numbers
    exact (pss_cons (ps_set (i := 1) sc.nd rfl (Or.inl rfl) (pe_lst pa_nil))
(pss_cons (ps_for PassesOwn.never rfl (pi_range1 rfl m_range (pa_cons (pe_callB call_len_seq (by rfl) m_len bt_len (pa_cons (pv 0) pa_nil)) pa_nil)) (pg_name (i := 2) sc.nd rfl (Or.inr rfl))
(pss_cons (ps_set (i := 3) sc.nd rfl (Or.inl rfl) (pe_call c_way_up.ok (hr.mono (by decide)) (by rfl) c_way_up.g c_way_up.kp c_way_up.b .nil pass0 (pa_cons (pv 0) (pa_cons (pv 2) pa_nil))))
(pss_cons (ps_if (pt_cmpR op_isN (pv 3) pe_non (nomark _)) (pss_cons (ps_ret pe_non) pss_nil) pss_nil)
(pss_cons (ps_expr (pe_bm PySem.F.plainAttrs_list PySem.F.slot_list_append PySem.F.type_list_append mt_append (pv 1) (pa_cons (pe_callB call_len_seq (by rfl) m_len bt_len (pa_cons (pe_lc (own := [("other", 4)]) (g := (gName 4)) rfl sc.nd (pi_list (pv 3)) (blkOk_by (own := [("other", 4)]) (N := ["tree", "numbers", "place", "way", "other"]) (sc := defScope s_flat_numbers) (by decide +kernel)) (fun _ _ _ _ _ => pg_name (i := 4) sc.nd rfl (Or.inl rfl)) (fun _ _ _ _ _ => pts_one (pt_cmpR op_gt (pv 4) (pv 2) (nomark _))) (fun _ _ _ _ _ => (pv 4))) pa_nil)) pa_nil)))
pss_nil))))
(pss_cons (ps_ret (pv 1)) pss_nil)))
def sp_tree_of : Sp := spF (aCons (rSeq rInt) aNil) (fun (a : (List Int) × Unit) => (a.1.length ≤ 100000)) (rTup rInt) (fun (a : (List Int) × Unit) b => b = TM.treeOf a.1) (fun _ _ => False)
theorem call_tree_of {C : Cn} {Γ : List Ent} {E : XK} {t1 : TE} {a1 : (List Int)} (h1 : Ev C t1 Γ .h (rSeq rInt) a1) (hp0 : a1.length ≤ 100000) : EvX C (tCall (sp_tree_of) [] E (tCons t1 tNil)) Γ (ResF C (rTup rInt) (fun b => b = TM.treeOf a1)) := ed_call1 h1 hp0 exc0 (fun _ z => z)
theorem callx_tree_of {C : Cn} {Γ : List Ent} {E : XK} {t1 : TE} {P1 : (List Int) → Prop} (h1 : EvP C t1 Γ .h (rSeq rInt) P1) (hp0 : ∀ a1, P1 a1 → (a1.length ≤ 100000)) : EvX C (tCall (sp_tree_of) [] E (tCons t1 tNil)) Γ (ResF C (rTup rInt) (fun b => ∃ a1, P1 a1 ∧ (b = TM.treeOf a1))) := ex_call1 h1 (fun a1 _p1 => hp0 a1 _p1) exc0 (fun a1 _p1 => fun _ z => z)
def t_tree_of (K : PySem.W.Frag) (E : XK) : TS :=
(tSeq (tAsg (tLc (iEith K (tVar 0)) (gName 4) tYes (tUn (rU fun i => .int (-i)) (tC (.int 1))) [4]) (gName 1))
(tSeq (tAsg (tLst tNil) (gName 2))
(tSeq (tFor (iEnumE K (tCons (tVar 0) tNil)) (gTup K 2 (gCons (gName 3) (gCons (gName 4) gNil)))
(tSeq (tAsg (tC .non) (gName 5))
(tSeq (tWhile (tAnd (tTest (tOp (rNeD K) (tVar 2) (tLst tNil))) (tTest (tOp (rI0 fun i j => .bl (decide (j < i))) (tOp (rIxK K .e) (tVar 0) (tOp (rIxK K .l) (tVar 2) (tUn (rU fun i => .int (-i)) (tC (.int 1))))) (tVar 4))))
(tSeq (tAsg (tBM0 K "list" rPop (tVar 2)) (gName 5))
tNext))
(tCut (tIfS (tTest (tOp (fun x y H Q => y = .non ∧ Q (.bl (!decide (x = .non))) H) (tVar 5) (tC .non))) (tSeq (tAsg (tVar 3) (gSub (tVar 1) (tVar 5) rSetL))
tNext) tNext)
(tCut (tIfS (tTest (tOp (rNeD K) (tVar 2) (tLst tNil))) (tSeq (tAsg (tOp (rIxK K .l) (tVar 2) (tUn (rU fun i => .int (-i)) (tC (.int 1)))) (gSub (tVar 1) (tVar 3) rSetL))
tNext) tNext)
(tSeq (tDrop (tBM K "list" rAppend (tVar 2) (tCons (tVar 3) tNil)))
tNext))))))
(tSeq (tRet (tCB (rTupOf K) (tCons (tVar 1) tNil))) tNext))))
theorem go_tree_of {K : PySem.W.Frag} {C : Cn} {D : Ends} {E : XK} (row_ : (List Int)) (hp0 : row_.length ≤ 100000) (hR : RetOk C D (rTup rInt) (fun b => b = TM.treeOf row_)) :
    Go C (t_tree_of K E) D [.val .m (rSeq rInt) row_, .no, .no, .no, .no, .no] := by
  unfold t_tree_of
  refine q_asgN (i := 1) (ℓ := .g) (en_mapd (ℓ' := .g) (fun c1 : Int => (-(1 : Int))) (ei_eith (b := false) (hc := (by intro h; exact absurd h (by decide))) (ev_var (R := (rSeq rInt)) (a := row_) rfl)) (by omega) (fun c1 hc2 => (ev_neg (ev_int)))) (fun p5 elders4 helders4 => ?_)
  refine q_asgN (i := 2) (ℓ := .g) (en_lstd (ℓ := .g) (R := rInt) em_nil) (fun p7 still_open6 hstill_open6 => ?_)
  subst hstill_open6
  refine q_forD2 (i := 3) (j := 4) (σS := (List Int) × (List Int)) (fun s => [.val .m (rSeq rInt) row_, .own p5 .g rInt s.2, .own p7 .g rInt s.1, .no, .no, .no]) (fun (i : Nat) (s : (List Int) × (List Int)) => (s.2 = TM.treeB row_ i) ∧ (s.1 = (TM.opens row_ i).map fun (q : Nat) => (q : Int))) (([] : List Int), elders4) (ei_enumEd (b := true) (hc := (by intro _; decide)) (ev_var (R := (rSeq rInt)) (a := row_) rfl)) (by
        show (elders4 = TM.treeB row_ 0) ∧ (([] : List Int) = (TM.opens row_ 0).map fun (q : Nat) => (q : Int))
        refine ⟨?_, rfl⟩
        rw [helders4, TM.treeB_0]; exact List.map_const' ..) (LeG.k (LeG.k (LeG.k (LeG.f (LeG.f (LeG.f LeG.nil)))))) (fun C1 hc1 i1 x8 s hx8 hI0 => ?_) (fun s hI0 => ?_)
  · obtain ⟨still_open9, elders10⟩ := s
    replace hI0 : (elders10 = TM.treeB row_ i1) ∧ (still_open9 = (TM.opens row_ i1).map fun (q : Nat) => (q : Int)) := hI0
    obtain ⟨hI0_0, hI0_1⟩ := hI0
    have hR := hR.ex hc1
    have hx8l := at_lt hx8
    have hx8r := enu_at hx8
    rw [enu_len] at hx8l
    refine q_asg (i := 5) (ℓ := .g) ((ev_non (R := rInt))) (fun gone11 hgone11 => ?_)
    replace hgone11 : gone11 = none := hgone11
    refine q_while (S := (Option Int) × (List Int)) (fun s => [.val .m (rSeq rInt) row_, .own p5 .g rInt elders10, .own p7 .g rInt s.2, .val .m rInt x8.1, .val .m rInt x8.2, .val .g (rOpt rInt) s.1]) (fun (s : (Option Int) × (List Int)) => (s.2.length ≤ still_open9.length) ∧ (s.2 = still_open9.take s.2.length) ∧ (∀ j, s.2.length ≤ j → ∀ q, still_open9[j]? = some q → x8.2 < gt row_ q) ∧ (s.1 = still_open9[s.2.length]?)) (fun (s : (Option Int) × (List Int)) => s.2.length) (fun (s : (Option Int) × (List Int)) => ((¬ s.2 = ([] : List Int)) ∧ (x8.2 < (gt row_ (gtB s.2 1))))) (gone11, still_open9) (by
          show (still_open9.length ≤ still_open9.length) ∧ (still_open9 = still_open9.take still_open9.length) ∧ (∀ j, still_open9.length ≤ j → ∀ q, still_open9[j]? = some q → x8.2 < gt row_ q) ∧ (gone11 = still_open9[still_open9.length]?)
          refine ⟨Nat.le_refl _, (List.take_length ..).symm, ?_, ?_⟩
          · intro j hj q hq; have := at_lt hq; omega
          · rw [hgone11]; simp) (LeG.k (LeG.k (LeG.k (LeG.k (LeG.k (LeG.k LeG.nil)))))) (fun s hI1 => ?_) (fun s hI1 hw => ?_) (fun s hI1 hw => ?_)
    · obtain ⟨gone12, still_open13⟩ := s
      replace hI1 : (still_open13.length ≤ still_open9.length) ∧ (still_open13 = still_open9.take still_open13.length) ∧ (∀ j, still_open13.length ≤ j → ∀ q, still_open9[j]? = some q → x8.2 < gt row_ q) ∧ (gone12 = still_open9[still_open13.length]?) := hI1
      obtain ⟨hI1_0, hI1_1, hI1_2, hI1_3⟩ := hI1
      exact (ec_and (ec_tstN (ev_neD (eqr_list eqr_int) (Nat.le_of_ble_eq_true rfl) (ev_own (R := rInt) (l := still_open13) rfl) (((ev_new (ℓ := .g) (en_lstd (ℓ := .g) (R := rInt) em_nil))).toh))) (fun hb14 => (ec_tst (ev_gt (((ev_ix (es_seq (ev_var (R := (rSeq rInt)) (a := row_) rfl)) (((ev_ixB (n := 1) (es_own (R := rInt) (l := still_open13) rfl) (by exact ⟨by decide, List.length_pos_iff.mpr (by assumption)⟩))).toh) (by exact TM.tree_in hI0_1 (by omega) hI1_1 (by assumption)))).toh) (((ev_var (R := rInt) (a := x8.2) rfl)).toh)))))
    · obtain ⟨gone16, still_open17⟩ := s
      replace hI1 : (still_open17.length ≤ still_open9.length) ∧ (still_open17 = still_open9.take still_open17.length) ∧ (∀ j, still_open17.length ≤ j → ∀ q, still_open9[j]? = some q → x8.2 < gt row_ q) ∧ (gone16 = still_open9[still_open17.length]?) := hI1
      obtain ⟨hI1_0, hI1_1, hI1_2, hI1_3⟩ := hI1
      replace hw : ((¬ still_open17 = ([] : List Int)) ∧ (x8.2 < (gt row_ (gtB still_open17 1)))) := hw
      show Go _ _ _ [.val .m (rSeq rInt) row_, .own p5 .g rInt elders10, .own p7 .g rInt still_open17, .val .m rInt x8.1, .val .m rInt x8.2, .val .g (rOpt rInt) gone16]
      refine q_pop (i := 2) rfl (by exact hw.1) (by decide) ?_
      obtain ⟨gone18, hgone18⟩ : ∃ x, x = gtB still_open17 1 := ⟨_, rfl⟩
      rw [← hgone18]
      refine q_some (i := 5) (R := rInt) rfl nn_int ?_
      refine q_next (hol_in ((some gone18), (still_open17).dropLast) ?_ (LeG.k (LeG.k (LeG.k (LeG.k (LeG.k (LeG.k LeG.nil)))))))
      show (((still_open17).dropLast.length ≤ still_open9.length) ∧ ((still_open17).dropLast = still_open9.take (still_open17).dropLast.length) ∧ (∀ j, (still_open17).dropLast.length ≤ j → ∀ q, still_open9[j]? = some q → x8.2 < gt row_ q) ∧ ((some gone18) = still_open9[(still_open17).dropLast.length]?)) ∧ (still_open17).dropLast.length < still_open17.length
      exact TM.tree_pop hI1_0 hI1_1 hI1_2 hw.1 hw.2 (by assumption)
    obtain ⟨gone19, still_open20⟩ := s
    replace hI1 : (still_open20.length ≤ still_open9.length) ∧ (still_open20 = still_open9.take still_open20.length) ∧ (∀ j, still_open20.length ≤ j → ∀ q, still_open9[j]? = some q → x8.2 < gt row_ q) ∧ (gone19 = still_open9[still_open20.length]?) := hI1
    obtain ⟨hI1_0, hI1_1, hI1_2, hI1_3⟩ := hI1
    replace hw : ¬ ((¬ still_open20 = ([] : List Int)) ∧ (x8.2 < (gt row_ (gtB still_open20 1)))) := hw
    show Go _ _ _ [.val .m (rSeq rInt) row_, .own p5 .g rInt elders10, .own p7 .g rInt still_open20, .val .m rInt x8.1, .val .m rInt x8.2, .val .g (rOpt rInt) gone19]
    refine q_cut (S := (List Int)) (fun s => [.val .m (rSeq rInt) row_, .own p5 .g rInt s, .own p7 .g rInt still_open20, .val .m rInt x8.1, .val .m rInt x8.2, .val .g (rOpt rInt) gone19]) (fun s => (s = TM.setO elders10 gone19 x8.1)) (c_ifC (ec_notN (ev_var (R := (rOpt rInt)) (a := gone19) rfl)) (fun h21 => ?_) (fun h21 => ?_)) (fun s h21j => ?_)
    · obtain ⟨g22, hg22⟩ : ∃ x, gone19 = some x := some_of (by first | assumption | (intro z; simp_all))
      refine q_set (i := 1) (p := p5) rfl (((ev_var (R := rInt) (a := x8.1) rfl)).fl fl_int) (((ev_the (ev_var (R := (rOpt rInt)) (a := gone19) rfl) hg22)).toh) (fun n hn => by subst hn; exact (by exact TM.tree_set hI0_0 hI0_1 hI1_3 (by assumption) (by omega))) (fun e23 n24 he23 hn24 => ?_)
      replace he23 : e23 = x8.1 := he23
      replace hn24 : n24 = g22 := hn24
      rw [he23, hn24]
      refine q_next (hol_in ((elders10).set (g22).toNat x8.1) ?_ (LeG.k (LeG.k (LeG.k (LeG.k (LeG.k (LeG.k LeG.nil)))))))
      show (((elders10).set (g22).toNat x8.1) = TM.setO elders10 gone19 x8.1)
      first | (rw [show gone19 = some _ from by assumption]; rfl) | (rw [show gone19 = none from by first | assumption | exact Classical.not_not.mp (by assumption)]; rfl)
    · refine q_next (hol_in elders10 ?_ (LeG.k (LeG.k (LeG.k (LeG.k (LeG.k (LeG.k LeG.nil)))))))
      show (elders10 = TM.setO elders10 gone19 x8.1)
      first | (rw [show gone19 = some _ from by assumption]; rfl) | (rw [show gone19 = none from by first | assumption | exact Classical.not_not.mp (by assumption)]; rfl)
    revert s h21j; intro elders25 h21j
    replace h21j : (elders25 = TM.setO elders10 gone19 x8.1) := h21j
    refine q_cut (S := (List Int)) (fun s => [.val .m (rSeq rInt) row_, .own p5 .g rInt s, .own p7 .g rInt still_open20, .val .m rInt x8.1, .val .m rInt x8.2, .val .g (rOpt rInt) gone19]) (fun s => (still_open20 ≠ [] → s = elders25.set x8.1.toNat (gtB still_open20 1)) ∧ (still_open20 = [] → s = elders25)) (c_ifC (ec_tstN (ev_neD (eqr_list eqr_int) (Nat.le_of_ble_eq_true rfl) (ev_own (R := rInt) (l := still_open20) rfl) (((ev_new (ℓ := .g) (en_lstd (ℓ := .g) (R := rInt) em_nil))).toh))) (fun h26 => ?_) (fun h26 => ?_)) (fun s h26j => ?_)
    · refine q_set (i := 1) (p := p5) rfl ((ev_ixB (n := 1) (es_own (R := rInt) (l := still_open20) rfl) (by exact ⟨by decide, List.length_pos_iff.mpr (by assumption)⟩))) (((ev_var (R := rInt) (a := x8.1) rfl)).toh) (fun n hn => by subst hn; exact (by have := TM.tree_len hI0_0 h21j; omega)) (fun e27 n28 he27 hn28 => ?_)
      replace he27 : e27 = (gtB still_open20 1) := he27
      replace hn28 : n28 = x8.1 := hn28
      rw [he27, hn28]
      refine q_next (hol_in ((elders25).set (x8.1).toNat (gtB still_open20 1)) ?_ (LeG.k (LeG.k (LeG.k (LeG.k (LeG.k (LeG.k LeG.nil)))))))
      show (still_open20 ≠ [] → ((elders25).set (x8.1).toNat (gtB still_open20 1)) = elders25.set x8.1.toNat (gtB still_open20 1)) ∧ (still_open20 = [] → ((elders25).set (x8.1).toNat (gtB still_open20 1)) = elders25)
      first | exact ⟨fun _ => rfl, fun z => absurd z (by assumption)⟩ | exact ⟨fun z => absurd z (by assumption), fun _ => rfl⟩
    · refine q_next (hol_in elders25 ?_ (LeG.k (LeG.k (LeG.k (LeG.k (LeG.k (LeG.k LeG.nil)))))))
      show (still_open20 ≠ [] → elders25 = elders25.set x8.1.toNat (gtB still_open20 1)) ∧ (still_open20 = [] → elders25 = elders25)
      first | exact ⟨fun _ => rfl, fun z => absurd z (by assumption)⟩ | exact ⟨fun z => absurd z (by assumption), fun _ => rfl⟩
    revert s h26j; intro elders29 h26j
    replace h26j : (still_open20 ≠ [] → elders29 = elders25.set x8.1.toNat (gtB still_open20 1)) ∧ (still_open20 = [] → elders29 = elders25) := h26j
    obtain ⟨h26j0, h26j1⟩ := h26j
    refine q_app (i := 2) (p := p7) rfl (((ev_var (R := rInt) (a := x8.1) rfl)).fl fl_int) (by have := TM.tree_open hI1_0 hI0_1; omega) (fun e30 he30 => ?_)
    replace he30 : e30 = x8.1 := he30
    rw [he30]; clear he30 e30
    refine q_next (hol_in ((still_open20 ++ [x8.1]), elders29) ?_ (LeG.k (LeG.k (LeG.k (LeG.f (LeG.f (LeG.f LeG.nil)))))))
    show (elders29 = TM.treeB row_ (i1 + 1)) ∧ ((still_open20 ++ [x8.1]) = (TM.opens row_ (i1 + 1)).map fun (q : Nat) => (q : Int))
    exact TM.tree_turn hI0_0 hI0_1 hI1_0 hI1_1 hI1_2 hI1_3 hw h21j h26j0 h26j1 hx8
  obtain ⟨still_open31, elders32⟩ := s
  replace hI0 : (elders32 = TM.treeB row_ ((enu row_)).length) ∧ (still_open31 = (TM.opens row_ ((enu row_)).length).map fun (q : Nat) => (q : Int)) := hI0
  obtain ⟨hI0_0, hI0_1⟩ := hI0
  simp only [enu_len] at hI0_0 hI0_1
  show Go _ _ _ [.val .m (rSeq rInt) row_, .own p5 .g rInt elders32, .own p7 .g rInt still_open31, .no, .no, .no]
  refine q_ret ((ev_tupL (ℓ := .g) (es_own (R := rInt) (l := elders32) rfl))) hR (fun r33 hr33 => ?_)
  replace hr33 : r33 = elders32 := hr33
  show r33 = TM.treeOf row_
  rw [hr33]
  exact hI0_0.trans (TM.treeB_all _)
abbrev s_tree_of : Stmt := topS 6
theorem sc_tree_of : FnScope ["row", "elders", "still_open", "place", "number", "gone"] ["row"] (defScope s_tree_of) := ⟨rfl, rfl, rfl, by decide +kernel, rfl, by decide +kernel, by decide +kernel⟩
theorem ok_tree_of {P : Program} {w : PySem.World} {K : PySem.W.Frag} {mg : Str → Option Value} {base : Heap} {f : Addr} {fd : FuncData} (F : Fun K "tree_of" "tree_of" s_tree_of f fd) (m_enumerate : mg "enumerate" = none) (m_tuple : mg "tuple" = none) : FnOk P w K mg base CX0 1 f fd ["row"] sp_tree_of := by
  have sc := sc_tree_of
  refine F.ok sc (fun vs H Q E h => ?_) (fun cdv A outer s H vs Q E hr h => ?_)
  · obtain ⟨a_, ha_, _⟩ := h
    obtain ⟨v1, _, rfl, _ha1, rfl⟩ := ha_
    rfl
  · obtain ⟨⟨row_, _⟩, ⟨v1, _, rfl, ha1, rfl⟩, hp0, hR, hE⟩ := spF_open PIlaw (n := fun _ H' => Q .non H') h
    refine ⟨t_tree_of K E, ?_, go_tree_of (C := (Cn0 PIlaw H)) row_ hp0 hR _ (W0 H []) (world_of (bok0 (PI := PIlaw) H) ⟨⟨by decide, v1, rfl, (rSeq rInt).mono (mw0 (PI := PIlaw) H) ha1⟩, ⟨trivial, ⟨trivial, ⟨trivial, ⟨trivial, ⟨trivial, trivial⟩⟩⟩⟩⟩⟩ rfl)⟩
    unfold t_tree_of
    exact (pss_cons (ps_setLc (i := 1) (own := [("number", 4)]) (g := (gName 4)) rfl sc.nd rfl rfl (sw_true rfl rfl rfl (by decide +kernel)) (pi_eith (pv 0)) (blkOk_by (own := [("number", 4)]) (N := ["row", "elders", "still_open", "place", "number", "gone"]) (sc := defScope s_tree_of) (by decide +kernel)) (fun _ _ _ _ _ => pg_name (i := 4) sc.nd rfl (Or.inl rfl)) (fun _ _ _ _ _ => pts_nil) (fun _ _ _ _ _ => (pe_un un_neg pe_int)))
(pss_cons (ps_set (i := 2) sc.nd rfl (Or.inl rfl) (pe_lst pa_nil))
(pss_cons (ps_for PassesOwn.never rfl (pi_enumE (by rfl) m_enumerate (pa_cons (pv 0) pa_nil)) (pg_tup rfl (pgs_cons (pg_name (i := 3) sc.nd rfl (Or.inl rfl)) (pgs_cons (pg_name (i := 4) sc.nd rfl (Or.inl rfl)) pgs_nil)))
(pss_cons (ps_set (i := 5) sc.nd rfl (Or.inl rfl) pe_non)
(pss_cons (ps_while PassesOwn.never (PW.pt (pw_and (pt_cmpR (op_neD (roomUn hr)) (pv 2) (pe_lst pa_nil) (nomark _)) (pw_and1 (pt_cmpR op_gt (pe_ix ix_seq (pv 0) (pe_ix ix_list (pv 2) (pe_un un_neg pe_int) (fun _ _ => rfl)) (fun _ _ => rfl)) (pv 4) (nomark _)))))
(pss_cons (ps_set (i := 5) sc.nd rfl (.inl rfl) (pe_bm0 PySem.F.plainAttrs_list PySem.F.slot_list_pop PySem.F.type_list_pop mt_pop (pv 2)))
pss_nil))
(pss_cut (ps_if (pt_cmpR op_notN (pv 5) pe_non (nomark _)) (pss_cons (ps_asg (pv 3) (pg_sub (pv 1) (pv 5) set_list))
pss_nil) pss_nil)
(pss_cut (ps_if (pt_cmpR (op_neD (roomUn hr)) (pv 2) (pe_lst pa_nil) (nomark _)) (pss_cons (ps_asg (pe_ix ix_list (pv 2) (pe_un un_neg pe_int) (fun _ _ => rfl)) (pg_sub (pv 1) (pv 3) set_list))
pss_nil) pss_nil)
(pss_cons (ps_expr (pe_bm PySem.F.plainAttrs_list PySem.F.slot_list_append PySem.F.type_list_append mt_append (pv 2) (pa_cons (pv 3) pa_nil)))
pss_nil))))))
(pss_cons (ps_ret (pe_callTy call_tuple_of (by rfl) m_tuple bt_tuple (pa_cons (pv 1) pa_nil))) pss_nil))))
def sp_is_tree : Sp := spF (aCons (rTup rInt) aNil) (fun (a : (List Int) × Unit) => (a.1.length ≤ 100000)) rBool (fun (a : (List Int) × Unit) b => b = TM.isTree a.1) (fun _ _ => False)
theorem call_is_tree {C : Cn} {Γ : List Ent} {E : XK} {t1 : TE} {a1 : (List Int)} (h1 : Ev C t1 Γ .h (rTup rInt) a1) (hp0 : a1.length ≤ 100000) : EvX C (tCall (sp_is_tree) [] E (tCons t1 tNil)) Γ (ResF C rBool (fun b => b = TM.isTree a1)) := ed_call1 h1 hp0 exc0 (fun _ z => z)
theorem callx_is_tree {C : Cn} {Γ : List Ent} {E : XK} {t1 : TE} {P1 : (List Int) → Prop} (h1 : EvP C t1 Γ .h (rTup rInt) P1) (hp0 : ∀ a1, P1 a1 → (a1.length ≤ 100000)) : EvX C (tCall (sp_is_tree) [] E (tCons t1 tNil)) Γ (ResF C rBool (fun b => ∃ a1, P1 a1 ∧ (b = TM.isTree a1))) := ex_call1 h1 (fun a1 _p1 => hp0 a1 _p1) exc0 (fun a1 _p1 => fun _ z => z)
def t_is_tree (K : PySem.W.Frag) (E : XK) : TS :=
(tSeq (tIfS (tTest (tOp (rI0 fun i j => .bl (decide (j < i))) (tCB (rLenS K) (tCons (tVar 0) tNil)) (tC (.int 40)))) (tSeq (tRet (tC (.bl false))) tNext) tNext)
(tSeq (tAsg (tCall sp_flat_numbers [] E0 (tCons (tVar 0) tNil)) (gName 1))
(tSeq (tRet (tAndV (tOp (fun x y H Q => y = .non ∧ Q (.bl (!decide (x = .non))) H) (tVar 1) (tC .non)) (tOp (rEqD K) (tCall sp_tree_of [] E0 (tCons (tVar 1) tNil)) (tVar 0)))) tNext)))
theorem go_is_tree {K : PySem.W.Frag} {C : Cn} {D : Ends} {E : XK} (tree_ : (List Int)) (hp0 : tree_.length ≤ 100000) (hR : RetOk C D rBool (fun b => b = TM.isTree tree_)) :
    Go C (t_is_tree K E) D [.val .m (rTup rInt) tree_, .no] := by
  unfold t_is_tree
  refine q_ifT (ec_tst (ev_gt ((ev_len (es_tup (ev_var (R := (rTup rInt)) (a := tree_) rfl)))) (ev_int))) (fun h1 => ?_) (fun h1 => ?_)
  · refine q_ret (ev_bl) hR (fun r2 hr2 => ?_)
    replace hr2 : r2 = false := hr2
    show r2 = TM.isTree tree_
    rw [hr2]
    exact (TM.isTree_big (by assumption)).symm
  refine q_asg (i := 1) (ℓ := .g) ((ev_call (call_flat_numbers (((ev_seqT (ev_var (R := (rTup rInt)) (a := tree_) rfl))).toh) (by first | omega | assumption | (simp; done) | (constructor <;> omega) | (simp; omega))))) (fun numbers3 hnumbers3 => ?_)
  replace hnumbers3 : numbers3 = (TM.flatN tree_) := hnumbers3
  refine q_ret ((ev_andV ((ev_notN (ev_var (R := (rOpt (rList rInt))) (a := numbers3) rfl))) (fun hb4 => have hb4p : (¬ numbers3 = none) := (by first | (intro z; rw [z] at hb4; cases hb4; done) | simpa using hb4); ((ev_eqD (eqr_tup eqr_int) (Nat.le_of_ble_eq_true rfl) (((ev_call (call_tree_of (((ev_seqL (ev_the (ev_var (R := (rOpt (rList rInt))) (a := numbers3) rfl) (oget_some hb4p)))).toh) (by rw [TM.flatN_len (hnumbers3.symm.trans (oget_some (by assumption)))]; omega)))).toh) (((ev_var (R := (rTup rInt)) (a := tree_) rfl)).toh)))))) hR (fun r6 hr6 => ?_)
  replace hr6 : r6 = ((numbers3).isSome && (decide ((TM.treeOf (oget numbers3)) = tree_))) := hr6
  show r6 = TM.isTree tree_
  rw [hr6]
  rw [hnumbers3]; exact TM.isTree_end (by omega)
abbrev s_is_tree : Stmt := topS 9
theorem sc_is_tree : FnScope ["tree", "numbers"] ["tree"] (defScope s_is_tree) := ⟨rfl, rfl, rfl, by decide +kernel, rfl, by decide +kernel, by decide +kernel⟩
theorem ok_is_tree {P : Program} {w : PySem.World} {K : PySem.W.Frag} {mg : Str → Option Value} {base : Heap} {f : Addr} {fd : FuncData} (F : Fun K "is_tree" "is_tree" s_is_tree f fd) {f_flat_numbers : Addr} {d_flat_numbers : FuncData} (c_flat_numbers : Cal P w K mg base CX0 2 "flat_numbers" ["tree"] sp_flat_numbers f_flat_numbers d_flat_numbers) {f_tree_of : Addr} {d_tree_of : FuncData} (c_tree_of : Cal P w K mg base CX0 1 "tree_of" ["row"] sp_tree_of f_tree_of d_tree_of) (m_len : mg "len" = none) {u_MOST_PLACES : Tok} (c_MOST_PLACES : mg "MOST_PLACES" = some (.int 40 u_MOST_PLACES)) : FnOk P w K mg base CX0 3 f fd ["tree"] sp_is_tree := by
  have sc := sc_is_tree
  refine F.ok sc (fun vs H Q E h => ?_) (fun cdv A outer s H vs Q E hr h => ?_)
  · obtain ⟨a_, ha_, _⟩ := h
    obtain ⟨v1, _, rfl, _ha1, rfl⟩ := ha_
    rfl
  · obtain ⟨⟨tree_, _⟩, ⟨v1, _, rfl, ha1, rfl⟩, hp0, hR, hE⟩ := spF_open PIlaw (n := fun _ H' => Q .non H') h
    refine ⟨t_is_tree K E, ?_, go_is_tree (C := (Cn0 PIlaw H)) tree_ hp0 hR _ (W0 H []) (world_of (bok0 (PI := PIlaw) H) ⟨⟨by decide, v1, rfl, (rTup rInt).mono (mw0 (PI := PIlaw) H) ha1⟩, ⟨trivial, trivial⟩⟩ rfl)⟩
    unfold t_is_tree
    exact (pss_cons (ps_if (pt_cmpR op_gt (pe_callB call_len_seq (by rfl) m_len bt_len (pa_cons (pv 0) pa_nil)) (pe_glob rfl c_MOST_PLACES ⟨_, rfl⟩) (nomark _)) (pss_cons (ps_ret pe_bl) pss_nil) pss_nil)
(pss_cons (ps_set (i := 1) sc.nd rfl (Or.inl rfl) (pe_call c_flat_numbers.ok (hr.mono (by decide)) (by rfl) c_flat_numbers.g c_flat_numbers.kp c_flat_numbers.b .nil pass0 (pa_cons (pv 0) pa_nil)))
(pss_cons (ps_ret (pe_and (pe_cmpR op_notN (pv 1) pe_non (nomark _)) (pe_one (pe_cmpR (op_eqD (roomUn hr)) (pe_call c_tree_of.ok (hr.mono (by decide)) (by rfl) c_tree_of.g c_tree_of.kp c_tree_of.b .nil pass0 (pa_cons (pv 1) pa_nil)) (pv 0) (nomark _))))) pss_nil)))
def sp_look_at_tree (x_NoTree : Addr) : Sp := spF (aCons (rTup rInt) aNil) (fun (a : (List Int) × Unit) => (a.1.length ≤ 100000)) rNone (fun (a : (List Int) × Unit) b => TM.isTree a.1 = true) (fun (a : (List Int) × Unit) c => (c = x_NoTree ∧ TM.isTree a.1 = false))
theorem call_look_at_tree {C : Cn} {Γ : List Ent} {E : XK} {x_NoTree : Addr} {t1 : TE} {a1 : (List Int)} (h1 : Ev C t1 Γ .h (rTup rInt) a1) (hp0 : a1.length ≤ 100000) {Pe : Addr → Prop} (hE : ExcOk C E Pe) (he : ∀ c, ((c = x_NoTree ∧ TM.isTree a1 = false)) → Pe c) : EvX C (tCall (sp_look_at_tree x_NoTree) [] E (tCons t1 tNil)) Γ (ResF C rNone (fun (b : Unit) => TM.isTree a1 = true)) := ed_call1 h1 hp0 hE he
theorem callsn_look_at_tree {C : Cn} {Γ : List Ent} {x_NoTree : Addr} {t1 : TE} {a1 : (List Int)} (h1 : Ev C t1 Γ .h (rTup rInt) a1) (hp0 : a1.length ≤ 100000) {W0 : WX} {Pe : Addr → Prop} (hE : ExcOkG C W0 Γ Pe) (he : ∀ c, ((c = x_NoTree ∧ TM.isTree a1 = false)) → Pe c) : EvX C (tCallS (sp_look_at_tree x_NoTree) (WE W0) (tCons t1 tNil)) Γ (ResF C rNone (fun (b : Unit) => TM.isTree a1 = true)) := esd_call1 h1 hp0 hE he
theorem calls_look_at_tree {C : Cn} {Γ : List Ent} {x_NoTree : Addr} {t1 : TE} {a1 : (List Int)} (h1 : Ev C t1 Γ .h (rTup rInt) a1) (hp0 : a1.length ≤ 100000) {W0 : WX} {Pe : Addr → Prop} (hE : ExcOkG C W0 Γ Pe) (he : ∀ c, ((c = x_NoTree ∧ TM.isTree a1 = false)) → Pe c) : EvX C (tCallS (sp_look_at_tree x_NoTree) (WE W0) (tCons t1 tNil)) Γ (ResF C rNone (fun (b : Unit) => TM.isTree a1 = true)) := EvX.imp (esd_call1 h1 hp0 hE he) (fun _ h => h)
theorem callsx_look_at_tree {C : Cn} {Γ : List Ent} {x_NoTree : Addr} {t1 : TE} {P1 : (List Int) → Prop} (h1 : EvP C t1 Γ .h (rTup rInt) P1) (hp0 : ∀ a1, P1 a1 → (a1.length ≤ 100000)) {W0 : WX} {Pe : Addr → Prop} (hE : ExcOkG C W0 Γ Pe) (he : ∀ a1, P1 a1 → ∀ c, ((c = x_NoTree ∧ TM.isTree a1 = false)) → Pe c) : EvX C (tCallS (sp_look_at_tree x_NoTree) (WE W0) (tCons t1 tNil)) Γ (ResF C rNone (fun (b : Unit) => ∃ a1, P1 a1 ∧ (TM.isTree a1 = true))) := es_call1 h1 (fun a1 _p1 => hp0 a1 _p1) hE he
theorem callx_look_at_tree {C : Cn} {Γ : List Ent} {E : XK} {x_NoTree : Addr} {t1 : TE} {P1 : (List Int) → Prop} (h1 : EvP C t1 Γ .h (rTup rInt) P1) (hp0 : ∀ a1, P1 a1 → (a1.length ≤ 100000)) {Pe : Addr → Prop} (hE : ExcOk C E Pe) (he : ∀ a1, P1 a1 → ∀ c, ((c = x_NoTree ∧ TM.isTree a1 = false)) → Pe c) : EvX C (tCall (sp_look_at_tree x_NoTree) [] E (tCons t1 tNil)) Γ (ResF C rNone (fun (b : Unit) => ∃ a1, P1 a1 ∧ (TM.isTree a1 = true))) := ex_call1 h1 (fun a1 _p1 => hp0 a1 _p1) hE he
def t_look_at_tree (K : PySem.W.Frag) (E : XK) (x_NoTree : Addr) : TS :=
(tSeq (tIfS (tNot (tB (tCall sp_is_tree [] E0 (tCons (tVar 0) tNil)))) (tSeq (fun _ _ H => E (.ref x_NoTree) none H) tNext) tNext)
tNext)
theorem go_look_at_tree {K : PySem.W.Frag} {C : Cn} {D : Ends} {E : XK} (x_NoTree : Addr) (tree_ : (List Int)) (hp0 : tree_.length ≤ 100000) (hR : RetOk C D rNone (fun (b : Unit) => TM.isTree tree_ = true)) (hE : ExcOk C E (fun c => (c = x_NoTree ∧ TM.isTree tree_ = false))) (hN : ∀ H, D.rt .non H → ∀ σ, D.nx σ H) :
    Go C (t_look_at_tree K E x_NoTree) D [.val .m (rTup rInt) tree_] := by
  unfold t_look_at_tree
  refine q_ifT (ec_not (ec_valB (((ev_call (call_is_tree (((ev_var (R := (rTup rInt)) (a := tree_) rfl)).toh) (by first | omega | assumption | (simp; done) | (constructor <;> omega) | (simp; omega))))).toh))) (fun h1 => ?_) (fun h1 => ?_)
  · refine q_raise hE ?_
    exact ⟨rfl, by simpa using (by assumption : ¬ TM.isTree tree_ = true)⟩
  refine q_retE hR hN ?_
  show TM.isTree tree_ = true
  exact Classical.not_not.mp (by assumption)
abbrev s_look_at_tree : Stmt := topS 10
theorem sc_look_at_tree : FnScope ["tree"] ["tree"] (defScope s_look_at_tree) := ⟨rfl, rfl, rfl, by decide +kernel, rfl, by decide +kernel, by decide +kernel⟩
theorem ok_look_at_tree {P : Program} {w : PySem.World} {K : PySem.W.Frag} {mg : Str → Option Value} {base : Heap} {x_NoTree : Addr} {f : Addr} {fd : FuncData} (F : Fun K "look_at_tree" "look_at_tree" s_look_at_tree f fd) {f_is_tree : Addr} {d_is_tree : FuncData} (c_is_tree : Cal P w K mg base CX0 3 "is_tree" ["tree"] sp_is_tree f_is_tree d_is_tree) (z_NoTree : ExcT K mg x_NoTree "NoTree") : FnOk P w K mg base (L2.CX P w) 4 f fd ["tree"] (sp_look_at_tree x_NoTree) := by
  have sc := sc_look_at_tree
  refine F.okX sc (fun vs H Q E h => ?_) (fun cdv A outer s H vs Q E hr h => ?_)
  · obtain ⟨a_, ha_, _⟩ := h
    obtain ⟨v1, _, rfl, _ha1, rfl⟩ := ha_
    rfl
  · obtain ⟨⟨tree_, _⟩, ⟨v1, _, rfl, ha1, rfl⟩, hp0, hR, hE⟩ := spF_open PIlaw (n := fun _ H' => Q .non H') h
    refine ⟨t_look_at_tree K E x_NoTree, ?_, go_look_at_tree (C := (Cn0 PIlaw H)) x_NoTree tree_ hp0 hR hE (fun _ h _ => h) _ (W0 H []) (world_of (bok0 (PI := PIlaw) H) ⟨⟨by decide, v1, rfl, (rTup rInt).mono (mw0 (PI := PIlaw) H) ha1⟩, trivial⟩ rfl)⟩
    unfold t_look_at_tree
    exact (pss_cons (ps_if (pt_not (pt_val (pe_call c_is_tree.ok (hr.mono (by decide)) (by rfl) c_is_tree.g c_is_tree.kp c_is_tree.b .nil pass0 (pa_cons (pv 0) pa_nil)))) (pss_cons (ps_raise rfl (takes_of rfl rfl rfl rfl) (pmk_own PySem.F.excBase_ValueError z_NoTree.x z_NoTree.g z_NoTree.k (raises_own z_NoTree.b z_NoTree.t) (by exact rfl))) pss_nil) pss_nil)
pss_nil)
def sp_look_at_both (x_NoTree : Addr) (x_Unlike : Addr) : Sp := spF (aCons (rTup rInt) (aCons (rSeq rInt) aNil)) (fun (a : (List Int) × (List Int) × Unit) => (a.1.length ≤ 1000) ∧ (a.2.1.length ≤ 1000)) rNone (fun (a : (List Int) × (List Int) × Unit) b => TM.isTree a.1 = true ∧ a.2.1.length = a.1.length) (fun (a : (List Int) × (List Int) × Unit) c => (c = x_NoTree ∧ TM.isTree a.1 = false) ∨ (c = x_Unlike ∧ TM.isTree a.1 = true ∧ ¬ a.2.1.length = a.1.length))
theorem call_look_at_both {C : Cn} {Γ : List Ent} {E : XK} {x_NoTree : Addr} {x_Unlike : Addr} {t1 : TE} {t2 : TE} {a1 : (List Int)} {a2 : (List Int)} (h1 : Ev C t1 Γ .h (rTup rInt) a1) (h2 : Ev C t2 Γ .h (rSeq rInt) a2) (hp0 : a1.length ≤ 1000) (hp1 : a2.length ≤ 1000) {Pe : Addr → Prop} (hE : ExcOk C E Pe) (he : ∀ c, ((c = x_NoTree ∧ TM.isTree a1 = false) ∨ (c = x_Unlike ∧ TM.isTree a1 = true ∧ ¬ a2.length = a1.length)) → Pe c) : EvX C (tCall (sp_look_at_both x_NoTree x_Unlike) [] E (tCons t1 (tCons t2 tNil))) Γ (ResF C rNone (fun (b : Unit) => TM.isTree a1 = true ∧ a2.length = a1.length)) := ed_call2 h1 h2 ⟨hp0, hp1⟩ hE he
theorem callsn_look_at_both {C : Cn} {Γ : List Ent} {x_NoTree : Addr} {x_Unlike : Addr} {t1 : TE} {t2 : TE} {a1 : (List Int)} {a2 : (List Int)} (h1 : Ev C t1 Γ .h (rTup rInt) a1) (h2 : Ev C t2 Γ .h (rSeq rInt) a2) (hp0 : a1.length ≤ 1000) (hp1 : a2.length ≤ 1000) {W0 : WX} {Pe : Addr → Prop} (hE : ExcOkG C W0 Γ Pe) (he : ∀ c, ((c = x_NoTree ∧ TM.isTree a1 = false) ∨ (c = x_Unlike ∧ TM.isTree a1 = true ∧ ¬ a2.length = a1.length)) → Pe c) : EvX C (tCallS (sp_look_at_both x_NoTree x_Unlike) (WE W0) (tCons t1 (tCons t2 tNil))) Γ (ResF C rNone (fun (b : Unit) => TM.isTree a1 = true ∧ a2.length = a1.length)) := esd_call2 h1 h2 ⟨hp0, hp1⟩ hE he
theorem calls_look_at_both {C : Cn} {Γ : List Ent} {x_NoTree : Addr} {x_Unlike : Addr} {t1 : TE} {t2 : TE} {a1 : (List Int)} {a2 : (List Int)} (h1 : Ev C t1 Γ .h (rTup rInt) a1) (h2 : Ev C t2 Γ .h (rSeq rInt) a2) (hp0 : a1.length ≤ 1000) (hp1 : a2.length ≤ 1000) {W0 : WX} {Pe : Addr → Prop} (hE : ExcOkG C W0 Γ Pe) (he : ∀ c, ((c = x_NoTree ∧ TM.isTree a1 = false) ∨ (c = x_Unlike ∧ TM.isTree a1 = true ∧ ¬ a2.length = a1.length)) → Pe c) : EvX C (tCallS (sp_look_at_both x_NoTree x_Unlike) (WE W0) (tCons t1 (tCons t2 tNil))) Γ (ResF C rNone (fun (b : Unit) => TM.isTree a1 = true ∧ a2.length = a1.length)) := EvX.imp (esd_call2 h1 h2 ⟨hp0, hp1⟩ hE he) (fun _ h => h)
theorem callx_look_at_both {C : Cn} {Γ : List Ent} {E : XK} {x_NoTree : Addr} {x_Unlike : Addr} {t1 : TE} {t2 : TE} {P1 : (List Int) → Prop} {P2 : (List Int) → Prop} (h1 : EvP C t1 Γ .h (rTup rInt) P1) (h2 : EvP C t2 Γ .h (rSeq rInt) P2) (hp0 : ∀ a1 a2, P1 a1 → P2 a2 → (a1.length ≤ 1000)) (hp1 : ∀ a1 a2, P1 a1 → P2 a2 → (a2.length ≤ 1000)) {Pe : Addr → Prop} (hE : ExcOk C E Pe) (he : ∀ a1 a2, P1 a1 → P2 a2 → ∀ c, ((c = x_NoTree ∧ TM.isTree a1 = false) ∨ (c = x_Unlike ∧ TM.isTree a1 = true ∧ ¬ a2.length = a1.length)) → Pe c) : EvX C (tCall (sp_look_at_both x_NoTree x_Unlike) [] E (tCons t1 (tCons t2 tNil))) Γ (ResF C rNone (fun (b : Unit) => ∃ a1 a2, P1 a1 ∧ P2 a2 ∧ (TM.isTree a1 = true ∧ a2.length = a1.length))) := ex_call2 h1 h2 (fun a1 a2 _p1 _p2 => ⟨hp0 a1 a2 _p1 _p2, hp1 a1 a2 _p1 _p2⟩) hE he
def t_look_at_both (K : PySem.W.Frag) (E : XK) (x_NoTree : Addr) (x_Unlike : Addr) : TS :=
(tSeq (tDrop (tCall (sp_look_at_tree x_NoTree) [] E (tCons (tVar 0) tNil)))
(tSeq (tIfS (tTest (tOp rNe (tCB (rLenS K) (tCons (tVar 1) tNil)) (tCB (rLenS K) (tCons (tVar 0) tNil)))) (tSeq (fun _ _ H => E (.ref x_Unlike) none H) tNext) tNext)
tNext))
theorem go_look_at_both {K : PySem.W.Frag} {C : Cn} {D : Ends} {E : XK} (x_NoTree : Addr) (x_Unlike : Addr) (tree_ : (List Int)) (row_ : (List Int)) (hp0 : tree_.length ≤ 1000) (hp1 : row_.length ≤ 1000) (hR : RetOk C D rNone (fun (b : Unit) => TM.isTree tree_ = true ∧ row_.length = tree_.length)) (hE : ExcOk C E (fun c => (c = x_NoTree ∧ TM.isTree tree_ = false) ∨ (c = x_Unlike ∧ TM.isTree tree_ = true ∧ ¬ row_.length = tree_.length))) (hN : ∀ H, D.rt .non H → ∀ σ, D.nx σ H) :
    Go C (t_look_at_both K E x_NoTree x_Unlike) D [.val .m (rTup rInt) tree_, .val .m (rSeq rInt) row_] := by
  unfold t_look_at_both
  refine q_drop (ev_call (call_look_at_tree (((ev_var (R := (rTup rInt)) (a := tree_) rfl)).toh) (by first | omega | assumption | (simp; done) | (constructor <;> omega) | (simp; omega)) hE (by intro c hc; exact .inl hc))) (fun _ hk1 => ?_)
  replace hk1 : TM.isTree tree_ = true := hk1
  refine q_ifT (ec_tstN (ev_neI ((ev_len (es_seq (ev_var (R := (rSeq rInt)) (a := row_) rfl)))) ((ev_len (es_tup (ev_var (R := (rTup rInt)) (a := tree_) rfl)))))) (fun h2 => ?_) (fun h2 => ?_)
  · refine q_raise hE ?_
    exact .inr ⟨rfl, by assumption, by omega⟩
  refine q_retE hR hN ?_
  show TM.isTree tree_ = true ∧ row_.length = tree_.length
  exact ⟨by assumption, by omega⟩
abbrev s_look_at_both : Stmt := topS 16
theorem sc_look_at_both : FnScope ["tree", "row"] ["tree", "row"] (defScope s_look_at_both) := ⟨rfl, rfl, rfl, by decide +kernel, rfl, by decide +kernel, by decide +kernel⟩
theorem ok_look_at_both {P : Program} {w : PySem.World} {K : PySem.W.Frag} {mg : Str → Option Value} {base : Heap} {x_NoTree : Addr} {x_Unlike : Addr} {f : Addr} {fd : FuncData} (F : Fun K "look_at_both" "look_at_both" s_look_at_both f fd) {f_look_at_tree : Addr} {d_look_at_tree : FuncData} (c_look_at_tree : Cal P w K mg base (L2.CX P w) 4 "look_at_tree" ["tree"] (sp_look_at_tree x_NoTree) f_look_at_tree d_look_at_tree) (m_len : mg "len" = none) (z_Unlike : ExcT K mg x_Unlike "Unlike") : FnOk P w K mg base (L2.CX P w) 5 f fd ["tree", "row"] (sp_look_at_both x_NoTree x_Unlike) := by
  have sc := sc_look_at_both
  refine F.okX sc (fun vs H Q E h => ?_) (fun cdv A outer s H vs Q E hr h => ?_)
  · obtain ⟨a_, ha_, _⟩ := h
    obtain ⟨v1, _, rfl, _ha1, ⟨v2, _, rfl, _ha2, rfl⟩⟩ := ha_
    rfl
  · obtain ⟨⟨tree_, row_, _⟩, ⟨v1, _, rfl, ha1, ⟨v2, _, rfl, ha2, rfl⟩⟩, ⟨hp0, hp1⟩, hR, hE⟩ := spF_open PIlaw (n := fun _ H' => Q .non H') h
    refine ⟨t_look_at_both K E x_NoTree x_Unlike, ?_, go_look_at_both (C := (Cn0 PIlaw H)) x_NoTree x_Unlike tree_ row_ hp0 hp1 hR hE (fun _ h _ => h) _ (W0 H []) (world_of (bok0 (PI := PIlaw) H) ⟨⟨by decide, v1, rfl, (rTup rInt).mono (mw0 (PI := PIlaw) H) ha1⟩, ⟨⟨by decide, v2, rfl, (rSeq rInt).mono (mw0 (PI := PIlaw) H) ha2⟩, trivial⟩⟩ rfl)⟩
    unfold t_look_at_both
    exact (pss_cons (ps_expr (pe_call c_look_at_tree.ok (hr.mono (by decide)) (by rfl) c_look_at_tree.g c_look_at_tree.kp c_look_at_tree.b .nil (passes_call (takes_of rfl rfl rfl rfl) (fun _ _ _ _ z => z)) (pa_cons (pv 0) pa_nil)))
(pss_cons (ps_if (pt_cmpR op_ne (pe_callB call_len_seq (by rfl) m_len bt_len (pa_cons (pv 1) pa_nil)) (pe_callB call_len_seq (by rfl) m_len bt_len (pa_cons (pv 0) pa_nil)) (nomark _)) (pss_cons (ps_raise rfl (takes_of rfl rfl rfl rfl) (pmk_own PySem.F.excBase_ValueError z_Unlike.x z_Unlike.g z_Unlike.k (raises_own z_Unlike.b z_Unlike.t) (by exact rfl))) pss_nil) pss_nil)
pss_nil))
def sp_flattest (x_NoTree : Addr) : Sp := spF (aCons (rTup rInt) aNil) (fun (a : (List Int) × Unit) => (a.1.length ≤ 100000)) (rTup rInt) (fun (a : (List Int) × Unit) b => b = TM.flatF a.1 ∧ TM.isTree a.1 = true) (fun (a : (List Int) × Unit) c => (c = x_NoTree ∧ TM.isTree a.1 = false))
theorem call_flattest {C : Cn} {Γ : List Ent} {E : XK} {x_NoTree : Addr} {t1 : TE} {a1 : (List Int)} (h1 : Ev C t1 Γ .h (rTup rInt) a1) (hp0 : a1.length ≤ 100000) {Pe : Addr → Prop} (hE : ExcOk C E Pe) (he : ∀ c, ((c = x_NoTree ∧ TM.isTree a1 = false)) → Pe c) : EvX C (tCall (sp_flattest x_NoTree) [] E (tCons t1 tNil)) Γ (ResF C (rTup rInt) (fun b => b = TM.flatF a1)) := EvX.imp (ed_call1 h1 hp0 hE he) (fun _ h => h.1)
theorem calln_flattest {C : Cn} {Γ : List Ent} {E : XK} {x_NoTree : Addr} {t1 : TE} {a1 : (List Int)} (h1 : Ev C t1 Γ .h (rTup rInt) a1) (hp0 : a1.length ≤ 100000) {Pe : Addr → Prop} (hE : ExcOk C E Pe) (he : ∀ c, ((c = x_NoTree ∧ TM.isTree a1 = false)) → Pe c) : EvX C (tCall (sp_flattest x_NoTree) [] E (tCons t1 tNil)) Γ (ResF C (rTup rInt) (fun b => b = TM.flatF a1 ∧ TM.isTree a1 = true)) := ed_call1 h1 hp0 hE he
theorem callsn_flattest {C : Cn} {Γ : List Ent} {x_NoTree : Addr} {t1 : TE} {a1 : (List Int)} (h1 : Ev C t1 Γ .h (rTup rInt) a1) (hp0 : a1.length ≤ 100000) {W0 : WX} {Pe : Addr → Prop} (hE : ExcOkG C W0 Γ Pe) (he : ∀ c, ((c = x_NoTree ∧ TM.isTree a1 = false)) → Pe c) : EvX C (tCallS (sp_flattest x_NoTree) (WE W0) (tCons t1 tNil)) Γ (ResF C (rTup rInt) (fun b => b = TM.flatF a1 ∧ TM.isTree a1 = true)) := esd_call1 h1 hp0 hE he
theorem calls_flattest {C : Cn} {Γ : List Ent} {x_NoTree : Addr} {t1 : TE} {a1 : (List Int)} (h1 : Ev C t1 Γ .h (rTup rInt) a1) (hp0 : a1.length ≤ 100000) {W0 : WX} {Pe : Addr → Prop} (hE : ExcOkG C W0 Γ Pe) (he : ∀ c, ((c = x_NoTree ∧ TM.isTree a1 = false)) → Pe c) : EvX C (tCallS (sp_flattest x_NoTree) (WE W0) (tCons t1 tNil)) Γ (ResF C (rTup rInt) (fun b => b = TM.flatF a1)) := EvX.imp (esd_call1 h1 hp0 hE he) (fun _ h => h.1)
theorem callsx_flattest {C : Cn} {Γ : List Ent} {x_NoTree : Addr} {t1 : TE} {P1 : (List Int) → Prop} (h1 : EvP C t1 Γ .h (rTup rInt) P1) (hp0 : ∀ a1, P1 a1 → (a1.length ≤ 100000)) {W0 : WX} {Pe : Addr → Prop} (hE : ExcOkG C W0 Γ Pe) (he : ∀ a1, P1 a1 → ∀ c, ((c = x_NoTree ∧ TM.isTree a1 = false)) → Pe c) : EvX C (tCallS (sp_flattest x_NoTree) (WE W0) (tCons t1 tNil)) Γ (ResF C (rTup rInt) (fun b => ∃ a1, P1 a1 ∧ (b = TM.flatF a1) ∧ TM.isTree a1 = true)) := es_call1 h1 (fun a1 _p1 => hp0 a1 _p1) hE he
-- no callx
def t_flattest (K : PySem.W.Frag) (E : XK) (x_NoTree : Addr) : TS :=
(tSeq (tDrop (tCall (sp_look_at_tree x_NoTree) [] E (tCons (tVar 0) tNil)))
(tSeq (tRet (tCB (rTupOf K) (tCons (tCall sp_flat_numbers [] E0 (tCons (tVar 0) tNil)) tNil))) tNext))
theorem go_flattest {K : PySem.W.Frag} {C : Cn} {D : Ends} {E : XK} (x_NoTree : Addr) (tree_ : (List Int)) (hp0 : tree_.length ≤ 100000) (hR : RetOk C D (rTup rInt) (fun b => b = TM.flatF tree_ ∧ TM.isTree tree_ = true)) (hE : ExcOk C E (fun c => (c = x_NoTree ∧ TM.isTree tree_ = false))) :
    Go C (t_flattest K E x_NoTree) D [.val .m (rTup rInt) tree_] := by
  unfold t_flattest
  refine q_drop (ev_call (call_look_at_tree (((ev_var (R := (rTup rInt)) (a := tree_) rfl)).toh) (by first | omega | assumption | (simp; done) | (constructor <;> omega) | (simp; omega)) hE (by intro c hc; exact hc))) (fun _ hk1 => ?_)
  replace hk1 : TM.isTree tree_ = true := hk1
  refine q_ret ((ev_tupL (ℓ := .g) (es_list (ev_the (ev_call (call_flat_numbers (((ev_seqT (ev_var (R := (rTup rInt)) (a := tree_) rfl))).toh) (by first | omega | assumption | (simp; done) | (constructor <;> omega) | (simp; omega)))) (by exact oget_some (by rw [(TM.flat_of_tree (by assumption)).1]; intro z; cases z)))))) hR (fun r2 hr2 => ?_)
  replace hr2 : r2 = (oget (TM.flatN tree_)) := hr2
  show r2 = TM.flatF tree_ ∧ TM.isTree tree_ = true
  rw [hr2]
  exact ⟨TM.flat_get (by assumption), by assumption⟩
abbrev s_flattest : Stmt := topS 12
theorem sc_flattest : FnScope ["tree"] ["tree"] (defScope s_flattest) := ⟨rfl, rfl, rfl, by decide +kernel, rfl, by decide +kernel, by decide +kernel⟩
theorem ok_flattest {P : Program} {w : PySem.World} {K : PySem.W.Frag} {mg : Str → Option Value} {base : Heap} {x_NoTree : Addr} {f : Addr} {fd : FuncData} (F : Fun K "flattest" "flattest" s_flattest f fd) {f_look_at_tree : Addr} {d_look_at_tree : FuncData} (c_look_at_tree : Cal P w K mg base (L2.CX P w) 4 "look_at_tree" ["tree"] (sp_look_at_tree x_NoTree) f_look_at_tree d_look_at_tree) {f_flat_numbers : Addr} {d_flat_numbers : FuncData} (c_flat_numbers : Cal P w K mg base CX0 2 "flat_numbers" ["tree"] sp_flat_numbers f_flat_numbers d_flat_numbers) (m_tuple : mg "tuple" = none) : FnOk P w K mg base (L2.CX P w) 5 f fd ["tree"] (sp_flattest x_NoTree) := by
  have sc := sc_flattest
  refine F.okX sc (fun vs H Q E h => ?_) (fun cdv A outer s H vs Q E hr h => ?_)
  · obtain ⟨a_, ha_, _⟩ := h
    obtain ⟨v1, _, rfl, _ha1, rfl⟩ := ha_
    rfl
  · obtain ⟨⟨tree_, _⟩, ⟨v1, _, rfl, ha1, rfl⟩, hp0, hR, hE⟩ := spF_open PIlaw (n := fun _ H' => Q .non H') h
    refine ⟨t_flattest K E x_NoTree, ?_, go_flattest (C := (Cn0 PIlaw H)) x_NoTree tree_ hp0 hR hE _ (W0 H []) (world_of (bok0 (PI := PIlaw) H) ⟨⟨by decide, v1, rfl, (rTup rInt).mono (mw0 (PI := PIlaw) H) ha1⟩, trivial⟩ rfl)⟩
    unfold t_flattest
    exact (pss_cons (ps_expr (pe_call c_look_at_tree.ok (hr.mono (by decide)) (by rfl) c_look_at_tree.g c_look_at_tree.kp c_look_at_tree.b .nil (passes_call (takes_of rfl rfl rfl rfl) (fun _ _ _ _ z => z)) (pa_cons (pv 0) pa_nil)))
(pss_cons (ps_ret (pe_callTy call_tuple_of (by rfl) m_tuple bt_tuple (pa_cons (pe_call c_flat_numbers.ok (hr.mono (by decide)) (by rfl) c_flat_numbers.g c_flat_numbers.kp c_flat_numbers.b .nil pass0 (pa_cons (pv 0) pa_nil)) pa_nil))) pss_nil))
def sp_clashing (x_NoTree : Addr) (x_Unlike : Addr) : Sp := spF (aCons (rTup rInt) (aCons (rSeq rInt) aNil)) (fun (a : (List Int) × (List Int) × Unit) => (a.1.length ≤ 1000) ∧ (a.2.1.length ≤ 1000)) (rList (rPair rInt rInt)) (fun (a : (List Int) × (List Int) × Unit) b => b = TM.clash a.1 a.2.1 ∧ TM.isTree a.1 = true ∧ a.2.1.length = a.1.length) (fun (a : (List Int) × (List Int) × Unit) c => (c = x_NoTree ∧ TM.isTree a.1 = false) ∨ (c = x_Unlike ∧ TM.isTree a.1 = true ∧ ¬ a.2.1.length = a.1.length))
theorem call_clashing {C : Cn} {Γ : List Ent} {E : XK} {x_NoTree : Addr} {x_Unlike : Addr} {t1 : TE} {t2 : TE} {a1 : (List Int)} {a2 : (List Int)} (h1 : Ev C t1 Γ .h (rTup rInt) a1) (h2 : Ev C t2 Γ .h (rSeq rInt) a2) (hp0 : a1.length ≤ 1000) (hp1 : a2.length ≤ 1000) {Pe : Addr → Prop} (hE : ExcOk C E Pe) (he : ∀ c, ((c = x_NoTree ∧ TM.isTree a1 = false) ∨ (c = x_Unlike ∧ TM.isTree a1 = true ∧ ¬ a2.length = a1.length)) → Pe c) : EvX C (tCall (sp_clashing x_NoTree x_Unlike) [] E (tCons t1 (tCons t2 tNil))) Γ (ResF C (rList (rPair rInt rInt)) (fun b => b = TM.clash a1 a2)) := EvX.imp (ed_call2 h1 h2 ⟨hp0, hp1⟩ hE he) (fun _ h => h.1)
theorem calln_clashing {C : Cn} {Γ : List Ent} {E : XK} {x_NoTree : Addr} {x_Unlike : Addr} {t1 : TE} {t2 : TE} {a1 : (List Int)} {a2 : (List Int)} (h1 : Ev C t1 Γ .h (rTup rInt) a1) (h2 : Ev C t2 Γ .h (rSeq rInt) a2) (hp0 : a1.length ≤ 1000) (hp1 : a2.length ≤ 1000) {Pe : Addr → Prop} (hE : ExcOk C E Pe) (he : ∀ c, ((c = x_NoTree ∧ TM.isTree a1 = false) ∨ (c = x_Unlike ∧ TM.isTree a1 = true ∧ ¬ a2.length = a1.length)) → Pe c) : EvX C (tCall (sp_clashing x_NoTree x_Unlike) [] E (tCons t1 (tCons t2 tNil))) Γ (ResF C (rList (rPair rInt rInt)) (fun b => b = TM.clash a1 a2 ∧ TM.isTree a1 = true ∧ a2.length = a1.length)) := ed_call2 h1 h2 ⟨hp0, hp1⟩ hE he
theorem callsn_clashing {C : Cn} {Γ : List Ent} {x_NoTree : Addr} {x_Unlike : Addr} {t1 : TE} {t2 : TE} {a1 : (List Int)} {a2 : (List Int)} (h1 : Ev C t1 Γ .h (rTup rInt) a1) (h2 : Ev C t2 Γ .h (rSeq rInt) a2) (hp0 : a1.length ≤ 1000) (hp1 : a2.length ≤ 1000) {W0 : WX} {Pe : Addr → Prop} (hE : ExcOkG C W0 Γ Pe) (he : ∀ c, ((c = x_NoTree ∧ TM.isTree a1 = false) ∨ (c = x_Unlike ∧ TM.isTree a1 = true ∧ ¬ a2.length = a1.length)) → Pe c) : EvX C (tCallS (sp_clashing x_NoTree x_Unlike) (WE W0) (tCons t1 (tCons t2 tNil))) Γ (ResF C (rList (rPair rInt rInt)) (fun b => b = TM.clash a1 a2 ∧ TM.isTree a1 = true ∧ a2.length = a1.length)) := esd_call2 h1 h2 ⟨hp0, hp1⟩ hE he
theorem calls_clashing {C : Cn} {Γ : List Ent} {x_NoTree : Addr} {x_Unlike : Addr} {t1 : TE} {t2 : TE} {a1 : (List Int)} {a2 : (List Int)} (h1 : Ev C t1 Γ .h (rTup rInt) a1) (h2 : Ev C t2 Γ .h (rSeq rInt) a2) (hp0 : a1.length ≤ 1000) (hp1 : a2.length ≤ 1000) {W0 : WX} {Pe : Addr → Prop} (hE : ExcOkG C W0 Γ Pe) (he : ∀ c, ((c = x_NoTree ∧ TM.isTree a1 = false) ∨ (c = x_Unlike ∧ TM.isTree a1 = true ∧ ¬ a2.length = a1.length)) → Pe c) : EvX C (tCallS (sp_clashing x_NoTree x_Unlike) (WE W0) (tCons t1 (tCons t2 tNil))) Γ (ResF C (rList (rPair rInt rInt)) (fun b => b = TM.clash a1 a2)) := EvX.imp (esd_call2 h1 h2 ⟨hp0, hp1⟩ hE he) (fun _ h => h.1)
-- no callx
def t_clashing (K : PySem.W.Frag) (E : XK) (x_NoTree : Addr) (x_Unlike : Addr) : TS :=
(tSeq (tDrop (tCall (sp_look_at_both x_NoTree x_Unlike) [] E (tCons (tVar 0) (tCons (tVar 1) tNil))))
(tSeq (tAsg (tCall (sp_flattest x_NoTree) [] E (tCons (tVar 0) tNil)) (gName 2))
(tSeq (tAsg (tLst tNil) (gName 3))
(tSeq (tFor (iRng1 (tCons (tCB (rLenS K) (tCons (tVar 0) tNil)) tNil)) (gName 4)
(tSeq (tFor (iList K (tCall sp_way_up [] E0 (tCons (tVar 0) (tCons (tVar 4) tNil)))) (gName 5)
(tSeq (tIfS (tTest (tOp (rI0 fun i j => .bl (decide (j < i))) (tOp (rI0 fun i j => .int (i - j)) (tOp (rI0 fun i j => .int (i + j)) (tOp (rIxK K .e) (tVar 1) (tVar 5)) (tOp (rIxK K .t) (tVar 2) (tVar 4))) (tOp (rIxK K .t) (tVar 2) (tVar 5))) (tOp (rIxK K .e) (tVar 1) (tVar 4)))) (tSeq (tDrop (tBM K "list" rAppend (tVar 3) (tCons (tTup (tCons (tVar 5) (tCons (tVar 4) tNil))) tNil)))
tNext) tNext)
tNext))
tNext))
(tSeq (tRet (tCB (rSortedPO K) (tCons (tVar 3) tNil))) tNext)))))
theorem go_clashing {K : PySem.W.Frag} {C : Cn} {D : Ends} {E : XK} (x_NoTree : Addr) (x_Unlike : Addr) (tree_ : (List Int)) (row_ : (List Int)) (hp0 : tree_.length ≤ 1000) (hp1 : row_.length ≤ 1000) (hR : RetOk C D (rList (rPair rInt rInt)) (fun b => b = TM.clash tree_ row_ ∧ TM.isTree tree_ = true ∧ row_.length = tree_.length)) (hE : ExcOk C E (fun c => (c = x_NoTree ∧ TM.isTree tree_ = false) ∨ (c = x_Unlike ∧ TM.isTree tree_ = true ∧ ¬ row_.length = tree_.length))) :
    Go C (t_clashing K E x_NoTree x_Unlike) D [.val .m (rTup rInt) tree_, .val .m (rSeq rInt) row_, .no, .no, .no, .no] := by
  unfold t_clashing
  refine q_drop (ev_call (call_look_at_both (((ev_var (R := (rTup rInt)) (a := tree_) rfl)).toh) (((ev_var (R := (rSeq rInt)) (a := row_) rfl)).toh) (by first | omega | assumption | (simp; done) | (constructor <;> omega) | (simp; omega)) (by first | omega | assumption | (simp; done) | (constructor <;> omega) | (simp; omega)) hE (by first | (intro c hc; exact hc) | (rintro c ⟨_, z⟩; rw [htt] at z; cases z)))) (fun _ hk1 => ?_)
  replace hk1 : TM.isTree tree_ = true ∧ row_.length = tree_.length := hk1
  have htt := (show _ ∧ _ by assumption).1
  have hrl := (show _ ∧ _ by assumption).2
  have hfl := TM.isTree_len htt
  refine q_asg (i := 2) (ℓ := .g) (ev_call (calln_flattest (((ev_var (R := (rTup rInt)) (a := tree_) rfl)).toh) (by first | omega | assumption | (simp; done) | (constructor <;> omega) | (simp; omega)) hE (by first | (intro c hc; exact hc) | (rintro c ⟨_, z⟩; rw [htt] at z; cases z)))) (fun flat2 hflat2 => ?_)
  obtain ⟨hflat2, hflat2_n⟩ := hflat2
  replace hflat2 : flat2 = (TM.flatF tree_) := hflat2
  replace hflat2_n : TM.isTree tree_ = true := hflat2_n
  have hfl2 : (flat2).length = (tree_).length := by rw [hflat2]; exact TM.flatF_len _
  refine q_asgN (i := 3) (ℓ := .g) (en_lstd (ℓ := .g) (R := (rPair rInt rInt)) em_nil) (fun p4 pairs3 hpairs3 => ?_)
  subst hpairs3
  refine q_forD (j := 4) (σS := (List (Int × Int))) (fun s => [.val .m (rTup rInt) tree_, .val .m (rSeq rInt) row_, .val .g (rTup rInt) flat2, .own p4 .g (rPair rInt rInt) s, .no, .no]) (fun (i : Nat) (s : (List (Int × Int))) => (s = TM.clB tree_ row_ i) ∧ (s.length ≤ 41 * i)) ([] : List (Int × Int)) (ei_rg1d (b := true) (ℓ := .g) ((ev_len (es_tup (ev_var (R := (rTup rInt)) (a := tree_) rfl)))) (by omega)) (by
        show (([] : List (Int × Int)) = TM.clB tree_ row_ 0) ∧ (([] : List (Int × Int)).length ≤ 41 * 0)
        exact ⟨rfl, Nat.le_refl _⟩) (LeG.k (LeG.k (LeG.k (LeG.k (LeG.f (LeG.f LeG.nil)))))) (fun C1 hc1 i1 x5 s hx5 hI0 => ?_) (fun s hI0 => ?_)
  · revert s hI0; intro pairs6 hI0
    replace hI0 : (pairs6 = TM.clB tree_ row_ i1) ∧ (pairs6.length ≤ 41 * i1) := hI0
    obtain ⟨hI0_0, hI0_1⟩ := hI0
    have hR := hR.ex hc1
    have hE := hE.ex hc1
    have hx5l := at_lt hx5
    have hx5r := rg_at hx5
    rw [rg_len] at hx5l
    have hpl : x5 = ((i1 : Nat) : Int) := by omega
    have hul := TM.ups_len40 htt (p := x5) (by omega)
    have hui := TM.ups_inside htt (p := x5) (by omega)
    refine q_forD (j := 5) (σS := (List (Int × Int))) (fun s => [.val .m (rTup rInt) tree_, .val .m (rSeq rInt) row_, .val .g (rTup rInt) flat2, .own p4 .g (rPair rInt rInt) s, .val .g rInt x5, .no]) (fun (i : Nat) (s : (List (Int × Int))) => (s = TM.clB tree_ row_ i1 ++ (((oget (TM.up tree_ tree_.length (gt tree_ x5))).take i).filter (TM.clP tree_ row_ x5)).map (fun a => (a, x5))) ∧ (s.length ≤ 41 * i1 + i)) pairs6 (ei_list (b := true) (hc := (by intro _; decide)) (hl := (by intro _; decide)) (es_list (ev_the (ev_call (call_way_up (((ev_seqT (ev_var (R := (rTup rInt)) (a := tree_) rfl))).toh) (((ev_var (R := rInt) (a := x5) rfl)).toh) (by first | omega | assumption | (simp; done) | (constructor <;> omega) | (simp; omega)) (by first | omega | assumption | (simp; done) | (constructor <;> omega) | (simp; omega)))) (by exact oget_some (TM.ups_some htt (by omega)))))) (by
          show (pairs6 = TM.clB tree_ row_ i1 ++ (((oget (TM.up tree_ tree_.length (gt tree_ x5))).take 0).filter (TM.clP tree_ row_ x5)).map (fun a => (a, x5))) ∧ (pairs6.length ≤ 41 * i1 + 0)
          exact ⟨by rw [hI0_0]; simp, by omega⟩) (LeG.k (LeG.k (LeG.k (LeG.k (LeG.k (LeG.f LeG.nil)))))) (fun C2 hc2 i2 x7 s hx7 hI1 => ?_) (fun s hI1 => ?_)
    · revert s hI1; intro pairs8 hI1
      replace hI1 : (pairs8 = TM.clB tree_ row_ i1 ++ (((oget (TM.up tree_ tree_.length (gt tree_ x5))).take i2).filter (TM.clP tree_ row_ x5)).map (fun a => (a, x5))) ∧ (pairs8.length ≤ 41 * i1 + i2) := hI1
      obtain ⟨hI1_0, hI1_1⟩ := hI1
      have hR := hR.ex hc2
      have hE := hE.ex hc2
      have hx7l := at_lt hx7
      have ha := hui _ (List.mem_append_right _ (List.mem_of_getElem? hx7))
      have hil : i2 < (TM.ups tree_ x5).length := (List.getElem?_eq_some_iff.mp hx7).1
      refine q_ifC (ec_tst (ev_gt ((ev_sub ((ev_add (((ev_ix (es_seq (ev_var (R := (rSeq rInt)) (a := row_) rfl)) (((ev_var (R := rInt) (a := x7) rfl)).toh) (by first | omega | (dsimp only; omega)))).toh) (((ev_ix (es_tup (ev_var (R := (rTup rInt)) (a := flat2) rfl)) (((ev_var (R := rInt) (a := x5) rfl)).toh) (by first | omega | (dsimp only; omega)))).toh))) (((ev_ix (es_tup (ev_var (R := (rTup rInt)) (a := flat2) rfl)) (((ev_var (R := rInt) (a := x7) rfl)).toh) (by first | omega | (dsimp only; omega)))).toh))) (((ev_ix (es_seq (ev_var (R := (rSeq rInt)) (a := row_) rfl)) (((ev_var (R := rInt) (a := x5) rfl)).toh) (by first | omega | (dsimp only; omega)))).toh))) (fun h9 => ?_) (fun h9 => ?_)
      · refine q_app (i := 3) (p := p4) rfl ((ev_paird (ℓ := .g) ((ev_var (R := rInt) (a := x7) rfl)) ((ev_var (R := rInt) (a := x5) rfl)))) (by first | omega | (dsimp only; omega)) (fun e10 he10 => ?_)
        replace he10 : e10 = (x7, x5) := he10
        rw [he10]; clear he10 e10
        refine q_next (?_ : Go _ tNext _ _)
        refine q_next (hol_in (pairs8 ++ [(x7, x5)]) ?_ (LeG.k (LeG.k (LeG.k (LeG.k (LeG.k (LeG.f LeG.nil)))))))
        show ((pairs8 ++ [(x7, x5)]) = TM.clB tree_ row_ i1 ++ (((oget (TM.up tree_ tree_.length (gt tree_ x5))).take (i2 + 1)).filter (TM.clP tree_ row_ x5)).map (fun a => (a, x5))) ∧ ((pairs8 ++ [(x7, x5)]).length ≤ 41 * i1 + (i2 + 1))
        first
          | exact ⟨by rw [hI1_0]; exact TM.cl_yes hx7 (by rw [← hflat2]; assumption), by rw [List.length_append, List.length_singleton]; omega⟩
          | exact ⟨by rw [hI1_0]; exact TM.cl_no hx7 (by rw [← hflat2]; assumption), by omega⟩
      · refine q_next (?_ : Go _ tNext _ _)
        refine q_next (hol_in pairs8 ?_ (LeG.k (LeG.k (LeG.k (LeG.k (LeG.k (LeG.f LeG.nil)))))))
        show (pairs8 = TM.clB tree_ row_ i1 ++ (((oget (TM.up tree_ tree_.length (gt tree_ x5))).take (i2 + 1)).filter (TM.clP tree_ row_ x5)).map (fun a => (a, x5))) ∧ (pairs8.length ≤ 41 * i1 + (i2 + 1))
        first
          | exact ⟨by rw [hI1_0]; exact TM.cl_yes hx7 (by rw [← hflat2]; assumption), by rw [List.length_append, List.length_singleton]; omega⟩
          | exact ⟨by rw [hI1_0]; exact TM.cl_no hx7 (by rw [← hflat2]; assumption), by omega⟩
    revert s hI1; intro pairs11 hI1
    replace hI1 : (pairs11 = TM.clB tree_ row_ i1 ++ (((oget (TM.up tree_ tree_.length (gt tree_ x5))).take ((oget (TM.up tree_ tree_.length (gt tree_ x5)))).length).filter (TM.clP tree_ row_ x5)).map (fun a => (a, x5))) ∧ (pairs11.length ≤ 41 * i1 + ((oget (TM.up tree_ tree_.length (gt tree_ x5)))).length) := hI1
    obtain ⟨hI1_0, hI1_1⟩ := hI1
    show Go _ _ _ [.val .m (rTup rInt) tree_, .val .m (rSeq rInt) row_, .val .g (rTup rInt) flat2, .own p4 .g (rPair rInt rInt) pairs11, .val .g rInt x5, .no]
    refine q_next (hol_in pairs11 ?_ (LeG.k (LeG.k (LeG.k (LeG.k (LeG.f (LeG.f LeG.nil)))))))
    show (pairs11 = TM.clB tree_ row_ (i1 + 1)) ∧ (pairs11.length ≤ 41 * (i1 + 1))
    rw [List.take_length] at hI1_0
    exact ⟨by rw [hI1_0, TM.clB_succ, hpl]; rfl, by change _ ≤ 41 * i1 + (TM.ups tree_ x5).length at hI1_1; omega⟩
  revert s hI0; intro pairs12 hI0
  replace hI0 : (pairs12 = TM.clB tree_ row_ ((rg 0 ((tree_).length : Int))).length) ∧ (pairs12.length ≤ 41 * ((rg 0 ((tree_).length : Int))).length) := hI0
  obtain ⟨hI0_0, hI0_1⟩ := hI0
  simp only [rg_len] at hI0_0 hI0_1
  show Go _ _ _ [.val .m (rTup rInt) tree_, .val .m (rSeq rInt) row_, .val .g (rTup rInt) flat2, .own p4 .g (rPair rInt rInt) pairs12, .no, .no]
  refine q_ret ((ev_new (ℓ := .g) (en_sortP (es_own (R := (rPair rInt rInt)) (l := pairs12) rfl)))) hR (fun r13 hr13 => ?_)
  replace hr13 : r13 = (psort pairs12) := hr13
  show r13 = TM.clash tree_ row_ ∧ TM.isTree tree_ = true ∧ row_.length = tree_.length
  rw [hr13]
  exact ⟨by rw [hI0_0, Int.sub_zero, Int.toNat_natCast]; rfl, htt, hrl⟩
abbrev s_clashing : Stmt := topS 17
theorem sc_clashing : FnScope ["tree", "row", "flat", "pairs", "b", "a"] ["tree", "row"] (defScope s_clashing) := ⟨rfl, rfl, rfl, by decide +kernel, rfl, by decide +kernel, by decide +kernel⟩
theorem ok_clashing {P : Program} {w : PySem.World} {K : PySem.W.Frag} {mg : Str → Option Value} {base : Heap} {x_NoTree : Addr} {x_Unlike : Addr} {f : Addr} {fd : FuncData} (F : Fun K "clashing" "clashing" s_clashing f fd) {f_look_at_both : Addr} {d_look_at_both : FuncData} (c_look_at_both : Cal P w K mg base (L2.CX P w) 5 "look_at_both" ["tree", "row"] (sp_look_at_both x_NoTree x_Unlike) f_look_at_both d_look_at_both) {f_flattest : Addr} {d_flattest : FuncData} (c_flattest : Cal P w K mg base (L2.CX P w) 5 "flattest" ["tree"] (sp_flattest x_NoTree) f_flattest d_flattest) {f_way_up : Addr} {d_way_up : FuncData} (c_way_up : Cal P w K mg base CX0 1 "way_up" ["tree", "place"] sp_way_up f_way_up d_way_up) (m_len : mg "len" = none) (m_range : mg "range" = none) (m_sorted : mg "sorted" = none) : FnOk P w K mg base (L2.CX P w) 6 f fd ["tree", "row"] (sp_clashing x_NoTree x_Unlike) := by
  have sc := sc_clashing
  refine F.okX sc (fun vs H Q E h => ?_) (fun cdv A outer s H vs Q E hr h => ?_)
  · obtain ⟨a_, ha_, _⟩ := h
    obtain ⟨v1, _, rfl, _ha1, ⟨v2, _, rfl, _ha2, rfl⟩⟩ := ha_
    rfl
  · obtain ⟨⟨tree_, row_, _⟩, ⟨v1, _, rfl, ha1, ⟨v2, _, rfl, ha2, rfl⟩⟩, ⟨hp0, hp1⟩, hR, hE⟩ := spF_open PIlaw (n := fun _ H' => Q .non H') h
    refine ⟨t_clashing K E x_NoTree x_Unlike, ?_, go_clashing (C := (Cn0 PIlaw H)) x_NoTree x_Unlike tree_ row_ hp0 hp1 hR hE _ (W0 H []) (world_of (bok0 (PI := PIlaw) H) ⟨⟨by decide, v1, rfl, (rTup rInt).mono (mw0 (PI := PIlaw) H) ha1⟩, ⟨⟨by decide, v2, rfl, (rSeq rInt).mono (mw0 (PI := PIlaw) H) ha2⟩, ⟨trivial, ⟨trivial, ⟨trivial, ⟨trivial, trivial⟩⟩⟩⟩⟩⟩ rfl)⟩
    unfold t_clashing
    exact (pss_cons (ps_expr (pe_call c_look_at_both.ok (hr.mono (by decide)) (by rfl) c_look_at_both.g c_look_at_both.kp c_look_at_both.b .nil (passes_call (takes_of rfl rfl rfl rfl) (fun _ _ _ _ z => z)) (pa_cons (pv 0) (pa_cons (pv 1) pa_nil))))
(pss_cons (ps_set (i := 2) sc.nd rfl (Or.inl rfl) (pe_call c_flattest.ok (hr.mono (by decide)) (by rfl) c_flattest.g c_flattest.kp c_flattest.b .nil (passes_call (takes_of rfl rfl rfl rfl) (fun _ _ _ _ z => z)) (pa_cons (pv 0) pa_nil)))
(pss_cons (ps_set (i := 3) sc.nd rfl (Or.inl rfl) (pe_lst pa_nil))
(pss_cons (ps_for PassesOwn.leaving rfl (pi_range1 rfl m_range (pa_cons (pe_callB call_len_seq (by rfl) m_len bt_len (pa_cons (pv 0) pa_nil)) pa_nil)) (pg_name (i := 4) sc.nd rfl (Or.inl rfl))
(pss_cons (ps_for PassesOwn.leaving rfl (pi_list (pe_call c_way_up.ok (hr.mono (by decide)) (by rfl) c_way_up.g c_way_up.kp c_way_up.b .nil pass0 (pa_cons (pv 0) (pa_cons (pv 4) pa_nil)))) (pg_name (i := 5) sc.nd rfl (Or.inl rfl))
(pss_cons (ps_if (pt_cmpR op_gt (pe_op op_sub (pe_op op_add (pe_ix ix_seq (pv 1) (pv 5) (fun _ _ => rfl)) (pe_ix ix_tup (pv 2) (pv 4) (fun _ _ => rfl))) (pe_ix ix_tup (pv 2) (pv 5) (fun _ _ => rfl))) (pe_ix ix_seq (pv 1) (pv 4) (fun _ _ => rfl)) (nomark _)) (pss_cons (ps_expr (pe_bm PySem.F.plainAttrs_list PySem.F.slot_list_append PySem.F.type_list_append mt_append (pv 3) (pa_cons (pe_tup (pa_cons (pv 5) (pa_cons (pv 4) pa_nil))) pa_nil)))
pss_nil) pss_nil)
pss_nil))
pss_nil))
(pss_cons (ps_ret (pe_callB cr_sortedPO (by rfl) m_sorted bt_sorted (pa_cons (pv 3) pa_nil))) pss_nil)))))
def sp_paired_anew (fu_ : Nat) : Sp := spO PIlaw (obTwo (obLst (rOpt rInt)) rInt) (oM (rList (rList rInt)) (oSelf (oM rInt (oRef oNil)))) (fun (st : ((List (Option Int)) × Addr × List Int)) (a : (List (List Int)) × Int × Addr × Unit) => (st.2.1 = a.2.2.1) ∧ (TM.PIn a.1 st.1 a.2.1 st.2.2) ∧ ((a.1.length - st.2.2.length : Nat) < fu_)) (obTwo (obLst (rOpt rInt)) rInt) rBool (fun (st : ((List (Option Int)) × Addr × List Int)) (a : (List (List Int)) × Int × Addr × Unit) b (st' : ((List (Option Int)) × Addr × List Int)) => TM.POut a.1 st.1 a.2.1 st.2.2 b st'.1 st'.2.2 ∧ st'.2.1 = st.2.1) (fun (st : ((List (Option Int)) × Addr × List Int)) (a : (List (List Int)) × Int × Addr × Unit) c => False)
theorem callo_paired_anew {C : Cn} {Γ : List Ent} {W0 : WX} {i : Nat} {x : V} {ps_ : List Addr} {ℓ : Lv} {fu_ : Nat} {t1 : TE} {t2 : TE} {a1 : (List (List Int))} {a2 : Int} {st : ((List (Option Int)) × Addr × List Int)} (hPI : C.PI = PIlaw) (hi : Γ[i]? = some (.ob x ps_ ℓ (obTwo (obLst (rOpt rInt)) rInt) st)) {jL : Nat} (hl : Γ[jL]? = some (.raw (.ref st.2.1))) (h1 : EvK C t1 Γ ps_ (rList (rList rInt)) a1) (h2 : EvK C t2 Γ ps_ rInt a2) (hp0 : TM.PIn a1 st.1 a2 st.2.2) (hp1 : (a1.length - st.2.2.length : Nat) < fu_) : EvT C (tCallS (sp_paired_anew fu_) (WE W0) (tCons t1 (tCons (tVar i) (tCons t2 (tCons (tVar jL) tNil))))) Γ i x (obTwo (obLst (rOpt rInt)) rInt) ℓ ℓ rBool (fun (b : Bool) (st' : ((List (Option Int)) × Addr × List Int)) => TM.POut a1 st.1 a2 st.2.2 b st'.1 st'.2.2 ∧ st'.2.1 = st.2.1) := evt_callS (a := (a1, a2, st.2.1, ())) (st := st) hPI hi (eao_M h1 (eao_self hi (eao_M h2 (eao_ref hl eao_nil)))) ⟨rfl, hp0, hp1⟩ (fun _ => excG0) (fun _ z => z)
theorem callu_paired_anew {C : Cn} {Γ : List Ent} {W0 : WX} {i : Nat} {x : V} {ps_ : List Addr} {ℓ : Lv} {fu_ : Nat} {t1 : TE} {t2 : TE} {a1 : (List (List Int))} {a2 : Int} {st : ((List (Option Int)) × Addr × List Int)} (hPI : C.PI = PIlaw) (hi : Γ[i]? = some (.ob x ps_ ℓ (obTwo (obLst (rOpt rInt)) rInt) st)) {jL : Nat} (hl : Γ[jL]? = some (.raw (.ref st.2.1))) (h1 : EvK C t1 Γ ps_ (rList (rList rInt)) a1) (h2 : EvK C t2 Γ ps_ rInt a2) (hp0 : TM.PIn a1 st.1 a2 st.2.2) (hp1 : (a1.length - st.2.2.length : Nat) < fu_) : EvU C (tCallS (sp_paired_anew fu_) (WE W0) (tCons t1 (tCons (tVar i) (tCons t2 (tCons (tVar jL) tNil))))) Γ i x ps_ (obTwo (obLst (rOpt rInt)) rInt) ℓ ℓ rBool (fun (b : Bool) (st' : ((List (Option Int)) × Addr × List Int)) => TM.POut a1 st.1 a2 st.2.2 b st'.1 st'.2.2 ∧ st'.2.1 = st.2.1) := evu_callS (a := (a1, a2, st.2.1, ())) (st := st) hPI hi (eao_M h1 (eao_self hi (eao_M h2 (eao_ref hl eao_nil)))) ⟨rfl, hp0, hp1⟩ (fun _ => excG0) (fun _ z => z)
def t_paired_anew (K : PySem.W.Frag) (E : XK) (fu_ : Nat) : TS :=
(tSeq (tFor (iList K (tOp (rIxK K .l) (tVar 0) (tVar 2))) (gName 4)
(tSeq (tIfS (tTest (tOp (rIn K true) (tVar 4) (tVar 3))) (tSeq (tDrop (tBM K "list" rAppend (tVar 3) (tCons (tVar 4) tNil)))
(tSeq (tIfS (tOr (tTest (tOp (fun x y H Q => y = .non ∧ Q (.bl (decide (x = .non))) H) (tOp (rIxK K .l) (tVar 1) (tVar 4)) (tC .non))) (tB (tCall (sp_paired_anew fu_) [] E0 (tCons (tVar 0) (tCons (tVar 1) (tCons (tOp (rIxK K .l) (tVar 1) (tVar 4)) (tCons (tVar 3) tNil))))))) (tSeq (tAsg (tVar 2) (gSub (tVar 1) (tVar 4) rSetL))
(tSeq (tRet (tC (.bl true))) tNext)) tNext)
tNext)) tNext)
tNext))
(tSeq (tRet (tC (.bl false))) tNext))
theorem go_paired_anew {K : PySem.W.Frag} {C : Cn} {D : Ends} {E : XK} (fu_ : Nat) (x_uppers : V) (ps_uppers : List Addr) (uppers_ : (List (Option Int))) (beneath_ : (List (List Int))) (a_ : Int) (q_seen : Addr) (seen_ : List Int) (hp0 : TM.PIn beneath_ uppers_ a_ seen_) (hp1 : (beneath_.length - seen_.length : Nat) < (fu_ + 1)) (hR : RetM C D (obTwo (obLst (rOpt rInt)) rInt) x_uppers rBool (fun (b : Bool) (st' : ((List (Option Int)) × Addr × List Int)) => TM.POut beneath_ uppers_ a_ seen_ b st'.1 st'.2.2 ∧ st'.2.1 = q_seen)) (hPI : C.PI = PIlaw) :
    Go C (t_paired_anew K E fu_) D [.val .m (rList (rList rInt)) beneath_, .ob x_uppers ps_uppers .g (obTwo (obLst (rOpt rInt)) rInt) (uppers_, q_seen, seen_), .val .m rInt a_, .raw (.ref q_seen), .no] := by
  unfold t_paired_anew
  refine q_unpack (i := 1) (j := 3) rfl rfl (by decide) (fun ps2_ => ?_)
  refine q_ofLst (i := 1) rfl (fun p_uppers hx_uppers => ?_)
  subst hx_uppers
  show Go _ _ _ [.val .m (rList (rList rInt)) beneath_, .own p_uppers .g (rOpt rInt) uppers_, .val .m rInt a_, .own q_seen .g rInt seen_, .no]
  have hbl := hp0.bo.1
  have hup := hp0.uo.1
  have hap := hp0.ar
  refine q_forD (j := 4) (σS := (List Int) × (List (Option Int))) (fun s => [.val .m (rList (rList rInt)) beneath_, .own p_uppers .g (rOpt rInt) s.2, .val .m rInt a_, .own q_seen .g rInt s.1, .no]) (fun (i : Nat) (s : (List Int) × (List (Option Int))) => (s.2 = uppers_) ∧ (TM.PLoop beneath_ uppers_ a_ seen_ i s.1)) (seen_, uppers_) (ei_list (b := true) (hc := (by intro _; decide)) (hl := (by intro _; decide)) (es_list (ev_ix (es_list (ev_var (R := (rList (rList rInt))) (a := beneath_) rfl)) (((ev_var (R := rInt) (a := a_) rfl)).toh) (by exact hp0.ar)))) (by
        show (uppers_ = uppers_) ∧ (TM.PLoop beneath_ uppers_ a_ seen_ 0 seen_)
        exact ⟨rfl, TM.pl_init hp0⟩) (LeG.k (LeG.k (LeG.k (LeG.k (LeG.f LeG.nil))))) (fun C1 hc1 i1 x1 s hx1 hI0 => ?_) (fun s hI0 => ?_)
  · obtain ⟨seen2, uppers3⟩ := s
    replace hI0 : (uppers3 = uppers_) ∧ (TM.PLoop beneath_ uppers_ a_ seen_ i1 seen2) := hI0
    obtain ⟨hI0_0, hI0_1⟩ := hI0
    have hR := hR.ex hc1
    have hPI := hc1.pi.trans hPI
    have hx1l := at_lt hx1
    have hit := hx1
    have hbl := hp0.bo.1
    have hup := hp0.uo.1
    have hap := hp0.ar
    refine q_ifC (ec_tstN (ev_nin (((ev_var (R := rInt) (a := x1) rfl)).toh) (EvS.fl fl_int (es_own (R := rInt) (l := seen2) rfl)))) (fun h4 => ?_) (fun h4 => ?_)
    · refine q_app (i := 3) (p := q_seen) rfl (((ev_var (R := rInt) (a := x1) rfl)).fl fl_int) (by exact Nat.lt_of_le_of_lt (TM.inr_len hI0_1.sr) (by omega)) (fun e5 he5 => ?_)
      replace he5 : e5 = x1 := he5
      rw [he5]; clear he5 e5
      refine q_toLst (i := 1) rfl ?_
      refine q_pack (i := 1) (j := 3) rfl rfl (by decide) ?_
      refine q_tif (i := 1) (etb_or (i := 1) rfl (eb_unpack (i := 1) (j := 3) rfl rfl (by decide) (fun _ => eb_ofLst (i := 1) rfl (ec_isN (ev_ix (es_own (R := (rOpt rInt)) (l := uppers3) rfl) (((ev_var (R := rInt) (a := x1) rfl)).toh) (by rw [hI0_0, hup]; exact TM.item_b hp0.bo hit))))) (fun hT_ => (etb_val (evt_call (callo_paired_anew (W0 := (fun c d _ H => E0 c d H)) (st := (uppers3, q_seen, (seen2 ++ [x1]))) hPI (i := 1) rfl (jL := 3) rfl (evk_of (i := 1) (ℓ := .m) rfl ((ev_var (R := (rList (rList rInt))) (a := beneath_) rfl))) (evk_of (i := 1) (ℓ := .g) rfl (ev_unpack (i := 1) (j := 3) (st := uppers3) (q := q_seen) (l := (seen2 ++ [x1])) rfl rfl (by decide) (fun _ => ev_ofLst (i := 1) rfl ((ev_the (ev_ix (es_own (R := (rOpt rInt)) (l := uppers3) rfl) (((ev_var (R := rInt) (a := x1) rfl)).toh) (by rw [hI0_0, hup]; exact TM.item_b hp0.bo hit)) (by exact oget_some hT_)))))) (by rw [hI0_0] at hT_ ⊢; exact TM.pl_in hp0 hI0_1 hit (by assumption) hT_) (by exact TM.pl_rank hp0 hI0_1 hit (by assumption) (by assumption))))))) (fun ps6 st7 hb8 => ?_) (fun ps6 st7 hb8 => ?_)
      · obtain ⟨uppers9, q10, seen11⟩ := st7
        replace hb8 : (((gt uppers3 x1) = none) ∧ true = true ∧ (uppers9, q10, seen11) = (uppers3, q_seen, (seen2 ++ [x1]))) ∨ (¬ ((gt uppers3 x1) = none) ∧ (TM.POut beneath_ uppers3 (oget (gt uppers3 x1)) (seen2 ++ [x1]) true uppers9 seen11) ∧ q10 = q_seen) := hb8
        have hq_ : q_seen = q10 := by rcases hb8 with z | z; exact (congrArg (fun w => w.2.1) z.2.2).symm; exact z.2.2.symm
        subst hq_
        replace hb8 : (((gt uppers3 x1) = none) ∧ uppers9 = uppers3 ∧ seen11 = (seen2 ++ [x1])) ∨ (¬ ((gt uppers3 x1) = none) ∧ (TM.POut beneath_ uppers3 (oget (gt uppers3 x1)) (seen2 ++ [x1]) true uppers9 seen11)) := hb8.imp (fun z => ⟨z.1, congrArg (fun w => w.1) z.2.2, congrArg (fun w => w.2.2) z.2.2⟩) (fun z => ⟨z.1, z.2.1⟩)
        refine q_unpack (i := 1) (j := 3) rfl rfl (by decide) (fun _ => ?_)
        refine q_ofLst' (i := 1) rfl ?_
        show Go _ _ _ [.val .m (rList (rList rInt)) beneath_, .own p_uppers .g (rOpt rInt) uppers9, .val .m rInt a_, .own q_seen .g rInt seen11, .val .m rInt x1]
        have huppers9 := hb8
        refine q_set (i := 1) (p := p_uppers) rfl (((ev_some (ev_var (R := rInt) (a := a_) rfl) nn_int)).fl (fl_opt fl_int)) (((ev_var (R := rInt) (a := x1) rfl)).toh) (fun n hn => by subst hn; exact (by
              have hz := (show (gt _ _ = none ∧ _) ∨ (¬ (gt _ _ = none) ∧ TM.POut _ _ _ _ true _ _) by assumption)
              rw [hI0_0] at hz
              exact TM.pl_setr hp0 hit hz)) (fun e12 n13 he12 hn13 => ?_)
        replace he12 : e12 = (some a_) := he12
        replace hn13 : n13 = x1 := hn13
        rw [he12, hn13]
        refine q_toLst (i := 1) rfl ?_
        refine q_ret2 (i := 1) (j := 3) rfl rfl (by decide) (ev_bl) hR (fun r14 hr14 => ?_)
        replace hr14 : r14 = true := hr14
        show TM.POut beneath_ uppers_ a_ seen_ r14 ((uppers9).set (x1).toNat (some a_)) seen11 ∧ q_seen = q_seen
        (try rw [hr14])
        have hz := (show (gt _ _ = none ∧ _) ∨ (¬ (gt _ _ = none) ∧ TM.POut _ _ _ _ true _ _) by assumption)
        rw [hI0_0] at hz
        exact ⟨TM.pl_true hp0 hI0_1 hit (by assumption) hz, rfl⟩
      refine q_next (?_ : Go _ _ _ _)
      obtain ⟨uppers15, q16, seen17⟩ := st7
      replace hb8 : (((gt uppers3 x1) = none) ∧ false = true ∧ (uppers15, q16, seen17) = (uppers3, q_seen, (seen2 ++ [x1]))) ∨ (¬ ((gt uppers3 x1) = none) ∧ (TM.POut beneath_ uppers3 (oget (gt uppers3 x1)) (seen2 ++ [x1]) false uppers15 seen17) ∧ q16 = q_seen) := hb8
      have hq_ : q_seen = q16 := by rcases hb8 with z | z; exact (congrArg (fun w => w.2.1) z.2.2).symm; exact z.2.2.symm
      subst hq_
      replace hb8 : ¬ ((gt uppers3 x1) = none) ∧ (TM.POut beneath_ uppers3 (oget (gt uppers3 x1)) (seen2 ++ [x1]) false uppers15 seen17) := (hb8.resolve_left (fun z => by cases z.2.1)).imp id And.left
      refine q_unpack (i := 1) (j := 3) rfl rfl (by decide) (fun _ => ?_)
      refine q_ofLst' (i := 1) rfl ?_
      show Go _ _ _ [.val .m (rList (rList rInt)) beneath_, .own p_uppers .g (rOpt rInt) uppers15, .val .m rInt a_, .own q_seen .g rInt seen17, .val .m rInt x1]
      have huppers15 := hb8
      refine q_next (?_ : Go _ tNext _ _)
      refine q_next (hol_in (seen17, uppers15) ?_ (LeG.k (LeG.k (LeG.k (LeG.k (LeG.f LeG.nil))))))
      show (uppers15 = uppers_) ∧ (TM.PLoop beneath_ uppers_ a_ seen_ (i1 + 1) seen17)
      first
      | exact ⟨hI0_0, TM.pl_skip hI0_1 hit (Classical.not_not.mp (by assumption))⟩
      | (have hz := (show ¬ (gt _ _ = none) ∧ TM.POut _ _ _ _ false _ _ by assumption)
         rw [hI0_0] at hz
         exact TM.pl_false hI0_1 hit hz.1 hz.2)
    · refine q_next (?_ : Go _ tNext _ _)
      refine q_next (hol_in (seen2, uppers3) ?_ (LeG.k (LeG.k (LeG.k (LeG.k (LeG.f LeG.nil))))))
      show (uppers3 = uppers_) ∧ (TM.PLoop beneath_ uppers_ a_ seen_ (i1 + 1) seen2)
      first
      | exact ⟨hI0_0, TM.pl_skip hI0_1 hit (Classical.not_not.mp (by assumption))⟩
      | (have hz := (show ¬ (gt _ _ = none) ∧ TM.POut _ _ _ _ false _ _ by assumption)
         rw [hI0_0] at hz
         exact TM.pl_false hI0_1 hit hz.1 hz.2)
  obtain ⟨seen18, uppers19⟩ := s
  replace hI0 : (uppers19 = uppers_) ∧ (TM.PLoop beneath_ uppers_ a_ seen_ ((gt beneath_ a_)).length seen18) := hI0
  obtain ⟨hI0_0, hI0_1⟩ := hI0
  show Go _ _ _ [.val .m (rList (rList rInt)) beneath_, .own p_uppers .g (rOpt rInt) uppers19, .val .m rInt a_, .own q_seen .g rInt seen18, .no]
  refine q_toLst (i := 1) rfl ?_
  refine q_ret2 (i := 1) (j := 3) rfl rfl (by decide) (ev_bl) hR (fun r20 hr20 => ?_)
  replace hr20 : r20 = false := hr20
  show TM.POut beneath_ uppers_ a_ seen_ r20 uppers19 seen18 ∧ q_seen = q_seen
  (try rw [hr20])
  rw [hI0_0]; exact ⟨TM.pl_end hp0 hI0_1, rfl⟩
abbrev s_paired_anew : Stmt := topS 18
theorem sc_paired_anew : FnScope ["beneath", "uppers", "a", "seen", "b"] ["beneath", "uppers", "a", "seen"] (defScope s_paired_anew) := ⟨rfl, rfl, rfl, by decide +kernel, rfl, by decide +kernel, by decide +kernel⟩
theorem okz_paired_anew {P : Program} {w : PySem.World} {K : PySem.W.Frag} {mg : Str → Option Value} {base : Heap} {f : Addr} {fd : FuncData} (F : Fun K "paired_anew" "paired_anew" s_paired_anew f fd) : FnOk P w K mg base CX0 1 f fd ["beneath", "uppers", "a", "seen"] (sp_paired_anew 0) := by
  have sc := sc_paired_anew
  refine F.ok sc (fun vs H Q E h => ?_) (fun cdv A outer s H vs Q E hr h => ?_)
  · obtain ⟨B_, M_, ps_, ks_, x_, st_, a_, _, _, _, _, _, hA_, _⟩ := h
    obtain ⟨v_beneath, r_beneath, rfl, h_beneath, ⟨r_uppers, rfl, ⟨v_a, r_a, rfl, h_a, ⟨r_seen, rfl, ⟨rfl, rfl⟩⟩⟩⟩⟩ := hA_
    rfl
  · obtain ⟨B_, M_, ps_, ks_, x_, st_, a_, _, _, _, _, _, _, hp_, _⟩ := h
    exact absurd hp_.2.2 (Nat.not_lt_zero _)
theorem ok_paired_anew {P : Program} {w : PySem.World} {K : PySem.W.Frag} {mg : Str → Option Value} {base : Heap} {fu_ : Nat} {f : Addr} {fd : FuncData} (F : Fun K "paired_anew" "paired_anew" s_paired_anew f fd) {f_paired_anew : Addr} {d_paired_anew : FuncData} (c_paired_anew : Cal P w K mg base CX0 (1 + fu_) "paired_anew" ["beneath", "uppers", "a", "seen"] (sp_paired_anew fu_) f_paired_anew d_paired_anew) : FnOk P w K mg base CX0 (1 + fu_ + 1) f fd ["beneath", "uppers", "a", "seen"] (sp_paired_anew (fu_ + 1)) := by
  have sc := sc_paired_anew
  refine F.ok sc (fun vs H Q E h => ?_) (fun cdv A outer s H vs Q E hr h => ?_)
  · obtain ⟨B_, M_, ps_, ks_, x_, st_, a_, _, _, _, _, _, hA_, _⟩ := h
    obtain ⟨v_beneath, r_beneath, rfl, h_beneath, ⟨r_uppers, rfl, ⟨v_a, r_a, rfl, h_a, ⟨r_seen, rfl, ⟨rfl, rfl⟩⟩⟩⟩⟩ := hA_
    rfl
  · obtain ⟨B_, M_, ps_, ks_, x_, ⟨w_, qs_, l_⟩, ⟨beneath_, a_, q_seen, _⟩, bk_, mw_, ob_, hA_, ⟨hq_, hp0, hp1⟩, hR, hE⟩ := spO_open (n := fun _ H' => Q .non H') h
    obtain ⟨v_beneath, r_beneath, rfl, h_beneath, ⟨r_uppers, rfl, ⟨v_a, r_a, rfl, h_a, ⟨r_seen, rfl, ⟨rfl, rfl⟩⟩⟩⟩⟩ := hA_
    have hq_ : qs_ = q_seen := hq_
    subst hq_
    refine ⟨t_paired_anew K E fu_, ?_, go_paired_anew (C := CnO PIlaw H B_ ps_ []) fu_ x_ ps_ w_ beneath_ a_ qs_ l_ hp0 hp1 hR rfl _ (WO H B_ []) (world_one 1 bk_ ⟨⟨by decide, v_beneath, rfl, (rList (rList rInt)).mono mw_ h_beneath⟩, ⟨ob_kO ob_, ⟨⟨by decide, v_a, rfl, rInt.mono mw_ h_a⟩, ⟨rfl, ⟨trivial, trivial⟩⟩⟩⟩⟩ rfl)⟩
    unfold t_paired_anew
    exact (pss_cons (ps_for PassesOwn.never rfl (pi_list (pe_ix ix_list (pv 0) (pv 2) (fun _ _ => rfl))) (pg_name (i := 4) sc.nd rfl (Or.inl rfl))
(pss_cons (ps_if (pt_cmpR op_notIn_seq (pv 4) (pv 3) (by rfl)) (pss_cons (ps_expr (pe_bm PySem.F.plainAttrs_list PySem.F.slot_list_append PySem.F.type_list_append mt_append (pv 3) (pa_cons (pv 4) pa_nil)))
(pss_cons (ps_if (PW.pt (pw_or (pt_cmpR op_isN (pe_ix ix_list (pv 1) (pv 4) (fun _ _ => rfl)) pe_non (nomark _)) (pw_or1 (pt_val (pe_call c_paired_anew.ok (hr.mono (by omega)) (by rfl) c_paired_anew.g c_paired_anew.kp c_paired_anew.b .nil pass0 (pa_cons (pv 0) (pa_cons (pv 1) (pa_cons (pe_ix ix_list (pv 1) (pv 4) (fun _ _ => rfl)) (pa_cons (pv 3) pa_nil))))))))) (pss_cons (ps_asg (pv 2) (pg_sub (pv 1) (pv 4) set_list))
(pss_cons (ps_ret pe_bl) pss_nil)) pss_nil)
pss_nil)) pss_nil)
pss_nil))
(pss_cons (ps_ret pe_bl) pss_nil))
def sp_uppers_of : Sp := spF (aCons (rList (rList rInt)) aNil) (fun (a : (List (List Int)) × Unit) => (TM.BOk a.1)) (rList (rOpt rInt)) (fun (a : (List (List Int)) × Unit) b => TM.UpOk a.1 b) (fun _ _ => False)
theorem call_uppers_of {C : Cn} {Γ : List Ent} {E : XK} {t1 : TE} {a1 : (List (List Int))} (h1 : Ev C t1 Γ .h (rList (rList rInt)) a1) (hp0 : TM.BOk a1) : EvX C (tCall (sp_uppers_of) [] E (tCons t1 tNil)) Γ (ResF C (rList (rOpt rInt)) (fun (b : (List (Option Int))) => TM.UpOk a1 b)) := ed_call1 h1 hp0 exc0 (fun _ z => z)
theorem callx_uppers_of {C : Cn} {Γ : List Ent} {E : XK} {t1 : TE} {P1 : (List (List Int)) → Prop} (h1 : EvP C t1 Γ .h (rList (rList rInt)) P1) (hp0 : ∀ a1, P1 a1 → (TM.BOk a1)) : EvX C (tCall (sp_uppers_of) [] E (tCons t1 tNil)) Γ (ResF C (rList (rOpt rInt)) (fun (b : (List (Option Int))) => ∃ a1, P1 a1 ∧ (TM.UpOk a1 b))) := ex_call1 h1 (fun a1 _p1 => hp0 a1 _p1) exc0 (fun a1 _p1 => fun _ z => z)
def t_uppers_of (K : PySem.W.Frag) (E : XK) : TS :=
(tSeq (tAsg (tLc (iList K (tVar 0)) (gName 2) tYes (tC .non) [2]) (gName 1))
(tSeq (tFor (iRng1 (tCons (tCB (rLenS K) (tCons (tVar 0) tNil)) tNil)) (gName 2)
(tSeq (tDrop (tCall (sp_paired_anew 42) [] E0 (tCons (tVar 0) (tCons (tVar 1) (tCons (tVar 2) (tCons (tLst tNil) tNil))))))
tNext))
(tSeq (tRet (tVar 1)) tNext)))
theorem go_uppers_of {K : PySem.W.Frag} {C : Cn} {D : Ends} {E : XK} (beneath_ : (List (List Int))) (hp0 : TM.BOk beneath_) (hR : RetOk C D (rList (rOpt rInt)) (fun (b : (List (Option Int))) => TM.UpOk beneath_ b)) (hPI : C.PI = PIlaw) :
    Go C (t_uppers_of K E) D [.val .m (rList (rList rInt)) beneath_, .no, .no] := by
  unfold t_uppers_of
  have hbl := hp0.1
  refine q_asgN (i := 1) (ℓ := .g) (en_mapd (ℓ' := .g) (fun c1 : (List Int) => none) (ei_list (b := false) (hc := (by intro h; exact absurd h (by decide))) (hl := (by intro h; exact absurd h (by decide))) (es_list (ev_var (R := (rList (rList rInt))) (a := beneath_) rfl))) (by omega) (fun c1 hc2 => (ev_non (R := rInt)))) (fun p5 uppers4 huppers4 => ?_)
  refine q_forD (j := 2) (σS := (List (Option Int))) (fun s => [.val .m (rList (rList rInt)) beneath_, .own p5 .g (rOpt rInt) s, .no]) (fun (i : Nat) (s : (List (Option Int))) => (TM.UpI beneath_ s i)) uppers4 (ei_rg1d (b := true) (ℓ := .g) ((ev_len (es_list (ev_var (R := (rList (rList rInt))) (a := beneath_) rfl)))) (by omega)) (by
        show (TM.UpI beneath_ uppers4 0)
        exact TM.pu_init hp0 huppers4) (LeG.k (LeG.k (LeG.f LeG.nil))) (fun C1 hc1 i1 x6 s hx6 hI0 => ?_) (fun s hI0 => ?_)
  · revert s hI0; intro uppers7 hI0
    replace hI0 : (TM.UpI beneath_ uppers7 i1) := hI0
    have hR := hR.ex hc1
    have hPI := hc1.pi.trans hPI
    have hx6l := at_lt hx6
    have hx6r := rg_at hx6
    rw [rg_len] at hx6l
    have hxi : x6 = ((i1 : Nat) : Int) := by omega
    have hxl : i1 < (beneath_).length := by omega
    refine q_tdropNew (n := 3) rfl (i := 1) (Rc := rInt) (hv_val (i := 0) rfl) (hv_own (i := 1) rfl) (hv_val (i := 2) rfl) rfl (by decide) (fun q8 => EvT.imp (P2 := fun b10 z => TM.POut beneath_ uppers7 x6 ([] : List Int) b10 z.1 z.2.2) (evt_call (callo_paired_anew (W0 := (fun c d _ H => E0 c d H)) (st := (uppers7, q8, ([] : List Int))) hPI (i := 1) rfl (jL := 3) rfl (evk_of (i := 1) (ℓ := .m) rfl ((ev_var (R := (rList (rList rInt))) (a := beneath_) rfl))) (evk_of (i := 1) (ℓ := .g) rfl ((ev_var (R := rInt) (a := x6) rfl))) (by exact TM.pu_in hI0 hxl hxi) (by show _ - 0 < 42; omega))) (fun _ _ h => h.1)) (fun uppers9 b10 q11 l12 hb13 => ?_)
    replace hb13 : TM.POut beneath_ uppers7 x6 ([] : List Int) b10 uppers9 l12 := hb13
    show Go _ _ _ [.val .m (rList (rList rInt)) beneath_, .own p5 .g (rOpt rInt) uppers9, .val .g rInt x6]
    have huppers9 := hb13
    refine q_next (hol_in uppers9 ?_ (LeG.k (LeG.k (LeG.f LeG.nil))))
    show (TM.UpI beneath_ uppers9 (i1 + 1))
    exact TM.pu_step hI0 hxl hxi (by assumption)
  revert s hI0; intro uppers14 hI0
  replace hI0 : (TM.UpI beneath_ uppers14 ((rg 0 ((beneath_).length : Int))).length) := hI0
  simp only [rg_len] at hI0
  show Go _ _ _ [.val .m (rList (rList rInt)) beneath_, .own p5 .g (rOpt rInt) uppers14, .no]
  refine q_frz (i := 1) (p := p5) rfl ?_
  refine q_ret ((ev_var (R := (rList (rOpt rInt))) (a := uppers14) rfl)) hR (fun r15 hr15 => ?_)
  replace hr15 : r15 = uppers14 := hr15
  show TM.UpOk beneath_ r15
  (try rw [hr15])
  rw [Int.sub_zero, Int.toNat_natCast] at hI0; exact TM.pu_end hI0
abbrev s_uppers_of : Stmt := topS 19
theorem sc_uppers_of : FnScope ["beneath", "uppers", "place"] ["beneath"] (defScope s_uppers_of) := ⟨rfl, rfl, rfl, by decide +kernel, rfl, by decide +kernel, by decide +kernel⟩
theorem ok_uppers_of {P : Program} {w : PySem.World} {K : PySem.W.Frag} {mg : Str → Option Value} {base : Heap} {f : Addr} {fd : FuncData} (F : Fun K "uppers_of" "uppers_of" s_uppers_of f fd) {f_paired_anew : Addr} {d_paired_anew : FuncData} (c_paired_anew : Cal P w K mg base CX0 43 "paired_anew" ["beneath", "uppers", "a", "seen"] (sp_paired_anew 42) f_paired_anew d_paired_anew) (m_len : mg "len" = none) (m_range : mg "range" = none) : FnOk P w K mg base CX0 44 f fd ["beneath"] sp_uppers_of := by
  have sc := sc_uppers_of
  refine F.ok sc (fun vs H Q E h => ?_) (fun cdv A outer s H vs Q E hr h => ?_)
  · obtain ⟨a_, ha_, _⟩ := h
    obtain ⟨v1, _, rfl, _ha1, rfl⟩ := ha_
    rfl
  · obtain ⟨⟨beneath_, _⟩, ⟨v1, _, rfl, ha1, rfl⟩, hp0, hR, hE⟩ := spF_open PIlaw (n := fun _ H' => Q .non H') h
    refine ⟨t_uppers_of K E, ?_, go_uppers_of (C := (Cn0 PIlaw H)) beneath_ hp0 hR rfl _ (W0 H []) (world_of (bok0 (PI := PIlaw) H) ⟨⟨by decide, v1, rfl, (rList (rList rInt)).mono (mw0 (PI := PIlaw) H) ha1⟩, ⟨trivial, ⟨trivial, trivial⟩⟩⟩ rfl)⟩
    unfold t_uppers_of
    exact (pss_cons (ps_setLc (i := 1) (own := [("place", 2)]) (g := (gName 2)) rfl sc.nd rfl rfl (sw_true rfl rfl rfl (by decide +kernel)) (pi_list (pv 0)) (blkOk_by (own := [("place", 2)]) (N := ["beneath", "uppers", "place"]) (sc := defScope s_uppers_of) (by decide +kernel)) (fun _ _ _ _ _ => pg_name (i := 2) sc.nd rfl (Or.inl rfl)) (fun _ _ _ _ _ => pts_nil) (fun _ _ _ _ _ => pe_non))
(pss_cons (ps_for PassesOwn.never rfl (pi_range1 rfl m_range (pa_cons (pe_callB call_len_seq (by rfl) m_len bt_len (pa_cons (pv 0) pa_nil)) pa_nil)) (pg_name (i := 2) sc.nd rfl (Or.inl rfl))
(pss_cons (ps_expr (pe_call c_paired_anew.ok (hr.mono (by decide)) (by rfl) c_paired_anew.g c_paired_anew.kp c_paired_anew.b .nil pass0 (pa_cons (pv 0) (pa_cons (pv 1) (pa_cons (pv 2) (pa_cons (pe_lst pa_nil) pa_nil))))))
pss_nil))
(pss_cons (ps_ret (pv 1)) pss_nil)))
def sp_unpaired_by : Sp := spF (aCons (rList (rList rInt)) (aCons (rList (rOpt rInt)) aNil)) (fun (a : (List (List Int)) × (List (Option Int)) × Unit) => (TM.UpOk a.1 a.2.1)) (rTup rInt) (fun (a : (List (List Int)) × (List (Option Int)) × Unit) b => TM.UnOk a.1 a.2.1 b) (fun _ _ => False)
theorem call_unpaired_by {C : Cn} {Γ : List Ent} {E : XK} {t1 : TE} {t2 : TE} {a1 : (List (List Int))} {a2 : (List (Option Int))} (h1 : Ev C t1 Γ .h (rList (rList rInt)) a1) (h2 : Ev C t2 Γ .h (rList (rOpt rInt)) a2) (hp0 : TM.UpOk a1 a2) : EvX C (tCall (sp_unpaired_by) [] E (tCons t1 (tCons t2 tNil))) Γ (ResF C (rTup rInt) (fun (b : (List Int)) => TM.UnOk a1 a2 b)) := ed_call2 h1 h2 hp0 exc0 (fun _ z => z)
theorem callx_unpaired_by {C : Cn} {Γ : List Ent} {E : XK} {t1 : TE} {t2 : TE} {P1 : (List (List Int)) → Prop} {P2 : (List (Option Int)) → Prop} (h1 : EvP C t1 Γ .h (rList (rList rInt)) P1) (h2 : EvP C t2 Γ .h (rList (rOpt rInt)) P2) (hp0 : ∀ a1 a2, P1 a1 → P2 a2 → (TM.UpOk a1 a2)) : EvX C (tCall (sp_unpaired_by) [] E (tCons t1 (tCons t2 tNil))) Γ (ResF C (rTup rInt) (fun (b : (List Int)) => ∃ a1 a2, P1 a1 ∧ P2 a2 ∧ (TM.UnOk a1 a2 b))) := ex_call2 h1 h2 (fun a1 a2 _p1 _p2 => hp0 a1 a2 _p1 _p2) exc0 (fun a1 a2 _p1 _p2 => fun _ z => z)
def t_unpaired_by (K : PySem.W.Frag) (E : XK) : TS :=
(tSeq (tAsg (tLc (iRng1 (tCons (tCB (rLenS K) (tCons (tVar 1) tNil)) tNil)) (gName 6) (tTest (tOp (rNotInD K) (tVar 6) (tVar 1))) (tVar 6) [6]) (gName 2))
(tSeq (tAsg (tLst tNil) (gName 3))
(tSeq (tAsg (tC (.int 0)) (gName 4))
(tSeq (tWhile (tTest (tOp (rI0 fun i j => .bl (decide (i < j))) (tVar 4) (tCB (rLenS K) (tCons (tVar 2) tNil))))
(tSeq (tFor (iList K (tOp (rIxK K .l) (tVar 0) (tOp (rIxK K .l) (tVar 2) (tVar 4)))) (gName 5)
(tSeq (tIfS (tTest (tOp (rIn K true) (tVar 5) (tVar 3))) (tSeq (tDrop (tBM K "list" rAppend (tVar 3) (tCons (tVar 5) tNil)))
(tSeq (tDrop (tBM K "list" rAppend (tVar 2) (tCons (tOp (rIxK K .l) (tVar 1) (tVar 5)) tNil)))
tNext)) tNext)
tNext))
(tSeq (tAsg (tOp (rI0 fun i j => .int (i + j)) (tVar 4) (tC (.int 1))) (gName 4))
tNext)))
(tSeq (tRet (tCB (rTupOf K) (tCons (tLc (iList K (tCB (rSortedI K) (tCons (tVar 2) tNil))) (gName 6) (tTest (tOp (rIn K true) (tVar 6) (tVar 3))) (tVar 6) [6]) tNil))) tNext)))))
theorem go_unpaired_by {K : PySem.W.Frag} {C : Cn} {D : Ends} {E : XK} (beneath_ : (List (List Int))) (uppers_ : (List (Option Int))) (hp0 : TM.UpOk beneath_ uppers_) (hR : RetOk C D (rTup rInt) (fun (b : (List Int)) => TM.UnOk beneath_ uppers_ b)) :
    Go C (t_unpaired_by K E) D [.val .m (rList (rList rInt)) beneath_, .val .m (rList (rOpt rInt)) uppers_, .no, .no, .no, .no, .no] := by
  unfold t_unpaired_by
  have hbl := hp0.bo.1
  have hul := hp0.uo.1
  refine q_asgN (i := 2) (ℓ := .g) (EvN.imp (en_filtd (ℓ' := .g) (fun c1 : Int => (¬ (some c1) ∈ uppers_)) (fun c1 : Int => c1) (ei_rg1d (b := false) (ℓ := .g) ((ev_len (es_list (ev_var (R := (rList (rOpt rInt))) (a := uppers_) rfl)))) (by omega)) (by rw [rg_len]; omega) (fun c1 hc2 => by
          have hc2_ := rg_mem.mp hc2
          exact (ec_ninD eqr_optI (Nat.le_of_ble_eq_true rfl) (ev_some (((ev_var (R := rInt) (a := c1) rfl)).toh) nn_int) (((ev_var (R := (rList (rOpt rInt))) (a := uppers_) rfl)).toh))) (fun c1 hc2 hp3 => by
          have hc2_ := rg_mem.mp hc2
          exact (ev_var (R := rInt) (a := c1) rfl))) (fun _ e => e.trans (List.map_id' _))) (fun p5 above4 habove4 => ?_)
  refine q_asgN (i := 3) (ℓ := .g) (en_lstd (ℓ := .g) (R := rInt) em_nil) (fun p7 met6 hmet6 => ?_)
  subst hmet6
  refine q_asg (i := 4) (ℓ := .g) (ev_int) (fun at8 hat8 => ?_)
  replace hat8 : at8 = (0 : Int) := hat8
  refine q_while (S := (List Int) × (List Int) × Int) (fun s => [.val .m (rList (rList rInt)) beneath_, .val .m (rList (rOpt rInt)) uppers_, .own p5 .g rInt s.2.1, .own p7 .g rInt s.1, .val .g rInt s.2.2, .no, .no]) (fun (s : (List Int) × (List Int) × Int) => (TM.AbI beneath_ uppers_ s.2.1 s.1 s.2.2)) (fun (s : (List Int) × (List Int) × Int) => beneath_.length - s.2.2.toNat) (fun (s : (List Int) × (List Int) × Int) => (s.2.2 < ((s.2.1).length : Int))) (([] : List Int), above4, at8) (by
        show (TM.AbI beneath_ uppers_ above4 ([] : List Int) at8)
        rw [habove4, hat8]; exact TM.ab_init hp0) (LeG.k (LeG.k (LeG.k (LeG.k (LeG.k (LeG.f (LeG.f LeG.nil))))))) (fun s hI0 => ?_) (fun s hI0 hw => ?_) (fun s hI0 hw => ?_)
  · obtain ⟨met9, above10, at11⟩ := s
    replace hI0 : (TM.AbI beneath_ uppers_ above10 met9 at11) := hI0
    exact (ec_tst (ev_lt (((ev_var (R := rInt) (a := at11) rfl)).toh) ((ev_len (es_own (R := rInt) (l := above10) rfl)))))
  · obtain ⟨met12, above13, at14⟩ := s
    replace hI0 : (TM.AbI beneath_ uppers_ above13 met12 at14) := hI0
    replace hw : (at14 < ((above13).length : Int)) := hw
    show Go _ _ _ [.val .m (rList (rList rInt)) beneath_, .val .m (rList (rOpt rInt)) uppers_, .own p5 .g rInt above13, .own p7 .g rInt met12, .val .g rInt at14, .no, .no]
    have hal := TM.ab_len hp0 hI0
    have ha0 := hI0.h0
    refine q_forD (j := 5) (σS := (List Int) × (List Int)) (fun s => [.val .m (rList (rList rInt)) beneath_, .val .m (rList (rOpt rInt)) uppers_, .own p5 .g rInt s.2, .own p7 .g rInt s.1, .val .g rInt at14, .no, .no]) (fun (i : Nat) (s : (List Int) × (List Int)) => (TM.AbL beneath_ uppers_ (gt above13 at14) i s.2 s.1 at14)) (met12, above13) (ei_list (b := true) (hc := (by intro _; decide)) (hl := (by intro _; decide)) (es_list (ev_ix (es_list (ev_var (R := (rList (rList rInt))) (a := beneath_) rfl)) (((ev_ix (es_own (R := rInt) (l := above13) rfl) (((ev_var (R := rInt) (a := at14) rfl)).toh) (by exact ⟨ha0, by assumption⟩))).toh) (by exact (TM.ab_in hp0 hI0 (gt_mem ⟨ha0, by assumption⟩)).2)))) (by
          show (TM.AbL beneath_ uppers_ (gt above13 at14) 0 above13 met12 at14)
          exact TM.abl_init hp0 hI0 hw) (LeG.k (LeG.k (LeG.k (LeG.k (LeG.k (LeG.f (LeG.f LeG.nil))))))) (fun C2 hc2 i2 x15 s hx15 hI1 => ?_) (fun s hI1 => ?_)
    · obtain ⟨met16, above17⟩ := s
      replace hI1 : (TM.AbL beneath_ uppers_ (gt above13 at14) i2 above17 met16 at14) := hI1
      have hR := hR.ex hc2
      have hx15l := at_lt hx15
      have hit := hx15
      have hbl2 := TM.ab_len hp0 hI1.ai
      have hml := TM.inr_len hI1.ai.m
      refine q_ifC (ec_tstN (ev_nin (((ev_var (R := rInt) (a := x15) rfl)).toh) (EvS.fl fl_int (es_own (R := rInt) (l := met16) rfl)))) (fun h18 => ?_) (fun h18 => ?_)
      · refine q_app (i := 3) (p := p7) rfl (((ev_var (R := rInt) (a := x15) rfl)).fl fl_int) (by exact Nat.lt_of_le_of_lt hml (by omega)) (fun e19 he19 => ?_)
        replace he19 : e19 = x15 := he19
        rw [he19]; clear he19 e19
        refine q_app (i := 2) (p := p5) rfl (((ev_the (ev_ix (es_list (ev_var (R := (rList (rOpt rInt))) (a := uppers_) rfl)) (((ev_var (R := rInt) (a := x15) rfl)).toh) (by rw [hul]; exact (TM.abl_some hp0 hI1 hit).2.1)) (by exact oget_some (TM.abl_some hp0 hI1 hit).2.2))).fl fl_int) (by exact Nat.lt_of_le_of_lt hbl2 (by omega)) (fun e20 he20 => ?_)
        replace he20 : e20 = (oget (gt uppers_ x15)) := he20
        rw [he20]; clear he20 e20
        refine q_next (?_ : Go _ tNext _ _)
        refine q_next (hol_in ((met16 ++ [x15]), (above17 ++ [(oget (gt uppers_ x15))])) ?_ (LeG.k (LeG.k (LeG.k (LeG.k (LeG.k (LeG.f (LeG.f LeG.nil))))))))
        show (TM.AbL beneath_ uppers_ (gt above13 at14) (i2 + 1) (above17 ++ [(oget (gt uppers_ x15))]) (met16 ++ [x15]) at14)
        first
        | exact TM.abl_add hp0 hI1 hit (by assumption)
        | exact TM.abl_skip hI1 hit (Classical.not_not.mp (by assumption))
      · refine q_next (?_ : Go _ tNext _ _)
        refine q_next (hol_in (met16, above17) ?_ (LeG.k (LeG.k (LeG.k (LeG.k (LeG.k (LeG.f (LeG.f LeG.nil))))))))
        show (TM.AbL beneath_ uppers_ (gt above13 at14) (i2 + 1) above17 met16 at14)
        first
        | exact TM.abl_add hp0 hI1 hit (by assumption)
        | exact TM.abl_skip hI1 hit (Classical.not_not.mp (by assumption))
    obtain ⟨met21, above22⟩ := s
    replace hI1 : (TM.AbL beneath_ uppers_ (gt above13 at14) ((gt beneath_ (gt above13 at14))).length above22 met21 at14) := hI1
    show Go _ _ _ [.val .m (rList (rList rInt)) beneath_, .val .m (rList (rOpt rInt)) uppers_, .own p5 .g rInt above22, .own p7 .g rInt met21, .val .g rInt at14, .no, .no]
    refine q_asg (i := 4) (ℓ := .g) ((ev_add (((ev_var (R := rInt) (a := at14) rfl)).toh) (ev_int))) (fun at23 hat23 => ?_)
    replace hat23 : at23 = (at14 + (1 : Int)) := hat23
    refine q_next (hol_in (met21, above22, at23) ?_ (LeG.k (LeG.k (LeG.k (LeG.k (LeG.k (LeG.f (LeG.f LeG.nil))))))))
    show ((TM.AbI beneath_ uppers_ above22 met21 at23)) ∧ beneath_.length - at23.toNat < beneath_.length - at14.toNat
    refine ⟨by rw [hat23]; exact TM.abl_end hI1, ?_⟩
    rw [hat23]; omega
  obtain ⟨met24, above25, at26⟩ := s
  replace hI0 : (TM.AbI beneath_ uppers_ above25 met24 at26) := hI0
  replace hw : ¬ (at26 < ((above25).length : Int)) := hw
  show Go _ _ _ [.val .m (rList (rList rInt)) beneath_, .val .m (rList (rOpt rInt)) uppers_, .own p5 .g rInt above25, .own p7 .g rInt met24, .val .g rInt at26, .no, .no]
  refine q_ret ((ev_tupL (ℓ := .g) (es_list (ev_new (ℓ := .g) (EvN.imp (en_filtd (ℓ' := .g) (fun c27 : Int => (¬ c27 ∈ met24)) (fun c27 : Int => c27) (ei_list (b := false) (hc := (by intro h; exact absurd h (by decide))) (hl := (by intro h; exact absurd h (by decide))) (es_list (ev_new (ℓ := .g) (en_sortI (ℓ := .g) (EvS.fl fl_int (es_own (R := rInt) (l := above25) rfl)))))) (by rw [isort_len]; have := TM.ab_len hp0 hI0; omega) (fun c27 hc28 => (ec_tstN (ev_nin (((ev_var (R := rInt) (a := c27) rfl)).toh) (EvS.fl fl_int (es_own (R := rInt) (l := met24) rfl))))) (fun c27 hc28 hp29 => (ev_var (R := rInt) (a := c27) rfl))) (fun _ e => e.trans (List.map_id' _))))))) hR (fun r30 hr30 => ?_)
  replace hr30 : r30 = ((isort above25).filter (fun c27 : Int => decide (¬ c27 ∈ met24))) := hr30
  show TM.UnOk beneath_ uppers_ r30
  (try rw [hr30])
  exact TM.ab_end hp0 hI0 hw
abbrev s_unpaired_by : Stmt := topS 21
theorem sc_unpaired_by : FnScope ["beneath", "uppers", "above", "met", "at", "b", "place"] ["beneath", "uppers"] (defScope s_unpaired_by) := ⟨rfl, rfl, rfl, by decide +kernel, rfl, by decide +kernel, by decide +kernel⟩
theorem ok_unpaired_by {P : Program} {w : PySem.World} {K : PySem.W.Frag} {mg : Str → Option Value} {base : Heap} {f : Addr} {fd : FuncData} (F : Fun K "unpaired_by" "unpaired_by" s_unpaired_by f fd) (m_len : mg "len" = none) (m_range : mg "range" = none) (m_sorted : mg "sorted" = none) (m_tuple : mg "tuple" = none) : FnOk P w K mg base CX0 1 f fd ["beneath", "uppers"] sp_unpaired_by := by
  have sc := sc_unpaired_by
  refine F.ok sc (fun vs H Q E h => ?_) (fun cdv A outer s H vs Q E hr h => ?_)
  · obtain ⟨a_, ha_, _⟩ := h
    obtain ⟨v1, _, rfl, _ha1, ⟨v2, _, rfl, _ha2, rfl⟩⟩ := ha_
    rfl
  · obtain ⟨⟨beneath_, uppers_, _⟩, ⟨v1, _, rfl, ha1, ⟨v2, _, rfl, ha2, rfl⟩⟩, hp0, hR, hE⟩ := spF_open PIlaw (n := fun _ H' => Q .non H') h
    refine ⟨t_unpaired_by K E, ?_, go_unpaired_by (C := (Cn0 PIlaw H)) beneath_ uppers_ hp0 hR _ (W0 H []) (world_of (bok0 (PI := PIlaw) H) ⟨⟨by decide, v1, rfl, (rList (rList rInt)).mono (mw0 (PI := PIlaw) H) ha1⟩, ⟨⟨by decide, v2, rfl, (rList (rOpt rInt)).mono (mw0 (PI := PIlaw) H) ha2⟩, ⟨trivial, ⟨trivial, ⟨trivial, ⟨trivial, ⟨trivial, trivial⟩⟩⟩⟩⟩⟩⟩ rfl)⟩
    unfold t_unpaired_by
    exact (pss_cons (ps_setLc (i := 2) (own := [("place", 6)]) (g := (gName 6)) rfl sc.nd rfl rfl (sw_true rfl rfl rfl (by decide +kernel)) (pi_range1 rfl m_range (pa_cons (pe_callB call_len_seq (by rfl) m_len bt_len (pa_cons (pv 1) pa_nil)) pa_nil)) (blkOk_by (own := [("place", 6)]) (N := ["beneath", "uppers", "above", "met", "at", "b", "place"]) (sc := defScope s_unpaired_by) (by decide +kernel)) (fun _ _ _ _ _ => pg_name (i := 6) sc.nd rfl (Or.inl rfl)) (fun _ _ _ _ _ => pts_one (pt_cmpR (op_notInD (roomUn5 hr)) (pv 6) (pv 1) (by rfl))) (fun _ _ _ _ _ => (pv 6)))
(pss_cons (ps_set (i := 3) sc.nd rfl (Or.inr rfl) (pe_lst pa_nil))
(pss_cons (ps_set (i := 4) sc.nd rfl (Or.inl rfl) pe_int)
(pss_cons (ps_while PassesOwn.never (pt_cmpR op_lt (pv 4) (pe_callB call_len_seq (by rfl) m_len bt_len (pa_cons (pv 2) pa_nil)) (nomark _))
(pss_cons (ps_for PassesOwn.never rfl (pi_list (pe_ix ix_list (pv 0) (pe_ix ix_list (pv 2) (pv 4) (fun _ _ => rfl)) (fun _ _ => rfl))) (pg_name (i := 5) sc.nd rfl (Or.inl rfl))
(pss_cons (ps_if (pt_cmpR op_notIn_seq (pv 5) (pv 3) (by rfl)) (pss_cons (ps_expr (pe_bm PySem.F.plainAttrs_list PySem.F.slot_list_append PySem.F.type_list_append mt_append (pv 3) (pa_cons (pv 5) pa_nil)))
(pss_cons (ps_expr (pe_bm PySem.F.plainAttrs_list PySem.F.slot_list_append PySem.F.type_list_append mt_append (pv 2) (pa_cons (pe_ix ix_list (pv 1) (pv 5) (fun _ _ => rfl)) pa_nil)))
pss_nil)) pss_nil)
pss_nil))
(pss_cons (ps_set (i := 4) sc.nd rfl (Or.inl rfl) (pe_op op_add (pv 4) pe_int))
pss_nil)))
(pss_cons (ps_ret (pe_callTy call_tuple_of (by rfl) m_tuple bt_tuple (pa_cons (pe_lc (own := [("place", 6)]) (g := (gName 6)) rfl sc.nd (pi_list (pe_callB cr_sortedI (by rfl) m_sorted bt_sorted (pa_cons (pv 2) pa_nil))) (blkOk_by (own := [("place", 6)]) (N := ["beneath", "uppers", "above", "met", "at", "b", "place"]) (sc := defScope s_unpaired_by) (by decide +kernel)) (fun _ _ _ _ _ => pg_name (i := 6) sc.nd rfl (Or.inl rfl)) (fun _ _ _ _ _ => pts_one (pt_cmpR op_notIn_seq (pv 6) (pv 3) (by rfl))) (fun _ _ _ _ _ => (pv 6))) pa_nil))) pss_nil)))))
def sp_with_elders : Sp := spF (aCons (rTup rInt) (aCons rInt aNil)) (fun (a : (List Int) × Int × Unit) => (TM.isTree a.1 = true) ∧ (0 ≤ a.2.1 ∧ a.2.1 < a.1.length)) (rList rInt) (fun (a : (List Int) × Int × Unit) b => b = [a.2.1] ++ TM.ups a.1 a.2.1) (fun _ _ => False)
theorem call_with_elders {C : Cn} {Γ : List Ent} {E : XK} {t1 : TE} {t2 : TE} {a1 : (List Int)} {a2 : Int} (h1 : Ev C t1 Γ .h (rTup rInt) a1) (h2 : Ev C t2 Γ .h rInt a2) (hp0 : TM.isTree a1 = true) (hp1 : 0 ≤ a2 ∧ a2 < a1.length) : EvX C (tCall (sp_with_elders) [] E (tCons t1 (tCons t2 tNil))) Γ (ResF C (rList rInt) (fun b => b = [a2] ++ TM.ups a1 a2)) := ed_call2 h1 h2 ⟨hp0, hp1⟩ exc0 (fun _ z => z)
theorem callx_with_elders {C : Cn} {Γ : List Ent} {E : XK} {t1 : TE} {t2 : TE} {P1 : (List Int) → Prop} {P2 : Int → Prop} (h1 : EvP C t1 Γ .h (rTup rInt) P1) (h2 : EvP C t2 Γ .h rInt P2) (hp0 : ∀ a1 a2, P1 a1 → P2 a2 → (TM.isTree a1 = true)) (hp1 : ∀ a1 a2, P1 a1 → P2 a2 → (0 ≤ a2 ∧ a2 < a1.length)) : EvX C (tCall (sp_with_elders) [] E (tCons t1 (tCons t2 tNil))) Γ (ResF C (rList rInt) (fun b => ∃ a1 a2, P1 a1 ∧ P2 a2 ∧ (b = [a2] ++ TM.ups a1 a2))) := ex_call2 h1 h2 (fun a1 a2 _p1 _p2 => ⟨hp0 a1 a2 _p1 _p2, hp1 a1 a2 _p1 _p2⟩) exc0 (fun a1 a2 _p1 _p2 => fun _ z => z)
def t_with_elders (K : PySem.W.Frag) (E : XK) : TS :=
(tSeq (tRet (tOp rCat (tLst (tCons (tVar 1) tNil)) (tCall sp_way_up [] E0 (tCons (tVar 0) (tCons (tVar 1) tNil))))) tNext)
theorem go_with_elders {K : PySem.W.Frag} {C : Cn} {D : Ends} {E : XK} (tree_ : (List Int)) (place_ : Int) (hp0 : TM.isTree tree_ = true) (hp1 : 0 ≤ place_ ∧ place_ < tree_.length) (hR : RetOk C D (rList rInt) (fun b => b = [place_] ++ TM.ups tree_ place_)) :
    Go C (t_with_elders K E) D [.val .m (rTup rInt) tree_, .val .m rInt place_] := by
  unfold t_with_elders
  have htl := TM.isTree_len hp0
  refine q_ret ((ev_new (ℓ := .g) (en_catd (es_list (ev_new (ℓ := .g) (en_lstd (ℓ := .g) (em_cons (((ev_var (R := rInt) (a := place_) rfl)).fl fl_int) em_nil) (Nat.le_of_ble_eq_true rfl)))) (es_list (ev_the (ev_call (call_way_up (((ev_seqT (ev_var (R := (rTup rInt)) (a := tree_) rfl))).toh) (((ev_var (R := rInt) (a := place_) rfl)).toh) (by first | omega | assumption | (simp; done) | (constructor <;> omega) | (simp; omega)) (by first | omega | assumption | (simp; done) | (constructor <;> omega) | (simp; omega)))) (by exact oget_some (TM.ups_some hp0 hp1)))) (by have := TM.up_len _ _ _ _ (oget_some (TM.ups_some hp0 hp1)); simp only [List.length_cons, List.length_nil]; omega)))) hR (fun r1 hr1 => ?_)
  replace hr1 : r1 = ([place_] ++ (oget (TM.up tree_ tree_.length (gt tree_ place_)))) := hr1
  show r1 = [place_] ++ TM.ups tree_ place_
  rw [hr1]
  rfl
abbrev s_with_elders : Stmt := topS 14
theorem sc_with_elders : FnScope ["tree", "place"] ["tree", "place"] (defScope s_with_elders) := ⟨rfl, rfl, rfl, by decide +kernel, rfl, by decide +kernel, by decide +kernel⟩
theorem ok_with_elders {P : Program} {w : PySem.World} {K : PySem.W.Frag} {mg : Str → Option Value} {base : Heap} {f : Addr} {fd : FuncData} (F : Fun K "with_elders" "with_elders" s_with_elders f fd) {f_way_up : Addr} {d_way_up : FuncData} (c_way_up : Cal P w K mg base CX0 1 "way_up" ["tree", "place"] sp_way_up f_way_up d_way_up) : FnOk P w K mg base CX0 2 f fd ["tree", "place"] sp_with_elders := by
  have sc := sc_with_elders
  refine F.ok sc (fun vs H Q E h => ?_) (fun cdv A outer s H vs Q E hr h => ?_)
  · obtain ⟨a_, ha_, _⟩ := h
    obtain ⟨v1, _, rfl, _ha1, ⟨v2, _, rfl, _ha2, rfl⟩⟩ := ha_
    rfl
  · obtain ⟨⟨tree_, place_, _⟩, ⟨v1, _, rfl, ha1, ⟨v2, _, rfl, ha2, rfl⟩⟩, ⟨hp0, hp1⟩, hR, hE⟩ := spF_open PIlaw (n := fun _ H' => Q .non H') h
    refine ⟨t_with_elders K E, ?_, go_with_elders (C := (Cn0 PIlaw H)) tree_ place_ hp0 hp1 hR _ (W0 H []) (world_of (bok0 (PI := PIlaw) H) ⟨⟨by decide, v1, rfl, (rTup rInt).mono (mw0 (PI := PIlaw) H) ha1⟩, ⟨⟨by decide, v2, rfl, rInt.mono (mw0 (PI := PIlaw) H) ha2⟩, trivial⟩⟩ rfl)⟩
    unfold t_with_elders
    exact (pss_cons (ps_ret (pe_op op_cat (pe_lst (pa_cons (pv 1) pa_nil)) (pe_call c_way_up.ok (hr.mono (by decide)) (by rfl) c_way_up.g c_way_up.kp c_way_up.b .nil pass0 (pa_cons (pv 0) (pa_cons (pv 1) pa_nil))))) pss_nil)
def sp_row_with : Sp := spF (aCons (rTup rInt) (aCons (rSeq rInt) (aCons (rTup rInt) aNil))) (fun (a : (List Int) × (List Int) × (List Int) × Unit) => (TM.isTree a.1 = true) ∧ (a.2.1.length = a.1.length)) (rTup rInt) (fun (a : (List Int) × (List Int) × (List Int) × Unit) b => b = TM.rst a.1 (TM.leastK a.2.1 a.2.2.1)) (fun _ _ => False)
theorem call_row_with {C : Cn} {Γ : List Ent} {E : XK} {t1 : TE} {t2 : TE} {t3 : TE} {a1 : (List Int)} {a2 : (List Int)} {a3 : (List Int)} (h1 : Ev C t1 Γ .h (rTup rInt) a1) (h2 : Ev C t2 Γ .h (rSeq rInt) a2) (h3 : Ev C t3 Γ .h (rTup rInt) a3) (hp0 : TM.isTree a1 = true) (hp1 : a2.length = a1.length) : EvX C (tCall (sp_row_with) [] E (tCons t1 (tCons t2 (tCons t3 tNil)))) Γ (ResF C (rTup rInt) (fun b => b = TM.rst a1 (TM.leastK a2 a3))) := ed_call3 h1 h2 h3 ⟨hp0, hp1⟩ exc0 (fun _ z => z)
theorem callx_row_with {C : Cn} {Γ : List Ent} {E : XK} {t1 : TE} {t2 : TE} {t3 : TE} {P1 : (List Int) → Prop} {P2 : (List Int) → Prop} {P3 : (List Int) → Prop} (h1 : EvP C t1 Γ .h (rTup rInt) P1) (h2 : EvP C t2 Γ .h (rSeq rInt) P2) (h3 : EvP C t3 Γ .h (rTup rInt) P3) (hp0 : ∀ a1 a2 a3, P1 a1 → P2 a2 → P3 a3 → (TM.isTree a1 = true)) (hp1 : ∀ a1 a2 a3, P1 a1 → P2 a2 → P3 a3 → (a2.length = a1.length)) : EvX C (tCall (sp_row_with) [] E (tCons t1 (tCons t2 (tCons t3 tNil)))) Γ (ResF C (rTup rInt) (fun b => ∃ a1 a2 a3, P1 a1 ∧ P2 a2 ∧ P3 a3 ∧ (b = TM.rst a1 (TM.leastK a2 a3)))) := ex_call3 h1 h2 h3 (fun a1 a2 a3 _p1 _p2 _p3 => ⟨hp0 a1 a2 a3 _p1 _p2 _p3, hp1 a1 a2 a3 _p1 _p2 _p3⟩) exc0 (fun a1 a2 a3 _p1 _p2 _p3 => fun _ z => z)
def t_row_with (K : PySem.W.Frag) (E : XK) (x_NoTree : Addr) : TS :=
(tSeq (tAsg (tCall (sp_flattest x_NoTree) [] E0 (tCons (tVar 0) tNil)) (gName 3))
(tSeq (tAsg (tOp (rI0 fun i j => .int (i - j)) (tCKw (rBestD K false) (tCons (tVar 1) tNil) (tCons (tC (.int 0)) tNil)) (tCB (rLenS K) (tCons (tVar 1) tNil))) (gName 4))
(tSeq (tAsg (tLc (iRng1 (tCons (tCB (rLenS K) (tCons (tVar 1) tNil)) tNil)) (gName 8) tYes (tOp (rIxK K .t) (tTup (tCons (tVar 4) (tCons (tOp (rIxK K .e) (tVar 1) (tVar 8)) tNil))) (tCB (fun xs H Q => (∃ i, xs = [.int i] ∧ Q (.int i) H) ∨ ∃ k, xs = [.bl k] ∧ Q (.int (if k then 1 else 0)) H) (tCons (tOp (rIn K false) (tVar 8) (tVar 2)) tNil))) [8]) (gName 5))
(tSeq (tAsg (tLst tNil) (gName 6))
(tSeq (tFor (iRng1 (tCons (tCB (rLenS K) (tCons (tVar 0) tNil)) tNil)) (gName 7)
(tSeq (tDrop (tBM K "list" rAppend (tVar 6) (tCons (tCB (rMax K) (tCons (tLc (iList K (tCall sp_with_elders [] E0 (tCons (tVar 0) (tCons (tVar 7) tNil)))) (gName 9) tYes (tOp (rI0 fun i j => .int (i - j)) (tOp (rI0 fun i j => .int (i + j)) (tOp (rIxK K .l) (tVar 5) (tVar 9)) (tOp (rIxK K .t) (tVar 3) (tVar 7))) (tOp (rIxK K .t) (tVar 3) (tVar 9))) [9]) tNil)) tNil)))
tNext))
(tSeq (tRet (tCB (rTupOf K) (tCons (tVar 6) tNil))) tNext))))))
theorem go_row_with {K : PySem.W.Frag} {C : Cn} {D : Ends} {E : XK} (x_NoTree : Addr) (tree_ : (List Int)) (row_ : (List Int)) (kept_ : (List Int)) (hp0 : TM.isTree tree_ = true) (hp1 : row_.length = tree_.length) (hR : RetOk C D (rTup rInt) (fun b => b = TM.rst tree_ (TM.leastK row_ kept_))) :
    Go C (t_row_with K E x_NoTree) D [.val .m (rTup rInt) tree_, .val .m (rSeq rInt) row_, .val .m (rTup rInt) kept_, .no, .no, .no, .no, .no, .no, .no] := by
  unfold t_row_with
  have htl := TM.isTree_len hp0
  refine q_asg (i := 3) (ℓ := .g) ((ev_call (call_flattest (((ev_var (R := (rTup rInt)) (a := tree_) rfl)).toh) (by omega) exc0 (by rintro c ⟨_, z⟩; rw [hp0] at z; cases z)))) (fun flat1 hflat1 => ?_)
  replace hflat1 : flat1 = (TM.flatF tree_) := hflat1
  refine q_asg (i := 4) (ℓ := .g) ((ev_sub ((ev_minD (EvS.fl fl_int (es_seq (ev_var (R := (rSeq rInt)) (a := row_) rfl))) (ev_int))) ((ev_len (es_seq (ev_var (R := (rSeq rInt)) (a := row_) rfl)))))) (fun little2 hlittle2 => ?_)
  replace hlittle2 : little2 = ((dmin row_ (0 : Int)) - ((row_).length : Int)) := hlittle2
  refine q_asg (i := 5) (ℓ := .g) ((ev_new (ℓ := .g) (en_mapd (ℓ' := .g) (fun c3 : Int => (gt [little2, (gt row_ c3)] (if (decide (c3 ∈ kept_)) = true then (1 : Int) else 0))) (ei_rg1d (b := false) (ℓ := .g) ((ev_len (es_seq (ev_var (R := (rSeq rInt)) (a := row_) rfl)))) (by omega)) (by first | (rw [rg_len]; omega) | (simp only [List.length_append, List.length_cons, List.length_nil]; omega)) (fun c3 hc4 => by
          have hc4_ := rg_mem.mp hc4
          exact (ev_ix (es_tup (ev_tup (ℓ := .g) (em_cons ((ev_var (R := rInt) (a := little2) rfl)) (em_cons (((ev_ix (es_seq (ev_var (R := (rSeq rInt)) (a := row_) rfl)) (((ev_var (R := rInt) (a := c3) rfl)).toh) (by omega))).fl fl_int) (em_nil (R := rInt)))) (fun _ e => by rw [e]; exact Nat.le_of_ble_eq_true rfl))) ((ev_intB' ((ev_in (((ev_var (R := rInt) (a := c3) rfl)).toh) (EvS.fl fl_int (es_tup (ev_var (R := (rTup rInt)) (a := kept_) rfl))))))) (by split <;> exact ⟨by omega, by show _ < ((2 : Nat) : Int); omega⟩)))))) (fun least6 hleast6 => ?_)
  replace hleast6 : least6 = ((rg 0 ((row_).length : Int)).map (fun c3 : Int => (gt [little2, (gt row_ c3)] (if (decide (c3 ∈ kept_)) = true then (1 : Int) else 0)))) := hleast6
  refine q_asgN (i := 6) (ℓ := .g) (en_lstd (ℓ := .g) (R := rInt) em_nil) (fun p8 made7 hmade7 => ?_)
  subst hmade7
  have hfl : (flat1).length = (tree_).length := by rw [hflat1]; exact TM.flatF_len _
  have hle : least6 = TM.leastK row_ kept_ := by rw [hleast6, hlittle2]; rfl
  have hll : (least6).length = (tree_).length := by rw [hle, TM.leastK_len]; exact hp1
  refine q_forD (j := 7) (σS := (List Int)) (fun s => [.val .m (rTup rInt) tree_, .val .m (rSeq rInt) row_, .val .m (rTup rInt) kept_, .val .g (rTup rInt) flat1, .val .g rInt little2, .val .g (rList rInt) least6, .own p8 .g rInt s, .no, .no, .no]) (fun (i : Nat) (s : (List Int)) => (s = (TM.rst tree_ (TM.leastK row_ kept_)).take i)) ([] : List Int) (ei_rg1d (b := true) (ℓ := .g) ((ev_len (es_tup (ev_var (R := (rTup rInt)) (a := tree_) rfl)))) (by omega)) (by
        show (([] : List Int) = (TM.rst tree_ (TM.leastK row_ kept_)).take 0)
        rfl) (LeG.k (LeG.k (LeG.k (LeG.k (LeG.k (LeG.k (LeG.k (LeG.f (LeG.f (LeG.f LeG.nil)))))))))) (fun C1 hc1 i1 x9 s hx9 hI0 => ?_) (fun s hI0 => ?_)
  · revert s hI0; intro made10 hI0
    replace hI0 : (made10 = (TM.rst tree_ (TM.leastK row_ kept_)).take i1) := hI0
    have hR := hR.ex hc1
    have hx9l := at_lt hx9
    have hx9r := rg_at hx9
    rw [rg_len] at hx9l
    have hxi : x9 = ((i1 : Nat) : Int) := by omega
    have hxl : i1 < (tree_).length := by omega
    have hui := TM.ups_inside hp0 (p := x9) (by omega)
    have hul := TM.ups_len tree_ x9
    refine q_app (i := 6) (p := p8) rfl ((ev_max (EvS.fl fl_int (es_list (ev_new (ℓ := .g) (en_mapd (ℓ' := .g) (fun c11 : Int => (((gt least6 c11) + (gt flat1 x9)) - (gt flat1 c11))) (ei_list (b := false) (hc := (by intro h; exact absurd h (by decide))) (hl := (by intro h; exact absurd h (by decide))) (es_list (ev_new (ℓ := .g) (en_call (ℓ := .g) fl_int (call_with_elders (((ev_var (R := (rTup rInt)) (a := tree_) rfl)).toh) (((ev_var (R := rInt) (a := x9) rfl)).toh) (by exact hp0) (by omega)))))) (by first | (rw [rg_len]; omega) | (simp only [List.length_append, List.length_cons, List.length_nil]; omega)) (fun c11 hc12 => (ev_sub ((ev_add (((ev_ix (es_list (ev_var (R := (rList rInt)) (a := least6) rfl)) (((ev_var (R := rInt) (a := c11) rfl)).toh) (by rw [hll]; exact hui _ (by assumption)))).toh) (((ev_ix (es_tup (ev_var (R := (rTup rInt)) (a := flat1) rfl)) (((ev_var (R := rInt) (a := x9) rfl)).toh) (by omega))).toh))) (((ev_ix (es_tup (ev_var (R := (rTup rInt)) (a := flat1) rfl)) (((ev_var (R := rInt) (a := c11) rfl)).toh) (by rw [hfl]; exact hui _ (by assumption)))).toh))))))) (by simp))) (by rw [hI0, List.length_take]; omega) (fun e14 he14 => ?_)
    replace he14 : e14 = (lmax (([x9] ++ TM.ups tree_ x9).map (fun c11 : Int => (((gt least6 c11) + (gt flat1 x9)) - (gt flat1 c11))))) := he14
    rw [he14]; clear he14 e14
    refine q_next (hol_in (made10 ++ [(lmax (([x9] ++ TM.ups tree_ x9).map (fun c11 : Int => (((gt least6 c11) + (gt flat1 x9)) - (gt flat1 c11)))))]) ?_ (LeG.k (LeG.k (LeG.k (LeG.k (LeG.k (LeG.k (LeG.k (LeG.f (LeG.f (LeG.f LeG.nil)))))))))))
    show ((made10 ++ [(lmax (([x9] ++ TM.ups tree_ x9).map (fun c11 : Int => (((gt least6 c11) + (gt flat1 x9)) - (gt flat1 c11)))))]) = (TM.rst tree_ (TM.leastK row_ kept_)).take (i1 + 1))
    rw [hle]; exact TM.rw_step hxl hflat1 hI0 hxi
  revert s hI0; intro made15 hI0
  replace hI0 : (made15 = (TM.rst tree_ (TM.leastK row_ kept_)).take ((rg 0 ((tree_).length : Int))).length) := hI0
  simp only [rg_len] at hI0
  show Go _ _ _ [.val .m (rTup rInt) tree_, .val .m (rSeq rInt) row_, .val .m (rTup rInt) kept_, .val .g (rTup rInt) flat1, .val .g rInt little2, .val .g (rList rInt) least6, .own p8 .g rInt made15, .no, .no, .no]
  refine q_ret ((ev_tupL (ℓ := .g) (es_own (R := rInt) (l := made15) rfl))) hR (fun r16 hr16 => ?_)
  replace hr16 : r16 = made15 := hr16
  show r16 = TM.rst tree_ (TM.leastK row_ kept_)
  rw [hr16]
  rw [hI0, Int.sub_zero, Int.toNat_natCast, List.take_of_length_le (by rw [TM.rst_len]; omega)]
abbrev s_row_with : Stmt := topS 22
theorem sc_row_with : FnScope ["tree", "row", "kept", "flat", "little", "least", "made", "b", "place", "a"] ["tree", "row", "kept"] (defScope s_row_with) := ⟨rfl, rfl, rfl, by decide +kernel, rfl, by decide +kernel, by decide +kernel⟩
theorem ok_row_with {P : Program} {w : PySem.World} {K : PySem.W.Frag} {mg : Str → Option Value} {base : Heap} {x_NoTree : Addr} {f : Addr} {fd : FuncData} (F : Fun K "row_with" "row_with" s_row_with f fd) {f_flattest : Addr} {d_flattest : FuncData} (c_flattest : Cal P w K mg base (L2.CX P w) 5 "flattest" ["tree"] (sp_flattest x_NoTree) f_flattest d_flattest) {f_with_elders : Addr} {d_with_elders : FuncData} (c_with_elders : Cal P w K mg base CX0 2 "with_elders" ["tree", "place"] sp_with_elders f_with_elders d_with_elders) (m_int : mg "int" = none) (m_len : mg "len" = none) (m_max : mg "max" = none) (m_min : mg "min" = none) (m_range : mg "range" = none) (m_tuple : mg "tuple" = none) : FnOk P w K mg base CX0 6 f fd ["tree", "row", "kept"] sp_row_with := by
  have sc := sc_row_with
  refine F.ok sc (fun vs H Q E h => ?_) (fun cdv A outer s H vs Q E hr h => ?_)
  · obtain ⟨a_, ha_, _⟩ := h
    obtain ⟨v1, _, rfl, _ha1, ⟨v2, _, rfl, _ha2, ⟨v3, _, rfl, _ha3, rfl⟩⟩⟩ := ha_
    rfl
  · obtain ⟨⟨tree_, row_, kept_, _⟩, ⟨v1, _, rfl, ha1, ⟨v2, _, rfl, ha2, ⟨v3, _, rfl, ha3, rfl⟩⟩⟩, ⟨hp0, hp1⟩, hR, hE⟩ := spF_open PIlaw (n := fun _ H' => Q .non H') h
    refine ⟨t_row_with K E x_NoTree, ?_, go_row_with (C := (Cn0 PIlaw H)) x_NoTree tree_ row_ kept_ hp0 hp1 hR _ (W0 H []) (world_of (bok0 (PI := PIlaw) H) ⟨⟨by decide, v1, rfl, (rTup rInt).mono (mw0 (PI := PIlaw) H) ha1⟩, ⟨⟨by decide, v2, rfl, (rSeq rInt).mono (mw0 (PI := PIlaw) H) ha2⟩, ⟨⟨by decide, v3, rfl, (rTup rInt).mono (mw0 (PI := PIlaw) H) ha3⟩, ⟨trivial, ⟨trivial, ⟨trivial, ⟨trivial, ⟨trivial, ⟨trivial, ⟨trivial, trivial⟩⟩⟩⟩⟩⟩⟩⟩⟩⟩ rfl)⟩
    unfold t_row_with
    exact (pss_cons (ps_set (i := 3) sc.nd rfl (Or.inr rfl) (pe_call c_flattest.ok (hr.mono (by decide)) (by rfl) c_flattest.g c_flattest.kp c_flattest.b .nil passL (pa_cons (pv 0) pa_nil)))
(pss_cons (ps_set (i := 4) sc.nd rfl (Or.inr rfl) (pe_op op_sub (pe_callBK (cr_minD rfl (roomUn hr)) (by rfl) m_min bt_min (pa_cons (pv 1) pa_nil) (pk_cons pe_int pk_nil)) (pe_callB call_len_seq (by rfl) m_len bt_len (pa_cons (pv 1) pa_nil))))
(pss_cons (ps_set (i := 5) sc.nd rfl (Or.inr rfl) (pe_lc (own := [("place", 8)]) (g := (gName 8)) rfl sc.nd (pi_range1 rfl m_range (pa_cons (pe_callB call_len_seq (by rfl) m_len bt_len (pa_cons (pv 1) pa_nil)) pa_nil)) (blkOk_by (own := [("place", 8)]) (N := ["tree", "row", "kept", "flat", "little", "least", "made", "b", "place", "a"]) (sc := defScope s_row_with) (by decide +kernel)) (fun _ _ _ _ _ => pg_name (i := 8) sc.nd rfl (Or.inl rfl)) (fun _ _ _ _ _ => pts_nil) (fun _ _ _ _ _ => (pe_ix ix_tup (pe_tup (pa_cons (pv 4) (pa_cons (pe_ix ix_seq (pv 1) (pv 8) (fun _ _ => rfl)) pa_nil))) (pe_callTy call_int1 (by rfl) m_int bt_int (pa_cons (pe_cmpR op_in_seq (pv 8) (pv 2) (by rfl)) pa_nil)) (fun _ _ => rfl)))))
(pss_cons (ps_set (i := 6) sc.nd rfl (Or.inl rfl) (pe_lst pa_nil))
(pss_cons (ps_for PassesOwn.never rfl (pi_range1 rfl m_range (pa_cons (pe_callB call_len_seq (by rfl) m_len bt_len (pa_cons (pv 0) pa_nil)) pa_nil)) (pg_name (i := 7) sc.nd rfl (Or.inr rfl))
(pss_cons (ps_expr (pe_bm PySem.F.plainAttrs_list PySem.F.slot_list_append PySem.F.type_list_append mt_append (pv 6) (pa_cons (pe_callB (cr_max rfl) (by rfl) m_max bt_max (pa_cons (pe_lc (own := [("a", 9)]) (g := (gName 9)) rfl sc.nd (pi_list (pe_call c_with_elders.ok (hr.mono (by decide)) (by rfl) c_with_elders.g c_with_elders.kp c_with_elders.b .nil pass0 (pa_cons (pv 0) (pa_cons (pv 7) pa_nil)))) (blkOk_by (own := [("a", 9)]) (N := ["tree", "row", "kept", "flat", "little", "least", "made", "b", "place", "a"]) (sc := defScope s_row_with) (by decide +kernel)) (fun _ _ _ _ _ => pg_name (i := 9) sc.nd rfl (Or.inl rfl)) (fun _ _ _ _ _ => pts_nil) (fun _ _ _ _ _ => (pe_op op_sub (pe_op op_add (pe_ix ix_list (pv 5) (pv 9) (fun _ _ => rfl)) (pe_ix ix_tup (pv 3) (pv 7) (fun _ _ => rfl))) (pe_ix ix_tup (pv 3) (pv 9) (fun _ _ => rfl))))) pa_nil)) pa_nil)))
pss_nil))
(pss_cons (ps_ret (pe_callTy call_tuple_of (by rfl) m_tuple bt_tuple (pa_cons (pv 6) pa_nil))) pss_nil))))))
def sp_chains_by : Sp := spF (aCons (rList (rOpt rInt)) aNil) (fun (a : (List (Option Int)) × Unit) => (TM.UOne a.1)) (rList (rTup rInt)) (fun (a : (List (Option Int)) × Unit) b => TM.ChOk a.1 b) (fun _ _ => False)
theorem call_chains_by {C : Cn} {Γ : List Ent} {E : XK} {t1 : TE} {a1 : (List (Option Int))} (h1 : Ev C t1 Γ .h (rList (rOpt rInt)) a1) (hp0 : TM.UOne a1) : EvX C (tCall (sp_chains_by) [] E (tCons t1 tNil)) Γ (ResF C (rList (rTup rInt)) (fun (b : (List (List Int))) => TM.ChOk a1 b)) := ed_call1 h1 hp0 exc0 (fun _ z => z)
theorem callx_chains_by {C : Cn} {Γ : List Ent} {E : XK} {t1 : TE} {P1 : (List (Option Int)) → Prop} (h1 : EvP C t1 Γ .h (rList (rOpt rInt)) P1) (hp0 : ∀ a1, P1 a1 → (TM.UOne a1)) : EvX C (tCall (sp_chains_by) [] E (tCons t1 tNil)) Γ (ResF C (rList (rTup rInt)) (fun (b : (List (List Int))) => ∃ a1, P1 a1 ∧ (TM.ChOk a1 b))) := ex_call1 h1 (fun a1 _p1 => hp0 a1 _p1) exc0 (fun a1 _p1 => fun _ z => z)
def t_chains_by (K : PySem.W.Frag) (E : XK) : TS :=
(tSeq (tAsg (tLc (iList K (tVar 0)) (gName 2) tYes (tC .non) [2]) (gName 1))
(tSeq (tFor (iEnum K (tCons (tVar 0) tNil)) (gTup K 2 (gCons (gName 2) (gCons (gName 3) gNil)))
(tSeq (tIfS (tTest (tOp (fun x y H Q => y = .non ∧ Q (.bl (!decide (x = .non))) H) (tVar 3) (tC .non))) (tSeq (tAsg (tVar 2) (gSub (tVar 1) (tVar 3) rSetL))
tNext) tNext)
tNext))
(tSeq (tAsg (tLst tNil) (gName 4))
(tSeq (tFor (iEnum K (tCons (tVar 0) tNil)) (gTup K 2 (gCons (gName 2) (gCons (gName 3) gNil)))
(tSeq (tIfS (tTest (tOp (fun x y H Q => y = .non ∧ Q (.bl (decide (x = .non))) H) (tVar 3) (tC .non))) (tSeq (tAsg (tLst (tCons (tVar 2) tNil)) (gName 5))
(tSeq (tWhile (tTest (tOp (fun x y H Q => y = .non ∧ Q (.bl (!decide (x = .non))) H) (tOp (rIxK K .l) (tVar 1) (tOp (rIxK K .l) (tVar 5) (tUn (rU fun i => .int (-i)) (tC (.int 1))))) (tC .non)))
(tSeq (tDrop (tBM K "list" rAppend (tVar 5) (tCons (tOp (rIxK K .l) (tVar 1) (tOp (rIxK K .l) (tVar 5) (tUn (rU fun i => .int (-i)) (tC (.int 1))))) tNil)))
tNext))
(tSeq (tDrop (tBM K "list" rAppend (tVar 4) (tCons (tCB (rTupOf K) (tCons (tVar 5) tNil)) tNil)))
tNext))) tNext)
tNext))
(tSeq (tRet (tVar 4)) tNext)))))
theorem go_chains_by {K : PySem.W.Frag} {C : Cn} {D : Ends} {E : XK} (uppers_ : (List (Option Int))) (hp0 : TM.UOne uppers_) (hR : RetOk C D (rList (rTup rInt)) (fun (b : (List (List Int))) => TM.ChOk uppers_ b)) :
    Go C (t_chains_by K E) D [.val .m (rList (rOpt rInt)) uppers_, .no, .no, .no, .no, .no] := by
  unfold t_chains_by
  have hul := hp0.len
  refine q_asgN (i := 1) (ℓ := .g) (en_mapd (ℓ' := .g) (fun c1 : (Option Int) => none) (ei_list (b := false) (hc := (by intro h; exact absurd h (by decide))) (hl := (by intro h; exact absurd h (by decide))) (es_list (ev_var (R := (rList (rOpt rInt))) (a := uppers_) rfl))) (by omega) (fun c1 hc2 => (ev_non (R := rInt)))) (fun p5 lowers4 hlowers4 => ?_)
  refine q_forD2 (i := 2) (j := 3) (σS := (List (Option Int))) (fun s => [.val .m (rList (rOpt rInt)) uppers_, .own p5 .g (rOpt rInt) s, .no, .no, .no, .no]) (fun (i : Nat) (s : (List (Option Int))) => (TM.LwI uppers_ s i)) lowers4 (ei_enumd (b := true) (hc := (by intro _; decide)) (hl := (by intro _; decide)) (es_list (ev_var (R := (rList (rOpt rInt))) (a := uppers_) rfl))) (by
        show (TM.LwI uppers_ lowers4 0)
        exact TM.lw_init hlowers4) (LeG.k (LeG.k (LeG.f (LeG.f (LeG.f (LeG.f LeG.nil)))))) (fun C1 hc1 i1 x6 s hx6 hI0 => ?_) (fun s hI0 => ?_)
  · revert s hI0; intro lowers7 hI0
    replace hI0 : (TM.LwI uppers_ lowers7 i1) := hI0
    have hR := hR.ex hc1
    have hx6l := at_lt hx6
    have hx6r := enu_at hx6
    rw [enu_len] at hx6l
    obtain ⟨hxl, hxi, hxg⟩ := TM.enu_it hx6
    refine q_ifC (ec_notN (ev_var (R := (rOpt rInt)) (a := x6.2) rfl)) (fun h8 => ?_) (fun h8 => ?_)
    · obtain ⟨g9, hg9⟩ : ∃ x, x6.2 = some x := some_of (by first | assumption | (intro z; simp_all))
      refine q_set (i := 1) (p := p5) rfl (((ev_some (ev_var (R := rInt) (a := x6.1) rfl) nn_int)).fl (fl_opt fl_int)) (((ev_the (ev_var (R := (rOpt rInt)) (a := x6.2) rfl) hg9)).toh) (fun n hn => by subst hn; exact (by
            have hn : gt uppers_ ((i1 : Nat) : Int) = some _ := hxg.symm.trans (by assumption)
            have := hp0.r _ (by omega) (by omega) _ hn
            have := hI0.1; omega)) (fun e10 n11 he10 hn11 => ?_)
      replace he10 : e10 = (some x6.1) := he10
      replace hn11 : n11 = g9 := hn11
      rw [he10, hn11]
      refine q_next (?_ : Go _ tNext _ _)
      refine q_next (hol_in ((lowers7).set (g9).toNat (some x6.1)) ?_ (LeG.k (LeG.k (LeG.f (LeG.f (LeG.f (LeG.f LeG.nil)))))))
      show (TM.LwI uppers_ ((lowers7).set (g9).toNat (some x6.1)) (i1 + 1))
      first
      | (have hn : gt uppers_ ((i1 : Nat) : Int) = none := by rw [← hxg]; exact Classical.not_not.mp (by assumption)
         exact TM.lw_none hI0 hn)
      | (have hn : gt uppers_ ((i1 : Nat) : Int) = some _ := hxg.symm.trans (by assumption)
         rw [hxi]; exact TM.lw_set hp0 hI0 hxl hn)
    · refine q_next (?_ : Go _ tNext _ _)
      refine q_next (hol_in lowers7 ?_ (LeG.k (LeG.k (LeG.f (LeG.f (LeG.f (LeG.f LeG.nil)))))))
      show (TM.LwI uppers_ lowers7 (i1 + 1))
      first
      | (have hn : gt uppers_ ((i1 : Nat) : Int) = none := by rw [← hxg]; exact Classical.not_not.mp (by assumption)
         exact TM.lw_none hI0 hn)
      | (have hn : gt uppers_ ((i1 : Nat) : Int) = some _ := hxg.symm.trans (by assumption)
         rw [hxi]; exact TM.lw_set hp0 hI0 hxl hn)
  revert s hI0; intro lowers12 hI0
  replace hI0 : (TM.LwI uppers_ lowers12 ((enu uppers_)).length) := hI0
  simp only [enu_len] at hI0
  show Go _ _ _ [.val .m (rList (rOpt rInt)) uppers_, .own p5 .g (rOpt rInt) lowers12, .no, .no, .no, .no]
  refine q_asgN (i := 4) (ℓ := .g) (en_lstd (ℓ := .g) (R := (rTup rInt)) em_nil) (fun p14 chains13 hchains13 => ?_)
  subst hchains13
  refine q_forD2 (i := 2) (j := 3) (σS := (List (List Int))) (fun s => [.val .m (rList (rOpt rInt)) uppers_, .own p5 .g (rOpt rInt) lowers12, .no, .no, .own p14 .g (rTup rInt) s, .no]) (fun (i : Nat) (s : (List (List Int))) => (TM.ChI uppers_ s i)) ([] : List (List Int)) (ei_enumd (b := true) (hc := (by intro _; decide)) (hl := (by intro _; decide)) (es_list (ev_var (R := (rList (rOpt rInt))) (a := uppers_) rfl))) (by
        show (TM.ChI uppers_ ([] : List (List Int)) 0)
        exact TM.ch_init) (LeG.k (LeG.k (LeG.f (LeG.f (LeG.k (LeG.f LeG.nil)))))) (fun C2 hc2 i2 x15 s hx15 hI1 => ?_) (fun s hI1 => ?_)
  · revert s hI1; intro chains16 hI1
    replace hI1 : (TM.ChI uppers_ chains16 i2) := hI1
    have hR := hR.ex hc2
    have hx15l := at_lt hx15
    have hx15r := enu_at hx15
    rw [enu_len] at hx15l
    obtain ⟨hyl, hyi, hyg⟩ := TM.enu_it hx15
    have hcl := TM.ch_len hI1
    refine q_ifC (ec_isN (ev_var (R := (rOpt rInt)) (a := x15.2) rfl)) (fun h17 => ?_) (fun h17 => ?_)
    · refine q_asgN (i := 5) (ℓ := .g) (en_lstd (ℓ := .g) (em_cons (((ev_var (R := rInt) (a := x15.1) rfl)).fl fl_int) em_nil) (Nat.le_of_ble_eq_true rfl)) (fun p19 chain18 hchain18 => ?_)
      refine q_while (S := (List Int)) (fun s => [.val .m (rList (rOpt rInt)) uppers_, .own p5 .g (rOpt rInt) lowers12, .val .m rInt x15.1, .val .m (rOpt rInt) x15.2, .own p14 .g (rTup rInt) chains16, .own p19 .g rInt s]) (fun (s : (List Int)) => (TM.ChW uppers_ x15.1 s)) (fun (s : (List Int)) => uppers_.length - s.length) (fun (s : (List Int)) => (¬ (gt lowers12 (gtB s 1)) = none)) chain18 (by
            show (TM.ChW uppers_ x15.1 chain18)
            rw [hchain18]; exact TM.cw_init hyl hyi (by rw [hyi, ← hyg]; assumption)) (LeG.k (LeG.k (LeG.k (LeG.k (LeG.k (LeG.k LeG.nil)))))) (fun s hI2 => ?_) (fun s hI2 hw => ?_) (fun s hI2 hw => ?_)
      · revert s hI2; intro chain20 hI2
        replace hI2 : (TM.ChW uppers_ x15.1 chain20) := hI2
        exact (ec_notN (ev_ix (es_own (R := (rOpt rInt)) (l := lowers12) rfl) (((ev_ixB (n := 1) (es_own (R := rInt) (l := chain20) rfl) (by have := TM.cw_len hI2; omega))).toh) (by have := TM.cw_last hI2; have := hI0.1; omega)))
      · revert s hI2 hw; intro chain21 hI2 hw
        replace hI2 : (TM.ChW uppers_ x15.1 chain21) := hI2
        replace hw : (¬ (gt lowers12 (gtB chain21 1)) = none) := hw
        show Go _ _ _ [.val .m (rList (rOpt rInt)) uppers_, .own p5 .g (rOpt rInt) lowers12, .val .m rInt x15.1, .val .m (rOpt rInt) x15.2, .own p14 .g (rTup rInt) chains16, .own p19 .g rInt chain21]
        have hcw := TM.cw_len hI2
        refine q_app (i := 5) (p := p19) rfl ((ev_the (ev_ix (es_own (R := (rOpt rInt)) (l := lowers12) rfl) (((ev_ixB (n := 1) (es_own (R := rInt) (l := chain21) rfl) (by have := TM.cw_len hI2; omega))).toh) (by have := TM.cw_last hI2; have := hI0.1; omega)) (by exact oget_some hw))) (by have := TM.cw_len hI2; omega) (fun e22 he22 => ?_)
        replace he22 : e22 = (oget (gt lowers12 (gtB chain21 1))) := he22
        rw [he22]; clear he22 e22
        refine q_next (hol_in (chain21 ++ [(oget (gt lowers12 (gtB chain21 1)))]) ?_ (LeG.k (LeG.k (LeG.k (LeG.k (LeG.k (LeG.k LeG.nil)))))))
        show ((TM.ChW uppers_ x15.1 (chain21 ++ [(oget (gt lowers12 (gtB chain21 1)))]))) ∧ uppers_.length - (chain21 ++ [(oget (gt lowers12 (gtB chain21 1)))]).length < uppers_.length - chain21.length
        exact TM.cw_step hI0 hI2 hw
      revert s hI2 hw; intro chain23 hI2 hw
      replace hI2 : (TM.ChW uppers_ x15.1 chain23) := hI2
      replace hw : ¬ (¬ (gt lowers12 (gtB chain23 1)) = none) := hw
      show Go _ _ _ [.val .m (rList (rOpt rInt)) uppers_, .own p5 .g (rOpt rInt) lowers12, .val .m rInt x15.1, .val .m (rOpt rInt) x15.2, .own p14 .g (rTup rInt) chains16, .own p19 .g rInt chain23]
      refine q_app (i := 4) (p := p14) rfl ((ev_tupL (ℓ := .g) (es_own (R := rInt) (l := chain23) rfl))) (by omega) (fun e24 he24 => ?_)
      replace he24 : e24 = chain23 := he24
      rw [he24]; clear he24 e24
      refine q_next (?_ : Go _ tNext _ _)
      refine q_next (hol_in (chains16 ++ [chain23]) ?_ (LeG.k (LeG.k (LeG.f (LeG.f (LeG.k (LeG.f LeG.nil)))))))
      show (TM.ChI uppers_ (chains16 ++ [chain23]) (i2 + 1))
      first
      | (have hn : gt uppers_ ((i2 : Nat) : Int) = none := by rw [← hyg]; assumption
         rw [hyi] at hI2
         exact TM.ch_add hI1 hn hI2 (TM.cw_good hI0 hI2 hw))
      | exact TM.ch_skip hI1 (by rw [← hyg]; assumption)
    · refine q_next (?_ : Go _ tNext _ _)
      refine q_next (hol_in chains16 ?_ (LeG.k (LeG.k (LeG.f (LeG.f (LeG.k (LeG.f LeG.nil)))))))
      show (TM.ChI uppers_ chains16 (i2 + 1))
      first
      | (have hn : gt uppers_ ((i2 : Nat) : Int) = none := by rw [← hyg]; assumption
         rw [hyi] at hI2
         exact TM.ch_add hI1 hn hI2 (TM.cw_good hI0 hI2 hw))
      | exact TM.ch_skip hI1 (by rw [← hyg]; assumption)
  revert s hI1; intro chains25 hI1
  replace hI1 : (TM.ChI uppers_ chains25 ((enu uppers_)).length) := hI1
  simp only [enu_len] at hI1
  show Go _ _ _ [.val .m (rList (rOpt rInt)) uppers_, .own p5 .g (rOpt rInt) lowers12, .no, .no, .own p14 .g (rTup rInt) chains25, .no]
  refine q_frz (i := 4) (p := p14) rfl ?_
  refine q_ret ((ev_var (R := (rList (rTup rInt))) (a := chains25) rfl)) hR (fun r26 hr26 => ?_)
  replace hr26 : r26 = chains25 := hr26
  show TM.ChOk uppers_ r26
  (try rw [hr26])
  exact hI1
abbrev s_chains_by : Stmt := topS 20
theorem sc_chains_by : FnScope ["uppers", "lowers", "place", "upper", "chains", "chain"] ["uppers"] (defScope s_chains_by) := ⟨rfl, rfl, rfl, by decide +kernel, rfl, by decide +kernel, by decide +kernel⟩
theorem ok_chains_by {P : Program} {w : PySem.World} {K : PySem.W.Frag} {mg : Str → Option Value} {base : Heap} {f : Addr} {fd : FuncData} (F : Fun K "chains_by" "chains_by" s_chains_by f fd) (m_enumerate : mg "enumerate" = none) (m_tuple : mg "tuple" = none) : FnOk P w K mg base CX0 1 f fd ["uppers"] sp_chains_by := by
  have sc := sc_chains_by
  refine F.ok sc (fun vs H Q E h => ?_) (fun cdv A outer s H vs Q E hr h => ?_)
  · obtain ⟨a_, ha_, _⟩ := h
    obtain ⟨v1, _, rfl, _ha1, rfl⟩ := ha_
    rfl
  · obtain ⟨⟨uppers_, _⟩, ⟨v1, _, rfl, ha1, rfl⟩, hp0, hR, hE⟩ := spF_open PIlaw (n := fun _ H' => Q .non H') h
    refine ⟨t_chains_by K E, ?_, go_chains_by (C := (Cn0 PIlaw H)) uppers_ hp0 hR _ (W0 H []) (world_of (bok0 (PI := PIlaw) H) ⟨⟨by decide, v1, rfl, (rList (rOpt rInt)).mono (mw0 (PI := PIlaw) H) ha1⟩, ⟨trivial, ⟨trivial, ⟨trivial, ⟨trivial, ⟨trivial, trivial⟩⟩⟩⟩⟩⟩ rfl)⟩
    unfold t_chains_by
    exact (pss_cons (ps_setLc (i := 1) (own := [("place", 2)]) (g := (gName 2)) rfl sc.nd rfl rfl (sw_true rfl rfl rfl (by decide +kernel)) (pi_list (pv 0)) (blkOk_by (own := [("place", 2)]) (N := ["uppers", "lowers", "place", "upper", "chains", "chain"]) (sc := defScope s_chains_by) (by decide +kernel)) (fun _ _ _ _ _ => pg_name (i := 2) sc.nd rfl (Or.inl rfl)) (fun _ _ _ _ _ => pts_nil) (fun _ _ _ _ _ => pe_non))
(pss_cons (ps_for PassesOwn.never rfl (pi_enum (by rfl) m_enumerate (pa_cons (pv 0) pa_nil)) (pg_tup rfl (pgs_cons (pg_name (i := 2) sc.nd rfl (Or.inl rfl)) (pgs_cons (pg_name (i := 3) sc.nd rfl (Or.inl rfl)) pgs_nil)))
(pss_cons (ps_if (pt_cmpR op_notN (pv 3) pe_non (nomark _)) (pss_cons (ps_asg (pv 2) (pg_sub (pv 1) (pv 3) set_list))
pss_nil) pss_nil)
pss_nil))
(pss_cons (ps_set (i := 4) sc.nd rfl (Or.inl rfl) (pe_lst pa_nil))
(pss_cons (ps_for PassesOwn.never rfl (pi_enum (by rfl) m_enumerate (pa_cons (pv 0) pa_nil)) (pg_tup rfl (pgs_cons (pg_name (i := 2) sc.nd rfl (Or.inl rfl)) (pgs_cons (pg_name (i := 3) sc.nd rfl (Or.inl rfl)) pgs_nil)))
(pss_cons (ps_if (pt_cmpR op_isN (pv 3) pe_non (nomark _)) (pss_cons (ps_set (i := 5) sc.nd rfl (Or.inl rfl) (pe_lst (pa_cons (pv 2) pa_nil)))
(pss_cons (ps_while PassesOwn.never (pt_cmpR op_notN (pe_ix ix_list (pv 1) (pe_ix ix_list (pv 5) (pe_un un_neg pe_int) (fun _ _ => rfl)) (fun _ _ => rfl)) pe_non (nomark _))
(pss_cons (ps_expr (pe_bm PySem.F.plainAttrs_list PySem.F.slot_list_append PySem.F.type_list_append mt_append (pv 5) (pa_cons (pe_ix ix_list (pv 1) (pe_ix ix_list (pv 5) (pe_un un_neg pe_int) (fun _ _ => rfl)) (fun _ _ => rfl)) pa_nil)))
pss_nil))
(pss_cons (ps_expr (pe_bm PySem.F.plainAttrs_list PySem.F.slot_list_append PySem.F.type_list_append mt_append (pv 4) (pa_cons (pe_callTy call_tuple_of (by rfl) m_tuple bt_tuple (pa_cons (pv 5) pa_nil)) pa_nil)))
pss_nil))) pss_nil)
pss_nil))
(pss_cons (ps_ret (pv 4)) pss_nil)))))
def sp_most_stay (x_NoTree : Addr) (x_Unlike : Addr) : Sp := spF (aCons (rTup rInt) (aCons (rSeq rInt) aNil)) (fun (a : (List Int) × (List Int) × Unit) => (a.1.length ≤ 1000) ∧ (a.2.1.length ≤ 1000)) (rTrip (rTup rInt) (rTup rInt) (rList (rTup rInt))) (fun (a : (List Int) × (List Int) × Unit) b => TM.MostR a.1 a.2.1 b) (fun (a : (List Int) × (List Int) × Unit) c => (c = x_NoTree ∧ TM.isTree a.1 = false) ∨ (c = x_Unlike ∧ TM.isTree a.1 = true ∧ ¬ a.2.1.length = a.1.length))
theorem call_most_stay {C : Cn} {Γ : List Ent} {E : XK} {x_NoTree : Addr} {x_Unlike : Addr} {t1 : TE} {t2 : TE} {a1 : (List Int)} {a2 : (List Int)} (h1 : Ev C t1 Γ .h (rTup rInt) a1) (h2 : Ev C t2 Γ .h (rSeq rInt) a2) (hp0 : a1.length ≤ 1000) (hp1 : a2.length ≤ 1000) {Pe : Addr → Prop} (hE : ExcOk C E Pe) (he : ∀ c, ((c = x_NoTree ∧ TM.isTree a1 = false) ∨ (c = x_Unlike ∧ TM.isTree a1 = true ∧ ¬ a2.length = a1.length)) → Pe c) : EvX C (tCall (sp_most_stay x_NoTree x_Unlike) [] E (tCons t1 (tCons t2 tNil))) Γ (ResF C (rTrip (rTup rInt) (rTup rInt) (rList (rTup rInt))) (fun (b : ((List Int) × (List Int) × (List (List Int)))) => TM.MostR a1 a2 b)) := ed_call2 h1 h2 ⟨hp0, hp1⟩ hE he
theorem callsn_most_stay {C : Cn} {Γ : List Ent} {x_NoTree : Addr} {x_Unlike : Addr} {t1 : TE} {t2 : TE} {a1 : (List Int)} {a2 : (List Int)} (h1 : Ev C t1 Γ .h (rTup rInt) a1) (h2 : Ev C t2 Γ .h (rSeq rInt) a2) (hp0 : a1.length ≤ 1000) (hp1 : a2.length ≤ 1000) {W0 : WX} {Pe : Addr → Prop} (hE : ExcOkG C W0 Γ Pe) (he : ∀ c, ((c = x_NoTree ∧ TM.isTree a1 = false) ∨ (c = x_Unlike ∧ TM.isTree a1 = true ∧ ¬ a2.length = a1.length)) → Pe c) : EvX C (tCallS (sp_most_stay x_NoTree x_Unlike) (WE W0) (tCons t1 (tCons t2 tNil))) Γ (ResF C (rTrip (rTup rInt) (rTup rInt) (rList (rTup rInt))) (fun (b : ((List Int) × (List Int) × (List (List Int)))) => TM.MostR a1 a2 b)) := esd_call2 h1 h2 ⟨hp0, hp1⟩ hE he
theorem calls_most_stay {C : Cn} {Γ : List Ent} {x_NoTree : Addr} {x_Unlike : Addr} {t1 : TE} {t2 : TE} {a1 : (List Int)} {a2 : (List Int)} (h1 : Ev C t1 Γ .h (rTup rInt) a1) (h2 : Ev C t2 Γ .h (rSeq rInt) a2) (hp0 : a1.length ≤ 1000) (hp1 : a2.length ≤ 1000) {W0 : WX} {Pe : Addr → Prop} (hE : ExcOkG C W0 Γ Pe) (he : ∀ c, ((c = x_NoTree ∧ TM.isTree a1 = false) ∨ (c = x_Unlike ∧ TM.isTree a1 = true ∧ ¬ a2.length = a1.length)) → Pe c) : EvX C (tCallS (sp_most_stay x_NoTree x_Unlike) (WE W0) (tCons t1 (tCons t2 tNil))) Γ (ResF C (rTrip (rTup rInt) (rTup rInt) (rList (rTup rInt))) (fun (b : ((List Int) × (List Int) × (List (List Int)))) => TM.MostR a1 a2 b)) := EvX.imp (esd_call2 h1 h2 ⟨hp0, hp1⟩ hE he) (fun _ h => h)
theorem callx_most_stay {C : Cn} {Γ : List Ent} {E : XK} {x_NoTree : Addr} {x_Unlike : Addr} {t1 : TE} {t2 : TE} {P1 : (List Int) → Prop} {P2 : (List Int) → Prop} (h1 : EvP C t1 Γ .h (rTup rInt) P1) (h2 : EvP C t2 Γ .h (rSeq rInt) P2) (hp0 : ∀ a1 a2, P1 a1 → P2 a2 → (a1.length ≤ 1000)) (hp1 : ∀ a1 a2, P1 a1 → P2 a2 → (a2.length ≤ 1000)) {Pe : Addr → Prop} (hE : ExcOk C E Pe) (he : ∀ a1 a2, P1 a1 → P2 a2 → ∀ c, ((c = x_NoTree ∧ TM.isTree a1 = false) ∨ (c = x_Unlike ∧ TM.isTree a1 = true ∧ ¬ a2.length = a1.length)) → Pe c) : EvX C (tCall (sp_most_stay x_NoTree x_Unlike) [] E (tCons t1 (tCons t2 tNil))) Γ (ResF C (rTrip (rTup rInt) (rTup rInt) (rList (rTup rInt))) (fun (b : ((List Int) × (List Int) × (List (List Int)))) => ∃ a1 a2, P1 a1 ∧ P2 a2 ∧ (TM.MostR a1 a2 b))) := ex_call2 h1 h2 (fun a1 a2 _p1 _p2 => ⟨hp0 a1 a2 _p1 _p2, hp1 a1 a2 _p1 _p2⟩) hE he
def t_most_stay (K : PySem.W.Frag) (E : XK) (x_NoTree : Addr) (x_Unlike : Addr) : TS :=
(tSeq (tAsg (tCall (sp_clashing x_NoTree x_Unlike) [] E (tCons (tVar 0) (tCons (tVar 1) tNil))) (gName 2))
(tSeq (tAsg (tLc (iRng1 (tCons (tCB (rLenS K) (tCons (tVar 0) tNil)) tNil)) (gName 6) tYes (tLc (iList K (tVar 2)) (gTup K 2 (gCons (gName 7) (gCons (gName 8) gNil))) (tTest (tOp rEq (tVar 7) (tVar 6))) (tVar 8) [7, 8]) [6]) (gName 3))
(tSeq (tAsg (tCall sp_uppers_of [] E0 (tCons (tVar 3) tNil)) (gName 4))
(tSeq (tAsg (tCall sp_unpaired_by [] E0 (tCons (tVar 3) (tCons (tVar 4) tNil))) (gName 5))
(tSeq (tRet (tTup (tCons (tVar 5) (tCons (tCall sp_row_with [] E0 (tCons (tVar 0) (tCons (tVar 1) (tCons (tVar 5) tNil)))) (tCons (tCall sp_chains_by [] E0 (tCons (tVar 4) tNil)) tNil))))) tNext)))))
theorem go_most_stay {K : PySem.W.Frag} {C : Cn} {D : Ends} {E : XK} (x_NoTree : Addr) (x_Unlike : Addr) (tree_ : (List Int)) (row_ : (List Int)) (hp0 : tree_.length ≤ 1000) (hp1 : row_.length ≤ 1000) (hR : RetOk C D (rTrip (rTup rInt) (rTup rInt) (rList (rTup rInt))) (fun (b : ((List Int) × (List Int) × (List (List Int)))) => TM.MostR tree_ row_ b)) (hE : ExcOk C E (fun c => (c = x_NoTree ∧ TM.isTree tree_ = false) ∨ (c = x_Unlike ∧ TM.isTree tree_ = true ∧ ¬ row_.length = tree_.length))) :
    Go C (t_most_stay K E x_NoTree x_Unlike) D [.val .m (rTup rInt) tree_, .val .m (rSeq rInt) row_, .no, .no, .no, .no, .no, .no, .no] := by
  unfold t_most_stay
  refine q_asg (i := 2) (ℓ := .g) (ev_call (calln_clashing (((ev_var (R := (rTup rInt)) (a := tree_) rfl)).toh) (((ev_var (R := (rSeq rInt)) (a := row_) rfl)).toh) (by omega) (by omega) hE (by intro c hc; exact hc))) (fun pairs1 hpairs1 => ?_)
  obtain ⟨hpairs1, hpairs1_n⟩ := hpairs1
  replace hpairs1 : pairs1 = (TM.clash tree_ row_) := hpairs1
  replace hpairs1_n : TM.isTree tree_ = true ∧ row_.length = tree_.length := hpairs1_n
  obtain ⟨htr, hrl⟩ := (show TM.isTree tree_ = true ∧ _ by assumption)
  have htl := TM.isTree_len htr
  have hcl := TM.clash_len htr row_
  rw [← hpairs1] at hcl
  refine q_asg (i := 3) (ℓ := .g) ((ev_new (ℓ := .g) (en_mapd (ℓ' := .g) (fun c2 : Int => ((pairs1.filter (fun c5 : (Int × Int) => decide (c5.1 = c2))).map (fun c5 : (Int × Int) => c5.2))) (ei_rg1d (b := false) (ℓ := .g) ((ev_len (es_tup (ev_var (R := (rTup rInt)) (a := tree_) rfl)))) (by omega)) (by rw [rg_len]; omega) (fun c2 hc3 => by
          have hc3_ := rg_mem.mp hc3
          exact (ev_new (ℓ := .g) (en_filt2c (ℓ' := .g) (fun c5 : (Int × Int) => (c5.1 = c2)) (fun c5 : (Int × Int) => c5.2) (by decide) (ei_list (b := false) (hc := (by intro h; exact absurd h (by decide))) (hl := (by intro h; exact absurd h (by decide))) (es_list (ev_var (R := (rList (rPair rInt rInt))) (a := pairs1) rfl))) (by omega) (fun c5 hc6 => (ec_tst (ev_eqI (((ev_var (R := rInt) (a := c5.1) rfl)).toh) (((ev_var (R := rInt) (a := c2) rfl)).toh)))) (fun c5 hc6 hp7 => (ev_var (R := rInt) (a := c5.2) rfl)))))))) (fun beneath8 hbeneath8 => ?_)
  replace hbeneath8 : beneath8 = ((rg 0 ((tree_).length : Int)).map (fun c2 : Int => ((pairs1.filter (fun c5 : (Int × Int) => decide (c5.1 = c2))).map (fun c5 : (Int × Int) => c5.2)))) := hbeneath8
  have hbe : beneath8 = TM.benF tree_ row_ := by rw [hbeneath8, hpairs1]; rfl
  refine q_asg (i := 4) (ℓ := .g) (ev_call (call_uppers_of (((ev_var (R := (rList (rList rInt))) (a := beneath8) rfl)).toh) (by
        rw [hbe]; exact TM.ben_ok htr))) (fun uppers10 huppers10 => ?_)
  replace huppers10 : TM.UpOk beneath8 uppers10 := huppers10
  refine q_asg (i := 5) (ℓ := .g) (ev_call (call_unpaired_by (((ev_var (R := (rList (rList rInt))) (a := beneath8) rfl)).toh) (((ev_var (R := (rList (rOpt rInt))) (a := uppers10) rfl)).toh) (by
        assumption))) (fun kept13 hkept13 => ?_)
  replace hkept13 : TM.UnOk beneath8 uppers10 kept13 := hkept13
  refine q_ret (ev_trip (ℓ := .g) ((ev_var (R := (rTup rInt)) (a := kept13) rfl)) ((ev_call (call_row_with (((ev_var (R := (rTup rInt)) (a := tree_) rfl)).toh) (((ev_var (R := (rSeq rInt)) (a := row_) rfl)).toh) (((ev_var (R := (rTup rInt)) (a := kept13) rfl)).toh) (by exact htr) (by exact hrl)))) (ev_call (call_chains_by (((ev_var (R := (rList (rOpt rInt))) (a := uppers10) rfl)).toh) (by
        exact TM.one_of_up (by assumption))))) hR (fun r15 hr15 => ?_)
  obtain ⟨hr15a, hr15b, hr15c⟩ := hr15
  show TM.MostR tree_ row_ r15
  exact ⟨htr, hrl, _, by rw [← hbe]; assumption, by rw [← hbe, hr15a]; assumption, by rw [hr15b, hr15a], by assumption⟩
abbrev s_most_stay : Stmt := topS 23
theorem sc_most_stay : FnScope ["tree", "row", "pairs", "beneath", "uppers", "kept", "place", "a", "b"] ["tree", "row"] (defScope s_most_stay) := ⟨rfl, rfl, rfl, by decide +kernel, rfl, by decide +kernel, by decide +kernel⟩
theorem ok_most_stay {P : Program} {w : PySem.World} {K : PySem.W.Frag} {mg : Str → Option Value} {base : Heap} {x_NoTree : Addr} {x_Unlike : Addr} {f : Addr} {fd : FuncData} (F : Fun K "most_stay" "most_stay" s_most_stay f fd) {f_clashing : Addr} {d_clashing : FuncData} (c_clashing : Cal P w K mg base (L2.CX P w) 6 "clashing" ["tree", "row"] (sp_clashing x_NoTree x_Unlike) f_clashing d_clashing) {f_uppers_of : Addr} {d_uppers_of : FuncData} (c_uppers_of : Cal P w K mg base CX0 44 "uppers_of" ["beneath"] sp_uppers_of f_uppers_of d_uppers_of) {f_unpaired_by : Addr} {d_unpaired_by : FuncData} (c_unpaired_by : Cal P w K mg base CX0 1 "unpaired_by" ["beneath", "uppers"] sp_unpaired_by f_unpaired_by d_unpaired_by) {f_row_with : Addr} {d_row_with : FuncData} (c_row_with : Cal P w K mg base CX0 6 "row_with" ["tree", "row", "kept"] sp_row_with f_row_with d_row_with) {f_chains_by : Addr} {d_chains_by : FuncData} (c_chains_by : Cal P w K mg base CX0 1 "chains_by" ["uppers"] sp_chains_by f_chains_by d_chains_by) (m_len : mg "len" = none) (m_range : mg "range" = none) : FnOk P w K mg base (L2.CX P w) 45 f fd ["tree", "row"] (sp_most_stay x_NoTree x_Unlike) := by
  have sc := sc_most_stay
  refine F.okX sc (fun vs H Q E h => ?_) (fun cdv A outer s H vs Q E hr h => ?_)
  · obtain ⟨a_, ha_, _⟩ := h
    obtain ⟨v1, _, rfl, _ha1, ⟨v2, _, rfl, _ha2, rfl⟩⟩ := ha_
    rfl
  · obtain ⟨⟨tree_, row_, _⟩, ⟨v1, _, rfl, ha1, ⟨v2, _, rfl, ha2, rfl⟩⟩, ⟨hp0, hp1⟩, hR, hE⟩ := spF_open PIlaw (n := fun _ H' => Q .non H') h
    refine ⟨t_most_stay K E x_NoTree x_Unlike, ?_, go_most_stay (C := (Cn0 PIlaw H)) x_NoTree x_Unlike tree_ row_ hp0 hp1 hR hE _ (W0 H []) (world_of (bok0 (PI := PIlaw) H) ⟨⟨by decide, v1, rfl, (rTup rInt).mono (mw0 (PI := PIlaw) H) ha1⟩, ⟨⟨by decide, v2, rfl, (rSeq rInt).mono (mw0 (PI := PIlaw) H) ha2⟩, ⟨trivial, ⟨trivial, ⟨trivial, ⟨trivial, ⟨trivial, ⟨trivial, ⟨trivial, trivial⟩⟩⟩⟩⟩⟩⟩⟩⟩ rfl)⟩
    unfold t_most_stay
    exact (pss_cons (ps_set (i := 2) sc.nd rfl (Or.inr rfl) (pe_call c_clashing.ok (hr.mono (by decide)) (by rfl) c_clashing.g c_clashing.kp c_clashing.b .nil (passes_call (takes_of rfl rfl rfl rfl) (fun _ _ _ _ z => z)) (pa_cons (pv 0) (pa_cons (pv 1) pa_nil))))
(pss_cons (ps_setLc (i := 3) (own := [("place", 6)]) (g := (gName 6)) rfl sc.nd rfl rfl (sw_true rfl rfl rfl (by decide +kernel)) (pi_range1 rfl m_range (pa_cons (pe_callB call_len_seq (by rfl) m_len bt_len (pa_cons (pv 0) pa_nil)) pa_nil)) (blkOk_by (own := [("place", 6)]) (N := ["tree", "row", "pairs", "beneath", "uppers", "kept", "place", "a", "b"]) (sc := defScope s_most_stay) (by decide +kernel)) (fun _ _ _ _ _ => pg_name (i := 6) sc.nd rfl (Or.inr rfl)) (fun _ _ _ _ _ => pts_nil) (fun _ _ _ _ _ => (pe_lc (own := [("a", 7), ("b", 8)]) (g := (gTup K 2 (gCons (gName 7) (gCons (gName 8) gNil)))) rfl sc.nd (pi_list (pv 2)) (blkOk_by (own := [("a", 7), ("b", 8)]) (N := ["tree", "row", "pairs", "beneath", "uppers", "kept", "place", "a", "b"]) (sc := ({ kind := .function, names := [(PySem.Str.ofString ".0", .local), (PySem.Str.ofString "place", .cell), (PySem.Str.ofString "pairs", .cell)], isGenerator := false, isCoroutine := false, more := [] } : PySem.Scope)) (by decide +kernel)) (fun _ _ _ _ _ => pg_tup rfl (pgs_cons (pg_name (i := 7) sc.nd rfl (Or.inl rfl)) (pgs_cons (pg_name (i := 8) sc.nd rfl (Or.inl rfl)) pgs_nil))) (fun _ _ _ _ _ => pts_one (pt_cmpR op_eq (pv 7) (pv 6) (nomark _))) (fun _ _ _ _ _ => (pv 8)))))
(pss_cons (ps_set (i := 4) sc.nd rfl (Or.inl rfl) (pe_call c_uppers_of.ok (hr.mono (by decide)) (by rfl) c_uppers_of.g c_uppers_of.kp c_uppers_of.b .nil pass0 (pa_cons (pv 3) pa_nil)))
(pss_cons (ps_set (i := 5) sc.nd rfl (Or.inl rfl) (pe_call c_unpaired_by.ok (hr.mono (by decide)) (by rfl) c_unpaired_by.g c_unpaired_by.kp c_unpaired_by.b .nil pass0 (pa_cons (pv 3) (pa_cons (pv 4) pa_nil))))
(pss_cons (ps_ret (pe_tup (pa_cons (pv 5) (pa_cons (pe_call c_row_with.ok (hr.mono (by decide)) (by rfl) c_row_with.g c_row_with.kp c_row_with.b .nil pass0 (pa_cons (pv 0) (pa_cons (pv 1) (pa_cons (pv 5) pa_nil)))) (pa_cons (pe_call c_chains_by.ok (hr.mono (by decide)) (by rfl) c_chains_by.g c_chains_by.kp c_chains_by.b .nil pass0 (pa_cons (pv 4) pa_nil)) pa_nil))))) pss_nil)))))
def sp_law_flats : Sp := spF (aCons (rTup rInt) aNil) (fun (a : (List Int) × Unit) => (a.1.length ≤ 1000)) (rOpt (rTup rInt)) (fun (a : (List Int) × Unit) b => b = TM.flatM a.1) (fun _ _ => False)
theorem call_law_flats {C : Cn} {Γ : List Ent} {E : XK} {t1 : TE} {a1 : (List Int)} (h1 : Ev C t1 Γ .h (rTup rInt) a1) (hp0 : a1.length ≤ 1000) : EvX C (tCall (sp_law_flats) [] E (tCons t1 tNil)) Γ (ResF C (rOpt (rTup rInt)) (fun b => b = TM.flatM a1)) := ed_call1 h1 hp0 exc0 (fun _ z => z)
theorem callx_law_flats {C : Cn} {Γ : List Ent} {E : XK} {t1 : TE} {P1 : (List Int) → Prop} (h1 : EvP C t1 Γ .h (rTup rInt) P1) (hp0 : ∀ a1, P1 a1 → (a1.length ≤ 1000)) : EvX C (tCall (sp_law_flats) [] E (tCons t1 tNil)) Γ (ResF C (rOpt (rTup rInt)) (fun b => ∃ a1, P1 a1 ∧ (b = TM.flatM a1))) := ex_call1 h1 (fun a1 _p1 => hp0 a1 _p1) exc0 (fun a1 _p1 => fun _ z => z)
def t_law_flats (K : PySem.W.Frag) (E : XK) : TS :=
(tSeq (tAsg (tLst tNil) (gName 1))
(tSeq (tFor (iRng1 (tCons (tCB (rLenS K) (tCons (tVar 0) tNil)) tNil)) (gName 2)
(tSeq (tAsg (tCall sp_law_over [] E0 (tCons (tVar 0) (tCons (tVar 2) tNil))) (gName 3))
(tSeq (tIfS (tTest (tOp (fun x y H Q => y = .non ∧ Q (.bl (decide (x = .non))) H) (tVar 3) (tC .non))) (tSeq (tRet (tC .non)) tNext) tNext)
(tSeq (tDrop (tBM K "list" rAppend (tVar 1) (tCons (tCB (rLenS K) (tCons (tLc (iList K (tVar 3)) (gName 4) (tTest (tOp (rI0 fun i j => .bl (decide (j < i))) (tVar 4) (tVar 2))) (tVar 4) [4]) tNil)) tNil)))
tNext))))
(tSeq (tRet (tCB (rTupOf K) (tCons (tVar 1) tNil))) tNext)))
theorem go_law_flats {K : PySem.W.Frag} {C : Cn} {D : Ends} {E : XK} (tree_ : (List Int)) (hp0 : tree_.length ≤ 1000) (hR : RetOk C D (rOpt (rTup rInt)) (fun b => b = TM.flatM tree_)) :
    Go C (t_law_flats K E) D [.val .m (rTup rInt) tree_, .no, .no, .no, .no] := by
  unfold t_law_flats
  refine q_asgN (i := 1) (ℓ := .g) (en_lstd (ℓ := .g) (R := rInt) em_nil) (fun p2 found1 hfound1 => ?_)
  subst hfound1
  refine q_forD (j := 2) (σS := (List Int)) (fun s => [.val .m (rTup rInt) tree_, .own p2 .g rInt s, .no, .no, .no]) (fun (i : Nat) (s : (List Int)) => (s.length = i) ∧ (∀ p : Nat, p < i → TM.flatAtM tree_ p = some (TM.nb s p))) ([] : List Int) (ei_rg1d (b := true) (ℓ := .g) ((ev_len (es_tup (ev_var (R := (rTup rInt)) (a := tree_) rfl)))) (by first | omega | assumption | (simp; done) | (constructor <;> omega) | (simp; omega))) (by
        show (([] : List Int).length = 0) ∧ (∀ p : Nat, p < 0 → TM.flatAtM tree_ p = some (TM.nb ([] : List Int) p))
        exact ⟨rfl, fun p hp => absurd hp (by omega)⟩) (LeG.k (LeG.k (LeG.f (LeG.f (LeG.f LeG.nil))))) (fun C1 hc1 i1 x3 s hx3 hI0 => ?_) (fun s hI0 => ?_)
  · revert s hI0; intro found4 hI0
    replace hI0 : (found4.length = i1) ∧ (∀ p : Nat, p < i1 → TM.flatAtM tree_ p = some (TM.nb found4 p)) := hI0
    obtain ⟨hI0_0, hI0_1⟩ := hI0
    have hR := hR.ex hc1
    have hx3l := at_lt hx3
    have hx3r := rg_at hx3
    rw [rg_len] at hx3l
    refine q_asg (i := 3) (ℓ := .g) ((ev_call (call_law_over (((ev_var (R := (rTup rInt)) (a := tree_) rfl)).toh) (((ev_var (R := rInt) (a := x3) rfl)).toh) (by first | omega | assumption | (simp; done) | (constructor <;> omega) | (simp; omega)) (by first | omega | assumption | (simp; done) | (constructor <;> omega) | (simp; omega))))) (fun over5 hover5 => ?_)
    replace hover5 : over5 = (TM.upM tree_ x3) := hover5
    refine q_ifT (ec_isN (ev_var (R := (rOpt (rList rInt))) (a := over5) rfl)) (fun h6 => ?_) (fun h6 => ?_)
    · refine q_ret ((ev_non (R := (rTup rInt)))) hR (fun r7 hr7 => ?_)
      replace hr7 : r7 = none := hr7
      show r7 = TM.flatM tree_
      rw [hr7]
      exact (TM.flatM_none (p := i1) (by omega) (by unfold TM.flatAtM; rw [show ((i1 : Nat) : Int) = x3 by omega, ← hover5, show over5 = none by assumption]; rfl)).symm
    obtain ⟨g8, hg8⟩ : ∃ x, over5 = some x := some_of (by first | assumption | (intro z; simp_all))
    refine q_app (i := 1) (p := p2) rfl ((ev_len (es_list (ev_new (ℓ := .g) (EvN.imp (en_filtd (ℓ' := .g) (fun c9 : Int => (x3 < c9)) (fun c9 : Int => c9) (ei_list (b := false) (hc := (by intro h; exact absurd h (by decide))) (hl := (by intro h; exact absurd h (by decide))) (es_list (ev_the (ev_var (R := (rOpt (rList rInt))) (a := over5) rfl) hg8))) (by have := TM.up_len _ _ _ _ (show TM.up _ _ _ = some _ from hover5.symm.trans (by assumption)); omega) (fun c9 hc10 => (ec_tst (ev_gt (((ev_var (R := rInt) (a := c9) rfl)).toh) (((ev_var (R := rInt) (a := x3) rfl)).toh)))) (fun c9 hc10 hp11 => (ev_var (R := rInt) (a := c9) rfl))) (fun _ e => e.trans (List.map_id' _))))))) (by omega) (fun e12 he12 => ?_)
    replace he12 : e12 = (((g8.filter (fun c9 : Int => decide (x3 < c9)))).length : Int) := he12
    rw [he12]; clear he12 e12
    refine q_next (hol_in (found4 ++ [(((g8.filter (fun c9 : Int => decide (x3 < c9)))).length : Int)]) ?_ (LeG.k (LeG.k (LeG.f (LeG.f (LeG.f LeG.nil))))))
    show ((found4 ++ [(((g8.filter (fun c9 : Int => decide (x3 < c9)))).length : Int)]).length = (i1 + 1)) ∧ (∀ p : Nat, p < (i1 + 1) → TM.flatAtM tree_ p = some (TM.nb (found4 ++ [(((g8.filter (fun c9 : Int => decide (x3 < c9)))).length : Int)]) p))
    refine TM.flat_stepM hI0_0 hI0_1 ?_
    unfold TM.flatAtM
    rw [show ((i1 : Nat) : Int) = x3 by omega, ← hover5, show over5 = some _ by assumption]; rfl
  revert s hI0; intro found13 hI0
  replace hI0 : (found13.length = ((rg 0 ((tree_).length : Int))).length) ∧ (∀ p : Nat, p < ((rg 0 ((tree_).length : Int))).length → TM.flatAtM tree_ p = some (TM.nb found13 p)) := hI0
  obtain ⟨hI0_0, hI0_1⟩ := hI0
  simp only [rg_len] at hI0_0 hI0_1
  show Go _ _ _ [.val .m (rTup rInt) tree_, .own p2 .g rInt found13, .no, .no, .no]
  refine q_ret ((ev_some (ev_tupL (ℓ := .g) (es_own (R := rInt) (l := found13) rfl)) nn_tup)) hR (fun r14 hr14 => ?_)
  replace hr14 : r14 = (some found13) := hr14
  show r14 = TM.flatM tree_
  rw [hr14]
  exact (TM.flatM_some (by omega) fun p hp => hI0_1 p (by omega)).symm
abbrev s_law_flats : Stmt := topS 32
theorem sc_law_flats : FnScope ["tree", "found", "place", "over", "other"] ["tree"] (defScope s_law_flats) := ⟨rfl, rfl, rfl, by decide +kernel, rfl, by decide +kernel, by decide +kernel⟩
theorem ok_law_flats {P : Program} {w : PySem.World} {K : PySem.W.Frag} {mg : Str → Option Value} {base : Heap} {f : Addr} {fd : FuncData} (F : Fun K "_law_flats" "_law_flats" s_law_flats f fd) {f_law_over : Addr} {d_law_over : FuncData} (c_law_over : Cal P w K mg base CX0 1 "_law_over" ["tree", "place"] sp_law_over f_law_over d_law_over) (m_len : mg "len" = none) (m_range : mg "range" = none) (m_tuple : mg "tuple" = none) : FnOk P w K mg base CX0 2 f fd ["tree"] sp_law_flats := by
  have sc := sc_law_flats
  refine F.ok sc (fun vs H Q E h => ?_) (fun cdv A outer s H vs Q E hr h => ?_)
  · obtain ⟨a_, ha_, _⟩ := h
    obtain ⟨v1, _, rfl, _ha1, rfl⟩ := ha_
    rfl
  · obtain ⟨⟨tree_, _⟩, ⟨v1, _, rfl, ha1, rfl⟩, hp0, hR, hE⟩ := spF_open PIlaw (n := fun _ H' => Q .non H') h
    refine ⟨t_law_flats K E, ?_, go_law_flats (C := (Cn0 PIlaw H)) tree_ hp0 hR _ (W0 H []) (world_of (bok0 (PI := PIlaw) H) ⟨⟨by decide, v1, rfl, (rTup rInt).mono (mw0 (PI := PIlaw) H) ha1⟩, ⟨trivial, ⟨trivial, ⟨trivial, ⟨trivial, trivial⟩⟩⟩⟩⟩ rfl)⟩
    unfold t_law_flats
    exact (pss_cons (ps_set (i := 1) sc.nd rfl (Or.inl rfl) (pe_lst pa_nil))
(pss_cons (ps_for PassesOwn.never rfl (pi_range1 rfl m_range (pa_cons (pe_callB call_len_seq (by rfl) m_len bt_len (pa_cons (pv 0) pa_nil)) pa_nil)) (pg_name (i := 2) sc.nd rfl (Or.inr rfl))
(pss_cons (ps_set (i := 3) sc.nd rfl (Or.inl rfl) (pe_call c_law_over.ok (hr.mono (by decide)) (by rfl) c_law_over.g c_law_over.kp c_law_over.b .nil pass0 (pa_cons (pv 0) (pa_cons (pv 2) pa_nil))))
(pss_cons (ps_if (pt_cmpR op_isN (pv 3) pe_non (nomark _)) (pss_cons (ps_ret pe_non) pss_nil) pss_nil)
(pss_cons (ps_expr (pe_bm PySem.F.plainAttrs_list PySem.F.slot_list_append PySem.F.type_list_append mt_append (pv 1) (pa_cons (pe_callB call_len_seq (by rfl) m_len bt_len (pa_cons (pe_lc (own := [("other", 4)]) (g := (gName 4)) rfl sc.nd (pi_list (pv 3)) (blkOk_by (own := [("other", 4)]) (N := ["tree", "found", "place", "over", "other"]) (sc := defScope s_law_flats) (by decide +kernel)) (fun _ _ _ _ _ => pg_name (i := 4) sc.nd rfl (Or.inl rfl)) (fun _ _ _ _ _ => pts_one (pt_cmpR op_gt (pv 4) (pv 2) (nomark _))) (fun _ _ _ _ _ => (pv 4))) pa_nil)) pa_nil)))
pss_nil))))
(pss_cons (ps_ret (pe_callTy call_tuple_of (by rfl) m_tuple bt_tuple (pa_cons (pv 1) pa_nil))) pss_nil)))
def sp_law_made : Sp := spF (aCons (rTup rInt) (aCons (rTup rInt) (aCons (rList rInt) aNil))) (fun (a : (List Int) × (List Int) × (List Int) × Unit) => (TM.isTree a.1 = true) ∧ (a.2.1.length = a.1.length) ∧ (0 < a.2.1.length) ∧ (a.2.2.1.length ≤ 1000)) (rTup rInt) (fun (a : (List Int) × (List Int) × (List Int) × Unit) b => b = TM.mdF a.1 a.2.1 a.2.2.1) (fun _ _ => False)
theorem call_law_made {C : Cn} {Γ : List Ent} {E : XK} {t1 : TE} {t2 : TE} {t3 : TE} {a1 : (List Int)} {a2 : (List Int)} {a3 : (List Int)} (h1 : Ev C t1 Γ .h (rTup rInt) a1) (h2 : Ev C t2 Γ .h (rTup rInt) a2) (h3 : Ev C t3 Γ .h (rList rInt) a3) (hp0 : TM.isTree a1 = true) (hp1 : a2.length = a1.length) (hp2 : 0 < a2.length) (hp3 : a3.length ≤ 1000) : EvX C (tCall (sp_law_made) [] E (tCons t1 (tCons t2 (tCons t3 tNil)))) Γ (ResF C (rTup rInt) (fun b => b = TM.mdF a1 a2 a3)) := ed_call3 h1 h2 h3 ⟨hp0, hp1, hp2, hp3⟩ exc0 (fun _ z => z)
theorem callx_law_made {C : Cn} {Γ : List Ent} {E : XK} {t1 : TE} {t2 : TE} {t3 : TE} {P1 : (List Int) → Prop} {P2 : (List Int) → Prop} {P3 : (List Int) → Prop} (h1 : EvP C t1 Γ .h (rTup rInt) P1) (h2 : EvP C t2 Γ .h (rTup rInt) P2) (h3 : EvP C t3 Γ .h (rList rInt) P3) (hp0 : ∀ a1 a2 a3, P1 a1 → P2 a2 → P3 a3 → (TM.isTree a1 = true)) (hp1 : ∀ a1 a2 a3, P1 a1 → P2 a2 → P3 a3 → (a2.length = a1.length)) (hp2 : ∀ a1 a2 a3, P1 a1 → P2 a2 → P3 a3 → (0 < a2.length)) (hp3 : ∀ a1 a2 a3, P1 a1 → P2 a2 → P3 a3 → (a3.length ≤ 1000)) : EvX C (tCall (sp_law_made) [] E (tCons t1 (tCons t2 (tCons t3 tNil)))) Γ (ResF C (rTup rInt) (fun b => ∃ a1 a2 a3, P1 a1 ∧ P2 a2 ∧ P3 a3 ∧ (b = TM.mdF a1 a2 a3))) := ex_call3 h1 h2 h3 (fun a1 a2 a3 _p1 _p2 _p3 => ⟨hp0 a1 a2 a3 _p1 _p2 _p3, hp1 a1 a2 a3 _p1 _p2 _p3, hp2 a1 a2 a3 _p1 _p2 _p3, hp3 a1 a2 a3 _p1 _p2 _p3⟩) exc0 (fun a1 a2 a3 _p1 _p2 _p3 => fun _ z => z)
def t_law_made (K : PySem.W.Frag) (E : XK) : TS :=
(tSeq (tAsg (tCall sp_law_flats [] E0 (tCons (tVar 0) tNil)) (gName 3))
(tSeq (tAsg (tLst tNil) (gName 4))
(tSeq (tFor (iRng1 (tCons (tCB (rLenS K) (tCons (tVar 0) tNil)) tNil)) (gName 5)
(tSeq (tAsg (tLst (tCons (tOp (rI0 fun i j => .int (i + j)) (tOp (rI0 fun i j => .int (i - j)) (tCB (rMinT K) (tCons (tVar 1) tNil)) (tC (.int 50))) (tOp (rIxK K .t) (tVar 3) (tVar 5))) tNil)) (gName 6))
(tSeq (tFor (iList K (tOp rCat (tLst (tCons (tVar 5) tNil)) (tCall sp_law_over [] E0 (tCons (tVar 0) (tCons (tVar 5) tNil))))) (gName 7)
(tSeq (tIfS (tTest (tOp (rIn K false) (tVar 7) (tVar 2))) (tSeq (tDrop (tBM K "list" rAppend (tVar 6) (tCons (tOp (rI0 fun i j => .int (i - j)) (tOp (rI0 fun i j => .int (i + j)) (tOp (rIxK K .t) (tVar 1) (tVar 7)) (tOp (rIxK K .t) (tVar 3) (tVar 5))) (tOp (rIxK K .t) (tVar 3) (tVar 7))) tNil)))
tNext) tNext)
tNext))
(tSeq (tDrop (tBM K "list" rAppend (tVar 4) (tCons (tCB (rMax K) (tCons (tVar 6) tNil)) tNil)))
tNext))))
(tSeq (tRet (tCB (rTupOf K) (tCons (tVar 4) tNil))) tNext))))
theorem go_law_made {K : PySem.W.Frag} {C : Cn} {D : Ends} {E : XK} (tree_ : (List Int)) (row_ : (List Int)) (kept_ : (List Int)) (hp0 : TM.isTree tree_ = true) (hp1 : row_.length = tree_.length) (hp2 : 0 < row_.length) (hp3 : kept_.length ≤ 1000) (hR : RetOk C D (rTup rInt) (fun b => b = TM.mdF tree_ row_ kept_)) :
    Go C (t_law_made K E) D [.val .m (rTup rInt) tree_, .val .m (rTup rInt) row_, .val .m (rList rInt) kept_, .no, .no, .no, .no, .no] := by
  unfold t_law_made
  have hfl := TM.isTree_len hp0
  refine q_asg (i := 3) (ℓ := .g) ((ev_call (call_law_flats (((ev_var (R := (rTup rInt)) (a := tree_) rfl)).toh) (by omega)))) (fun flats1 hflats1 => ?_)
  replace hflats1 : flats1 = (TM.flatM tree_) := hflats1
  have hff : flats1 = some (TM.flatF tree_) := by rw [hflats1, TM.flatM_tree hp0]
  have hfo : oget flats1 = TM.flatF tree_ := by rw [hff]; rfl
  have hfl2 : (oget flats1).length = (tree_).length := by rw [hfo]; exact TM.flatF_len _
  have hrne : row_ ≠ [] := fun z => by rw [z] at hp2; exact absurd hp2 (by decide)
  refine q_asgN (i := 4) (ℓ := .g) (en_lstd (ℓ := .g) (R := rInt) em_nil) (fun p3 found2 hfound2 => ?_)
  subst hfound2
  refine q_forD (j := 5) (σS := (List Int)) (fun s => [.val .m (rTup rInt) tree_, .val .m (rTup rInt) row_, .val .m (rList rInt) kept_, .val .g (rOpt (rTup rInt)) flats1, .own p3 .g rInt s, .no, .no, .no]) (fun (i : Nat) (s : (List Int)) => (s = (TM.mdF tree_ row_ kept_).take i)) ([] : List Int) (ei_rg1d (b := true) (ℓ := .g) ((ev_len (es_tup (ev_var (R := (rTup rInt)) (a := tree_) rfl)))) (by omega)) (by
        show (([] : List Int) = (TM.mdF tree_ row_ kept_).take 0)
        rfl) (LeG.k (LeG.k (LeG.k (LeG.k (LeG.k (LeG.f (LeG.f (LeG.f LeG.nil)))))))) (fun C1 hc1 i1 x4 s hx4 hI0 => ?_) (fun s hI0 => ?_)
  · revert s hI0; intro found5 hI0
    replace hI0 : (found5 = (TM.mdF tree_ row_ kept_).take i1) := hI0
    have hR := hR.ex hc1
    have hx4l := at_lt hx4
    have hx4r := rg_at hx4
    rw [rg_len] at hx4l
    have hxi : x4 = ((i1 : Nat) : Int) := by omega
    have hxl : i1 < (tree_).length := by omega
    have hul := TM.ups_len40 hp0 (p := x4) (by omega)
    have hui := TM.ups_inside hp0 (p := x4) (by omega)
    have hup : oget (TM.upM tree_ x4) = TM.ups tree_ x4 := by rw [TM.upM_tree hp0 (by omega)]; rfl
    refine q_asgN (i := 6) (ℓ := .g) (en_lstd (ℓ := .g) (em_cons ((ev_add ((ev_sub ((ev_minT (EvS.fl fl_int (es_tup (ev_var (R := (rTup rInt)) (a := row_) rfl))) (by exact hrne))) (ev_int))) (((ev_ix (es_tup (ev_the (ev_var (R := (rOpt (rTup rInt))) (a := flats1) rfl) (by exact oget_some (by rw [hff]; simp)))) (((ev_var (R := rInt) (a := x4) rfl)).toh) (by rw [hfl2]; omega))).toh))) em_nil) (Nat.le_of_ble_eq_true rfl)) (fun p7 some6 hsome6 => ?_)
    refine q_forD (j := 7) (σS := (List Int)) (fun s => [.val .m (rTup rInt) tree_, .val .m (rTup rInt) row_, .val .m (rList rInt) kept_, .val .g (rOpt (rTup rInt)) flats1, .own p3 .g rInt found5, .val .g rInt x4, .own p7 .g rInt s, .no]) (fun (i : Nat) (s : (List Int)) => (s = TM.mdB tree_ row_ kept_ x4 ([x4] ++ TM.ups tree_ x4) i)) some6 (ei_list (b := true) (hc := (by intro _; decide)) (hl := (by intro _; decide)) (es_list (ev_new (ℓ := .g) (en_catd (es_list (ev_new (ℓ := .g) (en_lstd (ℓ := .g) (em_cons ((ev_var (R := rInt) (a := x4) rfl)) em_nil) (Nat.le_of_ble_eq_true rfl)))) (es_list (ev_the (ev_call (call_law_over (((ev_var (R := (rTup rInt)) (a := tree_) rfl)).toh) (((ev_var (R := rInt) (a := x4) rfl)).toh) (by omega) (by omega))) (by exact oget_some (by rw [TM.upM_tree hp0 (by omega)]; simp)))) (by rw [hup]; simp only [List.length_singleton]; omega))))) (by
          show (some6 = TM.mdB tree_ row_ kept_ x4 ([x4] ++ TM.ups tree_ x4) 0)
          rw [hsome6, hfo]; exact TM.mdB_0.symm) (LeG.k (LeG.k (LeG.k (LeG.k (LeG.k (LeG.k (LeG.k (LeG.f LeG.nil)))))))) (fun C2 hc2 i2 x8 s hx8 hI1 => ?_) (fun s hI1 => ?_)
    · revert s hI1; intro some9 hI1
      replace hI1 : (some9 = TM.mdB tree_ row_ kept_ x4 ([x4] ++ TM.ups tree_ x4) i2) := hI1
      have hR := hR.ex hc2
      have hx8l := at_lt hx8
      have hit := hx8
      rw [hup] at hit
      have hai := hui _ (List.mem_of_getElem? hit)
      refine q_ifC (ec_tst (ev_in (((ev_var (R := rInt) (a := x8) rfl)).toh) (EvS.fl fl_int (es_list (ev_var (R := (rList rInt)) (a := kept_) rfl))))) (fun h10 => ?_) (fun h10 => ?_)
      · refine q_app (i := 6) (p := p7) rfl ((ev_sub ((ev_add (((ev_ix (es_tup (ev_var (R := (rTup rInt)) (a := row_) rfl)) (((ev_var (R := rInt) (a := x8) rfl)).toh) (by rw [hp1]; exact hai))).toh) (((ev_ix (es_tup (ev_the (ev_var (R := (rOpt (rTup rInt))) (a := flats1) rfl) (by exact oget_some (by rw [hff]; simp)))) (((ev_var (R := rInt) (a := x4) rfl)).toh) (by rw [hfl2]; omega))).toh))) (((ev_ix (es_tup (ev_the (ev_var (R := (rOpt (rTup rInt))) (a := flats1) rfl) (by exact oget_some (by rw [hff]; simp)))) (((ev_var (R := rInt) (a := x8) rfl)).toh) (by rw [hfl2]; exact hai))).toh))) (by rw [hI1]; have := TM.mdB_len (t := tree_) (row := row_) (kept := kept_) (b := x4) (L := [x4] ++ TM.ups tree_ x4) (i := i2); rw [List.length_append, List.length_singleton] at this; omega) (fun e11 he11 => ?_)
        replace he11 : e11 = (((gt row_ x8) + (gt (oget flats1) x4)) - (gt (oget flats1) x8)) := he11
        rw [he11]; clear he11 e11
        refine q_next (?_ : Go _ tNext _ _)
        refine q_next (hol_in (some9 ++ [(((gt row_ x8) + (gt (oget flats1) x4)) - (gt (oget flats1) x8))]) ?_ (LeG.k (LeG.k (LeG.k (LeG.k (LeG.k (LeG.k (LeG.k (LeG.f LeG.nil)))))))))
        show ((some9 ++ [(((gt row_ x8) + (gt (oget flats1) x4)) - (gt (oget flats1) x8))]) = TM.mdB tree_ row_ kept_ x4 ([x4] ++ TM.ups tree_ x4) (i2 + 1))
        first
        | (rw [hI1, hfo]; exact (TM.mdB_yes hit (by assumption)).symm)
        | (rw [hI1]; exact (TM.mdB_no hit (by assumption)).symm)
      · refine q_next (?_ : Go _ tNext _ _)
        refine q_next (hol_in some9 ?_ (LeG.k (LeG.k (LeG.k (LeG.k (LeG.k (LeG.k (LeG.k (LeG.f LeG.nil)))))))))
        show (some9 = TM.mdB tree_ row_ kept_ x4 ([x4] ++ TM.ups tree_ x4) (i2 + 1))
        first
        | (rw [hI1, hfo]; exact (TM.mdB_yes hit (by assumption)).symm)
        | (rw [hI1]; exact (TM.mdB_no hit (by assumption)).symm)
    revert s hI1; intro some12 hI1
    replace hI1 : (some12 = TM.mdB tree_ row_ kept_ x4 ([x4] ++ TM.ups tree_ x4) (([x4] ++ (oget (TM.upM tree_ x4)))).length) := hI1
    show Go _ _ _ [.val .m (rTup rInt) tree_, .val .m (rTup rInt) row_, .val .m (rList rInt) kept_, .val .g (rOpt (rTup rInt)) flats1, .own p3 .g rInt found5, .val .g rInt x4, .own p7 .g rInt some12, .no]
    refine q_app (i := 4) (p := p3) rfl ((ev_max (EvS.fl fl_int (es_own (R := rInt) (l := some12) rfl)) (by rw [hI1, hup]; exact TM.md_ne))) (by rw [hI0, List.length_take]; omega) (fun e13 he13 => ?_)
    replace he13 : e13 = (lmax some12) := he13
    rw [he13]; clear he13 e13
    refine q_next (hol_in (found5 ++ [(lmax some12)]) ?_ (LeG.k (LeG.k (LeG.k (LeG.k (LeG.k (LeG.f (LeG.f (LeG.f LeG.nil)))))))))
    show ((found5 ++ [(lmax some12)]) = (TM.mdF tree_ row_ kept_).take (i1 + 1))
    rw [hup] at hI1; rw [hI0]; exact (TM.md_take hxl hxi hI1).symm
  revert s hI0; intro found14 hI0
  replace hI0 : (found14 = (TM.mdF tree_ row_ kept_).take ((rg 0 ((tree_).length : Int))).length) := hI0
  simp only [rg_len] at hI0
  show Go _ _ _ [.val .m (rTup rInt) tree_, .val .m (rTup rInt) row_, .val .m (rList rInt) kept_, .val .g (rOpt (rTup rInt)) flats1, .own p3 .g rInt found14, .no, .no, .no]
  refine q_ret ((ev_tupL (ℓ := .g) (es_own (R := rInt) (l := found14) rfl))) hR (fun r15 hr15 => ?_)
  replace hr15 : r15 = found14 := hr15
  show r15 = TM.mdF tree_ row_ kept_
  rw [hr15]
  rw [hI0, Int.sub_zero, Int.toNat_natCast, List.take_of_length_le (by rw [TM.md_len]; exact Nat.le_refl _)]
abbrev s_law_made : Stmt := topS 37
theorem sc_law_made : FnScope ["tree", "row", "kept", "flats", "found", "b", "some", "a"] ["tree", "row", "kept"] (defScope s_law_made) := ⟨rfl, rfl, rfl, by decide +kernel, rfl, by decide +kernel, by decide +kernel⟩
theorem ok_law_made {P : Program} {w : PySem.World} {K : PySem.W.Frag} {mg : Str → Option Value} {base : Heap} {f : Addr} {fd : FuncData} (F : Fun K "_law_made" "_law_made" s_law_made f fd) {f_law_flats : Addr} {d_law_flats : FuncData} (c_law_flats : Cal P w K mg base CX0 2 "_law_flats" ["tree"] sp_law_flats f_law_flats d_law_flats) {f_law_over : Addr} {d_law_over : FuncData} (c_law_over : Cal P w K mg base CX0 1 "_law_over" ["tree", "place"] sp_law_over f_law_over d_law_over) (m_len : mg "len" = none) (m_max : mg "max" = none) (m_min : mg "min" = none) (m_range : mg "range" = none) (m_tuple : mg "tuple" = none) : FnOk P w K mg base CX0 3 f fd ["tree", "row", "kept"] sp_law_made := by
  have sc := sc_law_made
  refine F.ok sc (fun vs H Q E h => ?_) (fun cdv A outer s H vs Q E hr h => ?_)
  · obtain ⟨a_, ha_, _⟩ := h
    obtain ⟨v1, _, rfl, _ha1, ⟨v2, _, rfl, _ha2, ⟨v3, _, rfl, _ha3, rfl⟩⟩⟩ := ha_
    rfl
  · obtain ⟨⟨tree_, row_, kept_, _⟩, ⟨v1, _, rfl, ha1, ⟨v2, _, rfl, ha2, ⟨v3, _, rfl, ha3, rfl⟩⟩⟩, ⟨hp0, hp1, hp2, hp3⟩, hR, hE⟩ := spF_open PIlaw (n := fun _ H' => Q .non H') h
    refine ⟨t_law_made K E, ?_, go_law_made (C := (Cn0 PIlaw H)) tree_ row_ kept_ hp0 hp1 hp2 hp3 hR _ (W0 H []) (world_of (bok0 (PI := PIlaw) H) ⟨⟨by decide, v1, rfl, (rTup rInt).mono (mw0 (PI := PIlaw) H) ha1⟩, ⟨⟨by decide, v2, rfl, (rTup rInt).mono (mw0 (PI := PIlaw) H) ha2⟩, ⟨⟨by decide, v3, rfl, (rList rInt).mono (mw0 (PI := PIlaw) H) ha3⟩, ⟨trivial, ⟨trivial, ⟨trivial, ⟨trivial, ⟨trivial, trivial⟩⟩⟩⟩⟩⟩⟩⟩ rfl)⟩
    unfold t_law_made
    exact (pss_cons (ps_set (i := 3) sc.nd rfl (Or.inl rfl) (pe_call c_law_flats.ok (hr.mono (by decide)) (by rfl) c_law_flats.g c_law_flats.kp c_law_flats.b .nil pass0 (pa_cons (pv 0) pa_nil)))
(pss_cons (ps_set (i := 4) sc.nd rfl (Or.inl rfl) (pe_lst pa_nil))
(pss_cons (ps_for PassesOwn.never rfl (pi_range1 rfl m_range (pa_cons (pe_callB call_len_seq (by rfl) m_len bt_len (pa_cons (pv 0) pa_nil)) pa_nil)) (pg_name (i := 5) sc.nd rfl (Or.inl rfl))
(pss_cons (ps_set (i := 6) sc.nd rfl (Or.inl rfl) (pe_lst (pa_cons (pe_op op_add (pe_op op_sub (pe_callB (cr_minT rfl) (by rfl) m_min bt_min (pa_cons (pv 1) pa_nil)) pe_int) (pe_ix ix_tup (pv 3) (pv 5) (fun _ _ => rfl))) pa_nil)))
(pss_cons (ps_for PassesOwn.never rfl (pi_list (pe_op op_cat (pe_lst (pa_cons (pv 5) pa_nil)) (pe_call c_law_over.ok (hr.mono (by decide)) (by rfl) c_law_over.g c_law_over.kp c_law_over.b .nil pass0 (pa_cons (pv 0) (pa_cons (pv 5) pa_nil))))) (pg_name (i := 7) sc.nd rfl (Or.inl rfl))
(pss_cons (ps_if (pt_cmpR op_in_seq (pv 7) (pv 2) (by rfl)) (pss_cons (ps_expr (pe_bm PySem.F.plainAttrs_list PySem.F.slot_list_append PySem.F.type_list_append mt_append (pv 6) (pa_cons (pe_op op_sub (pe_op op_add (pe_ix ix_tup (pv 1) (pv 7) (fun _ _ => rfl)) (pe_ix ix_tup (pv 3) (pv 5) (fun _ _ => rfl))) (pe_ix ix_tup (pv 3) (pv 7) (fun _ _ => rfl))) pa_nil)))
pss_nil) pss_nil)
pss_nil))
(pss_cons (ps_expr (pe_bm PySem.F.plainAttrs_list PySem.F.slot_list_append PySem.F.type_list_append mt_append (pv 4) (pa_cons (pe_callB (cr_max rfl) (by rfl) m_max bt_max (pa_cons (pv 6) pa_nil)) pa_nil)))
pss_nil))))
(pss_cons (ps_ret (pe_callTy call_tuple_of (by rfl) m_tuple bt_tuple (pa_cons (pv 4) pa_nil))) pss_nil))))
def sp_law_tree_of : Sp := spF (aCons (rTup rInt) aNil) (fun (a : (List Int) × Unit) => (a.1.length ≤ 1000)) (rTup rInt) (fun (a : (List Int) × Unit) b => b = TM.treeOf a.1) (fun _ _ => False)
theorem call_law_tree_of {C : Cn} {Γ : List Ent} {E : XK} {t1 : TE} {a1 : (List Int)} (h1 : Ev C t1 Γ .h (rTup rInt) a1) (hp0 : a1.length ≤ 1000) : EvX C (tCall (sp_law_tree_of) [] E (tCons t1 tNil)) Γ (ResF C (rTup rInt) (fun b => b = TM.treeOf a1)) := ed_call1 h1 hp0 exc0 (fun _ z => z)
theorem callx_law_tree_of {C : Cn} {Γ : List Ent} {E : XK} {t1 : TE} {P1 : (List Int) → Prop} (h1 : EvP C t1 Γ .h (rTup rInt) P1) (hp0 : ∀ a1, P1 a1 → (a1.length ≤ 1000)) : EvX C (tCall (sp_law_tree_of) [] E (tCons t1 tNil)) Γ (ResF C (rTup rInt) (fun b => ∃ a1, P1 a1 ∧ (b = TM.treeOf a1))) := ex_call1 h1 (fun a1 _p1 => hp0 a1 _p1) exc0 (fun a1 _p1 => fun _ z => z)
def t_law_tree_of (K : PySem.W.Frag) (E : XK) : TS :=
(tSeq (tAsg (tLst tNil) (gName 1))
(tSeq (tFor (iRng1 (tCons (tCB (rLenS K) (tCons (tVar 0) tNil)) tNil)) (gName 2)
(tSeq (tAsg (tSl (rSlL K) (tLc (iRng1 (tCons (tVar 2) tNil)) (gName 5) (tTest (tOp (rI0 fun i j => .bl (decide (i ≤ j))) (tOp (rIxK K .t) (tVar 0) (tVar 5)) (tOp (rIxK K .t) (tVar 0) (tVar 2)))) (tVar 5) [5]) (tPart (tUn (rU fun i => .int (-i)) (tC (.int 1)))) tNoPart) (gName 3))
(tSeq (tAsg (tSl (rSlL K) (tLc (iRng2 (tCons (tOp (rI0 fun i j => .int (i + j)) (tVar 2) (tC (.int 1))) (tCons (tCB (rLenS K) (tCons (tVar 0) tNil)) tNil))) (gName 5) (tTest (tOp (rI0 fun i j => .bl (decide (i < j))) (tOp (rIxK K .t) (tVar 0) (tVar 5)) (tOp (rIxK K .t) (tVar 0) (tVar 2)))) (tVar 5) [5]) tNoPart (tPart (tC (.int 1)))) (gName 4))
(tCut (tIfS (tAnd (tTest (tOp (rNeD K) (tVar 3) (tLst tNil))) (tAnd (tTest (tOp (rNeD K) (tVar 4) (tLst tNil))) (tTest (tOp (rI0 fun i j => .bl (decide (j < i))) (tOp (rIxK K .t) (tVar 0) (tOp (rIxK K .l) (tVar 3) (tC (.int 0)))) (tOp (rIxK K .t) (tVar 0) (tOp (rIxK K .l) (tVar 4) (tC (.int 0)))))))) (tSeq (tAsg (tLst tNil) (gName 4))
tNext) tNext)
(tSeq (tDrop (tBM K "list" rAppend (tVar 1) (tCons (tOp (rIxK K .l) (tOp rCat (tOp rCat (tLst (tCons (tUn (rU fun i => .int (-i)) (tC (.int 1))) tNil)) (tVar 3)) (tVar 4)) (tUn (rU fun i => .int (-i)) (tC (.int 1)))) tNil)))
tNext)))))
(tSeq (tRet (tCB (rTupOf K) (tCons (tVar 1) tNil))) tNext)))
theorem go_law_tree_of {K : PySem.W.Frag} {C : Cn} {D : Ends} {E : XK} (row_ : (List Int)) (hp0 : row_.length ≤ 1000) (hR : RetOk C D (rTup rInt) (fun b => b = TM.treeOf row_)) :
    Go C (t_law_tree_of K E) D [.val .m (rTup rInt) row_, .no, .no, .no, .no, .no] := by
  unfold t_law_tree_of
  refine q_asgN (i := 1) (ℓ := .g) (en_lstd (ℓ := .g) (R := rInt) em_nil) (fun p2 found1 hfound1 => ?_)
  subst hfound1
  refine q_forD (j := 2) (σS := (List Int)) (fun s => [.val .m (rTup rInt) row_, .own p2 .g rInt s, .no, .no, .no, .no]) (fun (i : Nat) (s : (List Int)) => (s = (List.range i).map (TM.eld row_ row_.length)) ∧ (s.length = i)) ([] : List Int) (ei_rg1d (b := true) (ℓ := .g) ((ev_len (es_tup (ev_var (R := (rTup rInt)) (a := row_) rfl)))) (by omega)) (by
        show (([] : List Int) = (List.range 0).map (TM.eld row_ row_.length)) ∧ (([] : List Int).length = 0)
        exact ⟨rfl, rfl⟩) (LeG.k (LeG.k (LeG.f (LeG.f (LeG.f (LeG.f LeG.nil)))))) (fun C1 hc1 i1 x3 s hx3 hI0 => ?_) (fun s hI0 => ?_)
  · revert s hI0; intro found4 hI0
    replace hI0 : (found4 = (List.range i1).map (TM.eld row_ row_.length)) ∧ (found4.length = i1) := hI0
    obtain ⟨hI0_0, hI0_1⟩ := hI0
    have hR := hR.ex hc1
    have hx3l := at_lt hx3
    have hx3r := rg_at hx3
    rw [rg_len] at hx3l
    refine q_asg (i := 3) (ℓ := .g) ((ev_new (ℓ := .g) (en_slLd (es_list (ev_new (ℓ := .g) (EvN.imp (en_filtd (ℓ' := .g) (fun c5 : Int => ((gt row_ c5) ≤ (gt row_ x3))) (fun c5 : Int => c5) (ei_rg1d (b := false) (ℓ := .g) (((ev_var (R := rInt) (a := x3) rfl)).toh) (by omega)) (by rw [rg_len]; omega) (fun c5 hc6 => by
            have hc6_ := rg_mem.mp hc6
            exact (ec_tst (ev_le (((ev_ix (es_tup (ev_var (R := (rTup rInt)) (a := row_) rfl)) (((ev_var (R := rInt) (a := c5) rfl)).toh) (by omega))).toh) (((ev_ix (es_tup (ev_var (R := (rTup rInt)) (a := row_) rfl)) (((ev_var (R := rInt) (a := x3) rfl)).toh) (by omega))).toh)))) (fun c5 hc6 hp7 => by
            have hc6_ := rg_mem.mp hc6
            exact (ev_var (R := rInt) (a := c5) rfl))) (fun _ e => e.trans (List.map_id' _))))) (eo_part ((ev_neg (ev_int)))) eo_no))) (fun ahead8 hahead8 => ?_)
    replace hahead8 : ahead8 = (sl ((rg 0 x3).filter (fun c5 : Int => decide ((gt row_ c5) ≤ (gt row_ x3)))) (some (-(1 : Int))) none) := hahead8
    refine q_asg (i := 4) (ℓ := .g) ((ev_new (ℓ := .g) (en_slLd (es_list (ev_new (ℓ := .g) (EvN.imp (en_filtd (ℓ' := .g) (fun c9 : Int => ((gt row_ c9) < (gt row_ x3))) (fun c9 : Int => c9) (ei_rg2d (b := false) (ℓ := .g) ((ev_add (((ev_var (R := rInt) (a := x3) rfl)).toh) (ev_int))) ((ev_len (es_tup (ev_var (R := (rTup rInt)) (a := row_) rfl)))) (by omega)) (by rw [rg_len]; omega) (fun c9 hc10 => by
            have hc10_ := rg_mem.mp hc10
            exact (ec_tst (ev_lt (((ev_ix (es_tup (ev_var (R := (rTup rInt)) (a := row_) rfl)) (((ev_var (R := rInt) (a := c9) rfl)).toh) (by omega))).toh) (((ev_ix (es_tup (ev_var (R := (rTup rInt)) (a := row_) rfl)) (((ev_var (R := rInt) (a := x3) rfl)).toh) (by omega))).toh)))) (fun c9 hc10 hp11 => by
            have hc10_ := rg_mem.mp hc10
            exact (ev_var (R := rInt) (a := c9) rfl))) (fun _ e => e.trans (List.map_id' _))))) eo_no (eo_part (ev_int))))) (fun behind12 hbehind12 => ?_)
    replace hbehind12 : behind12 = (sl ((rg (x3 + (1 : Int)) ((row_).length : Int)).filter (fun c9 : Int => decide ((gt row_ c9) < (gt row_ x3)))) none (some (1 : Int))) := hbehind12
    obtain ⟨kA, kB, kE⟩ := TM.elder_lists (row := row_) (p := x3) (by omega) rfl rfl hahead8 hbehind12
    refine q_cut (S := (List Int)) (fun s => [.val .m (rTup rInt) row_, .own p2 .g rInt found4, .val .g rInt x3, .val .g (rList rInt) ahead8, .val .g (rList rInt) s, .no]) (fun s => (TM.eld row_ row_.length x3.toNat = gtB ([-1] ++ ahead8 ++ s) 1) ∧ (s.length ≤ 1 ∧ ahead8.length ≤ 1)) (c_ifC (ec_and (ec_tstN (ev_neD (eqr_list eqr_int) (Nat.le_of_ble_eq_true rfl) (((ev_var (R := (rList rInt)) (a := ahead8) rfl)).toh) (((ev_new (ℓ := .g) (en_lstd (ℓ := .g) (R := rInt) em_nil))).toh))) (fun hb13 => (ec_and (ec_tstN (ev_neD (eqr_list eqr_int) (Nat.le_of_ble_eq_true rfl) (((ev_var (R := (rList rInt)) (a := behind12) rfl)).toh) (((ev_new (ℓ := .g) (en_lstd (ℓ := .g) (R := rInt) em_nil))).toh))) (fun hb14 => (ec_tst (ev_gt (((ev_ix (es_tup (ev_var (R := (rTup rInt)) (a := row_) rfl)) (((ev_ix (es_list (ev_var (R := (rList rInt)) (a := ahead8) rfl)) (ev_int) (by grind))).toh) (by grind))).toh) (((ev_ix (es_tup (ev_var (R := (rTup rInt)) (a := row_) rfl)) (((ev_ix (es_list (ev_var (R := (rList rInt)) (a := behind12) rfl)) (ev_int) (by grind))).toh) (by grind))).toh))))))) (fun h16 => ?_) (fun h16 => ?_)) (fun s h16j => ?_)
    · refine q_asg (i := 4) (ℓ := .g) ((ev_new (ℓ := .g) (en_lstd (ℓ := .g) (R := rInt) em_nil))) (fun behind17 hbehind17 => ?_)
      replace hbehind17 : behind17 = ([] : List Int) := hbehind17
      refine q_next (hol_in behind17 ?_ (LeG.k (LeG.k (LeG.k (LeG.k (LeG.k (LeG.f LeG.nil)))))))
      show (TM.eld row_ row_.length x3.toNat = gtB ([-1] ++ ahead8 ++ behind17) 1) ∧ (behind17.length ≤ 1 ∧ ahead8.length ≤ 1)
      first | (rw [show behind17 = [] from hbehind17]; exact ⟨by rw [kE, if_pos (by assumption)], by grind⟩) | exact ⟨by rw [kE, if_neg (by assumption)], by grind⟩
    · refine q_next (hol_in behind12 ?_ (LeG.k (LeG.k (LeG.k (LeG.k (LeG.k (LeG.f LeG.nil)))))))
      show (TM.eld row_ row_.length x3.toNat = gtB ([-1] ++ ahead8 ++ behind12) 1) ∧ (behind12.length ≤ 1 ∧ ahead8.length ≤ 1)
      first | (rw [show behind12 = [] from hbehind12]; exact ⟨by rw [kE, if_pos (by assumption)], by grind⟩) | exact ⟨by rw [kE, if_neg (by assumption)], by grind⟩
    revert s h16j; intro behind18 h16j
    replace h16j : (TM.eld row_ row_.length x3.toNat = gtB ([-1] ++ ahead8 ++ behind18) 1) ∧ (behind18.length ≤ 1 ∧ ahead8.length ≤ 1) := h16j
    obtain ⟨h16j0, h16j1⟩ := h16j
    refine q_app (i := 1) (p := p2) rfl ((ev_ixB (n := 1) (es_list (ev_new (ℓ := .g) (en_catd (es_list (ev_new (ℓ := .g) (en_catd (es_list (ev_new (ℓ := .g) (en_lstd (ℓ := .g) (em_cons ((ev_neg (ev_int))) em_nil) (Nat.le_of_ble_eq_true rfl)))) (es_list (ev_var (R := (rList rInt)) (a := ahead8) rfl)) (by first | omega | (simp; omega))))) (es_list (ev_var (R := (rList rInt)) (a := behind18) rfl)) (by first | omega | (simp; omega))))) (by simp))) (by omega) (fun e19 he19 => ?_)
    replace he19 : e19 = (gtB (([(-(1 : Int))] ++ ahead8) ++ behind18) 1) := he19
    rw [he19]; clear he19 e19
    refine q_next (hol_in (found4 ++ [(gtB (([(-(1 : Int))] ++ ahead8) ++ behind18) 1)]) ?_ (LeG.k (LeG.k (LeG.f (LeG.f (LeG.f (LeG.f LeG.nil)))))))
    show ((found4 ++ [(gtB (([(-(1 : Int))] ++ ahead8) ++ behind18) 1)]) = (List.range (i1 + 1)).map (TM.eld row_ row_.length)) ∧ ((found4 ++ [(gtB (([(-(1 : Int))] ++ ahead8) ++ behind18) 1)]).length = (i1 + 1))
    refine ⟨?_, by rw [List.length_append, hI0_1]; rfl⟩
    rw [← h16j0, hI0_0, List.range_succ, List.map_append, show (x3).toNat = i1 by omega]; rfl
  revert s hI0; intro found20 hI0
  replace hI0 : (found20 = (List.range ((rg 0 ((row_).length : Int))).length).map (TM.eld row_ row_.length)) ∧ (found20.length = ((rg 0 ((row_).length : Int))).length) := hI0
  obtain ⟨hI0_0, hI0_1⟩ := hI0
  simp only [rg_len] at hI0_0 hI0_1
  show Go _ _ _ [.val .m (rTup rInt) row_, .own p2 .g rInt found20, .no, .no, .no, .no]
  refine q_ret ((ev_tupL (ℓ := .g) (es_own (R := rInt) (l := found20) rfl))) hR (fun r21 hr21 => ?_)
  replace hr21 : r21 = found20 := hr21
  show r21 = TM.treeOf row_
  rw [hr21]
  rw [hI0_0]; unfold TM.treeOf; congr 2
abbrev s_law_tree_of : Stmt := topS 33
theorem sc_law_tree_of : FnScope ["row", "found", "place", "ahead", "behind", "k"] ["row"] (defScope s_law_tree_of) := ⟨rfl, rfl, rfl, by decide +kernel, rfl, by decide +kernel, by decide +kernel⟩
theorem ok_law_tree_of {P : Program} {w : PySem.World} {K : PySem.W.Frag} {mg : Str → Option Value} {base : Heap} {f : Addr} {fd : FuncData} (F : Fun K "_law_tree_of" "_law_tree_of" s_law_tree_of f fd) (m_len : mg "len" = none) (m_range : mg "range" = none) (m_tuple : mg "tuple" = none) : FnOk P w K mg base CX0 1 f fd ["row"] sp_law_tree_of := by
  have sc := sc_law_tree_of
  refine F.ok sc (fun vs H Q E h => ?_) (fun cdv A outer s H vs Q E hr h => ?_)
  · obtain ⟨a_, ha_, _⟩ := h
    obtain ⟨v1, _, rfl, _ha1, rfl⟩ := ha_
    rfl
  · obtain ⟨⟨row_, _⟩, ⟨v1, _, rfl, ha1, rfl⟩, hp0, hR, hE⟩ := spF_open PIlaw (n := fun _ H' => Q .non H') h
    refine ⟨t_law_tree_of K E, ?_, go_law_tree_of (C := (Cn0 PIlaw H)) row_ hp0 hR _ (W0 H []) (world_of (bok0 (PI := PIlaw) H) ⟨⟨by decide, v1, rfl, (rTup rInt).mono (mw0 (PI := PIlaw) H) ha1⟩, ⟨trivial, ⟨trivial, ⟨trivial, ⟨trivial, ⟨trivial, trivial⟩⟩⟩⟩⟩⟩ rfl)⟩
    unfold t_law_tree_of
    exact (pss_cons (ps_set (i := 1) sc.nd rfl (Or.inl rfl) (pe_lst pa_nil))
(pss_cons (ps_for PassesOwn.never rfl (pi_range1 rfl m_range (pa_cons (pe_callB call_len_seq (by rfl) m_len bt_len (pa_cons (pv 0) pa_nil)) pa_nil)) (pg_name (i := 2) sc.nd rfl (Or.inr rfl))
(pss_cons (ps_set (i := 3) sc.nd rfl (Or.inl rfl) (pe_slice sl_list (pe_lc (own := [("k", 5)]) (g := (gName 5)) rfl sc.nd (pi_range1 rfl m_range (pa_cons (pv 2) pa_nil)) (blkOk_by (own := [("k", 5)]) (N := ["row", "found", "place", "ahead", "behind", "k"]) (sc := defScope s_law_tree_of) (by decide +kernel)) (fun _ _ _ _ _ => pg_name (i := 5) sc.nd rfl (Or.inl rfl)) (fun _ _ _ _ _ => pts_one (pt_cmpR op_le (pe_ix ix_tup (pv 0) (pv 5) (fun _ _ => rfl)) (pe_ix ix_tup (pv 0) (pv 2) (fun _ _ => rfl)) (nomark _))) (fun _ _ _ _ _ => (pv 5))) (po_some (pe_un un_neg pe_int)) po_none))
(pss_cons (ps_set (i := 4) sc.nd rfl (Or.inl rfl) (pe_slice sl_list (pe_lc (own := [("k", 5)]) (g := (gName 5)) rfl sc.nd (pi_range2 rfl m_range (pa_cons (pe_op op_add (pv 2) pe_int) (pa_cons (pe_callB call_len_seq (by rfl) m_len bt_len (pa_cons (pv 0) pa_nil)) pa_nil))) (blkOk_by (own := [("k", 5)]) (N := ["row", "found", "place", "ahead", "behind", "k"]) (sc := defScope s_law_tree_of) (by decide +kernel)) (fun _ _ _ _ _ => pg_name (i := 5) sc.nd rfl (Or.inl rfl)) (fun _ _ _ _ _ => pts_one (pt_cmpR op_lt (pe_ix ix_tup (pv 0) (pv 5) (fun _ _ => rfl)) (pe_ix ix_tup (pv 0) (pv 2) (fun _ _ => rfl)) (nomark _))) (fun _ _ _ _ _ => (pv 5))) po_none (po_some pe_int)))
(pss_cut (ps_if (PW.pt (pw_and (pt_cmpR (op_neD (roomUn hr)) (pv 3) (pe_lst pa_nil) (nomark _)) (pw_and (pt_cmpR (op_neD (roomUn hr)) (pv 4) (pe_lst pa_nil) (nomark _)) (pw_and1 (pt_cmpR op_gt (pe_ix ix_tup (pv 0) (pe_ix ix_list (pv 3) pe_int (fun _ _ => rfl)) (fun _ _ => rfl)) (pe_ix ix_tup (pv 0) (pe_ix ix_list (pv 4) pe_int (fun _ _ => rfl)) (fun _ _ => rfl)) (nomark _)))))) (pss_cons (ps_set (i := 4) sc.nd rfl (Or.inl rfl) (pe_lst pa_nil))
pss_nil) pss_nil)
(pss_cons (ps_expr (pe_bm PySem.F.plainAttrs_list PySem.F.slot_list_append PySem.F.type_list_append mt_append (pv 1) (pa_cons (pe_ix ix_list (pe_op op_cat (pe_op op_cat (pe_lst (pa_cons (pe_un un_neg pe_int) pa_nil)) (pv 3)) (pv 4)) (pe_un un_neg pe_int) (fun _ _ => rfl)) pa_nil)))
pss_nil)))))
(pss_cons (ps_ret (pe_callTy call_tuple_of (by rfl) m_tuple bt_tuple (pa_cons (pv 1) pa_nil))) pss_nil)))
def sp_law_clashes : Sp := spF (aCons (rTup rInt) (aCons (rTup rInt) aNil)) (fun (a : (List Int) × (List Int) × Unit) => (TM.isTree a.1 = true) ∧ (a.2.1.length = a.1.length)) (rList (rPair rInt rInt)) (fun (a : (List Int) × (List Int) × Unit) b => b = TM.clash a.1 a.2.1) (fun _ _ => False)
theorem call_law_clashes {C : Cn} {Γ : List Ent} {E : XK} {t1 : TE} {t2 : TE} {a1 : (List Int)} {a2 : (List Int)} (h1 : Ev C t1 Γ .h (rTup rInt) a1) (h2 : Ev C t2 Γ .h (rTup rInt) a2) (hp0 : TM.isTree a1 = true) (hp1 : a2.length = a1.length) : EvX C (tCall (sp_law_clashes) [] E (tCons t1 (tCons t2 tNil))) Γ (ResF C (rList (rPair rInt rInt)) (fun b => b = TM.clash a1 a2)) := ed_call2 h1 h2 ⟨hp0, hp1⟩ exc0 (fun _ z => z)
theorem callx_law_clashes {C : Cn} {Γ : List Ent} {E : XK} {t1 : TE} {t2 : TE} {P1 : (List Int) → Prop} {P2 : (List Int) → Prop} (h1 : EvP C t1 Γ .h (rTup rInt) P1) (h2 : EvP C t2 Γ .h (rTup rInt) P2) (hp0 : ∀ a1 a2, P1 a1 → P2 a2 → (TM.isTree a1 = true)) (hp1 : ∀ a1 a2, P1 a1 → P2 a2 → (a2.length = a1.length)) : EvX C (tCall (sp_law_clashes) [] E (tCons t1 (tCons t2 tNil))) Γ (ResF C (rList (rPair rInt rInt)) (fun b => ∃ a1 a2, P1 a1 ∧ P2 a2 ∧ (b = TM.clash a1 a2))) := ex_call2 h1 h2 (fun a1 a2 _p1 _p2 => ⟨hp0 a1 a2 _p1 _p2, hp1 a1 a2 _p1 _p2⟩) exc0 (fun a1 a2 _p1 _p2 => fun _ z => z)
def t_law_clashes (K : PySem.W.Frag) (E : XK) : TS :=
(tSeq (tAsg (tCall sp_law_flats [] E0 (tCons (tVar 0) tNil)) (gName 2))
(tSeq (tAsg (tLst tNil) (gName 3))
(tSeq (tFor (iRng1 (tCons (tCB (rLenS K) (tCons (tVar 0) tNil)) tNil)) (gName 4)
(tSeq (tFor (iList K (tCall sp_law_over [] E0 (tCons (tVar 0) (tCons (tVar 4) tNil)))) (gName 5)
(tSeq (tIfS (tTest (tOp (rI0 fun i j => .bl (decide (j < i))) (tOp (rI0 fun i j => .int (i - j)) (tOp (rI0 fun i j => .int (i + j)) (tOp (rIxK K .t) (tVar 1) (tVar 5)) (tOp (rIxK K .t) (tVar 2) (tVar 4))) (tOp (rIxK K .t) (tVar 2) (tVar 5))) (tOp (rIxK K .t) (tVar 1) (tVar 4)))) (tSeq (tDrop (tBM K "list" rAppend (tVar 3) (tCons (tTup (tCons (tVar 5) (tCons (tVar 4) tNil))) tNil)))
tNext) tNext)
tNext))
tNext))
(tSeq (tRet (tCB (rSortedPO K) (tCons (tVar 3) tNil))) tNext))))
theorem go_law_clashes {K : PySem.W.Frag} {C : Cn} {D : Ends} {E : XK} (tree_ : (List Int)) (row_ : (List Int)) (hp0 : TM.isTree tree_ = true) (hp1 : row_.length = tree_.length) (hR : RetOk C D (rList (rPair rInt rInt)) (fun b => b = TM.clash tree_ row_)) :
    Go C (t_law_clashes K E) D [.val .m (rTup rInt) tree_, .val .m (rTup rInt) row_, .no, .no, .no, .no] := by
  unfold t_law_clashes
  have htt := hp0
  have hfl := TM.isTree_len htt
  have hrl := hp1
  refine q_asg (i := 2) (ℓ := .g) ((ev_call (call_law_flats (((ev_var (R := (rTup rInt)) (a := tree_) rfl)).toh) (by first | omega | assumption | (simp; done) | (constructor <;> omega) | (simp; omega))))) (fun flats1 hflats1 => ?_)
  replace hflats1 : flats1 = (TM.flatM tree_) := hflats1
  have hff : flats1 = some (TM.flatF tree_) := by rw [hflats1, TM.flatM_tree htt]
  have hfo : oget flats1 = TM.flatF tree_ := by rw [hff]; rfl
  have hfl2 : (oget flats1).length = (tree_).length := by rw [hfo]; exact TM.flatF_len _
  refine q_asgN (i := 3) (ℓ := .g) (en_lstd (ℓ := .g) (R := (rPair rInt rInt)) em_nil) (fun p3 found2 hfound2 => ?_)
  subst hfound2
  refine q_forD (j := 4) (σS := (List (Int × Int))) (fun s => [.val .m (rTup rInt) tree_, .val .m (rTup rInt) row_, .val .g (rOpt (rTup rInt)) flats1, .own p3 .g (rPair rInt rInt) s, .no, .no]) (fun (i : Nat) (s : (List (Int × Int))) => (s = TM.clB tree_ row_ i) ∧ (s.length ≤ 41 * i)) ([] : List (Int × Int)) (ei_rg1d (b := true) (ℓ := .g) ((ev_len (es_tup (ev_var (R := (rTup rInt)) (a := tree_) rfl)))) (by omega)) (by
        show (([] : List (Int × Int)) = TM.clB tree_ row_ 0) ∧ (([] : List (Int × Int)).length ≤ 41 * 0)
        exact ⟨rfl, Nat.le_refl _⟩) (LeG.k (LeG.k (LeG.k (LeG.k (LeG.f (LeG.f LeG.nil)))))) (fun C1 hc1 i1 x4 s hx4 hI0 => ?_) (fun s hI0 => ?_)
  · revert s hI0; intro found5 hI0
    replace hI0 : (found5 = TM.clB tree_ row_ i1) ∧ (found5.length ≤ 41 * i1) := hI0
    obtain ⟨hI0_0, hI0_1⟩ := hI0
    have hR := hR.ex hc1
    have hx4l := at_lt hx4
    have hx4r := rg_at hx4
    rw [rg_len] at hx4l
    have hpl : x4 = ((i1 : Nat) : Int) := by omega
    have hul := TM.ups_len40 htt (p := x4) (by omega)
    have hui := TM.ups_inside htt (p := x4) (by omega)
    have hup : oget (TM.upM tree_ x4) = TM.ups tree_ x4 := by rw [TM.upM_tree htt (by omega)]; rfl
    refine q_forD (j := 5) (σS := (List (Int × Int))) (fun s => [.val .m (rTup rInt) tree_, .val .m (rTup rInt) row_, .val .g (rOpt (rTup rInt)) flats1, .own p3 .g (rPair rInt rInt) s, .val .g rInt x4, .no]) (fun (i : Nat) (s : (List (Int × Int))) => (s = TM.clB tree_ row_ i1 ++ (((oget (TM.upM tree_ x4)).take i).filter (TM.clP tree_ row_ x4)).map (fun a => (a, x4))) ∧ (s.length ≤ 41 * i1 + i)) found5 (ei_list (b := true) (hc := (by intro _; decide)) (hl := (by intro _; decide)) (es_list (ev_the (ev_call (call_law_over (((ev_var (R := (rTup rInt)) (a := tree_) rfl)).toh) (((ev_var (R := rInt) (a := x4) rfl)).toh) (by first | omega | assumption | (simp; done) | (constructor <;> omega) | (simp; omega)) (by first | omega | assumption | (simp; done) | (constructor <;> omega) | (simp; omega)))) (by exact oget_some (by rw [TM.upM_tree htt (by omega)]; simp))))) (by
          show (found5 = TM.clB tree_ row_ i1 ++ (((oget (TM.upM tree_ x4)).take 0).filter (TM.clP tree_ row_ x4)).map (fun a => (a, x4))) ∧ (found5.length ≤ 41 * i1 + 0)
          exact ⟨by rw [hI0_0]; simp, by omega⟩) (LeG.k (LeG.k (LeG.k (LeG.k (LeG.k (LeG.f LeG.nil)))))) (fun C2 hc2 i2 x6 s hx6 hI1 => ?_) (fun s hI1 => ?_)
    · revert s hI1; intro found7 hI1
      replace hI1 : (found7 = TM.clB tree_ row_ i1 ++ (((oget (TM.upM tree_ x4)).take i2).filter (TM.clP tree_ row_ x4)).map (fun a => (a, x4))) ∧ (found7.length ≤ 41 * i1 + i2) := hI1
      obtain ⟨hI1_0, hI1_1⟩ := hI1
      have hR := hR.ex hc2
      have hx6l := at_lt hx6
      have hit := hx6
      rw [hup] at hit
      have ha := hui _ (List.mem_append_right _ (List.mem_of_getElem? hit))
      have hil : i2 < (TM.ups tree_ x4).length := (List.getElem?_eq_some_iff.mp hit).1
      refine q_ifC (ec_tst (ev_gt ((ev_sub ((ev_add (((ev_ix (es_tup (ev_var (R := (rTup rInt)) (a := row_) rfl)) (((ev_var (R := rInt) (a := x6) rfl)).toh) (by first | omega | (dsimp only; omega)))).toh) (((ev_ix (es_tup (ev_the (ev_var (R := (rOpt (rTup rInt))) (a := flats1) rfl) (by exact oget_some (by rw [hff]; simp)))) (((ev_var (R := rInt) (a := x4) rfl)).toh) (by first | omega | (dsimp only; omega)))).toh))) (((ev_ix (es_tup (ev_the (ev_var (R := (rOpt (rTup rInt))) (a := flats1) rfl) (by exact oget_some (by rw [hff]; simp)))) (((ev_var (R := rInt) (a := x6) rfl)).toh) (by first | omega | (dsimp only; omega)))).toh))) (((ev_ix (es_tup (ev_var (R := (rTup rInt)) (a := row_) rfl)) (((ev_var (R := rInt) (a := x4) rfl)).toh) (by first | omega | (dsimp only; omega)))).toh))) (fun h8 => ?_) (fun h8 => ?_)
      · refine q_app (i := 3) (p := p3) rfl ((ev_paird (ℓ := .g) ((ev_var (R := rInt) (a := x6) rfl)) ((ev_var (R := rInt) (a := x4) rfl)))) (by first | omega | (dsimp only; omega)) (fun e9 he9 => ?_)
        replace he9 : e9 = (x6, x4) := he9
        rw [he9]; clear he9 e9
        refine q_next (?_ : Go _ tNext _ _)
        refine q_next (hol_in (found7 ++ [(x6, x4)]) ?_ (LeG.k (LeG.k (LeG.k (LeG.k (LeG.k (LeG.f LeG.nil)))))))
        show ((found7 ++ [(x6, x4)]) = TM.clB tree_ row_ i1 ++ (((oget (TM.upM tree_ x4)).take (i2 + 1)).filter (TM.clP tree_ row_ x4)).map (fun a => (a, x4))) ∧ ((found7 ++ [(x6, x4)]).length ≤ 41 * i1 + (i2 + 1))
        first
          | exact ⟨by rw [hI1_0]; exact TM.cl_yes hx6 (by rw [← hfo]; assumption), by rw [List.length_append, List.length_singleton]; omega⟩
          | exact ⟨by rw [hI1_0]; exact TM.cl_no hx6 (by rw [← hfo]; assumption), by omega⟩
      · refine q_next (?_ : Go _ tNext _ _)
        refine q_next (hol_in found7 ?_ (LeG.k (LeG.k (LeG.k (LeG.k (LeG.k (LeG.f LeG.nil)))))))
        show (found7 = TM.clB tree_ row_ i1 ++ (((oget (TM.upM tree_ x4)).take (i2 + 1)).filter (TM.clP tree_ row_ x4)).map (fun a => (a, x4))) ∧ (found7.length ≤ 41 * i1 + (i2 + 1))
        first
          | exact ⟨by rw [hI1_0]; exact TM.cl_yes hx6 (by rw [← hfo]; assumption), by rw [List.length_append, List.length_singleton]; omega⟩
          | exact ⟨by rw [hI1_0]; exact TM.cl_no hx6 (by rw [← hfo]; assumption), by omega⟩
    revert s hI1; intro found10 hI1
    replace hI1 : (found10 = TM.clB tree_ row_ i1 ++ (((oget (TM.upM tree_ x4)).take ((oget (TM.upM tree_ x4))).length).filter (TM.clP tree_ row_ x4)).map (fun a => (a, x4))) ∧ (found10.length ≤ 41 * i1 + ((oget (TM.upM tree_ x4))).length) := hI1
    obtain ⟨hI1_0, hI1_1⟩ := hI1
    show Go _ _ _ [.val .m (rTup rInt) tree_, .val .m (rTup rInt) row_, .val .g (rOpt (rTup rInt)) flats1, .own p3 .g (rPair rInt rInt) found10, .val .g rInt x4, .no]
    refine q_next (hol_in found10 ?_ (LeG.k (LeG.k (LeG.k (LeG.k (LeG.f (LeG.f LeG.nil)))))))
    show (found10 = TM.clB tree_ row_ (i1 + 1)) ∧ (found10.length ≤ 41 * (i1 + 1))
    rw [List.take_length] at hI1_0
    exact ⟨by rw [hI1_0, TM.clB_succ, hup, hpl]; rfl, by rw [hup] at hI1_1; omega⟩
  revert s hI0; intro found11 hI0
  replace hI0 : (found11 = TM.clB tree_ row_ ((rg 0 ((tree_).length : Int))).length) ∧ (found11.length ≤ 41 * ((rg 0 ((tree_).length : Int))).length) := hI0
  obtain ⟨hI0_0, hI0_1⟩ := hI0
  simp only [rg_len] at hI0_0 hI0_1
  show Go _ _ _ [.val .m (rTup rInt) tree_, .val .m (rTup rInt) row_, .val .g (rOpt (rTup rInt)) flats1, .own p3 .g (rPair rInt rInt) found11, .no, .no]
  refine q_ret ((ev_new (ℓ := .g) (en_sortP (es_own (R := (rPair rInt rInt)) (l := found11) rfl)))) hR (fun r12 hr12 => ?_)
  replace hr12 : r12 = (psort found11) := hr12
  show r12 = TM.clash tree_ row_
  rw [hr12]
  rw [hI0_0, Int.sub_zero, Int.toNat_natCast]; rfl
abbrev s_law_clashes : Stmt := topS 36
theorem sc_law_clashes : FnScope ["tree", "row", "flats", "found", "b", "a"] ["tree", "row"] (defScope s_law_clashes) := ⟨rfl, rfl, rfl, by decide +kernel, rfl, by decide +kernel, by decide +kernel⟩
theorem ok_law_clashes {P : Program} {w : PySem.World} {K : PySem.W.Frag} {mg : Str → Option Value} {base : Heap} {f : Addr} {fd : FuncData} (F : Fun K "_law_clashes" "_law_clashes" s_law_clashes f fd) {f_law_flats : Addr} {d_law_flats : FuncData} (c_law_flats : Cal P w K mg base CX0 2 "_law_flats" ["tree"] sp_law_flats f_law_flats d_law_flats) {f_law_over : Addr} {d_law_over : FuncData} (c_law_over : Cal P w K mg base CX0 1 "_law_over" ["tree", "place"] sp_law_over f_law_over d_law_over) (m_len : mg "len" = none) (m_range : mg "range" = none) (m_sorted : mg "sorted" = none) : FnOk P w K mg base CX0 3 f fd ["tree", "row"] sp_law_clashes := by
  have sc := sc_law_clashes
  refine F.ok sc (fun vs H Q E h => ?_) (fun cdv A outer s H vs Q E hr h => ?_)
  · obtain ⟨a_, ha_, _⟩ := h
    obtain ⟨v1, _, rfl, _ha1, ⟨v2, _, rfl, _ha2, rfl⟩⟩ := ha_
    rfl
  · obtain ⟨⟨tree_, row_, _⟩, ⟨v1, _, rfl, ha1, ⟨v2, _, rfl, ha2, rfl⟩⟩, ⟨hp0, hp1⟩, hR, hE⟩ := spF_open PIlaw (n := fun _ H' => Q .non H') h
    refine ⟨t_law_clashes K E, ?_, go_law_clashes (C := (Cn0 PIlaw H)) tree_ row_ hp0 hp1 hR _ (W0 H []) (world_of (bok0 (PI := PIlaw) H) ⟨⟨by decide, v1, rfl, (rTup rInt).mono (mw0 (PI := PIlaw) H) ha1⟩, ⟨⟨by decide, v2, rfl, (rTup rInt).mono (mw0 (PI := PIlaw) H) ha2⟩, ⟨trivial, ⟨trivial, ⟨trivial, ⟨trivial, trivial⟩⟩⟩⟩⟩⟩ rfl)⟩
    unfold t_law_clashes
    exact (pss_cons (ps_set (i := 2) sc.nd rfl (Or.inl rfl) (pe_call c_law_flats.ok (hr.mono (by decide)) (by rfl) c_law_flats.g c_law_flats.kp c_law_flats.b .nil pass0 (pa_cons (pv 0) pa_nil)))
(pss_cons (ps_set (i := 3) sc.nd rfl (Or.inl rfl) (pe_lst pa_nil))
(pss_cons (ps_for PassesOwn.never rfl (pi_range1 rfl m_range (pa_cons (pe_callB call_len_seq (by rfl) m_len bt_len (pa_cons (pv 0) pa_nil)) pa_nil)) (pg_name (i := 4) sc.nd rfl (Or.inl rfl))
(pss_cons (ps_for PassesOwn.never rfl (pi_list (pe_call c_law_over.ok (hr.mono (by decide)) (by rfl) c_law_over.g c_law_over.kp c_law_over.b .nil pass0 (pa_cons (pv 0) (pa_cons (pv 4) pa_nil)))) (pg_name (i := 5) sc.nd rfl (Or.inl rfl))
(pss_cons (ps_if (pt_cmpR op_gt (pe_op op_sub (pe_op op_add (pe_ix ix_tup (pv 1) (pv 5) (fun _ _ => rfl)) (pe_ix ix_tup (pv 2) (pv 4) (fun _ _ => rfl))) (pe_ix ix_tup (pv 2) (pv 5) (fun _ _ => rfl))) (pe_ix ix_tup (pv 1) (pv 4) (fun _ _ => rfl)) (nomark _)) (pss_cons (ps_expr (pe_bm PySem.F.plainAttrs_list PySem.F.slot_list_append PySem.F.type_list_append mt_append (pv 3) (pa_cons (pe_tup (pa_cons (pv 5) (pa_cons (pv 4) pa_nil))) pa_nil)))
pss_nil) pss_nil)
pss_nil))
pss_nil))
(pss_cons (ps_ret (pe_callB cr_sortedPO (by rfl) m_sorted bt_sorted (pa_cons (pv 3) pa_nil))) pss_nil))))
def sp_law_in_order : Sp := spF (aCons (rTup rInt) (aCons (rTup rInt) aNil)) (fun (a : (List Int) × (List Int) × Unit) => (TM.isTree a.1 = true) ∧ (TM.treeOf a.2.1 = a.1) ∧ (a.2.1.length = a.1.length)) rBool (fun (a : (List Int) × (List Int) × Unit) b => b = true) (fun _ _ => False)
theorem call_law_in_order {C : Cn} {Γ : List Ent} {E : XK} {t1 : TE} {t2 : TE} {a1 : (List Int)} {a2 : (List Int)} (h1 : Ev C t1 Γ .h (rTup rInt) a1) (h2 : Ev C t2 Γ .h (rTup rInt) a2) (hp0 : TM.isTree a1 = true) (hp1 : TM.treeOf a2 = a1) (hp2 : a2.length = a1.length) : EvX C (tCall (sp_law_in_order) [] E (tCons t1 (tCons t2 tNil))) Γ (ResF C rBool (fun b => b = true)) := ed_call2 h1 h2 ⟨hp0, hp1, hp2⟩ exc0 (fun _ z => z)
theorem callx_law_in_order {C : Cn} {Γ : List Ent} {E : XK} {t1 : TE} {t2 : TE} {P1 : (List Int) → Prop} {P2 : (List Int) → Prop} (h1 : EvP C t1 Γ .h (rTup rInt) P1) (h2 : EvP C t2 Γ .h (rTup rInt) P2) (hp0 : ∀ a1 a2, P1 a1 → P2 a2 → (TM.isTree a1 = true)) (hp1 : ∀ a1 a2, P1 a1 → P2 a2 → (TM.treeOf a2 = a1)) (hp2 : ∀ a1 a2, P1 a1 → P2 a2 → (a2.length = a1.length)) : EvX C (tCall (sp_law_in_order) [] E (tCons t1 (tCons t2 tNil))) Γ (ResF C rBool (fun b => ∃ a1 a2, P1 a1 ∧ P2 a2 ∧ (b = true))) := ex_call2 h1 h2 (fun a1 a2 _p1 _p2 => ⟨hp0 a1 a2 _p1 _p2, hp1 a1 a2 _p1 _p2, hp2 a1 a2 _p1 _p2⟩) exc0 (fun a1 a2 _p1 _p2 => fun _ z => z)
def t_law_in_order (K : PySem.W.Frag) (E : XK) : TS :=
(tSeq (tRet (tAndV (tOp (rEqD K) (tCall sp_law_tree_of [] E0 (tCons (tVar 1) tNil)) (tVar 0)) (tOp (rEqD K) (tCall sp_law_clashes [] E0 (tCons (tVar 0) (tCons (tVar 1) tNil))) (tLst tNil)))) tNext)
theorem go_law_in_order {K : PySem.W.Frag} {C : Cn} {D : Ends} {E : XK} (tree_ : (List Int)) (row_ : (List Int)) (hp0 : TM.isTree tree_ = true) (hp1 : TM.treeOf row_ = tree_) (hp2 : row_.length = tree_.length) (hR : RetOk C D rBool (fun b => b = true)) :
    Go C (t_law_in_order K E) D [.val .m (rTup rInt) tree_, .val .m (rTup rInt) row_] := by
  unfold t_law_in_order
  have hfl := TM.isTree_len hp0
  refine q_ret ((ev_andV ((ev_eqD (eqr_tup eqr_int) (Nat.le_of_ble_eq_true rfl) (((ev_call (call_law_tree_of (((ev_var (R := (rTup rInt)) (a := row_) rfl)).toh) (by omega)))).toh) (((ev_var (R := (rTup rInt)) (a := tree_) rfl)).toh))) (fun hb1 => have hb1p : ((TM.treeOf row_) = tree_) := (by first | (intro z; rw [z] at hb1; cases hb1; done) | simpa using hb1); ((ev_eqD (eqr_list (eqr_pair eqr_int eqr_int)) (Nat.le_of_ble_eq_true rfl) (((ev_new (ℓ := .g) (en_callN (nol_pair (nol_fl fl_int) (nol_fl fl_int)) (call_law_clashes (((ev_var (R := (rTup rInt)) (a := tree_) rfl)).toh) (((ev_var (R := (rTup rInt)) (a := row_) rfl)).toh) (by exact hp0) (by exact hp2))))).toh) (((ev_new (ℓ := .g) (en_lstd (ℓ := .g) (R := (rPair rInt rInt)) em_nil))).toh)))))) hR (fun r3 hr3 => ?_)
  replace hr3 : r3 = ((decide ((TM.treeOf row_) = tree_)) && (decide ((TM.clash tree_ row_) = ([] : List (Int × Int))))) := hr3
  show r3 = true
  rw [hr3]
  rw [hp1, TM.clash_kin hp0 hp1]; simp
abbrev s_law_in_order : Stmt := topS 38
theorem sc_law_in_order : FnScope ["tree", "row"] ["tree", "row"] (defScope s_law_in_order) := ⟨rfl, rfl, rfl, by decide +kernel, rfl, by decide +kernel, by decide +kernel⟩
theorem ok_law_in_order {P : Program} {w : PySem.World} {K : PySem.W.Frag} {mg : Str → Option Value} {base : Heap} {f : Addr} {fd : FuncData} (F : Fun K "_law_in_order" "_law_in_order" s_law_in_order f fd) {f_law_tree_of : Addr} {d_law_tree_of : FuncData} (c_law_tree_of : Cal P w K mg base CX0 1 "_law_tree_of" ["row"] sp_law_tree_of f_law_tree_of d_law_tree_of) {f_law_clashes : Addr} {d_law_clashes : FuncData} (c_law_clashes : Cal P w K mg base CX0 3 "_law_clashes" ["tree", "row"] sp_law_clashes f_law_clashes d_law_clashes) : FnOk P w K mg base CX0 4 f fd ["tree", "row"] sp_law_in_order := by
  have sc := sc_law_in_order
  refine F.ok sc (fun vs H Q E h => ?_) (fun cdv A outer s H vs Q E hr h => ?_)
  · obtain ⟨a_, ha_, _⟩ := h
    obtain ⟨v1, _, rfl, _ha1, ⟨v2, _, rfl, _ha2, rfl⟩⟩ := ha_
    rfl
  · obtain ⟨⟨tree_, row_, _⟩, ⟨v1, _, rfl, ha1, ⟨v2, _, rfl, ha2, rfl⟩⟩, ⟨hp0, hp1, hp2⟩, hR, hE⟩ := spF_open PIlaw (n := fun _ H' => Q .non H') h
    refine ⟨t_law_in_order K E, ?_, go_law_in_order (C := (Cn0 PIlaw H)) tree_ row_ hp0 hp1 hp2 hR _ (W0 H []) (world_of (bok0 (PI := PIlaw) H) ⟨⟨by decide, v1, rfl, (rTup rInt).mono (mw0 (PI := PIlaw) H) ha1⟩, ⟨⟨by decide, v2, rfl, (rTup rInt).mono (mw0 (PI := PIlaw) H) ha2⟩, trivial⟩⟩ rfl)⟩
    unfold t_law_in_order
    exact (pss_cons (ps_ret (pe_and (pe_cmpR (op_eqD (roomUn hr)) (pe_call c_law_tree_of.ok (hr.mono (by decide)) (by rfl) c_law_tree_of.g c_law_tree_of.kp c_law_tree_of.b .nil pass0 (pa_cons (pv 1) pa_nil)) (pv 0) (nomark _)) (pe_one (pe_cmpR (op_eqD (roomUn hr)) (pe_call c_law_clashes.ok (hr.mono (by decide)) (by rfl) c_law_clashes.g c_law_clashes.kp c_law_clashes.b .nil pass0 (pa_cons (pv 0) (pa_cons (pv 1) pa_nil))) (pe_lst pa_nil) (nomark _))))) pss_nil)
theorem hv_law_pool (xs : List V) (l : List Int) (h : ∃ x y, l = [x, y]) (h2 : ∀ H, All2 (rInt.is H) xs l) : PIlaw (.lst xs) := by
  obtain ⟨x, y, rfl⟩ := h
  have h3 := h2 fun _ => none
  match xs, h3 with
  | [v, u], h3 => exact ⟨x, y, by rw [show v = .int x from h3.1, show u = .int y from h3.2.1]⟩
def sp_law (K : PySem.W.Frag) : Sp := spF (aCons (rScr K) aNil) (fun (a : (List Int) × Unit) => (a.1.length ≤ 63)) rBool (fun (a : (List Int) × Unit) b => b = true) (fun _ _ => False)
theorem call_law {C : Cn} {Γ : List Ent} {E : XK} {K : PySem.W.Frag} {t1 : TE} {a1 : (List Int)} (h1 : Ev C t1 Γ .h (rScr K) a1) (hp0 : a1.length ≤ 63) : EvX C (tCall (sp_law K) [] E (tCons t1 tNil)) Γ (ResF C rBool (fun (b : Bool) => b = true)) := ed_call1 h1 hp0 exc0 (fun _ z => z)
theorem callx_law {C : Cn} {Γ : List Ent} {E : XK} {K : PySem.W.Frag} {t1 : TE} {P1 : (List Int) → Prop} (h1 : EvP C t1 Γ .h (rScr K) P1) (hp0 : ∀ a1, P1 a1 → (a1.length ≤ 63)) : EvX C (tCall (sp_law K) [] E (tCons t1 tNil)) Γ (ResF C rBool (fun (b : Bool) => ∃ a1, P1 a1 ∧ (b = true))) := ex_call1 h1 (fun a1 _p1 => hp0 a1 _p1) exc0 (fun a1 _p1 => fun _ z => z)
def t_law (K : PySem.W.Frag) (E : XK) (x_NoTree : Addr) (x_Unlike : Addr) : TS :=
(tSeq (tFor (iRng1 (tCons (tCB (fun xs H Q => ∃ i j, xs = [.int i, .int j] ∧ Q (.int (if j > i then j else i)) H) (tCons (tC (.int 1)) (tCons (tCB (fun xs H Q => ∃ i j, xs = [.int i, .int j] ∧ Q (.int (if j < i then j else i)) H) (tCons (tCB (rLenS K) (tCons (tVar 0) tNil)) (tCons (tC (.int 8)) tNil))) tNil))) tNil)) (gName 1)
(tSeq (tAsg (tCall (sp_law_pool K) [] E0 (tCons (tVar 0) (tCons (tVar 1) tNil))) (gName 2))
(tSeq (tAsg (tCall sp_law_tree [] E0 (tCons (tVar 2) (tCons (tC (.int 8)) tNil))) (gName 3))
(tSeq (tAsg (tCall sp_law_near_row [] E0 (tCons (tVar 2) (tCons (tVar 3) tNil))) (gName 4))
(tSeq (tAsg (tCall (sp_clashing x_NoTree x_Unlike) [] E0 (tCons (tVar 3) (tCons (tVar 4) tNil))) (gName 5))
(tSeq (tAsg (tOp (rIxK K .t) (tCall (sp_most_stay x_NoTree x_Unlike) [] E0 (tCons (tVar 3) (tCons (tVar 4) tNil))) (tC (.int 0))) (gName 6))
(tSeq (tAsg (tC (.int 0)) (gName 7))
(tSeq (tFor (iRng1 (tCons (tOp rShl1 (tC (.int 1)) (tCB (rLenS K) (tCons (tVar 3) tNil))) tNil)) (gName 8)
(tSeq (tAsg (tLc (iRng1 (tCons (tCB (rLenS K) (tCons (tVar 3) tNil)) tNil)) (gName 13) (tTest (tOp rEq (tOp rAndM (tOp (rI (fun _ j => 0 ≤ j) fun i j => .int (i / 2 ^ j.toNat)) (tVar 8) (tVar 13)) (tC (.int 1))) (tC (.int 1)))) (tVar 13) [13]) (gName 9))
(tSeq (tIfS (tNot (tB (tCB (rAny K) (tCons (tLc (iList K (tVar 5)) (gTup K 2 (gCons (gName 14) (gCons (gName 15) gNil))) tYes (tAndV (tOp (rIn K false) (tVar 14) (tVar 9)) (tOp (rIn K false) (tVar 15) (tVar 9))) [14, 15]) tNil)))) (tSeq (tAsg (tCB (fun xs H Q => ∃ i j, xs = [.int i, .int j] ∧ Q (.int (if j > i then j else i)) H) (tCons (tVar 7) (tCons (tCB (rLenS K) (tCons (tVar 9) tNil)) tNil))) (gName 7))
(tSeq (tAsg (tVar 4) (gName 10))
(tCut (tIfS (tTest (tOp (rNeD K) (tVar 4) (tTup tNil))) (tSeq (tAsg (tCall sp_law_made [] E0 (tCons (tVar 3) (tCons (tVar 4) (tCons (tVar 9) tNil)))) (gName 10))
tNext) tNext)
(tSeq (tIfS (tOr (tTest (tOp (rNeD K) (tCall sp_law_tree_of [] E0 (tCons (tVar 10) tNil)) (tVar 3))) (tNot (tB (tCB (rAll K) (tCons (tLc (iList K (tVar 9)) (gName 13) tYes (tOp rEq (tOp (rIxK K .t) (tVar 10) (tVar 13)) (tOp (rIxK K .t) (tVar 4) (tVar 13))) [13]) tNil))))) (tSeq (tRet (tC (.bl false))) tNext) tNext)
tNext)))) tNext)
tNext)))
(tSeq (tIfS (tOr (tTest (tOp rNe (tCB (rLenS K) (tCons (tVar 6) tNil)) (tVar 7))) (tB (tCB (rAny K) (tCons (tLc (iList K (tVar 5)) (gTup K 2 (gCons (gName 14) (gCons (gName 15) gNil))) tYes (tAndV (tOp (rIn K false) (tVar 14) (tVar 6)) (tOp (rIn K false) (tVar 15) (tVar 6))) [14, 15]) tNil)))) (tSeq (tRet (tC (.bl false))) tNext) tNext)
(tSeq (tFor (iRng1 (tCons (tC (.int 2)) tNil)) (gName 11)
(tSeq (tAsg (tCall sp_law_kin_row [] E0 (tCons (tVar 2) (tCons (tVar 3) tNil))) (gName 12))
(tSeq (tIfS (tOr (tNot (tB (tCall sp_law_in_order [] E0 (tCons (tVar 3) (tCons (tVar 12) tNil))))) (tTest (tOp (rNeD K) (tCall (sp_clashing x_NoTree x_Unlike) [] E0 (tCons (tVar 3) (tCons (tVar 12) tNil))) (tLst tNil)))) (tSeq (tRet (tC (.bl false))) tNext) tNext)
tNext)))
tNext))))))))))
(tSeq (tRet (tC (.bl true))) tNext))
theorem go_law {K : PySem.W.Frag} {C : Cn} {D : Ends} {E : XK} (x_NoTree : Addr) (x_Unlike : Addr) (script_ : (List Int)) (hp0 : script_.length ≤ 63) (hR : RetOk C D rBool (fun (b : Bool) => b = true)) (hPI : C.PI = PIlaw) :
    Go C (t_law K E x_NoTree x_Unlike) D [.val .m (rScr K) script_, .no, .no, .no, .no, .no, .no, .no, .no, .no, .no, .no, .no, .no, .no, .no] := by
  unfold t_law
  refine q_forD (j := 1) (σS := Unit) (fun s => [.val .m (rScr K) script_, .no, .no, .no, .no, .no, .no, .no, .no, .no, .no, .no, .no, .no, .no, .no]) (fun (i : Nat) (s : Unit) => True) () (ei_rg1d (b := true) (ℓ := .g) ((ev_max2 (ev_int) ((ev_min2 ((ev_lenScr ((ev_var (R := (rScr K)) (a := script_) rfl)).toh)) (ev_int))))) (by omega)) trivial (LeG.k (LeG.f (LeG.f (LeG.f (LeG.f (LeG.f (LeG.f (LeG.f (LeG.f (LeG.f (LeG.f (LeG.f (LeG.f (LeG.f (LeG.f (LeG.f LeG.nil)))))))))))))))) (fun C1 hc1 i1 x1 s hx1 hI0 => ?_) (fun s hI0 => ?_)
  · have hR := hR.ex hc1
    have hPI := hc1.pi.trans hPI
    have hx1l := at_lt hx1
    have hx1r := rg_at hx1
    rw [rg_len] at hx1l
    refine q_asgV (i := 2) fl_int (call_law_pool (((ev_var (R := (rScr K)) (a := script_) rfl)).toh) (((ev_var (R := rInt) (a := x1) rfl)).toh) (by
          first | omega | assumption | (simp; done) | (constructor <;> omega) | (simp; omega))) (hPI ▸ hv_law_pool) (fun p4 hnt_p4 => ?_)
    refine q_asg (i := 3) (ℓ := .g) (ev_call (vol_law_tree (i := 2) rfl hPI (ev_int) (by
          first | omega | assumption | (simp; done) | (constructor <;> omega) | (simp; omega)))) (fun tree6 htree6 => ?_)
    replace htree6 : TM.isTree tree6 = true ∧ (tree6.length : Int) ≤ (8 : Int) := htree6
    obtain ⟨htr, htl⟩ := (show TM.isTree tree6 = true ∧ _ by assumption)
    have htn := TM.isTree_len htr
    refine q_asg (i := 4) (ℓ := .g) (ev_call (vol_law_near_row (i := 2) rfl hPI (((ev_var (R := (rTup rInt)) (a := tree6) rfl)).toh) (by
          first | omega | assumption | (simp; done) | (constructor <;> omega) | (simp; omega)))) (fun row8 hrow8 => ?_)
    replace hrow8 : row8.length = tree6.length := hrow8
    have hrl : (row8).length = (tree6).length := by assumption
    have hrn : (row8).length ≤ 1000 := by omega
    have htn2 : (tree6).length ≤ 1000 := by omega
    refine q_asg (i := 5) (ℓ := .g) ((ev_new (ℓ := .g) (en_callN (nol_pair (nol_fl fl_int) (nol_fl fl_int)) (call_clashing (((ev_var (R := (rTup rInt)) (a := tree6) rfl)).toh) (((ev_seqT (ev_var (R := (rTup rInt)) (a := row8) rfl))).toh) (by omega) (by omega) exc0 (by
          rintro c (⟨_, z⟩ | ⟨_, _, z⟩)
          · rw [htr] at z; cases z
          · exact z hrl))))) (fun pairs9 hpairs9 => ?_)
    replace hpairs9 : pairs9 = (TM.clash tree6 row8) := hpairs9
    have hcb : (pairs9).length ≤ 100000 := by rw [hpairs9]; exact TM.clash_len htr _
    refine q_asg (i := 6) (ℓ := .g) ((evp_trip0 (ev_call (call_most_stay (((ev_var (R := (rTup rInt)) (a := tree6) rfl)).toh) (((ev_seqT (ev_var (R := (rTup rInt)) (a := row8) rfl))).toh) (by
          first | omega | assumption | (simp; done) | (constructor <;> omega) | (simp; omega)) (by
          first | omega | assumption | (simp; done) | (constructor <;> omega) | (simp; omega)) exc0 (by
          rintro c (⟨_, z⟩ | ⟨_, _, z⟩)
          · rw [htr] at z; cases z
          · exact z hrl))))) (fun kept14 hkept14 => ?_)
    obtain ⟨t12, ht13, hkept14⟩ := hkept14
    obtain ⟨_, _, hmo, _⟩ := TM.most_of (show TM.MostR _ _ _ by assumption)
    rw [← hkept14] at hmo
    have hpow : (2 : Int) ^ (((tree6).length : Int)).toNat = ((2 ^ (tree6).length : Nat) : Int) := by rw [Int.toNat_natCast]; norm_cast
    have hpw : (2 : Nat) ^ (tree6).length ≤ 2 ^ 8 := Nat.pow_le_pow_right (by decide) (by omega)
    have hpw2 : (2 : Nat) ^ (tree6).length ≤ 256 := hpw
    have hpi : 0 ≤ (2 : Int) ^ (((tree6).length : Int)).toNat ∧ (2 : Int) ^ (((tree6).length : Int)).toNat ≤ 256 := by rw [hpow]; exact ⟨Int.natCast_nonneg _, Int.ofNat_le.mpr hpw2⟩
    refine q_asg (i := 7) (ℓ := .g) (ev_int) (fun most15 hmost15 => ?_)
    replace hmost15 : most15 = (0 : Int) := hmost15
    refine q_forD (j := 8) (σS := Int) (fun s => [.val .m (rScr K) script_, .val .g rInt x1, .vol p4, .val .g (rTup rInt) tree6, .val .g (rTup rInt) row8, .val .g (rList (rPair rInt rInt)) pairs9, .val .g (rTup rInt) kept14, .val .g rInt s, .no, .no, .no, .no, .no, .no, .no, .no]) (fun (i : Nat) (s : Int) => (TM.MostI tree6 kept14 i s)) most15 (ei_rg1d (b := true) (ℓ := .g) ((ev_shl1 (ev_int) ((ev_len (es_tup (ev_var (R := (rTup rInt)) (a := tree6) rfl)))) (by omega))) (by exact ⟨Int.le_trans (by decide) hpi.1, Int.lt_of_le_of_lt hpi.2 (by decide)⟩)) (by
          show (TM.MostI tree6 kept14 0 most15)
          rw [hmost15]; exact TM.mi_init) (LeG.k (LeG.k (LeG.k (LeG.k (LeG.k (LeG.k (LeG.k (LeG.k (LeG.f (LeG.f (LeG.f (LeG.f (LeG.f (LeG.f (LeG.f (LeG.f LeG.nil)))))))))))))))) (fun C2 hc2 i2 x16 s hx16 hI1 => ?_) (fun s hI1 => ?_)
    · revert s hI1; intro most17 hI1
      replace hI1 : (TM.MostI tree6 kept14 i2 most17) := hI1
      have hR := hR.ex hc2
      have hPI := hc2.pi.trans hPI
      have hx16l := at_lt hx16
      have hx16r := rg_at hx16
      rw [rg_len] at hx16l
      refine q_asg (i := 9) (ℓ := .g) ((ev_new (ℓ := .g) (EvN.imp (en_filtd (ℓ' := .g) (fun c18 : Int => (((x16 / 2 ^ (c18).toNat) % 2 ^ 1) = (1 : Int))) (fun c18 : Int => c18) (ei_rg1d (b := false) (ℓ := .g) ((ev_len (es_tup (ev_var (R := (rTup rInt)) (a := tree6) rfl)))) (by omega)) (by rw [rg_len]; omega) (fun c18 hc19 => by
              have hc19_ := rg_mem.mp hc19
              exact (ec_tst (ev_eqI ((ev_andM (k := 1) ((ev_shr (((ev_var (R := rInt) (a := x16) rfl)).toh) (((ev_var (R := rInt) (a := c18) rfl)).toh) (by omega))) (ev_int))) (ev_int)))) (fun c18 hc19 hp20 => by
              have hc19_ := rg_mem.mp hc19
              exact (ev_var (R := rInt) (a := c18) rfl))) (fun _ e => e.trans (List.map_id' _))))) (fun some21 hsome21 => ?_)
      replace hsome21 : some21 = ((rg 0 ((tree6).length : Int)).filter (fun c18 : Int => decide (((x16 / 2 ^ (c18).toNat) % 2 ^ 1) = (1 : Int)))) := hsome21
      have hsm : some21 = TM.someF (tree6).length x16 := hsome21
      have hxi : x16 = ((i2 : Nat) : Int) := by omega
      have hsi : (some21).Nodup ∧ ∀ p ∈ some21, 0 ≤ p ∧ p < ((tree6).length : Int) := hsm ▸ TM.some_in
      have hsl := TM.nodup_len hsi.1 hsi.2
      have hai := TM.any_ind (t := tree6) (row := row8) (S := some21) hpairs9
      refine q_ifC (ec_not (ec_valB ((ev_any (EvS.fl fl_bool (es_list (ev_new (ℓ := .g) (en_map2d (ℓ' := .g) (fun c22 : (Int × Int) => ((decide (c22.1 ∈ some21)) && (decide (c22.2 ∈ some21)))) (by decide) (ei_list (b := false) (hc := (by intro h; exact absurd h (by decide))) (hl := (by intro h; exact absurd h (by decide))) (es_list (ev_var (R := (rList (rPair rInt rInt))) (a := pairs9) rfl))) (by omega) (fun c22 hc23 => (ev_andV ((ev_in (((ev_var (R := rInt) (a := c22.1) rfl)).toh) (EvS.fl fl_int (es_list (ev_var (R := (rList rInt)) (a := some21) rfl))))) (fun hb25 => have hb25p : (c22.1 ∈ some21) := (by first | (intro z; rw [z] at hb25; cases hb25; done) | simpa using hb25); ((ev_in (((ev_var (R := rInt) (a := c22.2) rfl)).toh) (EvS.fl fl_int (es_list (ev_var (R := (rList rInt)) (a := some21) rfl)))))))))))))))) (fun h27 => ?_) (fun h27 => ?_)
      · have hin : TM.Ind tree6 row8 some21 := Classical.byContradiction fun z => (show ¬ (List.any _ _ = true) by assumption) (hai.mpr z)
        refine q_asg (i := 7) (ℓ := .g) ((ev_max2 (((ev_var (R := rInt) (a := most17) rfl)).toh) ((ev_len (es_list (ev_var (R := (rList rInt)) (a := some21) rfl)))))) (fun most28 hmost28 => ?_)
        replace hmost28 : most28 = (max most17 ((some21).length : Int)) := hmost28
        refine q_asg (i := 10) (ℓ := .g) ((ev_var (R := (rTup rInt)) (a := row8) rfl)) (fun made29 hmade29 => ?_)
        replace hmade29 : made29 = row8 := hmade29
        refine q_cut (S := (List Int)) (fun s => [.val .m (rScr K) script_, .val .g rInt x1, .vol p4, .val .g (rTup rInt) tree6, .val .g (rTup rInt) row8, .val .g (rList (rPair rInt rInt)) pairs9, .val .g (rTup rInt) kept14, .val .g rInt most28, .val .g rInt x16, .val .g (rList rInt) some21, .val .g (rTup rInt) s, .no, .no, .no, .no, .no]) (fun s => (((¬ row8 = ([] : List Int)) → s = (TM.mdF tree6 row8 some21)) ∧ (¬ (¬ row8 = ([] : List Int)) → s = made29))) (c_ifC (ec_tstN (ev_neD (eqr_tup eqr_int) (Nat.le_of_ble_eq_true rfl) (((ev_var (R := (rTup rInt)) (a := row8) rfl)).toh) (((ev_tup (ℓ := .g) (em_nil (R := rInt)) (fun _ e => by rw [e]; exact Nat.le_of_ble_eq_true rfl))).toh))) (fun h30 => ?_) (fun h30 => ?_)) (fun s h30j => ?_)
        · refine q_asg (i := 10) (ℓ := .g) ((ev_call (call_law_made (((ev_var (R := (rTup rInt)) (a := tree6) rfl)).toh) (((ev_var (R := (rTup rInt)) (a := row8) rfl)).toh) (((ev_var (R := (rList rInt)) (a := some21) rfl)).toh) (by exact htr) (by exact hrl) (by exact List.length_pos_iff.mpr (by assumption)) (by omega)))) (fun made31 hmade31 => ?_)
          replace hmade31 : made31 = (TM.mdF tree6 row8 some21) := hmade31
          refine q_next (hol_in made31 ?_ (LeG.k (LeG.k (LeG.k (LeG.k (LeG.k (LeG.k (LeG.k (LeG.k (LeG.k (LeG.k (LeG.k (LeG.f (LeG.f (LeG.f (LeG.f (LeG.f LeG.nil)))))))))))))))))
          show (((¬ row8 = ([] : List Int)) → made31 = (TM.mdF tree6 row8 some21)) ∧ (¬ (¬ row8 = ([] : List Int)) → made31 = made29))
          first | exact ⟨fun _ => by assumption, fun z => absurd (by assumption) z⟩ | exact ⟨fun z => absurd z (by assumption), fun _ => by assumption⟩ | exact ⟨fun _ => rfl, fun z => absurd (by assumption) z⟩ | exact ⟨fun z => absurd z (by assumption), fun _ => rfl⟩ | (constructor <;> intro _ <;> first | assumption | rfl | contradiction | omega)
        · refine q_next (hol_in made29 ?_ (LeG.k (LeG.k (LeG.k (LeG.k (LeG.k (LeG.k (LeG.k (LeG.k (LeG.k (LeG.k (LeG.k (LeG.f (LeG.f (LeG.f (LeG.f (LeG.f LeG.nil)))))))))))))))))
          show (((¬ row8 = ([] : List Int)) → made29 = (TM.mdF tree6 row8 some21)) ∧ (¬ (¬ row8 = ([] : List Int)) → made29 = made29))
          first | exact ⟨fun _ => by assumption, fun z => absurd (by assumption) z⟩ | exact ⟨fun z => absurd z (by assumption), fun _ => by assumption⟩ | exact ⟨fun _ => rfl, fun z => absurd (by assumption) z⟩ | exact ⟨fun z => absurd z (by assumption), fun _ => rfl⟩ | (constructor <;> intro _ <;> first | assumption | rfl | contradiction | omega)
        revert s h30j; intro made32 h30j
        replace h30j : (((¬ row8 = ([] : List Int)) → made32 = (TM.mdF tree6 row8 some21)) ∧ (¬ (¬ row8 = ([] : List Int)) → made32 = made29)) := h30j
        obtain ⟨hma1, hma2, hma3⟩ := TM.md_all htr hrl hin hsi.2 (by assumption) (by assumption)
        refine q_ifT (ec_or (ec_tstN (ev_neD (eqr_tup eqr_int) (Nat.le_of_ble_eq_true rfl) (((ev_call (call_law_tree_of (((ev_var (R := (rTup rInt)) (a := made32) rfl)).toh) (by omega)))).toh) (((ev_var (R := (rTup rInt)) (a := tree6) rfl)).toh))) (fun hb33 => (ec_not (ec_valB ((ev_all (EvS.fl fl_bool (es_list (ev_new (ℓ := .g) (en_mapd (ℓ' := .g) (fun c34 : Int => (decide ((gt made32 c34) = (gt row8 c34)))) (ei_list (b := false) (hc := (by intro h; exact absurd h (by decide))) (hl := (by intro h; exact absurd h (by decide))) (es_list (ev_var (R := (rList rInt)) (a := some21) rfl))) (by omega) (fun c34 hc35 => (ev_eqI (((ev_ix (es_tup (ev_var (R := (rTup rInt)) (a := made32) rfl)) (((ev_var (R := rInt) (a := c34) rfl)).toh) (by
              have hq_ := hsi.2 _ (by assumption)
              omega))).toh) (((ev_ix (es_tup (ev_var (R := (rTup rInt)) (a := row8) rfl)) (((ev_var (R := rInt) (a := c34) rfl)).toh) (by
              have hq_ := hsi.2 _ (by assumption)
              omega))).toh))))))))))))) (fun h38 => ?_) (fun h38 => ?_)
        · refine q_ret (ev_bl) hR (fun r39 hr39 => ?_)
          replace hr39 : r39 = false := hr39
          show r39 = true
          (try rw [hr39])
          exfalso
          first
          | exact (by assumption : ¬ true = true) rfl
          | (have hz := (show ¬ TM.treeOf _ = _ ∨ _ by assumption)
             rcases hz with z | z
             · exact z hma1
             · exact z (TM.keep_all hma3))
          | (have hz := (show ¬ ((_ : List Int).length : Int) = _ ∨ _ by assumption)
             rcases hz with z | z
             · exact z (TM.mi_end hmo hI1 (by rw [hpow, Int.sub_zero, Int.toNat_natCast]))
             · exact (TM.any_ind hpairs9).mp z hmo.ind)
          | (have hz := (show ¬ true = true ∨ ¬ TM.clash _ _ = [] by assumption)
             have hkt := (show TM.treeOf _ = _ ∧ _ by assumption)
             rcases hz with z | z
             · exact z rfl
             · exact z (TM.clash_kin htr hkt.1))
        refine q_next (?_ : Go _ tNext _ _)
        refine q_next (hol_in most28 ?_ (LeG.k (LeG.k (LeG.k (LeG.k (LeG.k (LeG.k (LeG.k (LeG.k (LeG.f (LeG.f (LeG.f (LeG.f (LeG.f (LeG.f (LeG.f (LeG.f LeG.nil)))))))))))))))))
        show (TM.MostI tree6 kept14 (i2 + 1) most28)
        first
        | (rw [hmost28]; exact TM.mi_yes hmo hI1 hxi hsm hin)
        | exact TM.mi_no hmo hI1 hxi hsm (hai.mp (Classical.not_not.mp (by assumption)))
      · refine q_next (?_ : Go _ tNext _ _)
        refine q_next (hol_in most17 ?_ (LeG.k (LeG.k (LeG.k (LeG.k (LeG.k (LeG.k (LeG.k (LeG.k (LeG.f (LeG.f (LeG.f (LeG.f (LeG.f (LeG.f (LeG.f (LeG.f LeG.nil)))))))))))))))))
        show (TM.MostI tree6 kept14 (i2 + 1) most17)
        first
        | (rw [hmost17]; exact TM.mi_yes hmo hI1 hxi hsm hin)
        | exact TM.mi_no hmo hI1 hxi hsm (hai.mp (Classical.not_not.mp (by assumption)))
    revert s hI1; intro most40 hI1
    replace hI1 : (TM.MostI tree6 kept14 ((rg 0 ((2 : Int) ^ (((tree6).length : Int)).toNat))).length most40) := hI1
    simp only [rg_len] at hI1
    show Go _ _ _ [.val .m (rScr K) script_, .val .g rInt x1, .vol p4, .val .g (rTup rInt) tree6, .val .g (rTup rInt) row8, .val .g (rList (rPair rInt rInt)) pairs9, .val .g (rTup rInt) kept14, .val .g rInt most40, .no, .no, .no, .no, .no, .no, .no, .no]
    refine q_ifT (ec_or (ec_tstN (ev_neI ((ev_len (es_tup (ev_var (R := (rTup rInt)) (a := kept14) rfl)))) (((ev_var (R := rInt) (a := most40) rfl)).toh))) (fun hb41 => (ec_valB ((ev_any (EvS.fl fl_bool (es_list (ev_new (ℓ := .g) (en_map2d (ℓ' := .g) (fun c42 : (Int × Int) => ((decide (c42.1 ∈ kept14)) && (decide (c42.2 ∈ kept14)))) (by decide) (ei_list (b := false) (hc := (by intro h; exact absurd h (by decide))) (hl := (by intro h; exact absurd h (by decide))) (es_list (ev_var (R := (rList (rPair rInt rInt))) (a := pairs9) rfl))) (by omega) (fun c42 hc43 => (ev_andV ((ev_in (((ev_var (R := rInt) (a := c42.1) rfl)).toh) (EvS.fl fl_int (es_tup (ev_var (R := (rTup rInt)) (a := kept14) rfl))))) (fun hb45 => have hb45p : (c42.1 ∈ kept14) := (by first | (intro z; rw [z] at hb45; cases hb45; done) | simpa using hb45); ((ev_in (((ev_var (R := rInt) (a := c42.2) rfl)).toh) (EvS.fl fl_int (es_tup (ev_var (R := (rTup rInt)) (a := kept14) rfl))))))))))))))))) (fun h48 => ?_) (fun h48 => ?_)
    · refine q_ret (ev_bl) hR (fun r49 hr49 => ?_)
      replace hr49 : r49 = false := hr49
      show r49 = true
      (try rw [hr49])
      exfalso
      first
      | exact (by assumption : ¬ true = true) rfl
      | (have hz := (show ¬ TM.treeOf _ = _ ∨ _ by assumption)
         rcases hz with z | z
         · exact z hma1
         · exact z (TM.keep_all hma3))
      | (have hz := (show ¬ ((_ : List Int).length : Int) = _ ∨ _ by assumption)
         rcases hz with z | z
         · exact z (TM.mi_end hmo hI1 (by rw [hpow, Int.sub_zero, Int.toNat_natCast]))
         · exact (TM.any_ind hpairs9).mp z hmo.ind)
      | (have hz := (show ¬ true = true ∨ ¬ TM.clash _ _ = [] by assumption)
         have hkt := (show TM.treeOf _ = _ ∧ _ by assumption)
         rcases hz with z | z
         · exact z rfl
         · exact z (TM.clash_kin htr hkt.1))
    refine q_forD (j := 11) (σS := Unit) (fun s => [.val .m (rScr K) script_, .val .g rInt x1, .vol p4, .val .g (rTup rInt) tree6, .val .g (rTup rInt) row8, .val .g (rList (rPair rInt rInt)) pairs9, .val .g (rTup rInt) kept14, .val .g rInt most40, .no, .no, .no, .no, .no, .no, .no, .no]) (fun (i : Nat) (s : Unit) => True) () (ei_rg1d (b := true) (ℓ := .g) (ev_int) (by omega)) trivial (LeG.k (LeG.k (LeG.k (LeG.k (LeG.k (LeG.k (LeG.k (LeG.k (LeG.f (LeG.f (LeG.f (LeG.f (LeG.f (LeG.f (LeG.f (LeG.f LeG.nil)))))))))))))))) (fun C3 hc3 i3 x50 s hx50 hI2 => ?_) (fun s hI2 => ?_)
    · have hR := hR.ex hc3
      have hPI := hc3.pi.trans hPI
      have hx50l := at_lt hx50
      have hx50r := rg_at hx50
      rw [rg_len] at hx50l
      refine q_asg (i := 12) (ℓ := .g) (ev_call (vol_law_kin_row (i := 2) rfl hPI (((ev_var (R := (rTup rInt)) (a := tree6) rfl)).toh) (by
            first | omega | assumption | (simp; done) | (constructor <;> omega) | (simp; omega)))) (fun other52 hother52 => ?_)
      replace hother52 : TM.treeOf other52 = tree6 ∧ other52.length = tree6.length := hother52
      refine q_ifT (ec_or (ec_not (ec_valB (((ev_call (call_law_in_order (((ev_var (R := (rTup rInt)) (a := tree6) rfl)).toh) (((ev_var (R := (rTup rInt)) (a := other52) rfl)).toh) (by exact htr) (by exact (show TM.treeOf _ = _ ∧ _ by assumption).1) (by exact (show TM.treeOf _ = _ ∧ _ by assumption).2)))).toh))) (fun hb53 => (ec_tstN (ev_neD (eqr_list (eqr_pair eqr_int eqr_int)) (Nat.le_of_ble_eq_true rfl) (((ev_new (ℓ := .g) (en_callN (nol_pair (nol_fl fl_int) (nol_fl fl_int)) (call_clashing (((ev_var (R := (rTup rInt)) (a := tree6) rfl)).toh) (((ev_seqT (ev_var (R := (rTup rInt)) (a := other52) rfl))).toh) (by omega) (by
            have hkt := (show TM.treeOf _ = _ ∧ _ by assumption)
            omega) exc0 (by
            have hkt := (show TM.treeOf _ = _ ∧ _ by assumption)
            rintro c (⟨_, z⟩ | ⟨_, _, z⟩)
            · rw [htr] at z; cases z
            · exact z hkt.2))))).toh) (((ev_new (ℓ := .g) (en_lstd (ℓ := .g) (R := (rPair rInt rInt)) em_nil))).toh))))) (fun h55 => ?_) (fun h55 => ?_)
      · refine q_ret (ev_bl) hR (fun r56 hr56 => ?_)
        replace hr56 : r56 = false := hr56
        show r56 = true
        (try rw [hr56])
        exfalso
        first
        | exact (by assumption : ¬ true = true) rfl
        | (have hz := (show ¬ TM.treeOf _ = _ ∨ _ by assumption)
           rcases hz with z | z
           · exact z hma1
           · exact z (TM.keep_all hma3))
        | (have hz := (show ¬ ((_ : List Int).length : Int) = _ ∨ _ by assumption)
           rcases hz with z | z
           · exact z (TM.mi_end hmo hI1 (by rw [hpow, Int.sub_zero, Int.toNat_natCast]))
           · exact (TM.any_ind hpairs9).mp z hmo.ind)
        | (have hz := (show ¬ true = true ∨ ¬ TM.clash _ _ = [] by assumption)
           have hkt := (show TM.treeOf _ = _ ∧ _ by assumption)
           rcases hz with z | z
           · exact z rfl
           · exact z (TM.clash_kin htr hkt.1))
      refine q_next (hol_in () ?_ (LeG.k (LeG.k (LeG.k (LeG.k (LeG.k (LeG.k (LeG.k (LeG.k (LeG.f (LeG.f (LeG.f (LeG.f (LeG.f (LeG.f (LeG.f (LeG.f LeG.nil)))))))))))))))))
      show True
      trivial
    show Go _ _ _ [.val .m (rScr K) script_, .val .g rInt x1, .vol p4, .val .g (rTup rInt) tree6, .val .g (rTup rInt) row8, .val .g (rList (rPair rInt rInt)) pairs9, .val .g (rTup rInt) kept14, .val .g rInt most40, .no, .no, .no, .no, .no, .no, .no, .no]
    refine q_next (hol_in () ?_ (LeG.k (LeG.f (LeG.f (LeG.f (LeG.f (LeG.f (LeG.f (LeG.f (LeG.f (LeG.f (LeG.f (LeG.f (LeG.f (LeG.f (LeG.f (LeG.f LeG.nil)))))))))))))))))
    show True
    trivial
  show Go _ _ _ [.val .m (rScr K) script_, .no, .no, .no, .no, .no, .no, .no, .no, .no, .no, .no, .no, .no, .no, .no]
  refine q_ret (ev_bl) hR (fun r57 hr57 => ?_)
  replace hr57 : r57 = true := hr57
  show r57 = true
  (try rw [hr57])
  all_goals (first | rfl | assumption | omega | (simp; done))
abbrev s_law : Stmt := topS 39
theorem sc_law : FnScope ["script", "k", "pool", "tree", "row", "pairs", "kept", "most", "bits", "some", "made", "turn", "other", "place", "a", "b"] ["script"] (defScope s_law) := ⟨rfl, rfl, rfl, by decide +kernel, rfl, by decide +kernel, by decide +kernel⟩
theorem ok_law {P : Program} {w : PySem.World} {K : PySem.W.Frag} {mg : Str → Option Value} {base : Heap} {x_NoTree : Addr} {x_Unlike : Addr} {f : Addr} {fd : FuncData} (F : Fun K "law" "law" s_law f fd) {f_law_pool : Addr} {d_law_pool : FuncData} (c_law_pool : Cal P w K mg base CX0 1 "_law_pool" ["script", "k"] (sp_law_pool K) f_law_pool d_law_pool) {f_law_tree : Addr} {d_law_tree : FuncData} (c_law_tree : Cal P w K mg base CX0 3 "_law_tree" ["pool", "most"] sp_law_tree f_law_tree d_law_tree) {f_law_near_row : Addr} {d_law_near_row : FuncData} (c_law_near_row : Cal P w K mg base CX0 3 "_law_near_row" ["pool", "tree"] sp_law_near_row f_law_near_row d_law_near_row) {f_clashing : Addr} {d_clashing : FuncData} (c_clashing : Cal P w K mg base (L2.CX P w) 6 "clashing" ["tree", "row"] (sp_clashing x_NoTree x_Unlike) f_clashing d_clashing) {f_most_stay : Addr} {d_most_stay : FuncData} (c_most_stay : Cal P w K mg base (L2.CX P w) 45 "most_stay" ["tree", "row"] (sp_most_stay x_NoTree x_Unlike) f_most_stay d_most_stay) {f_law_made : Addr} {d_law_made : FuncData} (c_law_made : Cal P w K mg base CX0 3 "_law_made" ["tree", "row", "kept"] sp_law_made f_law_made d_law_made) {f_law_tree_of : Addr} {d_law_tree_of : FuncData} (c_law_tree_of : Cal P w K mg base CX0 1 "_law_tree_of" ["row"] sp_law_tree_of f_law_tree_of d_law_tree_of) {f_law_kin_row : Addr} {d_law_kin_row : FuncData} (c_law_kin_row : Cal P w K mg base CX0 2 "_law_kin_row" ["pool", "tree"] sp_law_kin_row f_law_kin_row d_law_kin_row) {f_law_in_order : Addr} {d_law_in_order : FuncData} (c_law_in_order : Cal P w K mg base CX0 4 "_law_in_order" ["tree", "row"] sp_law_in_order f_law_in_order d_law_in_order) (m_all : mg "all" = none) (m_any : mg "any" = none) (m_len : mg "len" = none) (m_max : mg "max" = none) (m_min : mg "min" = none) (m_range : mg "range" = none) : FnOk P w K mg base CX0 46 f fd ["script"] (sp_law K) := by
  have sc := sc_law
  refine F.ok sc (fun vs H Q E h => ?_) (fun cdv A outer s H vs Q E hr h => ?_)
  · obtain ⟨a_, ha_, _⟩ := h
    obtain ⟨v1, _, rfl, _ha1, rfl⟩ := ha_
    rfl
  · obtain ⟨⟨script_, _⟩, ⟨v1, _, rfl, ha1, rfl⟩, hp0, hR, hE⟩ := spF_open PIlaw (n := fun _ H' => Q .non H') h
    refine ⟨t_law K E x_NoTree x_Unlike, ?_, go_law (C := (Cn0 PIlaw H)) x_NoTree x_Unlike script_ hp0 hR rfl _ (W0 H []) (world_of (bok0 (PI := PIlaw) H) ⟨⟨by decide, v1, rfl, (rScr K).mono (mw0 (PI := PIlaw) H) ha1⟩, ⟨trivial, ⟨trivial, ⟨trivial, ⟨trivial, ⟨trivial, ⟨trivial, ⟨trivial, ⟨trivial, ⟨trivial, ⟨trivial, ⟨trivial, ⟨trivial, ⟨trivial, ⟨trivial, ⟨trivial, trivial⟩⟩⟩⟩⟩⟩⟩⟩⟩⟩⟩⟩⟩⟩⟩⟩ rfl)⟩
    unfold t_law
    exact (pss_cons (ps_for PassesOwn.never rfl (pi_range1 rfl m_range (pa_cons (pe_callB (call_max2 rfl) (by rfl) m_max (by decide +kernel) (pa_cons pe_int (pa_cons (pe_callB (call_min2 rfl) (by rfl) m_min (by decide +kernel) (pa_cons (pe_callB call_len_seq (by rfl) m_len bt_len (pa_cons (pv 0) pa_nil)) (pa_cons pe_int pa_nil))) pa_nil))) pa_nil)) (pg_name (i := 1) sc.nd rfl (Or.inl rfl))
(pss_cons (ps_set (i := 2) sc.nd rfl (Or.inl rfl) (pe_call c_law_pool.ok (hr.mono (by decide)) (by rfl) c_law_pool.g c_law_pool.kp c_law_pool.b .nil pass0 (pa_cons (pv 0) (pa_cons (pv 1) pa_nil))))
(pss_cons (ps_set (i := 3) sc.nd rfl (Or.inl rfl) (pe_call c_law_tree.ok (hr.mono (by decide)) (by rfl) c_law_tree.g c_law_tree.kp c_law_tree.b .nil pass0 (pa_cons (pv 2) (pa_cons pe_int pa_nil))))
(pss_cons (ps_set (i := 4) sc.nd rfl (Or.inr rfl) (pe_call c_law_near_row.ok (hr.mono (by decide)) (by rfl) c_law_near_row.g c_law_near_row.kp c_law_near_row.b .nil pass0 (pa_cons (pv 2) (pa_cons (pv 3) pa_nil))))
(pss_cons (ps_set (i := 5) sc.nd rfl (Or.inl rfl) (pe_call c_clashing.ok (hr.mono (by decide)) (by rfl) c_clashing.g c_clashing.kp c_clashing.b .nil passL (pa_cons (pv 3) (pa_cons (pv 4) pa_nil))))
(pss_cons (ps_set (i := 6) sc.nd rfl (Or.inr rfl) (pe_ix ix_tup (pe_call c_most_stay.ok (hr.mono (by decide)) (by rfl) c_most_stay.g c_most_stay.kp c_most_stay.b .nil passL (pa_cons (pv 3) (pa_cons (pv 4) pa_nil))) pe_int (fun _ _ => rfl)))
(pss_cons (ps_set (i := 7) sc.nd rfl (Or.inl rfl) pe_int)
(pss_cons (ps_for PassesOwn.never rfl (pi_range1 rfl m_range (pa_cons (pe_op op_oneShl pe_int (pe_callB call_len_seq (by rfl) m_len bt_len (pa_cons (pv 3) pa_nil))) pa_nil)) (pg_name (i := 8) sc.nd rfl (Or.inr rfl))
(pss_cons (ps_set (i := 9) sc.nd rfl (Or.inr rfl) (pe_lc (own := [("place", 13)]) (g := (gName 13)) rfl sc.nd (pi_range1 rfl m_range (pa_cons (pe_callB call_len_seq (by rfl) m_len bt_len (pa_cons (pv 3) pa_nil)) pa_nil)) (blkOk_by (own := [("place", 13)]) (N := ["script", "k", "pool", "tree", "row", "pairs", "kept", "most", "bits", "some", "made", "turn", "other", "place", "a", "b"]) (sc := defScope s_law) (by decide +kernel)) (fun _ _ _ _ _ => pg_name (i := 13) sc.nd rfl (Or.inl rfl)) (fun _ _ _ _ _ => pts_one (pt_cmpR op_eq (pe_op op_andM (pe_op op_shr (pv 8) (pv 13)) pe_int) pe_int (nomark _))) (fun _ _ _ _ _ => (pv 13))))
(pss_cons (ps_if (pt_not (pt_val (pe_callB (cr_any rfl) (by rfl) m_any bt_any (pa_cons (pe_lc (own := [("a", 14), ("b", 15)]) (g := (gTup K 2 (gCons (gName 14) (gCons (gName 15) gNil)))) rfl sc.nd (pi_list (pv 5)) (blkOk_by (own := [("a", 14), ("b", 15)]) (N := ["script", "k", "pool", "tree", "row", "pairs", "kept", "most", "bits", "some", "made", "turn", "other", "place", "a", "b"]) (sc := defScope s_law) (by decide +kernel)) (fun _ _ _ _ _ => pg_tup rfl (pgs_cons (pg_name (i := 14) sc.nd rfl (Or.inl rfl)) (pgs_cons (pg_name (i := 15) sc.nd rfl (Or.inl rfl)) pgs_nil))) (fun _ _ _ _ _ => pts_nil) (fun _ _ _ _ _ => (pe_and (pe_cmpR op_in_seq (pv 14) (pv 9) (by rfl)) (pe_one (pe_cmpR op_in_seq (pv 15) (pv 9) (by rfl)))))) pa_nil)))) (pss_cons (ps_set (i := 7) sc.nd rfl (Or.inl rfl) (pe_callB (call_max2 rfl) (by rfl) m_max (by decide +kernel) (pa_cons (pv 7) (pa_cons (pe_callB call_len_seq (by rfl) m_len bt_len (pa_cons (pv 9) pa_nil)) pa_nil))))
(pss_cons (ps_set (i := 10) sc.nd rfl (Or.inr rfl) (pv 4))
(pss_cut (ps_if (pt_cmpR (op_neD (roomUn hr)) (pv 4) (pe_tup pa_nil) (nomark _)) (pss_cons (ps_set (i := 10) sc.nd rfl (Or.inr rfl) (pe_call c_law_made.ok (hr.mono (by decide)) (by rfl) c_law_made.g c_law_made.kp c_law_made.b .nil pass0 (pa_cons (pv 3) (pa_cons (pv 4) (pa_cons (pv 9) pa_nil)))))
pss_nil) pss_nil)
(pss_cons (ps_if (PW.pt (pw_or (pt_cmpR (op_neD (roomUn hr)) (pe_call c_law_tree_of.ok (hr.mono (by decide)) (by rfl) c_law_tree_of.g c_law_tree_of.kp c_law_tree_of.b .nil pass0 (pa_cons (pv 10) pa_nil)) (pv 3) (nomark _)) (pw_or1 (pt_not (pt_val (pe_callB (cr_all rfl) (by rfl) m_all bt_all (pa_cons (pe_lc (own := [("place", 13)]) (g := (gName 13)) rfl sc.nd (pi_list (pv 9)) (blkOk_by (own := [("place", 13)]) (N := ["script", "k", "pool", "tree", "row", "pairs", "kept", "most", "bits", "some", "made", "turn", "other", "place", "a", "b"]) (sc := defScope s_law) (by decide +kernel)) (fun _ _ _ _ _ => pg_name (i := 13) sc.nd rfl (Or.inl rfl)) (fun _ _ _ _ _ => pts_nil) (fun _ _ _ _ _ => (pe_cmpR op_eq (pe_ix ix_tup (pv 10) (pv 13) (fun _ _ => rfl)) (pe_ix ix_tup (pv 4) (pv 13) (fun _ _ => rfl)) (nomark _)))) pa_nil))))))) (pss_cons (ps_ret pe_bl) pss_nil) pss_nil)
pss_nil)))) pss_nil)
pss_nil)))
(pss_cons (ps_if (PW.pt (pw_or (pt_cmpR op_ne (pe_callB call_len_seq (by rfl) m_len bt_len (pa_cons (pv 6) pa_nil)) (pv 7) (nomark _)) (pw_or1 (pt_val (pe_callB (cr_any rfl) (by rfl) m_any bt_any (pa_cons (pe_lc (own := [("a", 14), ("b", 15)]) (g := (gTup K 2 (gCons (gName 14) (gCons (gName 15) gNil)))) rfl sc.nd (pi_list (pv 5)) (blkOk_by (own := [("a", 14), ("b", 15)]) (N := ["script", "k", "pool", "tree", "row", "pairs", "kept", "most", "bits", "some", "made", "turn", "other", "place", "a", "b"]) (sc := defScope s_law) (by decide +kernel)) (fun _ _ _ _ _ => pg_tup rfl (pgs_cons (pg_name (i := 14) sc.nd rfl (Or.inl rfl)) (pgs_cons (pg_name (i := 15) sc.nd rfl (Or.inl rfl)) pgs_nil))) (fun _ _ _ _ _ => pts_nil) (fun _ _ _ _ _ => (pe_and (pe_cmpR op_in_seq (pv 14) (pv 6) (by rfl)) (pe_one (pe_cmpR op_in_seq (pv 15) (pv 6) (by rfl)))))) pa_nil)))))) (pss_cons (ps_ret pe_bl) pss_nil) pss_nil)
(pss_cons (ps_for PassesOwn.never rfl (pi_range1 rfl m_range (pa_cons pe_int pa_nil)) (pg_name (i := 11) sc.nd rfl (Or.inl rfl))
(pss_cons (ps_set (i := 12) sc.nd rfl (Or.inl rfl) (pe_call c_law_kin_row.ok (hr.mono (by decide)) (by rfl) c_law_kin_row.g c_law_kin_row.kp c_law_kin_row.b .nil pass0 (pa_cons (pv 2) (pa_cons (pv 3) pa_nil))))
(pss_cons (ps_if (PW.pt (pw_or (pt_not (pt_val (pe_call c_law_in_order.ok (hr.mono (by decide)) (by rfl) c_law_in_order.g c_law_in_order.kp c_law_in_order.b .nil pass0 (pa_cons (pv 3) (pa_cons (pv 12) pa_nil))))) (pw_or1 (pt_cmpR (op_neD (roomUn hr)) (pe_call c_clashing.ok (hr.mono (by decide)) (by rfl) c_clashing.g c_clashing.kp c_clashing.b .nil passL (pa_cons (pv 3) (pa_cons (pv 12) pa_nil))) (pe_lst pa_nil) (nomark _))))) (pss_cons (ps_ret pe_bl) pss_nil) pss_nil)
pss_nil)))
pss_nil))))))))))
(pss_cons (ps_ret pe_bl) pss_nil))
theorem all_mk {l : PySem.W.OpenLaw} {w : PySem.World} {K : PySem.W.Frag} {h : Heap} {mg : Str → Option Value} {fa : Addr} (X : K.In h) (G : h.Ns mainGlobals mg) (hfa : mg "law" = some (.ref fa))
    {f0 : Addr} {od0 an0 : Option Addr} {sl0 : Array (Option Value)} {oc0 kV0 dc0 pm0 cd0 ct0 : Value}
    (a0 : PySem.W.nsIn K mainGlobals "_law_pool" = some (some (.ref f0))) (l0 : K.lookup f0 = some ⟨oc0, od0, .func (PySem.W.fnOf "_law_pool" "_law_pool" (defArgs s_law_pool) (defBody s_law_pool) (defScope s_law_pool) .none kV0 dc0 pm0 an0 cd0 ct0), sl0⟩) (c0 : PySem.W.codeIn K cd0 "_law_pool" = true) (k0 : PySem.W.keepIn K (.ref f0) = true)
    {f1 : Addr} {od1 an1 : Option Addr} {sl1 : Array (Option Value)} {oc1 kV1 dc1 pm1 cd1 ct1 : Value}
    (a1 : PySem.W.nsIn K mainGlobals "_law_hung" = some (some (.ref f1))) (l1 : K.lookup f1 = some ⟨oc1, od1, .func (PySem.W.fnOf "_law_hung" "_law_hung" (defArgs s_law_hung) (defBody s_law_hung) (defScope s_law_hung) .none kV1 dc1 pm1 an1 cd1 ct1), sl1⟩) (c1 : PySem.W.codeIn K cd1 "_law_hung" = true) (k1 : PySem.W.keepIn K (.ref f1) = true)
    {f2 : Addr} {od2 an2 : Option Addr} {sl2 : Array (Option Value)} {oc2 kV2 dc2 pm2 cd2 ct2 : Value}
    (a2 : PySem.W.nsIn K mainGlobals "_law_pick" = some (some (.ref f2))) (l2 : K.lookup f2 = some ⟨oc2, od2, .func (PySem.W.fnOf "_law_pick" "_law_pick" (defArgs s_law_pick) (defBody s_law_pick) (defScope s_law_pick) .none kV2 dc2 pm2 an2 cd2 ct2), sl2⟩) (c2 : PySem.W.codeIn K cd2 "_law_pick" = true) (k2 : PySem.W.keepIn K (.ref f2) = true)
    {f3 : Addr} {od3 an3 : Option Addr} {sl3 : Array (Option Value)} {oc3 kV3 dc3 pm3 cd3 ct3 : Value}
    (a3 : PySem.W.nsIn K mainGlobals "_law_drops" = some (some (.ref f3))) (l3 : K.lookup f3 = some ⟨oc3, od3, .func (PySem.W.fnOf "_law_drops" "_law_drops" (defArgs s_law_drops) (defBody s_law_drops) (defScope s_law_drops) .none kV3 dc3 pm3 an3 cd3 ct3), sl3⟩) (c3 : PySem.W.codeIn K cd3 "_law_drops" = true) (k3 : PySem.W.keepIn K (.ref f3) = true)
    {f4 : Addr} {od4 an4 : Option Addr} {sl4 : Array (Option Value)} {oc4 kV4 dc4 pm4 cd4 ct4 : Value}
    (a4 : PySem.W.nsIn K mainGlobals "_law_size" = some (some (.ref f4))) (l4 : K.lookup f4 = some ⟨oc4, od4, .func (PySem.W.fnOf "_law_size" "_law_size" (defArgs s_law_size) (defBody s_law_size) (defScope s_law_size) .none kV4 dc4 pm4 an4 cd4 ct4), sl4⟩) (c4 : PySem.W.codeIn K cd4 "_law_size" = true) (k4 : PySem.W.keepIn K (.ref f4) = true)
    {f5 : Addr} {od5 an5 : Option Addr} {sl5 : Array (Option Value)} {oc5 kV5 dc5 pm5 cd5 ct5 : Value}
    (a5 : PySem.W.nsIn K mainGlobals "_law_tree" = some (some (.ref f5))) (l5 : K.lookup f5 = some ⟨oc5, od5, .func (PySem.W.fnOf "_law_tree" "_law_tree" (defArgs s_law_tree) (defBody s_law_tree) (defScope s_law_tree) .none kV5 dc5 pm5 an5 cd5 ct5), sl5⟩) (c5 : PySem.W.codeIn K cd5 "_law_tree" = true) (k5 : PySem.W.keepIn K (.ref f5) = true)
    {f6 : Addr} {od6 an6 : Option Addr} {sl6 : Array (Option Value)} {oc6 kV6 dc6 pm6 cd6 ct6 : Value}
    (a6 : PySem.W.nsIn K mainGlobals "_law_over" = some (some (.ref f6))) (l6 : K.lookup f6 = some ⟨oc6, od6, .func (PySem.W.fnOf "_law_over" "_law_over" (defArgs s_law_over) (defBody s_law_over) (defScope s_law_over) .none kV6 dc6 pm6 an6 cd6 ct6), sl6⟩) (c6 : PySem.W.codeIn K cd6 "_law_over" = true) (k6 : PySem.W.keepIn K (.ref f6) = true)
    {f7 : Addr} {od7 an7 : Option Addr} {sl7 : Array (Option Value)} {oc7 kV7 dc7 pm7 cd7 ct7 : Value}
    (a7 : PySem.W.nsIn K mainGlobals "_law_kin_row" = some (some (.ref f7))) (l7 : K.lookup f7 = some ⟨oc7, od7, .func (PySem.W.fnOf "_law_kin_row" "_law_kin_row" (defArgs s_law_kin_row) (defBody s_law_kin_row) (defScope s_law_kin_row) .none kV7 dc7 pm7 an7 cd7 ct7), sl7⟩) (c7 : PySem.W.codeIn K cd7 "_law_kin_row" = true) (k7 : PySem.W.keepIn K (.ref f7) = true)
    {f8 : Addr} {od8 an8 : Option Addr} {sl8 : Array (Option Value)} {oc8 kV8 dc8 pm8 cd8 ct8 : Value}
    (a8 : PySem.W.nsIn K mainGlobals "_law_near_row" = some (some (.ref f8))) (l8 : K.lookup f8 = some ⟨oc8, od8, .func (PySem.W.fnOf "_law_near_row" "_law_near_row" (defArgs s_law_near_row) (defBody s_law_near_row) (defScope s_law_near_row) .none kV8 dc8 pm8 an8 cd8 ct8), sl8⟩) (c8 : PySem.W.codeIn K cd8 "_law_near_row" = true) (k8 : PySem.W.keepIn K (.ref f8) = true)
    {f9 : Addr} {od9 an9 : Option Addr} {sl9 : Array (Option Value)} {oc9 kV9 dc9 pm9 cd9 ct9 : Value}
    (a9 : PySem.W.nsIn K mainGlobals "way_up" = some (some (.ref f9))) (l9 : K.lookup f9 = some ⟨oc9, od9, .func (PySem.W.fnOf "way_up" "way_up" (defArgs s_way_up) (defBody s_way_up) (defScope s_way_up) .none kV9 dc9 pm9 an9 cd9 ct9), sl9⟩) (c9 : PySem.W.codeIn K cd9 "way_up" = true) (k9 : PySem.W.keepIn K (.ref f9) = true)
    {f10 : Addr} {od10 an10 : Option Addr} {sl10 : Array (Option Value)} {oc10 kV10 dc10 pm10 cd10 ct10 : Value}
    (a10 : PySem.W.nsIn K mainGlobals "flat_numbers" = some (some (.ref f10))) (l10 : K.lookup f10 = some ⟨oc10, od10, .func (PySem.W.fnOf "flat_numbers" "flat_numbers" (defArgs s_flat_numbers) (defBody s_flat_numbers) (defScope s_flat_numbers) .none kV10 dc10 pm10 an10 cd10 ct10), sl10⟩) (c10 : PySem.W.codeIn K cd10 "flat_numbers" = true) (k10 : PySem.W.keepIn K (.ref f10) = true)
    {f11 : Addr} {od11 an11 : Option Addr} {sl11 : Array (Option Value)} {oc11 kV11 dc11 pm11 cd11 ct11 : Value}
    (a11 : PySem.W.nsIn K mainGlobals "tree_of" = some (some (.ref f11))) (l11 : K.lookup f11 = some ⟨oc11, od11, .func (PySem.W.fnOf "tree_of" "tree_of" (defArgs s_tree_of) (defBody s_tree_of) (defScope s_tree_of) .none kV11 dc11 pm11 an11 cd11 ct11), sl11⟩) (c11 : PySem.W.codeIn K cd11 "tree_of" = true) (k11 : PySem.W.keepIn K (.ref f11) = true)
    {f12 : Addr} {od12 an12 : Option Addr} {sl12 : Array (Option Value)} {oc12 kV12 dc12 pm12 cd12 ct12 : Value}
    (a12 : PySem.W.nsIn K mainGlobals "is_tree" = some (some (.ref f12))) (l12 : K.lookup f12 = some ⟨oc12, od12, .func (PySem.W.fnOf "is_tree" "is_tree" (defArgs s_is_tree) (defBody s_is_tree) (defScope s_is_tree) .none kV12 dc12 pm12 an12 cd12 ct12), sl12⟩) (c12 : PySem.W.codeIn K cd12 "is_tree" = true) (k12 : PySem.W.keepIn K (.ref f12) = true)
    {f13 : Addr} {od13 an13 : Option Addr} {sl13 : Array (Option Value)} {oc13 kV13 dc13 pm13 cd13 ct13 : Value}
    (a13 : PySem.W.nsIn K mainGlobals "look_at_tree" = some (some (.ref f13))) (l13 : K.lookup f13 = some ⟨oc13, od13, .func (PySem.W.fnOf "look_at_tree" "look_at_tree" (defArgs s_look_at_tree) (defBody s_look_at_tree) (defScope s_look_at_tree) .none kV13 dc13 pm13 an13 cd13 ct13), sl13⟩) (c13 : PySem.W.codeIn K cd13 "look_at_tree" = true) (k13 : PySem.W.keepIn K (.ref f13) = true)
    {f14 : Addr} {od14 an14 : Option Addr} {sl14 : Array (Option Value)} {oc14 kV14 dc14 pm14 cd14 ct14 : Value}
    (a14 : PySem.W.nsIn K mainGlobals "look_at_both" = some (some (.ref f14))) (l14 : K.lookup f14 = some ⟨oc14, od14, .func (PySem.W.fnOf "look_at_both" "look_at_both" (defArgs s_look_at_both) (defBody s_look_at_both) (defScope s_look_at_both) .none kV14 dc14 pm14 an14 cd14 ct14), sl14⟩) (c14 : PySem.W.codeIn K cd14 "look_at_both" = true) (k14 : PySem.W.keepIn K (.ref f14) = true)
    {f15 : Addr} {od15 an15 : Option Addr} {sl15 : Array (Option Value)} {oc15 kV15 dc15 pm15 cd15 ct15 : Value}
    (a15 : PySem.W.nsIn K mainGlobals "flattest" = some (some (.ref f15))) (l15 : K.lookup f15 = some ⟨oc15, od15, .func (PySem.W.fnOf "flattest" "flattest" (defArgs s_flattest) (defBody s_flattest) (defScope s_flattest) .none kV15 dc15 pm15 an15 cd15 ct15), sl15⟩) (c15 : PySem.W.codeIn K cd15 "flattest" = true) (k15 : PySem.W.keepIn K (.ref f15) = true)
    {f16 : Addr} {od16 an16 : Option Addr} {sl16 : Array (Option Value)} {oc16 kV16 dc16 pm16 cd16 ct16 : Value}
    (a16 : PySem.W.nsIn K mainGlobals "clashing" = some (some (.ref f16))) (l16 : K.lookup f16 = some ⟨oc16, od16, .func (PySem.W.fnOf "clashing" "clashing" (defArgs s_clashing) (defBody s_clashing) (defScope s_clashing) .none kV16 dc16 pm16 an16 cd16 ct16), sl16⟩) (c16 : PySem.W.codeIn K cd16 "clashing" = true) (k16 : PySem.W.keepIn K (.ref f16) = true)
    {f17 : Addr} {od17 an17 : Option Addr} {sl17 : Array (Option Value)} {oc17 kV17 dc17 pm17 cd17 ct17 : Value}
    (a17 : PySem.W.nsIn K mainGlobals "paired_anew" = some (some (.ref f17))) (l17 : K.lookup f17 = some ⟨oc17, od17, .func (PySem.W.fnOf "paired_anew" "paired_anew" (defArgs s_paired_anew) (defBody s_paired_anew) (defScope s_paired_anew) .none kV17 dc17 pm17 an17 cd17 ct17), sl17⟩) (c17 : PySem.W.codeIn K cd17 "paired_anew" = true) (k17 : PySem.W.keepIn K (.ref f17) = true)
    {f18 : Addr} {od18 an18 : Option Addr} {sl18 : Array (Option Value)} {oc18 kV18 dc18 pm18 cd18 ct18 : Value}
    (a18 : PySem.W.nsIn K mainGlobals "uppers_of" = some (some (.ref f18))) (l18 : K.lookup f18 = some ⟨oc18, od18, .func (PySem.W.fnOf "uppers_of" "uppers_of" (defArgs s_uppers_of) (defBody s_uppers_of) (defScope s_uppers_of) .none kV18 dc18 pm18 an18 cd18 ct18), sl18⟩) (c18 : PySem.W.codeIn K cd18 "uppers_of" = true) (k18 : PySem.W.keepIn K (.ref f18) = true)
    {f19 : Addr} {od19 an19 : Option Addr} {sl19 : Array (Option Value)} {oc19 kV19 dc19 pm19 cd19 ct19 : Value}
    (a19 : PySem.W.nsIn K mainGlobals "unpaired_by" = some (some (.ref f19))) (l19 : K.lookup f19 = some ⟨oc19, od19, .func (PySem.W.fnOf "unpaired_by" "unpaired_by" (defArgs s_unpaired_by) (defBody s_unpaired_by) (defScope s_unpaired_by) .none kV19 dc19 pm19 an19 cd19 ct19), sl19⟩) (c19 : PySem.W.codeIn K cd19 "unpaired_by" = true) (k19 : PySem.W.keepIn K (.ref f19) = true)
    {f20 : Addr} {od20 an20 : Option Addr} {sl20 : Array (Option Value)} {oc20 kV20 dc20 pm20 cd20 ct20 : Value}
    (a20 : PySem.W.nsIn K mainGlobals "with_elders" = some (some (.ref f20))) (l20 : K.lookup f20 = some ⟨oc20, od20, .func (PySem.W.fnOf "with_elders" "with_elders" (defArgs s_with_elders) (defBody s_with_elders) (defScope s_with_elders) .none kV20 dc20 pm20 an20 cd20 ct20), sl20⟩) (c20 : PySem.W.codeIn K cd20 "with_elders" = true) (k20 : PySem.W.keepIn K (.ref f20) = true)
    {f21 : Addr} {od21 an21 : Option Addr} {sl21 : Array (Option Value)} {oc21 kV21 dc21 pm21 cd21 ct21 : Value}
    (a21 : PySem.W.nsIn K mainGlobals "row_with" = some (some (.ref f21))) (l21 : K.lookup f21 = some ⟨oc21, od21, .func (PySem.W.fnOf "row_with" "row_with" (defArgs s_row_with) (defBody s_row_with) (defScope s_row_with) .none kV21 dc21 pm21 an21 cd21 ct21), sl21⟩) (c21 : PySem.W.codeIn K cd21 "row_with" = true) (k21 : PySem.W.keepIn K (.ref f21) = true)
    {f22 : Addr} {od22 an22 : Option Addr} {sl22 : Array (Option Value)} {oc22 kV22 dc22 pm22 cd22 ct22 : Value}
    (a22 : PySem.W.nsIn K mainGlobals "chains_by" = some (some (.ref f22))) (l22 : K.lookup f22 = some ⟨oc22, od22, .func (PySem.W.fnOf "chains_by" "chains_by" (defArgs s_chains_by) (defBody s_chains_by) (defScope s_chains_by) .none kV22 dc22 pm22 an22 cd22 ct22), sl22⟩) (c22 : PySem.W.codeIn K cd22 "chains_by" = true) (k22 : PySem.W.keepIn K (.ref f22) = true)
    {f23 : Addr} {od23 an23 : Option Addr} {sl23 : Array (Option Value)} {oc23 kV23 dc23 pm23 cd23 ct23 : Value}
    (a23 : PySem.W.nsIn K mainGlobals "most_stay" = some (some (.ref f23))) (l23 : K.lookup f23 = some ⟨oc23, od23, .func (PySem.W.fnOf "most_stay" "most_stay" (defArgs s_most_stay) (defBody s_most_stay) (defScope s_most_stay) .none kV23 dc23 pm23 an23 cd23 ct23), sl23⟩) (c23 : PySem.W.codeIn K cd23 "most_stay" = true) (k23 : PySem.W.keepIn K (.ref f23) = true)
    {f24 : Addr} {od24 an24 : Option Addr} {sl24 : Array (Option Value)} {oc24 kV24 dc24 pm24 cd24 ct24 : Value}
    (a24 : PySem.W.nsIn K mainGlobals "_law_flats" = some (some (.ref f24))) (l24 : K.lookup f24 = some ⟨oc24, od24, .func (PySem.W.fnOf "_law_flats" "_law_flats" (defArgs s_law_flats) (defBody s_law_flats) (defScope s_law_flats) .none kV24 dc24 pm24 an24 cd24 ct24), sl24⟩) (c24 : PySem.W.codeIn K cd24 "_law_flats" = true) (k24 : PySem.W.keepIn K (.ref f24) = true)
    {f25 : Addr} {od25 an25 : Option Addr} {sl25 : Array (Option Value)} {oc25 kV25 dc25 pm25 cd25 ct25 : Value}
    (a25 : PySem.W.nsIn K mainGlobals "_law_made" = some (some (.ref f25))) (l25 : K.lookup f25 = some ⟨oc25, od25, .func (PySem.W.fnOf "_law_made" "_law_made" (defArgs s_law_made) (defBody s_law_made) (defScope s_law_made) .none kV25 dc25 pm25 an25 cd25 ct25), sl25⟩) (c25 : PySem.W.codeIn K cd25 "_law_made" = true) (k25 : PySem.W.keepIn K (.ref f25) = true)
    {f26 : Addr} {od26 an26 : Option Addr} {sl26 : Array (Option Value)} {oc26 kV26 dc26 pm26 cd26 ct26 : Value}
    (a26 : PySem.W.nsIn K mainGlobals "_law_tree_of" = some (some (.ref f26))) (l26 : K.lookup f26 = some ⟨oc26, od26, .func (PySem.W.fnOf "_law_tree_of" "_law_tree_of" (defArgs s_law_tree_of) (defBody s_law_tree_of) (defScope s_law_tree_of) .none kV26 dc26 pm26 an26 cd26 ct26), sl26⟩) (c26 : PySem.W.codeIn K cd26 "_law_tree_of" = true) (k26 : PySem.W.keepIn K (.ref f26) = true)
    {f27 : Addr} {od27 an27 : Option Addr} {sl27 : Array (Option Value)} {oc27 kV27 dc27 pm27 cd27 ct27 : Value}
    (a27 : PySem.W.nsIn K mainGlobals "_law_clashes" = some (some (.ref f27))) (l27 : K.lookup f27 = some ⟨oc27, od27, .func (PySem.W.fnOf "_law_clashes" "_law_clashes" (defArgs s_law_clashes) (defBody s_law_clashes) (defScope s_law_clashes) .none kV27 dc27 pm27 an27 cd27 ct27), sl27⟩) (c27 : PySem.W.codeIn K cd27 "_law_clashes" = true) (k27 : PySem.W.keepIn K (.ref f27) = true)
    {f28 : Addr} {od28 an28 : Option Addr} {sl28 : Array (Option Value)} {oc28 kV28 dc28 pm28 cd28 ct28 : Value}
    (a28 : PySem.W.nsIn K mainGlobals "_law_in_order" = some (some (.ref f28))) (l28 : K.lookup f28 = some ⟨oc28, od28, .func (PySem.W.fnOf "_law_in_order" "_law_in_order" (defArgs s_law_in_order) (defBody s_law_in_order) (defScope s_law_in_order) .none kV28 dc28 pm28 an28 cd28 ct28), sl28⟩) (c28 : PySem.W.codeIn K cd28 "_law_in_order" = true) (k28 : PySem.W.keepIn K (.ref f28) = true)
    {f29 : Addr} {od29 an29 : Option Addr} {sl29 : Array (Option Value)} {oc29 kV29 dc29 pm29 cd29 ct29 : Value}
    (a29 : PySem.W.nsIn K mainGlobals "law" = some (some (.ref f29))) (l29 : K.lookup f29 = some ⟨oc29, od29, .func (PySem.W.fnOf "law" "law" (defArgs s_law) (defBody s_law) (defScope s_law) .none kV29 dc29 pm29 an29 cd29 ct29), sl29⟩) (c29 : PySem.W.codeIn K cd29 "law" = true) (k29 : PySem.W.keepIn K (.ref f29) = true)
    (z_all : PySem.W.nsIn K mainGlobals "all" = some none)
    (z_any : PySem.W.nsIn K mainGlobals "any" = some none)
    (z_enumerate : PySem.W.nsIn K mainGlobals "enumerate" = some none)
    (z_int : PySem.W.nsIn K mainGlobals "int" = some none)
    (z_len : PySem.W.nsIn K mainGlobals "len" = some none)
    (z_list : PySem.W.nsIn K mainGlobals "list" = some none)
    (z_max : PySem.W.nsIn K mainGlobals "max" = some none)
    (z_min : PySem.W.nsIn K mainGlobals "min" = some none)
    (z_range : PySem.W.nsIn K mainGlobals "range" = some none)
    (z_sorted : PySem.W.nsIn K mainGlobals "sorted" = some none)
    (z_tuple : PySem.W.nsIn K mainGlobals "tuple" = some none)
    {u_MOST_PLACES : Tok} (q_MOST_PLACES : PySem.W.nsIn K mainGlobals "MOST_PLACES" = some (some (.int 40 u_MOST_PLACES)))
    {x_NoTree : Addr} (eg_NoTree : PySem.W.nsIn K mainGlobals "NoTree" = some (some (.ref x_NoTree))) (ex_NoTree : PySem.W.excIn K x_NoTree veB "ValueError.__new__" = true) (ek_NoTree : PySem.W.keepIn K (.ref x_NoTree) = true) (eb_NoTree : PySem.W.subIn K (.ref x_NoTree) (.type "BaseException") = some true) (et_NoTree : PySem.W.typeIn K (.ref x_NoTree) = some (.type "type"))
    {x_Unlike : Addr} (eg_Unlike : PySem.W.nsIn K mainGlobals "Unlike" = some (some (.ref x_Unlike))) (ex_Unlike : PySem.W.excIn K x_Unlike veB "ValueError.__new__" = true) (ek_Unlike : PySem.W.keepIn K (.ref x_Unlike) = true) (eb_Unlike : PySem.W.subIn K (.ref x_Unlike) (.type "BaseException") = some true) (et_Unlike : PySem.W.typeIn K (.ref x_Unlike) = some (.type "type")) :
    ∃ fd : FuncData, (∀ (s : Shared) (v : Value), BindsTo s fd ⟨[v], []⟩ [("script", v)]) ∧ ∀ base : Heap, K.In base → base.Ns mainGlobals mg → FnOk l.prog w K mg base CX0 46 fa fd ["script"] (sp_law K) := by
  have e := hfa.symm.trans (PySem.W.mg_of X G a29)
  cases e
  have F0 := fun_mk (st := s_law_pool) l0 c0 k0
  have b0 := F0.binds (ps := ["script", "k"]) fun _ _ _ _ _ _ us hl => match us, hl with | [_, _], _ => rfl
  have F1 := fun_mk (st := s_law_hung) l1 c1 k1
  have b1 := F1.binds (ps := ["drops"]) fun _ _ _ _ _ _ us hl => match us, hl with | [_], _ => rfl
  have F2 := fun_mk (st := s_law_pick) l2 c2 k2
  have b2 := F2.binds (ps := ["pool", "many"]) fun _ _ _ _ _ _ us hl => match us, hl with | [_, _], _ => rfl
  have F3 := fun_mk (st := s_law_drops) l3 c3 k3
  have b3 := F3.binds (ps := ["pool", "many"]) fun _ _ _ _ _ _ us hl => match us, hl with | [_, _], _ => rfl
  have F4 := fun_mk (st := s_law_size) l4 c4 k4
  have b4 := F4.binds (ps := ["pool", "most"]) fun _ _ _ _ _ _ us hl => match us, hl with | [_, _], _ => rfl
  have F5 := fun_mk (st := s_law_tree) l5 c5 k5
  have b5 := F5.binds (ps := ["pool", "most"]) fun _ _ _ _ _ _ us hl => match us, hl with | [_, _], _ => rfl
  have F6 := fun_mk (st := s_law_over) l6 c6 k6
  have b6 := F6.binds (ps := ["tree", "place"]) fun _ _ _ _ _ _ us hl => match us, hl with | [_, _], _ => rfl
  have F7 := fun_mk (st := s_law_kin_row) l7 c7 k7
  have b7 := F7.binds (ps := ["pool", "tree"]) fun _ _ _ _ _ _ us hl => match us, hl with | [_, _], _ => rfl
  have F8 := fun_mk (st := s_law_near_row) l8 c8 k8
  have b8 := F8.binds (ps := ["pool", "tree"]) fun _ _ _ _ _ _ us hl => match us, hl with | [_, _], _ => rfl
  have F9 := fun_mk (st := s_way_up) l9 c9 k9
  have b9 := F9.binds (ps := ["tree", "place"]) fun _ _ _ _ _ _ us hl => match us, hl with | [_, _], _ => rfl
  have F10 := fun_mk (st := s_flat_numbers) l10 c10 k10
  have b10 := F10.binds (ps := ["tree"]) fun _ _ _ _ _ _ us hl => match us, hl with | [_], _ => rfl
  have F11 := fun_mk (st := s_tree_of) l11 c11 k11
  have b11 := F11.binds (ps := ["row"]) fun _ _ _ _ _ _ us hl => match us, hl with | [_], _ => rfl
  have F12 := fun_mk (st := s_is_tree) l12 c12 k12
  have b12 := F12.binds (ps := ["tree"]) fun _ _ _ _ _ _ us hl => match us, hl with | [_], _ => rfl
  have F13 := fun_mk (st := s_look_at_tree) l13 c13 k13
  have b13 := F13.binds (ps := ["tree"]) fun _ _ _ _ _ _ us hl => match us, hl with | [_], _ => rfl
  have F14 := fun_mk (st := s_look_at_both) l14 c14 k14
  have b14 := F14.binds (ps := ["tree", "row"]) fun _ _ _ _ _ _ us hl => match us, hl with | [_, _], _ => rfl
  have F15 := fun_mk (st := s_flattest) l15 c15 k15
  have b15 := F15.binds (ps := ["tree"]) fun _ _ _ _ _ _ us hl => match us, hl with | [_], _ => rfl
  have F16 := fun_mk (st := s_clashing) l16 c16 k16
  have b16 := F16.binds (ps := ["tree", "row"]) fun _ _ _ _ _ _ us hl => match us, hl with | [_, _], _ => rfl
  have F17 := fun_mk (st := s_paired_anew) l17 c17 k17
  have b17 := F17.binds (ps := ["beneath", "uppers", "a", "seen"]) fun _ _ _ _ _ _ us hl => match us, hl with | [_, _, _, _], _ => rfl
  have F18 := fun_mk (st := s_uppers_of) l18 c18 k18
  have b18 := F18.binds (ps := ["beneath"]) fun _ _ _ _ _ _ us hl => match us, hl with | [_], _ => rfl
  have F19 := fun_mk (st := s_unpaired_by) l19 c19 k19
  have b19 := F19.binds (ps := ["beneath", "uppers"]) fun _ _ _ _ _ _ us hl => match us, hl with | [_, _], _ => rfl
  have F20 := fun_mk (st := s_with_elders) l20 c20 k20
  have b20 := F20.binds (ps := ["tree", "place"]) fun _ _ _ _ _ _ us hl => match us, hl with | [_, _], _ => rfl
  have F21 := fun_mk (st := s_row_with) l21 c21 k21
  have b21 := F21.binds (ps := ["tree", "row", "kept"]) fun _ _ _ _ _ _ us hl => match us, hl with | [_, _, _], _ => rfl
  have F22 := fun_mk (st := s_chains_by) l22 c22 k22
  have b22 := F22.binds (ps := ["uppers"]) fun _ _ _ _ _ _ us hl => match us, hl with | [_], _ => rfl
  have F23 := fun_mk (st := s_most_stay) l23 c23 k23
  have b23 := F23.binds (ps := ["tree", "row"]) fun _ _ _ _ _ _ us hl => match us, hl with | [_, _], _ => rfl
  have F24 := fun_mk (st := s_law_flats) l24 c24 k24
  have b24 := F24.binds (ps := ["tree"]) fun _ _ _ _ _ _ us hl => match us, hl with | [_], _ => rfl
  have F25 := fun_mk (st := s_law_made) l25 c25 k25
  have b25 := F25.binds (ps := ["tree", "row", "kept"]) fun _ _ _ _ _ _ us hl => match us, hl with | [_, _, _], _ => rfl
  have F26 := fun_mk (st := s_law_tree_of) l26 c26 k26
  have b26 := F26.binds (ps := ["row"]) fun _ _ _ _ _ _ us hl => match us, hl with | [_], _ => rfl
  have F27 := fun_mk (st := s_law_clashes) l27 c27 k27
  have b27 := F27.binds (ps := ["tree", "row"]) fun _ _ _ _ _ _ us hl => match us, hl with | [_, _], _ => rfl
  have F28 := fun_mk (st := s_law_in_order) l28 c28 k28
  have b28 := F28.binds (ps := ["tree", "row"]) fun _ _ _ _ _ _ us hl => match us, hl with | [_, _], _ => rfl
  have F29 := fun_mk (st := s_law) l29 c29 k29
  refine ⟨PySem.W.fnOf "law" "law" (defArgs s_law) (defBody s_law) (defScope s_law) .none kV29 dc29 pm29 an29 cd29 ct29, fun s v => .of_eq rfl, fun base _ _ => ?_⟩
  have C0 : Cal l.prog w K mg base CX0 1 "_law_pool" ["script", "k"] (sp_law_pool K) f0 _ := ⟨ok_law_pool F0 (PySem.W.mg_none_of X G z_len) (PySem.W.mg_none_of X G z_max), k0, b0, PySem.W.mg_of X G a0⟩
  have C1 : Cal l.prog w K mg base CX0 1 "_law_hung" ["drops"] sp_law_hung f1 _ := ⟨ok_law_hung F1 (PySem.W.mg_none_of X G z_enumerate) (PySem.W.mg_none_of X G z_int) (PySem.W.mg_none_of X G z_len) (PySem.W.mg_none_of X G z_range) (PySem.W.mg_none_of X G z_tuple), k1, b1, PySem.W.mg_of X G a1⟩
  have C2 : Cal l.prog w K mg base CX0 1 "_law_pick" ["pool", "many"] sp_law_pick f2 _ := ⟨ok_law_pick F2, k2, b2, PySem.W.mg_of X G a2⟩
  have C3 : Cal l.prog w K mg base CX0 2 "_law_drops" ["pool", "many"] sp_law_drops f3 _ := ⟨ok_law_drops F3 (C2) (PySem.W.mg_none_of X G z_min) (PySem.W.mg_none_of X G z_range) (PySem.W.mg_none_of X G z_tuple), k3, b3, PySem.W.mg_of X G a3⟩
  have C4 : Cal l.prog w K mg base CX0 2 "_law_size" ["pool", "most"] sp_law_size f4 _ := ⟨ok_law_size F4 (C2) (PySem.W.mg_none_of X G z_min), k4, b4, PySem.W.mg_of X G a4⟩
  have C5 : Cal l.prog w K mg base CX0 3 "_law_tree" ["pool", "most"] sp_law_tree f5 _ := ⟨ok_law_tree F5 (C4) (C3) (C1), k5, b5, PySem.W.mg_of X G a5⟩
  have C6 : Cal l.prog w K mg base CX0 1 "_law_over" ["tree", "place"] sp_law_over f6 _ := ⟨ok_law_over F6 (PySem.W.mg_none_of X G z_len), k6, b6, PySem.W.mg_of X G a6⟩
  have C7 : Cal l.prog w K mg base CX0 2 "_law_kin_row" ["pool", "tree"] sp_law_kin_row f7 _ := ⟨ok_law_kin_row F7 (C2) (C6) (PySem.W.mg_none_of X G z_int) (PySem.W.mg_none_of X G z_len) (PySem.W.mg_none_of X G z_range) (PySem.W.mg_none_of X G z_sorted) (PySem.W.mg_none_of X G z_tuple), k7, b7, PySem.W.mg_of X G a7⟩
  have C8 : Cal l.prog w K mg base CX0 3 "_law_near_row" ["pool", "tree"] sp_law_near_row f8 _ := ⟨ok_law_near_row F8 (C7) (C2) (PySem.W.mg_none_of X G z_len) (PySem.W.mg_none_of X G z_list) (PySem.W.mg_none_of X G z_range) (PySem.W.mg_none_of X G z_tuple), k8, b8, PySem.W.mg_of X G a8⟩
  have C9 : Cal l.prog w K mg base CX0 1 "way_up" ["tree", "place"] sp_way_up f9 _ := ⟨ok_way_up F9 (PySem.W.mg_none_of X G z_len), k9, b9, PySem.W.mg_of X G a9⟩
  have C10 : Cal l.prog w K mg base CX0 2 "flat_numbers" ["tree"] sp_flat_numbers f10 _ := ⟨ok_flat_numbers F10 (C9) (PySem.W.mg_none_of X G z_len) (PySem.W.mg_none_of X G z_range), k10, b10, PySem.W.mg_of X G a10⟩
  have C11 : Cal l.prog w K mg base CX0 1 "tree_of" ["row"] sp_tree_of f11 _ := ⟨ok_tree_of F11 (PySem.W.mg_none_of X G z_enumerate) (PySem.W.mg_none_of X G z_tuple), k11, b11, PySem.W.mg_of X G a11⟩
  have C12 : Cal l.prog w K mg base CX0 3 "is_tree" ["tree"] sp_is_tree f12 _ := ⟨ok_is_tree F12 (C10) (C11) (PySem.W.mg_none_of X G z_len) (PySem.W.mg_of X G q_MOST_PLACES), k12, b12, PySem.W.mg_of X G a12⟩
  have C13 : Cal l.prog w K mg base (L2.CX l.prog w) 4 "look_at_tree" ["tree"] (sp_look_at_tree x_NoTree) f13 _ := ⟨ok_look_at_tree F13 (C12) ⟨ex_NoTree, PySem.W.mg_of X G eg_NoTree, ek_NoTree, eb_NoTree, et_NoTree⟩, k13, b13, PySem.W.mg_of X G a13⟩
  have C14 : Cal l.prog w K mg base (L2.CX l.prog w) 5 "look_at_both" ["tree", "row"] (sp_look_at_both x_NoTree x_Unlike) f14 _ := ⟨ok_look_at_both F14 (C13) (PySem.W.mg_none_of X G z_len) ⟨ex_Unlike, PySem.W.mg_of X G eg_Unlike, ek_Unlike, eb_Unlike, et_Unlike⟩, k14, b14, PySem.W.mg_of X G a14⟩
  have C15 : Cal l.prog w K mg base (L2.CX l.prog w) 5 "flattest" ["tree"] (sp_flattest x_NoTree) f15 _ := ⟨ok_flattest F15 (C13) (C10) (PySem.W.mg_none_of X G z_tuple), k15, b15, PySem.W.mg_of X G a15⟩
  have C16 : Cal l.prog w K mg base (L2.CX l.prog w) 6 "clashing" ["tree", "row"] (sp_clashing x_NoTree x_Unlike) f16 _ := ⟨ok_clashing F16 (C14) (C15) (C9) (PySem.W.mg_none_of X G z_len) (PySem.W.mg_none_of X G z_range) (PySem.W.mg_none_of X G z_sorted), k16, b16, PySem.W.mg_of X G a16⟩
  have C17 : ∀ fu_ : Nat, Cal l.prog w K mg base CX0 (1 + fu_) "paired_anew" ["beneath", "uppers", "a", "seen"] (sp_paired_anew fu_) f17 (PySem.W.fnOf "paired_anew" "paired_anew" (defArgs s_paired_anew) (defBody s_paired_anew) (defScope s_paired_anew) .none kV17 dc17 pm17 an17 cd17 ct17) := fun fu_ => by
    induction fu_ with
    | zero => exact ⟨okz_paired_anew F17, k17, b17, PySem.W.mg_of X G a17⟩
    | succ fu_ ih_ => exact ⟨ok_paired_anew F17 ih_, k17, b17, PySem.W.mg_of X G a17⟩
  have C18 : Cal l.prog w K mg base CX0 44 "uppers_of" ["beneath"] sp_uppers_of f18 _ := ⟨ok_uppers_of F18 (C17 42) (PySem.W.mg_none_of X G z_len) (PySem.W.mg_none_of X G z_range), k18, b18, PySem.W.mg_of X G a18⟩
  have C19 : Cal l.prog w K mg base CX0 1 "unpaired_by" ["beneath", "uppers"] sp_unpaired_by f19 _ := ⟨ok_unpaired_by F19 (PySem.W.mg_none_of X G z_len) (PySem.W.mg_none_of X G z_range) (PySem.W.mg_none_of X G z_sorted) (PySem.W.mg_none_of X G z_tuple), k19, b19, PySem.W.mg_of X G a19⟩
  have C20 : Cal l.prog w K mg base CX0 2 "with_elders" ["tree", "place"] sp_with_elders f20 _ := ⟨ok_with_elders F20 (C9), k20, b20, PySem.W.mg_of X G a20⟩
  have C21 : Cal l.prog w K mg base CX0 6 "row_with" ["tree", "row", "kept"] sp_row_with f21 _ := ⟨ok_row_with F21 (C15) (C20) (PySem.W.mg_none_of X G z_int) (PySem.W.mg_none_of X G z_len) (PySem.W.mg_none_of X G z_max) (PySem.W.mg_none_of X G z_min) (PySem.W.mg_none_of X G z_range) (PySem.W.mg_none_of X G z_tuple), k21, b21, PySem.W.mg_of X G a21⟩
  have C22 : Cal l.prog w K mg base CX0 1 "chains_by" ["uppers"] sp_chains_by f22 _ := ⟨ok_chains_by F22 (PySem.W.mg_none_of X G z_enumerate) (PySem.W.mg_none_of X G z_tuple), k22, b22, PySem.W.mg_of X G a22⟩
  have C23 : Cal l.prog w K mg base (L2.CX l.prog w) 45 "most_stay" ["tree", "row"] (sp_most_stay x_NoTree x_Unlike) f23 _ := ⟨ok_most_stay F23 (C16) (C18) (C19) (C21) (C22) (PySem.W.mg_none_of X G z_len) (PySem.W.mg_none_of X G z_range), k23, b23, PySem.W.mg_of X G a23⟩
  have C24 : Cal l.prog w K mg base CX0 2 "_law_flats" ["tree"] sp_law_flats f24 _ := ⟨ok_law_flats F24 (C6) (PySem.W.mg_none_of X G z_len) (PySem.W.mg_none_of X G z_range) (PySem.W.mg_none_of X G z_tuple), k24, b24, PySem.W.mg_of X G a24⟩
  have C25 : Cal l.prog w K mg base CX0 3 "_law_made" ["tree", "row", "kept"] sp_law_made f25 _ := ⟨ok_law_made F25 (C24) (C6) (PySem.W.mg_none_of X G z_len) (PySem.W.mg_none_of X G z_max) (PySem.W.mg_none_of X G z_min) (PySem.W.mg_none_of X G z_range) (PySem.W.mg_none_of X G z_tuple), k25, b25, PySem.W.mg_of X G a25⟩
  have C26 : Cal l.prog w K mg base CX0 1 "_law_tree_of" ["row"] sp_law_tree_of f26 _ := ⟨ok_law_tree_of F26 (PySem.W.mg_none_of X G z_len) (PySem.W.mg_none_of X G z_range) (PySem.W.mg_none_of X G z_tuple), k26, b26, PySem.W.mg_of X G a26⟩
  have C27 : Cal l.prog w K mg base CX0 3 "_law_clashes" ["tree", "row"] sp_law_clashes f27 _ := ⟨ok_law_clashes F27 (C24) (C6) (PySem.W.mg_none_of X G z_len) (PySem.W.mg_none_of X G z_range) (PySem.W.mg_none_of X G z_sorted), k27, b27, PySem.W.mg_of X G a27⟩
  have C28 : Cal l.prog w K mg base CX0 4 "_law_in_order" ["tree", "row"] sp_law_in_order f28 _ := ⟨ok_law_in_order F28 (C26) (C27), k28, b28, PySem.W.mg_of X G a28⟩
  exact ok_law F29 (C0) (C5) (C8) (C16) (C23) (C25) (C26) (C7) (C28) (PySem.W.mg_none_of X G z_all) (PySem.W.mg_none_of X G z_any) (PySem.W.mg_none_of X G z_len) (PySem.W.mg_none_of X G z_max) (PySem.W.mg_none_of X G z_min) (PySem.W.mg_none_of X G z_range)
end Law
open PySem PySem.W PyProof.Rows
set_option maxHeartbeats 0 in
theorem PySem.Challenge.cw_dipkin_k66_whole_none_stay_more_holds : PySem.Challenge.rw_dipkin_k66_whole_none_stay_more.Holds := by
  w_on; o_law; k_head; (case hw => w_witness2)
  k_fill
  refine L2.walk_of (l := PySem.Challenge.rw_dipkin_k66_whole_none_stay_more) (n := 63) (k := 46) (x := "script") (CX := fun _ => L2.CX0) (sp := fun w => Law.sp_law _) rfl (by decide) rfl ⟨rfl, by decide, by decide⟩ (fun w h Y => PySem.W.kIn_of Y) ?F (fun _ _ a ns hl _ hS => ⟨(ns, ()), ⟨_, [], rfl, ⟨a, rfl, hS⟩, rfl⟩, hl, fun v H' b _ hb hp => by cases hp; exact hb, fun _ _ _ z => z⟩) (fun _ _ _ _ _ h => h)
  case F =>
    intro w mg fa h KX G hmg
    refine' Law.all_mk KX G hmg ?a0 ?l0 ?c0 ?k0 ?a1 ?l1 ?c1 ?k1 ?a2 ?l2 ?c2 ?k2 ?a3 ?l3 ?c3 ?k3 ?a4 ?l4 ?c4 ?k4 ?a5 ?l5 ?c5 ?k5 ?a6 ?l6 ?c6 ?k6 ?a7 ?l7 ?c7 ?k7 ?a8 ?l8 ?c8 ?k8 ?a9 ?l9 ?c9 ?k9 ?a10 ?l10 ?c10 ?k10 ?a11 ?l11 ?c11 ?k11 ?a12 ?l12 ?c12 ?k12 ?a13 ?l13 ?c13 ?k13 ?a14 ?l14 ?c14 ?k14 ?a15 ?l15 ?c15 ?k15 ?a16 ?l16 ?c16 ?k16 ?a17 ?l17 ?c17 ?k17 ?a18 ?l18 ?c18 ?k18 ?a19 ?l19 ?c19 ?k19 ?a20 ?l20 ?c20 ?k20 ?a21 ?l21 ?c21 ?k21 ?a22 ?l22 ?c22 ?k22 ?a23 ?l23 ?c23 ?k23 ?a24 ?l24 ?c24 ?k24 ?a25 ?l25 ?c25 ?k25 ?a26 ?l26 ?c26 ?k26 ?a27 ?l27 ?c27 ?k27 ?a28 ?l28 ?c28 ?k28 ?a29 ?l29 ?c29 ?k29 ?z_all ?z_any ?z_enumerate ?z_int ?z_len ?z_list ?z_max ?z_min ?z_range ?z_sorted ?z_tuple ?q_MOST_PLACES ?eg_NoTree ?ex_NoTree ?ek_NoTree ?eb_NoTree ?et_NoTree ?eg_Unlike ?ex_Unlike ?ek_Unlike ?eb_Unlike ?et_Unlike
    (case a0 => k_is); (case l0 => k_is); (case c0 => k_is); (case k0 => k_is); (case a1 => k_is); (case l1 => k_is); (case c1 => k_is); (case k1 => k_is); (case a2 => k_is); (case l2 => k_is); (case c2 => k_is); (case k2 => k_is); (case a3 => k_is); (case l3 => k_is); (case c3 => k_is); (case k3 => k_is); (case a4 => k_is); (case l4 => k_is); (case c4 => k_is); (case k4 => k_is); (case a5 => k_is); (case l5 => k_is); (case c5 => k_is); (case k5 => k_is); (case a6 => k_is); (case l6 => k_is); (case c6 => k_is); (case k6 => k_is); (case a7 => k_is); (case l7 => k_is); (case c7 => k_is); (case k7 => k_is); (case a8 => k_is); (case l8 => k_is); (case c8 => k_is); (case k8 => k_is); (case a9 => k_is); (case l9 => k_is); (case c9 => k_is); (case k9 => k_is); (case a10 => k_is); (case l10 => k_is); (case c10 => k_is); (case k10 => k_is); (case a11 => k_is); (case l11 => k_is); (case c11 => k_is); (case k11 => k_is); (case a12 => k_is); (case l12 => k_is); (case c12 => k_is); (case k12 => k_is); (case a13 => k_is); (case l13 => k_is); (case c13 => k_is); (case k13 => k_is); (case a14 => k_is); (case l14 => k_is); (case c14 => k_is); (case k14 => k_is); (case a15 => k_is); (case l15 => k_is); (case c15 => k_is); (case k15 => k_is); (case a16 => k_is); (case l16 => k_is); (case c16 => k_is); (case k16 => k_is); (case a17 => k_is); (case l17 => k_is); (case c17 => k_is); (case k17 => k_is); (case a18 => k_is); (case l18 => k_is); (case c18 => k_is); (case k18 => k_is); (case a19 => k_is); (case l19 => k_is); (case c19 => k_is); (case k19 => k_is); (case a20 => k_is); (case l20 => k_is); (case c20 => k_is); (case k20 => k_is); (case a21 => k_is); (case l21 => k_is); (case c21 => k_is); (case k21 => k_is); (case a22 => k_is); (case l22 => k_is); (case c22 => k_is); (case k22 => k_is); (case a23 => k_is); (case l23 => k_is); (case c23 => k_is); (case k23 => k_is); (case a24 => k_is); (case l24 => k_is); (case c24 => k_is); (case k24 => k_is); (case a25 => k_is); (case l25 => k_is); (case c25 => k_is); (case k25 => k_is); (case a26 => k_is); (case l26 => k_is); (case c26 => k_is); (case k26 => k_is); (case a27 => k_is); (case l27 => k_is); (case c27 => k_is); (case k27 => k_is); (case a28 => k_is); (case l28 => k_is); (case c28 => k_is); (case k28 => k_is); (case a29 => k_is); (case l29 => k_is); (case c29 => k_is); (case k29 => k_is); (case z_all => k_is); (case z_any => k_is); (case z_enumerate => k_is); (case z_int => k_is); (case z_len => k_is); (case z_list => k_is); (case z_max => k_is); (case z_min => k_is); (case z_range => k_is); (case z_sorted => k_is); (case z_tuple => k_is); (case q_MOST_PLACES => k_is); (case eg_NoTree => k_is); (case ex_NoTree => k_exc); (case ek_NoTree => k_is); (case eb_NoTree => k_is); (case et_NoTree => k_is); (case eg_Unlike => k_is); (case ex_Unlike => k_exc); (case ek_Unlike => k_is); (case eb_Unlike => k_is); (case et_Unlike => k_is)
