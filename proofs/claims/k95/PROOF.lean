import PyProof.Rows.All
import Wide.All
import OpenK.AllK
import Wide.FinOn
import HandS.ForMost
import HandS.ForExc
import HandS.Wide
import HandS.WideBits
import KE.GoesEnum
import HandS.Comp
import HandS.DictComp
import HandS.TupAny
import HandS.TupMul
import HandS.Style
import HandS.IsInst
import HandS.AnyAll
import HandS.More
import HandS.Dict
import HandS.Small
import HandS.MakeKwOnly
import HandS.ExcInit
import HandS.ExcSuper
import HandS.ExcOwn
import KE.KExcSuper
import HandS.ExcField
import HandS.ExcIs
import KE.KExcIs
import HandS.Head0
import HandS.Head1
import HandS.Head2
import HandS.HeadEnd
import HandS.HeadHook1
import HandS.HeadHook2
import HandS.HeadHook3
import HandS.HeadHook4
import HandS.HeadNt
import PySem.Challenge.RW_gatesofcloth_k95_whole_contests_settled
set_option Elab.async false
set_option linter.all false
set_option maxRecDepth 100000
set_option maxHeartbeats 2000000
/-! abstract states: pure data as trees, mutable objects by handles -/
namespace Y
open PySem PySem.Spec PyProof.Rows L2

/-- pure data -/
inductive D where
  | non | bl (b : Bool) | int (i : Int) | str (x : Str) | ref (a : Addr) | ty (n : String)
  | tup (xs : List D) | lst (xs : List D)
  | ins (C : Addr) (fs : List (Str × D))
  | exc (a C dx : Addr) (fs : List (Str × D))
/-- a value: pure, a handle of a mutable object, a tuple with handles in it -/
inductive A where
  | d (x : D) | h (i : Nat) | t (xs : List A)
/-- a mutable object: a list of pure data; a list; an instance; a dict -/
inductive O where
  | lst (xs : List D) | lsA (xs : List A) | ins (C : Addr) (fs : List (Str × A)) | dK (kvs : List (Key × D)) | dT (kvs : List (List Key × D)) | lkd (ob : Obj) (vs : List (Key × V)) (kvs : List (Key × D)) | set (S : Int → Bool) (n : Nat)
abbrev Hs := List (Option O)
abbrev Sl := List (Option A)

def WrT (K : PySem.W.Frag) (a : Addr) (vs : List V) : Prop := SqT K (fun _ => none) a vs
def WrL (K : PySem.W.Frag) (a : Addr) (vs : List V) : Prop := SqL K (fun _ => none) a vs
def SqTL (K : PySem.W.Frag) (L : Addr → Prop) (H : Hp) (a : Addr) (vs : List V) : Prop := (¬ L a ∧ Rd H a (.tup vs)) ∨ WrT K a vs
def SqLL (K : PySem.W.Frag) (L : Addr → Prop) (H : Hp) (a : Addr) (vs : List V) : Prop := (¬ L a ∧ Rd H a (.lst vs)) ∨ WrL K a vs

theorem rd_none {a : Addr} {u : HO} : ¬ Rd (fun _ => none) a u := by
  rintro (h | ⟨o, h⟩) <;> cases h
theorem WrT.sq {K : PySem.W.Frag} {H : Hp} {a : Addr} {vs : List V} (h : WrT K a vs) : SqT K H a vs := by
  rcases h with h | h
  · exact absurd h rd_none
  · exact .inr h
theorem WrL.sq {K : PySem.W.Frag} {H : Hp} {a : Addr} {vs : List V} (h : WrL K a vs) : SqL K H a vs := by
  rcases h with h | h
  · exact absurd h rd_none
  · exact .inr h
theorem SqTL.sq {K : PySem.W.Frag} {L : Addr → Prop} {H : Hp} {a : Addr} {vs : List V} (h : SqTL K L H a vs) : SqT K H a vs := by
  rcases h with ⟨_, h⟩ | h
  · exact .inl h
  · exact h.sq
theorem SqLL.sq {K : PySem.W.Frag} {L : Addr → Prop} {H : Hp} {a : Addr} {vs : List V} (h : SqLL K L H a vs) : SqL K H a vs := by
  rcases h with ⟨_, h⟩ | h
  · exact .inl h
  · exact h.sq

section
variable (K : PySem.W.Frag) (L : Addr → Prop) (H : Hp)
mutual
def RepD : V → D → Prop
  | v, .non => v = .non
  | v, .bl b => v = .bl b
  | v, .int i => v = .int i
  | v, .str x => v = .str x
  | v, .ref a => v = .ref a
  | v, .ty n => v = .ty n
  | v, .tup xs => ∃ a vs, v = .ref a ∧ SqTL K L H a vs ∧ RepDs vs xs
  | v, .lst xs => ∃ a vs, v = .ref a ∧ SqLL K L H a vs ∧ RepDs vs xs
  | v, .ins C fs => ∃ a dx fv, v = .ref a ∧ ¬ L a ∧ H a = some (.ins C dx fv) ∧ RepFs fv fs
  | v, .exc a _ dx fs => v = .ref a ∧ ¬ L dx ∧ ∃ fv, H dx = some (.xd fv) ∧ RepFs fv fs
def RepDs : List V → List D → Prop
  | vs, [] => vs = []
  | vs, x :: xs => ∃ v r, vs = v :: r ∧ RepD v x ∧ RepDs r xs
def RepFs : List (Str × V) → List (Str × D) → Prop
  | vs, [] => vs = []
  | vs, p :: xs => ∃ v r, vs = (p.1, v) :: r ∧ RepD v p.2 ∧ RepFs r xs
end
end

/-- the move from one heap to another: what is tracked and not live stays, and is not live -/
structure Kp (L : Addr → Prop) (H : Hp) (L' : Addr → Prop) (H' : Hp) : Prop where
  keep : ∀ b o, H b = some o → ¬ L b → H' b = some o
  live : ∀ b o, H b = some o → ¬ L b → ¬ L' b
theorem Kp.refl {L : Addr → Prop} {H : Hp} : Kp L H L H := ⟨fun _ _ h _ => h, fun _ _ _ h => h⟩
theorem Kp.trans {L L1 L2 : Addr → Prop} {H H1 H2 : Hp} (a : Kp L H L1 H1) (b : Kp L1 H1 L2 H2) : Kp L H L2 H2 :=
  ⟨fun c o h n => b.keep c o (a.keep c o h n) (a.live c o h n), fun c o h n => b.live c o (a.keep c o h n) (a.live c o h n)⟩
section
variable {K : PySem.W.Frag} {L L' : Addr → Prop} {H H' : Hp}
theorem Kp.rd (k : Kp L H L' H') {a : Addr} {u : HO} (n : ¬ L a) (h : Rd H a u) : ¬ L' a ∧ Rd H' a u := by
  rcases h with h | ⟨o, h⟩
  · exact ⟨k.live _ _ h n, .inl (k.keep _ _ h n)⟩
  · exact ⟨k.live _ _ h n, .inr ⟨o, k.keep _ _ h n⟩⟩
theorem Kp.sqT (k : Kp L H L' H') {a : Addr} {vs : List V} (h : SqTL K L H a vs) : SqTL K L' H' a vs := by
  rcases h with ⟨n, h⟩ | h
  · exact .inl (k.rd n h)
  · exact .inr h
theorem Kp.sqL (k : Kp L H L' H') {a : Addr} {vs : List V} (h : SqLL K L H a vs) : SqLL K L' H' a vs := by
  rcases h with ⟨n, h⟩ | h
  · exact .inl (k.rd n h)
  · exact .inr h
mutual
theorem Kp.d (k : Kp L H L' H') : ∀ {x : D} {v : V}, RepD K L H v x → RepD K L' H' v x
  | .non, _, h => h
  | .bl _, _, h => h
  | .int _, _, h => h
  | .str _, _, h => h
  | .ref _, _, h => h
  | .ty _, _, h => h
  | .tup xs, v, h => by
    unfold RepD at h ⊢
    obtain ⟨a, vs, e, s, r⟩ := h
    exact ⟨a, vs, e, k.sqT s, Kp.ds k r⟩
  | .lst xs, v, h => by
    unfold RepD at h ⊢
    obtain ⟨a, vs, e, s, r⟩ := h
    exact ⟨a, vs, e, k.sqL s, Kp.ds k r⟩
  | .ins C fs, v, h => by
    unfold RepD at h ⊢
    obtain ⟨a, dx, fv, e, n, s, r⟩ := h
    exact ⟨a, dx, fv, e, k.live _ _ s n, k.keep _ _ s n, Kp.fs k r⟩
  | .exc a C dx fs, v, h => by
    unfold RepD at h ⊢
    obtain ⟨e, n, fv, s, r⟩ := h
    exact ⟨e, k.live _ _ s n, fv, k.keep _ _ s n, Kp.fs k r⟩
theorem Kp.ds (k : Kp L H L' H') : ∀ {xs : List D} {vs : List V}, RepDs K L H vs xs → RepDs K L' H' vs xs
  | [], _, h => by unfold RepDs at h ⊢; exact h
  | x :: xs, vs, h => by
    unfold RepDs at h ⊢
    obtain ⟨v, r, e, h1, h2⟩ := h
    exact ⟨v, r, e, Kp.d k h1, Kp.ds k h2⟩
theorem Kp.fs (k : Kp L H L' H') : ∀ {xs : List (Str × D)} {vs : List (Str × V)}, RepFs K L H vs xs → RepFs K L' H' vs xs
  | [], _, h => by unfold RepFs at h ⊢; exact h
  | p :: xs, vs, h => by
    unfold RepFs at h ⊢
    obtain ⟨v, r, e, h1, h2⟩ := h
    exact ⟨v, r, e, Kp.d k h1, Kp.fs k h2⟩
end
end

section
variable (K : PySem.W.Frag) (L : Addr → Prop) (m : List Addr) (H : Hp)
mutual
def RepA : V → A → Prop
  | v, .d x => RepD K L H v x
  | v, .h i => ∃ a, m[i]? = some a ∧ v = .ref a
  | v, .t xs => ∃ a vs, v = .ref a ∧ SqTL K L H a vs ∧ RepAs vs xs
def RepAs : List V → List A → Prop
  | vs, [] => vs = []
  | vs, x :: xs => ∃ v r, vs = v :: r ∧ RepA v x ∧ RepAs r xs
end
def RepFA : List (Str × V) → List (Str × A) → Prop
  | vs, [] => vs = []
  | vs, p :: xs => ∃ v r, vs = (p.1, v) :: r ∧ RepA K L m H v p.2 ∧ RepFA r xs
def RepKD {κ : Type} : List (κ × V) → List (κ × D) → Prop
  | vs, [] => vs = []
  | vs, p :: xs => ∃ v r, vs = (p.1, v) :: r ∧ RepD K L H v p.2 ∧ RepKD r xs
def RepO : HO → O → Prop
  | ho, .lst xs => ∃ vs, ho = .lst vs ∧ RepDs K L H vs xs
  | ho, .lsA xs => ∃ vs, ho = .lst vs ∧ RepAs K L m H vs xs
  | ho, .ins C fs => ∃ dx fv, ho = .ins C dx fv ∧ RepFA K L m H fv fs
  | ho, .dK kvs => ∃ kv, ho = .dK kv ∧ RepKD K L H kv kvs
  | ho, .dT kvs => ∃ kv, ho = .dT kv ∧ RepKD K L H kv kvs
  | ho, .lkd ob vs kvs => ho = .frz ob (.dK vs) ∧ RepKD K L H vs kvs
  | ho, .set S n => ho = .set S n
end

def Live (m : List Addr) (η : Hs) (a : Addr) : Prop := ∃ (i : Nat) (o : O), m[i]? = some a ∧ η[i]? = some (some o)
/-- what no pure data may lie at: the live handles, and what lives outside -/
def Lv (Z : Addr → Prop) (m : List Addr) (η : Hs) (a : Addr) : Prop := Z a ∨ Live m η a
/-- an exception that has come: its class, its own fields, the heap -/
structure XA where
  C : Addr
  fs : List (Str × D)
  η : Hs
/-- the entry: its heap, what was live, the handles' addresses; what lives outside; what is wished of an exception -/
structure Fr0 where
  H : Hp
  L : Addr → Prop
  m : List Addr
  Z : Addr → Prop
  EX : XA → Sl → Prop
/-- the heap is as told -/
structure AbsH (K : PySem.W.Frag) (Z : Addr → Prop) (m : List Addr) (H : Hp) (η : Hs) : Prop where
  len : m.length = η.length
  nd : m.Nodup
  trk : ∀ a ∈ m, ∃ o, H a = some o
  zt : ∀ a, Z a → ∃ o, H a = some o
  zd : ∀ a ∈ m, ¬ Z a
  obj : ∀ (i : Nat) (a : Addr) (o : O), m[i]? = some a → η[i]? = some (some o) → ∃ ho, H a = some ho ∧ RepO K (Lv Z m η) m H ho o
structure Abs (K : PySem.W.Frag) (F : Fr0) (m : List Addr) (σ : L2.St) (H : Hp) (δ : Sl) (η : Hs) : Prop extends AbsH K F.Z m H η where
  sl : δ.length = σ.length
  slot : ∀ (i : Nat) (x : A), δ[i]? = some (some x) → ∃ v, σ[i]? = some (some v) ∧ RepA K (Lv F.Z m η) m H v x
  fr : Kp F.L F.H (Live m η) H
  pre : ∃ r, m = F.m ++ r
/-- from one state to a later one -/
structure Ext (m : List Addr) (H : Hp) (η : Hs) (m' : List Addr) (H' : Hp) (η' : Hs) : Prop where
  pre : ∃ r, m' = m ++ r
  kp : Kp (Live m η) H (Live m' η') H'
theorem Ext.refl {m : List Addr} {H : Hp} {η : Hs} : Ext m H η m H η := ⟨⟨[], by simp⟩, .refl⟩
theorem Ext.trans {m m1 m2 : List Addr} {H H1 H2 : Hp} {η η1 η2 : Hs} (a : Ext m H η m1 H1 η1) (b : Ext m1 H1 η1 m2 H2 η2) : Ext m H η m2 H2 η2 := by
  obtain ⟨r, e⟩ := a.pre
  obtain ⟨q, e'⟩ := b.pre
  exact ⟨⟨r ++ q, by rw [e', e, List.append_assoc]⟩, a.kp.trans b.kp⟩
theorem pre_get {m m' : List Addr} (h : ∃ r, m' = m ++ r) {i : Nat} {a : Addr} (e : m[i]? = some a) : m'[i]? = some a := by
  obtain ⟨r, rfl⟩ := h
  rw [List.getElem?_append_left (List.getElem?_eq_some_iff.mp e).1]
  exact e
section
variable {K : PySem.W.Frag} {L L' : Addr → Prop} {m m' : List Addr} {H H' : Hp}
mutual
theorem Kp.a (k : Kp L H L' H') (p : ∀ (i : Nat) (a : Addr), m[i]? = some a → m'[i]? = some a) : ∀ {x : A} {v : V}, RepA K L m H v x → RepA K L' m' H' v x
  | .d x, _, h => by unfold RepA at h ⊢; exact k.d h
  | .h i, _, h => by
    unfold RepA at h ⊢
    obtain ⟨a, h1, h2⟩ := h
    exact ⟨a, p _ _ h1, h2⟩
  | .t xs, _, h => by
    unfold RepA at h ⊢
    obtain ⟨a, vs, e, s, r⟩ := h
    exact ⟨a, vs, e, k.sqT s, Kp.as k p r⟩
theorem Kp.as (k : Kp L H L' H') (p : ∀ (i : Nat) (a : Addr), m[i]? = some a → m'[i]? = some a) : ∀ {xs : List A} {vs : List V}, RepAs K L m H vs xs → RepAs K L' m' H' vs xs
  | [], _, h => by unfold RepAs at h ⊢; exact h
  | x :: xs, vs, h => by
    unfold RepAs at h ⊢
    obtain ⟨v, r, e, h1, h2⟩ := h
    exact ⟨v, r, e, Kp.a k p h1, Kp.as k p h2⟩
end
theorem Kp.fa (k : Kp L H L' H') (p : ∀ (i : Nat) (a : Addr), m[i]? = some a → m'[i]? = some a) : ∀ {xs : List (Str × A)} {vs : List (Str × V)}, RepFA K L m H vs xs → RepFA K L' m' H' vs xs
  | [], _, h => by unfold RepFA at h ⊢; exact h
  | q :: xs, vs, h => by
    unfold RepFA at h ⊢
    obtain ⟨v, r, e, h1, h2⟩ := h
    exact ⟨v, r, e, k.a p h1, Kp.fa k p h2⟩
theorem Kp.kd {κ : Type} (k : Kp L H L' H') : ∀ {xs : List (κ × D)} {vs : List (κ × V)}, RepKD K L H vs xs → RepKD K L' H' vs xs
  | [], _, h => by unfold RepKD at h ⊢; exact h
  | q :: xs, vs, h => by
    unfold RepKD at h ⊢
    obtain ⟨v, r, e, h1, h2⟩ := h
    exact ⟨v, r, e, k.d h1, Kp.kd k h2⟩
theorem Kp.o (k : Kp L H L' H') (p : ∀ (i : Nat) (a : Addr), m[i]? = some a → m'[i]? = some a) : ∀ {x : O} {ho : HO}, RepO K L m H ho x → RepO K L' m' H' ho x
  | .lst _, _, h => by
    unfold RepO at h ⊢
    obtain ⟨vs, e, r⟩ := h
    exact ⟨vs, e, k.ds r⟩
  | .lsA _, _, h => by
    unfold RepO at h ⊢
    obtain ⟨vs, e, r⟩ := h
    exact ⟨vs, e, k.as p r⟩
  | .ins C fs, _, h => by
    unfold RepO at h ⊢
    obtain ⟨dx, fv, e, r⟩ := h
    exact ⟨dx, fv, e, k.fa p r⟩
  | .dK _, _, h => by
    unfold RepO at h ⊢
    obtain ⟨kv, e, r⟩ := h
    exact ⟨kv, e, k.kd r⟩
  | .dT _, _, h => by
    unfold RepO at h ⊢
    obtain ⟨kv, e, r⟩ := h
    exact ⟨kv, e, k.kd r⟩
  | .lkd _ _ _, _, h => by
    unfold RepO at h ⊢
    exact ⟨h.1, k.kd h.2⟩
  | .set _ _, _, h => h
end
theorem Ext.lv {m m' : List Addr} {H H' : Hp} {η η' : Hs} (e : Ext m H η m' H' η') (Z : Addr → Prop) : Kp (Lv Z m η) H (Lv Z m' η') H' :=
  ⟨fun b o h n => e.kp.keep b o h fun q => n (.inr q), fun b o h n q => q.elim (fun z => n (.inl z)) (e.kp.live b o h fun q => n (.inr q))⟩
theorem Ext.a {K : PySem.W.Frag} {Z : Addr → Prop} {m m' : List Addr} {H H' : Hp} {η η' : Hs} (e : Ext m H η m' H' η') {x : A} {v : V} (h : RepA K (Lv Z m η) m H v x) : RepA K (Lv Z m' η') m' H' v x := (e.lv Z).a (fun _ _ q => pre_get e.pre q) h
theorem Ext.as {K : PySem.W.Frag} {Z : Addr → Prop} {m m' : List Addr} {H H' : Hp} {η η' : Hs} (e : Ext m H η m' H' η') {x : List A} {v : List V} (h : RepAs K (Lv Z m η) m H v x) : RepAs K (Lv Z m' η') m' H' v x := (e.lv Z).as (fun _ _ q => pre_get e.pre q) h
theorem Ext.o {K : PySem.W.Frag} {Z : Addr → Prop} {m m' : List Addr} {H H' : Hp} {η η' : Hs} (e : Ext m H η m' H' η') {x : O} {v : HO} (h : RepO K (Lv Z m η) m H v x) : RepO K (Lv Z m' η') m' H' v x := (e.lv Z).o (fun _ _ q => pre_get e.pre q) h

/-! ### moves -/
section
variable {K : PySem.W.Frag} {F : Fr0} {Z : Addr → Prop} {m : List Addr} {σ : L2.St} {H : Hp} {δ : Sl} {η : Hs}
theorem get_snoc {α : Type} {l : List α} {x : α} : (l ++ [x])[l.length]? = some x := by simp
theorem live_snoc_none {p : Addr} {a : Addr} (hl : m.length = η.length) : Live (m ++ [p]) (η ++ [none]) a ↔ Live m η a := by
  constructor
  · rintro ⟨i, o, h1, h2⟩
    by_cases hi : i < η.length
    · rw [List.getElem?_append_left hi] at h2
      rw [List.getElem?_append_left (by omega)] at h1
      exact ⟨i, o, h1, h2⟩
    · rw [List.getElem?_append_right (by omega)] at h2
      have : i - η.length = 0 := by
        have := (List.getElem?_eq_some_iff.mp h2).1
        simp at this
        omega
      rw [this] at h2
      cases h2
  · rintro ⟨i, o, h1, h2⟩
    exact ⟨i, o, by rw [List.getElem?_append_left (List.getElem?_eq_some_iff.mp h1).1]; exact h1, by rw [List.getElem?_append_left (List.getElem?_eq_some_iff.mp h2).1]; exact h2⟩
theorem live_snoc {p : Addr} {a : Addr} {o : O} (hl : m.length = η.length) : Live (m ++ [p]) (η ++ [some o]) a ↔ (a = p ∨ Live m η a) := by
  constructor
  · rintro ⟨i, o', h1, h2⟩
    by_cases hi : i < η.length
    · rw [List.getElem?_append_left hi] at h2
      rw [List.getElem?_append_left (by omega)] at h1
      exact .inr ⟨i, o', h1, h2⟩
    · rw [List.getElem?_append_right (by omega)] at h1
      left
      have : i - m.length = 0 := by
        have := (List.getElem?_eq_some_iff.mp h1).1
        simp at this
        omega
      rw [this] at h1
      exact (Option.some.inj h1).symm
  · rintro (rfl | ⟨i, o', h1, h2⟩)
    · exact ⟨m.length, o, by simp, by rw [hl]; simp⟩
    · exact ⟨i, o', by rw [List.getElem?_append_left (List.getElem?_eq_some_iff.mp h1).1]; exact h1, by rw [List.getElem?_append_left (List.getElem?_eq_some_iff.mp h2).1]; exact h2⟩
theorem AbsH.tracked (a : AbsH K Z m H η) {b : Addr} (h : Live m η b) : ∃ ho, H b = some ho := by
  obtain ⟨i, o, h1, h2⟩ := h
  obtain ⟨ho, e, _⟩ := a.obj i b o h1 h2
  exact ⟨ho, e⟩
theorem trk_upd {H : Hp} {a p : Addr} {o : HO} (h : ∃ u, H a = some u) : ∃ u, upd H p o a = some u := by
  by_cases e : a = p
  · subst e
    exact ⟨o, upd_same⟩
  · obtain ⟨u, h⟩ := h
    exact ⟨u, by rw [upd_ne e]; exact h⟩
theorem AbsH.fresh (a : AbsH K Z m H η) {p : Addr} (h : H p = none) : p ∉ m := fun hp => by
  obtain ⟨o, e⟩ := a.trk p hp
  rw [h] at e
  cases e
theorem AbsH.off (a : AbsH K Z m H η) {p : Addr} (h : H p = none) : ¬ Lv Z m η p := by
  rintro (z | l)
  · obtain ⟨o, e⟩ := a.zt p z
    rw [h] at e
    cases e
  · obtain ⟨o, e⟩ := a.tracked l
    rw [h] at e
    cases e
/-- a new thing is laid that is no handle -/
theorem ext_new {p : Addr} {ho : HO} (a : AbsH K Z m H η) (hp : H p = none) : Ext m H η m (upd H p ho) η :=
  ⟨⟨[], by simp⟩, ⟨fun b o h _ => by rw [upd_ne (ne_of_none h hp)]; exact h, fun _ _ _ n => n⟩⟩
theorem Abs.new {p : Addr} {ho : HO} (a : Abs K F m σ H δ η) (hp : H p = none) : Abs K F m σ (upd H p ho) δ η := by
  have e := ext_new (ho := ho) a.toAbsH hp
  refine ⟨⟨a.len, a.nd, fun b hb => trk_upd (a.trk b hb), fun b hb => trk_upd (a.zt b hb), a.zd, fun i b o h1 h2 => ?_⟩, a.sl, fun i x h => ?_, a.fr.trans e.kp, a.pre⟩
  · obtain ⟨hb, q, r⟩ := a.obj i b o h1 h2
    exact ⟨hb, by rw [upd_ne (ne_of_none q hp)]; exact q, e.o r⟩
  · obtain ⟨v, h1, h2⟩ := a.slot i x h
    exact ⟨v, h1, e.a h2⟩
/-- a new mutable object -/
theorem ext_newH {p : Addr} {ho : HO} {o : O} (a : AbsH K Z m H η) (hp : H p = none) : Ext m H η (m ++ [p]) (upd H p ho) (η ++ [some o]) :=
  ⟨⟨[p], rfl⟩, ⟨fun b u h _ => by rw [upd_ne (ne_of_none h hp)]; exact h, fun b u h n q => by
    rcases (live_snoc a.len).mp q with e | e
    · exact ne_of_none h hp e
    · exact n e⟩⟩
theorem nodup_snoc {l : List Addr} {p : Addr} (h : l.Nodup) (n : p ∉ l) : (l ++ [p]).Nodup := by
  rw [List.nodup_append]
  refine ⟨h, by simp, fun a ha b hb => ?_⟩
  have : b = p := by simpa using hb
  subst this
  rintro rfl
  exact n ha
theorem Abs.newH {p : Addr} {ho : HO} {o : O} (a : Abs K F m σ H δ η) (hp : H p = none) (r : ∀ L' m' H', Kp (Lv F.Z m η) H L' H' → (∀ (i : Nat) (b : Addr), m[i]? = some b → m'[i]? = some b) → RepO K L' m' H' ho o) : Abs K F (m ++ [p]) σ (upd H p ho) δ (η ++ [some o]) := by
  have e := ext_newH (ho := ho) (o := o) a.toAbsH hp
  have pr : ∀ (i : Nat) (b : Addr), m[i]? = some b → (m ++ [p])[i]? = some b := fun i b q => pre_get e.pre q
  refine ⟨⟨by simp [a.len], nodup_snoc a.nd (a.fresh hp), fun b hb => ?_, fun b hb => trk_upd (a.zt b hb), fun b hb z => ?_, fun i b u h1 h2 => ?_⟩, a.sl, fun i x h => ?_, a.fr.trans e.kp, ?_⟩
  · rcases List.mem_append.mp hb with hb | hb
    · exact trk_upd (a.trk b hb)
    · have : b = p := by simpa using hb
      subst this
      exact ⟨ho, upd_same⟩
  · rcases List.mem_append.mp hb with hb | hb
    · exact a.zd b hb z
    · have : b = p := by simpa using hb
      subst this
      obtain ⟨o, e⟩ := a.zt b z
      rw [hp] at e
      cases e
  · by_cases hi : i < m.length
    · rw [List.getElem?_append_left hi] at h1
      rw [List.getElem?_append_left (by rw [← a.len]; exact hi)] at h2
      obtain ⟨hb, q, r⟩ := a.obj i b u h1 h2
      exact ⟨hb, by rw [upd_ne (ne_of_none q hp)]; exact q, e.o r⟩
    · rw [List.getElem?_append_right (by omega)] at h1
      have z : i - m.length = 0 := by
        have := (List.getElem?_eq_some_iff.mp h1).1
        simp at this
        omega
      rw [z] at h1
      rw [List.getElem?_append_right (by rw [← a.len]; omega), ← a.len, z] at h2
      have e1 : p = b := Option.some.inj h1
      have e2 : o = u := Option.some.inj (Option.some.inj h2)
      subst e1; subst e2
      exact ⟨ho, upd_same, r _ _ _ (e.lv F.Z) pr⟩
  · obtain ⟨v, h1, h2⟩ := a.slot i x h
    exact ⟨v, h1, e.a h2⟩
  · obtain ⟨q, h⟩ := a.pre
    exact ⟨q ++ [p], by rw [h, List.append_assoc]⟩
/-- a mutable object is written -/
theorem live_set {i : Nat} {o o' : O} {b : Addr} (h : η[i]? = some (some o)) : Live m (η.set i (some o')) b ↔ Live m η b := by
  have hi := (List.getElem?_eq_some_iff.mp h).1
  constructor
  · rintro ⟨j, u, h1, h2⟩
    by_cases hj : i = j
    · subst hj
      exact ⟨i, o, h1, h⟩
    · rw [List.getElem?_set_ne hj] at h2
      exact ⟨j, u, h1, h2⟩
  · rintro ⟨j, u, h1, h2⟩
    by_cases hj : i = j
    · subst hj
      exact ⟨i, o', h1, by rw [List.getElem?_set_self hi]⟩
    · exact ⟨j, u, h1, by rw [List.getElem?_set_ne hj]; exact h2⟩
theorem ext_set {i : Nat} {p : Addr} {o o' : O} {ho : HO} (hm : m[i]? = some p) (h : η[i]? = some (some o)) : Ext m H η m (upd H p ho) (η.set i (some o')) :=
  ⟨⟨[], by simp⟩, ⟨fun b u hb n => by
    rw [upd_ne]
    · exact hb
    · rintro rfl
      exact n ⟨i, o, hm, h⟩, fun b u hb n q => n ((live_set h).mp q)⟩⟩
theorem Abs.set {i : Nat} {p : Addr} {o o' : O} {ho : HO} (a : Abs K F m σ H δ η) (hm : m[i]? = some p) (h : η[i]? = some (some o)) (r : ∀ L' m' H', Kp (Lv F.Z m η) H L' H' → (∀ (i : Nat) (b : Addr), m[i]? = some b → m'[i]? = some b) → RepO K L' m' H' ho o') :
    Abs K F m σ (upd H p ho) δ (η.set i (some o')) := by
  have e := ext_set (H := H) (ho := ho) (o' := o') hm h
  have hi := (List.getElem?_eq_some_iff.mp h).1
  refine ⟨⟨by simp [a.len], a.nd, fun b hb => trk_upd (a.trk b hb), fun b hb => trk_upd (a.zt b hb), a.zd, fun j b u h1 h2 => ?_⟩, a.sl, fun j x h => ?_, a.fr.trans e.kp, a.pre⟩
  · by_cases hj : i = j
    · subst hj
      rw [List.getElem?_set_self hi] at h2
      rw [hm] at h1
      cases h1; cases h2
      exact ⟨ho, upd_same, r _ _ _ (e.lv F.Z) fun _ _ q => q⟩
    · rw [List.getElem?_set_ne hj] at h2
      obtain ⟨hb, q, r⟩ := a.obj j b u h1 h2
      refine ⟨hb, ?_, e.o r⟩
      rw [upd_ne]
      · exact q
      · rintro rfl
        obtain ⟨l1, e1⟩ := List.getElem?_eq_some_iff.mp hm
        obtain ⟨l2, e2⟩ := List.getElem?_eq_some_iff.mp h1
        exact hj ((List.getElem_inj a.nd).mp (e1.trans e2.symm))
  · obtain ⟨v, h1, h2⟩ := a.slot j x h
    exact ⟨v, h1, e.a h2⟩
/-- a name is stored -/
theorem Abs.store {i : Nat} {x : A} {v : V} (a : Abs K F m σ H δ η) (hi : i < δ.length) (r : RepA K (Lv F.Z m η) m H v x) : Abs K F m (σ.set i (some v)) H (δ.set i (some x)) η := by
  refine ⟨a.toAbsH, by simp [a.sl], fun j y h => ?_, a.fr, a.pre⟩
  by_cases hj : i = j
  · subst hj
    rw [List.getElem?_set_self hi] at h
    cases h
    exact ⟨v, by rw [List.getElem?_set_self (by rw [← a.sl]; exact hi)], r⟩
  · rw [List.getElem?_set_ne hj] at h
    obtain ⟨u, h1, h2⟩ := a.slot j y h
    exact ⟨u, by rw [List.getElem?_set_ne hj]; exact h1, h2⟩
end
end Y
set_option Elab.async false
set_option linter.all false
set_option maxRecDepth 100000
set_option maxHeartbeats 2000000
set_option autoImplicit false
/-! expressions -/
namespace Y
open PySem PySem.Spec PyProof.Rows L2

def wpE (X : Cx) (e : Expr) : TE := fun σ H R => ∀ (pins : List (Addr × Obj)) (s : Shared), Inv X pins σ H s → wpAny (model X.prog X.w) X.A (eval e X.env) (EP X pins σ R) X.xe s
theorem pe_wp {X : Cx} {e : Expr} : PE X e (wpE X e) := ⟨fun pins s σ H Q I h => h pins s I⟩
theorem wp_of {X : Cx} {e : Expr} {t : TE} (h : PE X e t) {σ : L2.St} {H : Hp} {R : VK} (q : t σ H R) : wpE X e σ H R := fun pins s I => h.run pins s σ H R I q
def wpT (X : Cx) (e : Expr) : TT := fun σ H R => ∀ (pins : List (Addr × Obj)) (s : Shared), Inv X pins σ H s → wpAny (model X.prog X.w) X.A (isTrue e X.env (eval e X.env)) (TP X pins σ R) X.xe s
theorem pt_wp {X : Cx} {e : Expr} : PT X e (wpT X e) := ⟨fun pins s σ H Q I h => h pins s I⟩
theorem wpt_of {X : Cx} {e : Expr} {t : TT} (h : PT X e t) {σ : L2.St} {H : Hp} {R : Bool → Hp → Prop} (q : t σ H R) : wpT X e σ H R := fun pins s I => h.run pins s σ H R I q

/-- what is wanted behind an expression -/
def Pst (K : PySem.W.Frag) (F : Fr0) (m : List Addr) (σ : L2.St) (H : Hp) (δ : Sl) (η : Hs) (Q : A → Hs → Prop) (R : VK) : Prop :=
  ∀ (v : V) (m' : List Addr) (H' : Hp) (x : A) (η' : Hs), Abs K F m' σ H' δ η' → Ext m H η m' H' η' → RepA K (Lv F.Z m' η') m' H' v x → Q x η' → R v H'
def PstT (K : PySem.W.Frag) (F : Fr0) (m : List Addr) (σ : L2.St) (H : Hp) (δ : Sl) (η : Hs) (Q : Bool → Hs → Prop) (R : Bool → Hp → Prop) : Prop :=
  ∀ (b : Bool) (m' : List Addr) (H' : Hp) (η' : Hs), Abs K F m' σ H' δ η' → Ext m H η m' H' η' → Q b η' → R b H'
def PstL (K : PySem.W.Frag) (F : Fr0) (m : List Addr) (σ : L2.St) (H : Hp) (δ : Sl) (η : Hs) (Q : List A → Hs → Prop) (R : List V → Hp → Prop) : Prop :=
  ∀ (v : List V) (m' : List Addr) (H' : Hp) (x : List A) (η' : Hs), Abs K F m' σ H' δ η' → Ext m H η m' H' η' → RepAs K (Lv F.Z m' η') m' H' v x → Q x η' → R v H'

/-- an exception as told -/
def XRep (K : PySem.W.Frag) (F : Fr0) (m : List Addr) (H : Hp) (cls : Value) (d : Option Addr) (x : XA) : Prop := cls = .ref x.C ∧ ∃ (dx : Addr) (fv : List (Str × V)), d = some dx ∧ ¬ Lv F.Z m x.η dx ∧ H dx = some (.xd fv) ∧ RepFs K (Lv F.Z m x.η) H fv x.fs
/-- the context takes what F wishes -/
def WXF (X : Cx) (F : Fr0) : WX := fun cls d σ H => ∃ (m : List Addr) (δ : Sl) (x : XA), Abs X.K F m σ H δ x.η ∧ XRep X.K F m H cls d x ∧ F.EX x δ
def XT (X : Cx) (F : Fr0) : Prop := Takes X (WXF X F)
/-- e, evaluated at slots δ and heap η, hands back something of which Q holds -/
def W (X : Cx) (F : Fr0) (e : Expr) (δ : Sl) (η : Hs) (Q : A → Hs → Prop) : Prop :=
  XT X F → ∀ (m : List Addr) (σ : L2.St) (H : Hp) (R : VK), Abs X.K F m σ H δ η → Pst X.K F m σ H δ η Q R → wpE X e σ H R
def WT (X : Cx) (F : Fr0) (e : Expr) (δ : Sl) (η : Hs) (Q : Bool → Hs → Prop) : Prop :=
  XT X F → ∀ (m : List Addr) (σ : L2.St) (H : Hp) (R : Bool → Hp → Prop), Abs X.K F m σ H δ η → PstT X.K F m σ H δ η Q R → wpT X e σ H R
/-- an argument list -/
def WL (X : Cx) (F : Fr0) (es : List Expr) (δ : Sl) (η : Hs) (Q : List A → Hs → Prop) : Prop :=
  ∃ t, PA X es t ∧ (XT X F → ∀ (m : List Addr) (σ : L2.St) (H : Hp) (R : List V → Hp → Prop), Abs X.K F m σ H δ η → PstL X.K F m σ H δ η Q R → t σ H R)
/-- f of two values -/
def Op2 (X : Cx) (F : Fr0) (f : Value → Value → Sem Value) (x y : A) (δ : Sl) (η : Hs) (Q : A → Hs → Prop) : Prop :=
  ∀ (m : List Addr) (σ : L2.St) (H : Hp) (R : VK) (v u : V), Abs X.K F m σ H δ η → RepA X.K (Lv F.Z m η) m H v x → RepA X.K (Lv F.Z m η) m H u y → Pst X.K F m σ H δ η Q R → ∃ r, OpR X f r ∧ r v u H R
def Op1 (X : Cx) (F : Fr0) (f : Value → Sem Value) (x : A) (δ : Sl) (η : Hs) (Q : A → Hs → Prop) : Prop :=
  ∀ (m : List Addr) (σ : L2.St) (H : Hp) (R : VK) (v : V), Abs X.K F m σ H δ η → RepA X.K (Lv F.Z m η) m H v x → Pst X.K F m σ H δ η Q R → ∃ r, UnR X f r ∧ r v H R
def Ix2 (X : Cx) (F : Fr0) (x y : A) (δ : Sl) (η : Hs) (Q : A → Hs → Prop) : Prop :=
  ∀ (m : List Addr) (σ : L2.St) (H : Hp) (R : VK) (v u : V), Abs X.K F m σ H δ η → RepA X.K (Lv F.Z m η) m H v x → RepA X.K (Lv F.Z m η) m H u y → Pst X.K F m σ H δ η Q R → ∃ r, IxR X r ∧ r v u H R
/-- a call of the value f -/
def CallJ (X : Cx) (F : Fr0) (f : Value) (xs : List A) (δ : Sl) (η : Hs) (Q : A → Hs → Prop) : Prop :=
  ∀ (m : List Addr) (σ : L2.St) (H : Hp) (R : VK) (vs : List V), Abs X.K F m σ H δ η → RepAs X.K (Lv F.Z m η) m H vs xs → Pst X.K F m σ H δ η Q R → ∃ r, CallR X f r ∧ r vs H R
/-- truth -/
def Tru (X : Cx) (F : Fr0) (x : A) (δ : Sl) (η : Hs) (Q : Bool → Hs → Prop) : Prop :=
  ∀ (m : List Addr) (σ : L2.St) (H : Hp) (R : Bool → Hp → Prop) (v : V), Abs X.K F m σ H δ η → RepA X.K (Lv F.Z m η) m H v x → PstT X.K F m σ H δ η Q R → ∃ k, TruV X.K v H k ∧ R k H

section
variable {X : Cx} {F : Fr0} {δ : Sl} {η : Hs} {Q : A → Hs → Prop}
theorem Pst.after {K : PySem.W.Frag} {m m1 : List Addr} {σ : L2.St} {H H1 : Hp} {η1 : Hs} {R : VK} (p : Pst K F m σ H δ η Q R) (e : Ext m H η m1 H1 η1) : Pst K F m1 σ H1 δ η1 Q R :=
  fun v m' H' x η' ab ex r q => p v m' H' x η' ab (e.trans ex) r q
theorem PstT.after {K : PySem.W.Frag} {m m1 : List Addr} {σ : L2.St} {H H1 : Hp} {η1 : Hs} {Q : Bool → Hs → Prop} {R : Bool → Hp → Prop} (p : PstT K F m σ H δ η Q R) (e : Ext m H η m1 H1 η1) : PstT K F m1 σ H1 δ η1 Q R :=
  fun b m' H' η' ab ex q => p b m' H' η' ab (e.trans ex) q
theorem PstL.after {K : PySem.W.Frag} {m m1 : List Addr} {σ : L2.St} {H H1 : Hp} {η1 : Hs} {Q : List A → Hs → Prop} {R : List V → Hp → Prop} (p : PstL K F m σ H δ η Q R) (e : Ext m H η m1 H1 η1) : PstL K F m1 σ H1 δ η1 Q R :=
  fun v m' H' x η' ab ex r q => p v m' H' x η' ab (e.trans ex) r q
theorem W.mono {e : Expr} {Q' : A → Hs → Prop} (h : W X F e δ η Q) (k : ∀ x η', Q x η' → Q' x η') : W X F e δ η Q' := fun xt m σ H R ab po => h xt m σ H R ab fun v m' H' x η' a b c q => po v m' H' x η' a b c (k _ _ q)
theorem WT.mono {e : Expr} {Q Q' : Bool → Hs → Prop} (h : WT X F e δ η Q) (k : ∀ x η', Q x η' → Q' x η') : WT X F e δ η Q' := fun xt m σ H R ab po => h xt m σ H R ab fun b m' H' η' a c q => po b m' H' η' a c (k _ _ q)

/-! ### names, constants -/
class SlotG (N : List Str) (δ : Sl) (n : Str) (a : outParam A) : Prop where
  ex : ∃ i : Nat, N[i]? = some n ∧ δ[i]? = some (some a)
instance slotG_head {N : List Str} {δ : Sl} {n : Str} {a : A} : SlotG (n :: N) (some a :: δ) n a := ⟨0, rfl, rfl⟩
instance (priority := low) slotG_tail {N : List Str} {δ : Sl} {n m : Str} {a : A} {b : Option A} [h : SlotG N δ n a] : SlotG (m :: N) (b :: δ) n a := by
  obtain ⟨i, h1, h2⟩ := h.ex
  exact ⟨i + 1, h1, h2⟩
class SlotS (N : List Str) (δ : Sl) (n : Str) (a : A) (δ' : outParam Sl) : Prop where
  ex : ∃ i : Nat, N[i]? = some n ∧ i < δ.length ∧ δ' = δ.set i (some a)
instance slotS_head {N : List Str} {δ : Sl} {n : Str} {a : A} {b : Option A} : SlotS (n :: N) (b :: δ) n a (some a :: δ) := ⟨0, rfl, by simp, rfl⟩
instance (priority := low) slotS_tail {N : List Str} {δ δ' : Sl} {n m : Str} {a : A} {b : Option A} [h : SlotS N δ n a δ'] : SlotS (m :: N) (b :: δ) n a (b :: δ') := by
  obtain ⟨i, h1, h2, h3⟩ := h.ex
  exact ⟨i + 1, h1, by simpa using h2, by rw [h3]; rfl⟩
class Mem (x : Str) (l : List Str) : Prop where
  mem : x ∈ l
instance mem_head {x : Str} {l : List Str} : Mem x (x :: l) := ⟨List.mem_cons_self⟩
instance (priority := low) mem_tail {x y : Str} {l : List Str} [h : Mem x l] : Mem x (y :: l) := ⟨List.mem_cons_of_mem _ h.mem⟩

/-- the slots' names N, those that may be read V, stored S, the global names G -/
class Cfg (X : Cx) (N U S G : outParam (List Str)) : Prop where
  ns : X.N = N
  nd : N.Nodup
  vi : ∀ x ∈ U, Vis X.env.scope x
  st : ∀ x ∈ S, Loc X.env.scope x ∧ (X.fn x = true ∨ X.env.scope.names.lookup x = some .local)
  glo : ∀ x ∈ G, X.env.scope.names.lookup x = some .globalImplicit
  dbg : ∀ x ∈ U ++ G, (x == ("__debug__" : Str)) = false ∧ (x == ("__classdict__" : Str)) = false ∧ x ≠ "__name__"
/-- built-in names that the module does not have -/
class Blt (X : Cx) (L : outParam (List Str)) : Prop where
  no : ∀ x ∈ L, X.mg x = none
class GRef (X : Cx) (n : Str) (a : outParam Addr) : Prop where
  eq : X.mg n = some (.ref a)
class BootB (n : Str) (id : outParam String) : Prop where
  eq : bootBuiltins n = some (.builtin id)
class BootT (n : Str) (T : outParam String) : Prop where
  eq : bootBuiltins n = some (.type T)
instance : BootB "len" "len" := ⟨boot_len⟩
instance : BootB "abs" "abs" := ⟨by decide +kernel⟩
instance : BootB "max" "max" := ⟨by decide +kernel⟩
instance : BootB "min" "min" := ⟨by decide +kernel⟩
instance : BootB "all" "all" := ⟨by decide +kernel⟩
instance : BootB "any" "any" := ⟨by decide +kernel⟩
instance : BootB "sum" "sum" := ⟨by decide +kernel⟩
instance : BootB "isinstance" "isinstance" := ⟨by decide +kernel⟩
instance : BootT "int" "int" := ⟨by decide +kernel⟩
instance : BootT "str" "str" := ⟨by decide +kernel⟩
instance : BootT "bool" "bool" := ⟨by decide +kernel⟩
instance : BootT "list" "list" := ⟨by decide +kernel⟩
instance : BootT "tuple" "tuple" := ⟨by decide +kernel⟩
instance : BootT "dict" "dict" := ⟨by decide +kernel⟩
instance : BootT "range" "range" := ⟨by decide +kernel⟩
instance : BootT "ValueError" "ValueError" := ⟨by decide +kernel⟩
variable {N U S G : List Str}
theorem Cfg.gl (C : Cfg X N U S G) {x : Str} (h : x ∈ G) : Gl X x := C.glo x h

theorem w_name {n : Str} {pos : Pos} {a : A} [C : Cfg X N U S G] [s : SlotG N δ n a] [mv : Mem n U] (q : Q a η) : W X F (.Name n pos) δ η Q := by
  intro xt m σ H R ab po
  obtain ⟨i, h1, h2⟩ := s.ex
  have hd := C.dbg n (List.mem_append_left _ mv.mem)
  refine wp_of (pe_var (i := i) (by rw [C.ns]; exact h1) (C.vi n mv.mem) hd.1 hd.2.1) ?_
  obtain ⟨v, e, r⟩ := ab.slot i a h2
  exact ⟨v, e, po v m H a η ab .refl r q⟩
theorem rep_int {K : PySem.W.Frag} {L : Addr → Prop} {m : List Addr} {H : Hp} {v : V} {i : Int} : RepA K L m H v (.d (.int i)) ↔ v = .int i := by unfold RepA RepD; exact Iff.rfl
theorem rep_bl {K : PySem.W.Frag} {L : Addr → Prop} {m : List Addr} {H : Hp} {v : V} {i : Bool} : RepA K L m H v (.d (.bl i)) ↔ v = .bl i := by unfold RepA RepD; exact Iff.rfl
theorem rep_str {K : PySem.W.Frag} {L : Addr → Prop} {m : List Addr} {H : Hp} {v : V} {i : Str} : RepA K L m H v (.d (.str i)) ↔ v = .str i := by unfold RepA RepD; exact Iff.rfl
theorem rep_non {K : PySem.W.Frag} {L : Addr → Prop} {m : List Addr} {H : Hp} {v : V} : RepA K L m H v (.d .non) ↔ v = .non := by unfold RepA RepD; exact Iff.rfl
theorem rep_ref {K : PySem.W.Frag} {L : Addr → Prop} {m : List Addr} {H : Hp} {v : V} {a : Addr} : RepA K L m H v (.d (.ref a)) ↔ v = .ref a := by unfold RepA RepD; exact Iff.rfl
theorem rep_ty {K : PySem.W.Frag} {L : Addr → Prop} {m : List Addr} {H : Hp} {v : V} {a : String} : RepA K L m H v (.d (.ty a)) ↔ v = .ty a := by unfold RepA RepD; exact Iff.rfl
theorem rep_tup {K : PySem.W.Frag} {L : Addr → Prop} {m : List Addr} {H : Hp} {v : V} {xs : List D} : RepA K L m H v (.d (.tup xs)) ↔ ∃ a vs, v = .ref a ∧ SqTL K L H a vs ∧ RepDs K L H vs xs := by unfold RepA RepD; exact Iff.rfl
theorem rep_lst {K : PySem.W.Frag} {L : Addr → Prop} {m : List Addr} {H : Hp} {v : V} {xs : List D} : RepA K L m H v (.d (.lst xs)) ↔ ∃ a vs, v = .ref a ∧ SqLL K L H a vs ∧ RepDs K L H vs xs := by unfold RepA RepD; exact Iff.rfl
theorem rep_ins {K : PySem.W.Frag} {L : Addr → Prop} {m : List Addr} {H : Hp} {v : V} {C : Addr} {fs : List (Str × D)} : RepA K L m H v (.d (.ins C fs)) ↔ ∃ a dx fv, v = .ref a ∧ ¬ L a ∧ H a = some (.ins C dx fv) ∧ RepFs K L H fv fs := by unfold RepA RepD; exact Iff.rfl
theorem rep_exc {K : PySem.W.Frag} {L : Addr → Prop} {m : List Addr} {H : Hp} {v : V} {a C dx : Addr} {fs : List (Str × D)} : RepA K L m H v (.d (.exc a C dx fs)) ↔ v = .ref a ∧ ¬ L dx ∧ ∃ fv, H dx = some (.xd fv) ∧ RepFs K L H fv fs := by unfold RepA RepD; exact Iff.rfl
theorem rep_h {K : PySem.W.Frag} {L : Addr → Prop} {m : List Addr} {H : Hp} {v : V} {i : Nat} : RepA K L m H v (.h i) ↔ ∃ a, m[i]? = some a ∧ v = .ref a := by unfold RepA; exact Iff.rfl
theorem rep_d {K : PySem.W.Frag} {L : Addr → Prop} {m : List Addr} {H : Hp} {v : V} {x : D} : RepA K L m H v (.d x) ↔ RepD K L H v x := by unfold RepA; exact Iff.rfl
theorem rep_t {K : PySem.W.Frag} {L : Addr → Prop} {m : List Addr} {H : Hp} {v : V} {xs : List A} : RepA K L m H v (.t xs) ↔ ∃ a vs, v = .ref a ∧ SqTL K L H a vs ∧ RepAs K L m H vs xs := by unfold RepA; exact Iff.rfl

theorem w_int {i : Int} {j : Nat} {pos : Pos} (q : Q (.d (.int i)) η) : W X F (.Constant (.int i) j pos) δ η Q := fun xt m σ H R ab po => wp_of pe_int (po _ m H _ η ab .refl (rep_int.mpr rfl) q)
theorem w_bl {i : Bool} {j : Nat} {pos : Pos} (q : Q (.d (.bl i)) η) : W X F (.Constant (.bool i) j pos) δ η Q := fun xt m σ H R ab po => wp_of pe_bl (po _ m H _ η ab .refl (rep_bl.mpr rfl) q)
theorem w_str {i : Str} {j : Nat} {pos : Pos} (q : Q (.d (.str i)) η) : W X F (.Constant (.str i) j pos) δ η Q := fun xt m σ H R ab po => wp_of pe_str (po _ m H _ η ab .refl (rep_str.mpr rfl) q)
theorem w_non {j : Nat} {pos : Pos} (q : Q (.d .non) η) : W X F (.Constant .none j pos) δ η Q := fun xt m σ H R ab po => wp_of pe_non (po _ m H _ η ab .refl (rep_non.mpr rfl) q)
/-- a class or def of the module as a value -/
theorem w_glob {n : Str} {pos : Pos} {a : Addr} [C : Cfg X N U S G] [hm : GRef X n a] [g : Mem n G] (q : Q (.d (.ref a)) η) : W X F (.Name n pos) δ η Q := fun xt m σ H R ab po =>
  wp_of (pe_glob (C.gl g.mem) hm.eq (v := .ref a) rfl (C.dbg n (List.mem_append_right _ g.mem)).1) (po _ m H _ η ab .refl (rep_ref.mpr rfl) q)
/-- a built-in class as a value -/
theorem w_bty {n : Str} {pos : Pos} {T : String} {BL : List Str} [C : Cfg X N U S G] [bl : Blt X BL] [mb : Mem n BL] [hv : BootT n T] [g : Mem n G] (q : Q (.d (.ty T)) η) : W X F (.Name n pos) δ η Q := fun xt m σ H R ab po => by
  have hd := C.dbg n (List.mem_append_right _ g.mem)
  exact wp_of (pe_bltn (v := .ty T) (C.gl g.mem) (bl.no n mb.mem) hv.eq rfl hd.2.2 hd.1) (po _ m H _ η ab .refl (rep_ty.mpr rfl) q)

/-! ### operators -/
def rU2 (X : Cx) (f : Value → Value → Sem Value) : R2 := fun v u H R => ∃ r, OpR X f r ∧ r v u H R
theorem opU {f : Value → Value → Sem Value} : OpR X f (rU2 X f) := by
  intro pins s σ H x y v u Q I r1 r2 ⟨r, h1, h2⟩
  exact h1 pins s σ H x y v u Q I r1 r2 h2
def rU1 (X : Cx) (f : Value → Sem Value) : V → Hp → VK → Prop := fun v H R => ∃ r, UnR X f r ∧ r v H R
theorem opU1 {f : Value → Sem Value} : UnR X f (rU1 X f) := by
  intro pins s σ H x v Q I r1 ⟨r, h1, h2⟩
  exact h1 pins s σ H x v Q I r1 h2
def rUI (X : Cx) : R2 := fun v u H R => ∃ r, IxR X r ∧ r v u H R
theorem opUI : IxR X (rUI X) := by
  intro e1 e2 pins s σ H x y v u Q I r1 r2 ⟨r, h1, h2⟩
  exact h1 e1 e2 pins s σ H x y v u Q I r1 r2 h2
def rUC (X : Cx) (f : Value) : List V → Hp → VK → Prop := fun vs H R => ∃ r, CallR X f r ∧ r vs H R
theorem opUC {f : Value} : CallR X f (rUC X f) := by
  intro pins s σ H xs us Q I r1 ⟨r, h1, h2⟩
  exact h1 pins s σ H xs us Q I r1 h2

theorem w_bin {a b : Expr} {op : Operator} {pos : Pos} (h : W X F a δ η fun x η1 => W X F b δ η1 fun y η2 => Op2 X F (binaryOp op) x y δ η2 Q) : W X F (.BinOp a op b pos) δ η Q := fun xt m σ H R ab po =>
  wp_of (pe_op opU pe_wp pe_wp) (h xt m σ H _ ab fun _ m1 H1 _ _ ab1 e1 r1 hb => hb xt m1 σ H1 _ ab1 fun _ m2 H2 _ _ ab2 e2 r2 ho => ho m2 σ H2 R _ _ ab2 (e2.a r1) r2 (po.after (e1.trans e2)))
theorem w_un {a : Expr} {op : UnaryOp} {pos : Pos} (h : W X F a δ η fun x η1 => Op1 X F (unaryOp op) x δ η1 Q) : W X F (.UnaryOp op a pos) δ η Q := fun xt m σ H R ab po =>
  wp_of (pe_un opU1 pe_wp) (h xt m σ H _ ab fun _ m1 H1 _ _ ab1 e1 r1 ho => ho m1 σ H1 R _ ab1 r1 (po.after e1))
theorem w_cmp {a b : Expr} {op : CmpOp} {pos : Pos} (h : W X F a δ η fun x η1 => W X F b δ η1 fun y η2 => Op2 X F (compareOp op) x y δ η2 Q) (hm : behindInMarks op b = false) : W X F (.Compare a [op] [b] pos) δ η Q := fun xt m σ H R ab po =>
  wp_of (pe_cmpR opU pe_wp pe_wp hm) (h xt m σ H _ ab fun _ m1 H1 _ _ ab1 e1 r1 hb => hb xt m1 σ H1 _ ab1 fun _ m2 H2 _ _ ab2 e2 r2 ho => ho m2 σ H2 R _ _ ab2 (e2.a r1) r2 (po.after (e1.trans e2)))
/-- a truth value is wanted -/
def isB (Q : Bool → Hs → Prop) : A → Hs → Prop := fun x η => ∃ b, x = .d (.bl b) ∧ Q b η
theorem Pst.ofT {K : PySem.W.Frag} {m : List Addr} {σ : L2.St} {H : Hp} {Q : Bool → Hs → Prop} {R : Bool → Hp → Prop} (p : PstT K F m σ H δ η Q R) : Pst K F m σ H δ η (isB Q) fun x H' => ∃ k, x = .bl k ∧ R k H' := by
  intro v m' H' x η' ab e r ⟨b, e1, q⟩
  subst e1
  exact ⟨b, rep_bl.mp r, p b m' H' η' ab e q⟩
theorem wt_cmp {a b : Expr} {op : CmpOp} {pos : Pos} {Q : Bool → Hs → Prop} (h : W X F a δ η fun x η1 => W X F b δ η1 fun y η2 => Op2 X F (compareOp op) x y δ η2 (isB Q)) (hm : behindInMarks op b = false) : WT X F (.Compare a [op] [b] pos) δ η Q := fun xt m σ H R ab po =>
  wpt_of (pt_cmpR opU pe_wp pe_wp hm) (h xt m σ H _ ab fun _ m1 H1 _ _ ab1 e1 r1 hb => hb xt m1 σ H1 _ ab1 fun _ m2 H2 _ _ ab2 e2 r2 ho => ho m2 σ H2 _ _ _ ab2 (e2.a r1) r2 ((Pst.ofT po).after (e1.trans e2)))
/-- a < b < c -/
theorem w_chain {a b c : Expr} {op op' : CmpOp} {pos : Pos} (h : W X F a δ η fun x η1 => W X F b δ η1 fun y η2 => Op2 X F (compareOp op) x y δ η2 (isB fun k η3 => if k = true then W X F c δ η3 fun z η4 => Op2 X F (compareOp op') y z δ η4 Q else Q (.d (.bl false)) η3))
    (hm : lastMarks [op, op'] [b, c] = false) : W X F (.Compare a [op, op'] [b, c] pos) δ η Q := fun xt m σ H R ab po =>
  wp_of (pe_chain opU opU pe_wp pe_wp pe_wp hm) (h xt m σ H _ ab fun _ m1 H1 _ _ ab1 e1 r1 hb => hb xt m1 σ H1 _ ab1 fun _ m2 H2 _ _ ab2 e2 r2 ho => ho m2 σ H2 _ _ _ ab2 (e2.a r1) r2 fun v m3 H3 x η3 ab3 e3 r3 ⟨k, e, q⟩ => by
    subst e
    refine ⟨k, rep_bl.mp r3, ?_⟩
    cases k with
    | true =>
      rw [if_pos rfl] at q ⊢
      exact q xt m3 σ H3 _ ab3 fun _ m4 H4 _ _ ab4 e4 r4 ho4 => ho4 m4 σ H4 R _ _ ab4 ((e3.trans e4).a r2) r4 (po.after (((e1.trans e2).trans e3).trans e4))
    | false =>
      rw [if_neg Bool.false_ne_true] at q ⊢
      exact po _ m3 H3 _ η3 ab3 ((e1.trans e2).trans e3) (rep_bl.mpr rfl) q)
theorem wt_chain {a b c : Expr} {op op' : CmpOp} {pos : Pos} {Q : Bool → Hs → Prop} (h : W X F a δ η fun x η1 => W X F b δ η1 fun y η2 => Op2 X F (compareOp op) x y δ η2 (isB fun k η3 => if k = true then W X F c δ η3 fun z η4 => Op2 X F (compareOp op') y z δ η4 (isB Q) else Q false η3))
    (hm : lastMarks [op, op'] [b, c] = false) : WT X F (.Compare a [op, op'] [b, c] pos) δ η Q := fun xt m σ H R ab po =>
  wpt_of (pt_chain opU opU pe_wp pe_wp pe_wp hm) (h xt m σ H _ ab fun _ m1 H1 _ _ ab1 e1 r1 hb => hb xt m1 σ H1 _ ab1 fun _ m2 H2 _ _ ab2 e2 r2 ho => ho m2 σ H2 _ _ _ ab2 (e2.a r1) r2 fun v m3 H3 x η3 ab3 e3 r3 ⟨k, e, q⟩ => by
    subst e
    refine ⟨k, rep_bl.mp r3, ?_⟩
    cases k with
    | true =>
      rw [if_pos rfl] at q ⊢
      exact q xt m3 σ H3 _ ab3 fun _ m4 H4 _ _ ab4 e4 r4 ho4 => ho4 m4 σ H4 _ _ _ ab4 ((e3.trans e4).a r2) r4 ((Pst.ofT po).after (((e1.trans e2).trans e3).trans e4))
    | false =>
      rw [if_neg Bool.false_ne_true] at q ⊢
      exact ⟨false, rfl, po _ m3 H3 η3 ab3 ((e1.trans e2).trans e3) q⟩)
/-- a value as a test: a bool -/
theorem wt_val {e : Expr} {Q : Bool → Hs → Prop} (h : W X F e δ η (isB Q)) (he : ∀ whole, isTrue e X.env whole = (do let v ← whole; standAt e.pos; holding [v] (truthy v))) : WT X F e δ η Q := fun xt m σ H R ab po =>
  wpt_of (pt_val pe_wp he) (h xt m σ H _ ab (Pst.ofT po))
/-- any value as a test -/
theorem wt_truth {e : Expr} {Q : Bool → Hs → Prop} (h : W X F e δ η fun x η1 => Tru X F x δ η1 Q) (he : ∀ whole, isTrue e X.env whole = (do let v ← whole; standAt e.pos; holding [v] (truthy v))) : WT X F e δ η Q := fun xt m σ H R ab po =>
  wpt_of (pt_truth pe_wp he) (h xt m σ H _ ab fun _ m1 H1 _ _ ab1 e1 r1 ht => ht m1 σ H1 R _ ab1 r1 (po.after e1))
theorem wt_not {e : Expr} {pos : Pos} {Q : Bool → Hs → Prop} (h : WT X F e δ η fun b η1 => Q (!b) η1) : WT X F (.UnaryOp .Not e pos) δ η Q := fun xt m σ H R ab po =>
  wpt_of (pt_not pt_wp) (h xt m σ H _ ab fun b m1 H1 η1 ab1 e1 q => po (!b) m1 H1 η1 ab1 e1 q)
/-- and, or as tests, whatever the whole is -/
def WW (X : Cx) (F : Fr0) (e : Expr) (δ : Sl) (η : Hs) (Q : Bool → Hs → Prop) : Prop :=
  ∃ t, PW X e t ∧ (XT X F → ∀ (m : List Addr) (σ : L2.St) (H : Hp) (R : Bool → Hp → Prop), Abs X.K F m σ H δ η → PstT X.K F m σ H δ η Q R → t σ H R)
end
/-- the universal reading of and, or -/
def tW (X : Cx) (e : Expr) : TT := fun σ H R => ∃ t, PW X e t ∧ t σ H R
theorem pw_wp {X : Cx} {e : Expr} : PW X e (tW X e) := ⟨fun wh pins s σ H Q I ⟨t, h, q⟩ => h.run wh pins s σ H Q I q⟩
section
variable {X : Cx} {F : Fr0} {δ : Sl} {η : Hs} {Q : A → Hs → Prop} {N U S G : List Str}
theorem WW.go {e : Expr} {Q : Bool → Hs → Prop} (h : WW X F e δ η Q) (xt : XT X F) {m : List Addr} {σ : L2.St} {H : Hp} {R : Bool → Hp → Prop} (ab : Abs X.K F m σ H δ η) (po : PstT X.K F m σ H δ η Q R) : tW X e σ H R := by
  obtain ⟨t, h1, h2⟩ := h
  exact ⟨t, h1, h2 xt m σ H R ab po⟩
theorem wt_of {e : Expr} {Q : Bool → Hs → Prop} (h : WW X F e δ η Q) : WT X F e δ η Q := fun xt m σ H R ab po => wpt_of pw_wp.pt (h.go xt ab po)
theorem ww_and1 {a : Expr} {pos : Pos} {Q : Bool → Hs → Prop} (h : WT X F a δ η Q) : WW X F (.BoolOp .And [a] pos) δ η Q := ⟨_, pw_and1 pt_wp, h⟩
theorem ww_or1 {a : Expr} {pos : Pos} {Q : Bool → Hs → Prop} (h : WT X F a δ η Q) : WW X F (.BoolOp .Or [a] pos) δ η Q := ⟨_, pw_or1 pt_wp, h⟩
theorem ww_and {a b : Expr} {r : List Expr} {pos : Pos} {Q : Bool → Hs → Prop} (h : WT X F a δ η fun k η1 => if k = true then WW X F (.BoolOp .And (b :: r) pos) δ η1 Q else Q false η1) : WW X F (.BoolOp .And (a :: b :: r) pos) δ η Q :=
  ⟨_, pw_and pt_wp pw_wp, fun xt m σ H R ab po => h xt m σ H _ ab fun k m1 H1 η1 ab1 e1 q => by
    cases k with
    | true =>
      rw [if_pos rfl] at q ⊢
      exact q.go xt ab1 (po.after e1)
    | false =>
      rw [if_neg Bool.false_ne_true] at q ⊢
      exact po _ m1 H1 η1 ab1 e1 q⟩
theorem ww_or {a b : Expr} {r : List Expr} {pos : Pos} {Q : Bool → Hs → Prop} (h : WT X F a δ η fun k η1 => if k = true then Q true η1 else WW X F (.BoolOp .Or (b :: r) pos) δ η1 Q) : WW X F (.BoolOp .Or (a :: b :: r) pos) δ η Q :=
  ⟨_, pw_or pt_wp pw_wp, fun xt m σ H R ab po => h xt m σ H _ ab fun k m1 H1 η1 ab1 e1 q => by
    cases k with
    | false =>
      rw [if_neg Bool.false_ne_true] at q ⊢
      exact q.go xt ab1 (po.after e1)
    | true =>
      rw [if_pos rfl] at q ⊢
      exact po _ m1 H1 η1 ab1 e1 q⟩
/-- and, or, not as values -/
theorem w_one {a : Expr} {op : BoolOp} {pos : Pos} (h : W X F a δ η Q) : W X F (.BoolOp op [a] pos) δ η Q := fun xt m σ H R ab po => wp_of (pe_one pe_wp) (h xt m σ H R ab po)
theorem w_and {a b : Expr} {r : List Expr} {pos : Pos} (h : W X F a δ η (isB fun k η1 => if k = true then W X F (.BoolOp .And (b :: r) pos) δ η1 Q else Q (.d (.bl false)) η1)) : W X F (.BoolOp .And (a :: b :: r) pos) δ η Q := fun xt m σ H R ab po =>
  wp_of (pe_and pe_wp pe_wp) (h xt m σ H _ ab fun v m1 H1 x η1 ab1 e1 r1 ⟨k, e, q⟩ => by
    subst e
    refine ⟨k, rep_bl.mp r1, ?_⟩
    cases k with
    | true =>
      rw [if_pos rfl] at q ⊢
      exact q xt m1 σ H1 R ab1 (po.after e1)
    | false =>
      rw [if_neg Bool.false_ne_true] at q ⊢
      exact po _ m1 H1 _ η1 ab1 e1 (rep_bl.mpr rfl) q)
theorem w_or {a b : Expr} {r : List Expr} {pos : Pos} (h : W X F a δ η (isB fun k η1 => if k = true then Q (.d (.bl true)) η1 else W X F (.BoolOp .Or (b :: r) pos) δ η1 Q)) : W X F (.BoolOp .Or (a :: b :: r) pos) δ η Q := fun xt m σ H R ab po =>
  wp_of (pe_or pe_wp pe_wp) (h xt m σ H _ ab fun v m1 H1 x η1 ab1 e1 r1 ⟨k, e, q⟩ => by
    subst e
    refine ⟨k, rep_bl.mp r1, ?_⟩
    cases k with
    | false =>
      rw [if_neg Bool.false_ne_true] at q ⊢
      exact q xt m1 σ H1 R ab1 (po.after e1)
    | true =>
      rw [if_pos rfl] at q ⊢
      exact po _ m1 H1 _ η1 ab1 e1 (rep_bl.mpr rfl) q)
theorem w_not {a : Expr} {pos : Pos} (h : W X F a δ η (isB fun k η1 => Q (.d (.bl (!k))) η1)) : W X F (.UnaryOp .Not a pos) δ η Q := fun xt m σ H R ab po =>
  wp_of (pe_not pe_wp) (h xt m σ H _ ab fun v m1 H1 x η1 ab1 e1 r1 ⟨k, e, q⟩ => by
    subst e
    exact ⟨k, rep_bl.mp r1, po _ m1 H1 _ η1 ab1 e1 (rep_bl.mpr rfl) q⟩)
theorem w_if {c a b : Expr} {pos : Pos} (h : WT X F c δ η fun k η1 => if k = true then W X F a δ η1 Q else W X F b δ η1 Q) : W X F (.IfExp c a b pos) δ η Q := fun xt m σ H R ab po =>
  wp_of (pe_ifExp pt_wp pe_wp pe_wp) (h xt m σ H _ ab fun k m1 H1 η1 ab1 e1 q => by
    cases k with
    | true =>
      rw [if_pos rfl] at q ⊢
      exact q xt m1 σ H1 R ab1 (po.after e1)
    | false =>
      rw [if_neg Bool.false_ne_true] at q ⊢
      exact q xt m1 σ H1 R ab1 (po.after e1))

/-! ### argument lists, displays -/
theorem reps_nil {K : PySem.W.Frag} {L : Addr → Prop} {m : List Addr} {H : Hp} {vs : List V} : RepAs K L m H vs [] ↔ vs = [] := by unfold RepAs; exact Iff.rfl
theorem reps_cons {K : PySem.W.Frag} {L : Addr → Prop} {m : List Addr} {H : Hp} {vs : List V} {x : A} {xs : List A} : RepAs K L m H vs (x :: xs) ↔ ∃ v r, vs = v :: r ∧ RepA K L m H v x ∧ RepAs K L m H r xs := by
  constructor
  · intro h; unfold RepAs at h; exact h
  · intro h; unfold RepAs; exact h
theorem repds_nil {K : PySem.W.Frag} {L : Addr → Prop} {H : Hp} {vs : List V} : RepDs K L H vs [] ↔ vs = [] := by unfold RepDs; exact Iff.rfl
theorem repds_cons {K : PySem.W.Frag} {L : Addr → Prop} {H : Hp} {vs : List V} {x : D} {xs : List D} : RepDs K L H vs (x :: xs) ↔ ∃ v r, vs = v :: r ∧ RepD K L H v x ∧ RepDs K L H r xs := by
  constructor
  · intro h; unfold RepDs at h; exact h
  · intro h; unfold RepDs; exact h
theorem RepDs.length {K : PySem.W.Frag} {L : Addr → Prop} {H : Hp} : ∀ {xs : List D} {vs : List V}, RepDs K L H vs xs → vs.length = xs.length
  | [], vs, h => by rw [repds_nil.mp h]; rfl
  | x :: xs, vs, h => by
    obtain ⟨v, r, rfl, _, h2⟩ := repds_cons.mp h
    rw [List.length_cons, List.length_cons, RepDs.length h2]
theorem RepAs.length {K : PySem.W.Frag} {L : Addr → Prop} {m : List Addr} {H : Hp} : ∀ {xs : List A} {vs : List V}, RepAs K L m H vs xs → vs.length = xs.length
  | [], vs, h => by rw [reps_nil.mp h]; rfl
  | x :: xs, vs, h => by
    obtain ⟨v, r, rfl, _, h2⟩ := reps_cons.mp h
    rw [List.length_cons, List.length_cons, RepAs.length h2]
theorem RepDs.get {K : PySem.W.Frag} {L : Addr → Prop} {H : Hp} : ∀ {xs : List D} {vs : List V} {i : Nat} {x : D}, RepDs K L H vs xs → xs[i]? = some x → ∃ v, vs[i]? = some v ∧ RepD K L H v x
  | [], _, i, _, _, e => by simp at e
  | y :: ys, vs, 0, x, h, e => by
    obtain ⟨v, r, rfl, h1, _⟩ := repds_cons.mp h
    have : y = x := by simpa using e
    subst this
    exact ⟨v, rfl, h1⟩
  | y :: ys, vs, i + 1, x, h, e => by
    obtain ⟨v, r, rfl, _, h2⟩ := repds_cons.mp h
    obtain ⟨u, h3, h4⟩ := RepDs.get (i := i) h2 (by simpa using e)
    exact ⟨u, by simpa using h3, h4⟩
theorem RepAs.get {K : PySem.W.Frag} {L : Addr → Prop} {m : List Addr} {H : Hp} : ∀ {xs : List A} {vs : List V} {i : Nat} {x : A}, RepAs K L m H vs xs → xs[i]? = some x → ∃ v, vs[i]? = some v ∧ RepA K L m H v x
  | [], _, i, _, _, e => by simp at e
  | y :: ys, vs, 0, x, h, e => by
    obtain ⟨v, r, rfl, h1, _⟩ := reps_cons.mp h
    have : y = x := by simpa using e
    subst this
    exact ⟨v, rfl, h1⟩
  | y :: ys, vs, i + 1, x, h, e => by
    obtain ⟨v, r, rfl, _, h2⟩ := reps_cons.mp h
    obtain ⟨u, h3, h4⟩ := RepAs.get (i := i) h2 (by simpa using e)
    exact ⟨u, by simpa using h3, h4⟩
/-- all of it is pure -/
def pures : List A → Option (List D)
  | [] => some []
  | .d x :: r => match pures r with
    | some xs => some (x :: xs)
    | none => none
  | _ :: _ => none
theorem pures_eq : ∀ {xs : List A} {ds : List D}, pures xs = some ds → xs = ds.map .d
  | [], ds, h => by
    have : ds = [] := by simpa [pures] using h.symm
    subst this
    rfl
  | .d x :: r, ds, h => by
    unfold pures at h
    cases e : pures r with
    | none => rw [e] at h; cases h
    | some ys =>
      rw [e] at h
      cases h
      rw [pures_eq e]
      rfl
  | .h i :: r, ds, h => by simp [pures] at h
  | .t ys :: r, ds, h => by simp [pures] at h
theorem reps_d {K : PySem.W.Frag} {L : Addr → Prop} {m : List Addr} {H : Hp} : ∀ {ds : List D} {vs : List V}, RepAs K L m H vs (ds.map .d) ↔ RepDs K L H vs ds
  | [], vs => by rw [List.map_nil, reps_nil, repds_nil]
  | x :: xs, vs => by
    rw [List.map_cons, reps_cons, repds_cons]
    constructor
    · rintro ⟨v, r, e, h1, h2⟩
      exact ⟨v, r, e, rep_d.mp h1, reps_d.mp h2⟩
    · rintro ⟨v, r, e, h1, h2⟩
      exact ⟨v, r, e, rep_d.mpr h1, reps_d.mpr h2⟩
/-- a tuple, a list, of these -/
def mkT (xs : List A) : A := match pures xs with
  | some ds => .d (.tup ds)
  | none => .t xs
def mkL (xs : List A) : O := match pures xs with
  | some ds => .lst ds
  | none => .lsA xs
def pushO : Hs → Option O → Option (Nat × Hs)
  | [], o => some (0, [o])
  | x :: r, o => match pushO r o with
    | some (k, ys) => some (k + 1, x :: ys)
    | none => none
theorem pushO_eq : ∀ (η : Hs) (o : Option O), pushO η o = some (η.length, η ++ [o])
  | [], o => rfl
  | x :: r, o => by
    unfold pushO
    rw [pushO_eq r o]
    rfl
theorem wl_nil {Q : List A → Hs → Prop} (q : Q [] η) : WL X F [] δ η Q := ⟨_, pa_nil, fun xt m σ H R ab po => po [] m H [] η ab .refl (reps_nil.mpr rfl) q⟩
def tL (X : Cx) (es : List Expr) : TA := fun σ H R => ∃ t, PA X es t ∧ t σ H R
theorem pa_wp {es : List Expr} : PA X es (tL X es) := ⟨fun pos pins s σ H Q I ⟨t, h, q⟩ => h.run pos pins s σ H Q I q⟩
theorem WL.go {es : List Expr} {Q : List A → Hs → Prop} (h : WL X F es δ η Q) (xt : XT X F) {m : List Addr} {σ : L2.St} {H : Hp} {R : List V → Hp → Prop} (ab : Abs X.K F m σ H δ η) (po : PstL X.K F m σ H δ η Q R) : tL X es σ H R := by
  obtain ⟨t, h1, h2⟩ := h
  exact ⟨t, h1, h2 xt m σ H R ab po⟩
theorem wl_cons {e : Expr} {es : List Expr} {Q : List A → Hs → Prop} (h : W X F e δ η fun x η1 => WL X F es δ η1 fun xs η2 => Q (x :: xs) η2) (hs : starEach (e :: es) X.env = (false, eval e X.env) :: starEach es X.env) : WL X F (e :: es) δ η Q :=
  ⟨_, pa_cons pe_wp pa_wp hs, fun xt m σ H R ab po => h xt m σ H _ ab fun v m1 H1 x η1 ab1 e1 r1 q => q.go xt ab1 fun vs m2 H2 xs η2 ab2 e2 r2 q2 => po (v :: vs) m2 H2 (x :: xs) η2 ab2 (e1.trans e2) (reps_cons.mpr ⟨v, vs, rfl, e2.a r1, r2⟩) q2⟩
theorem rep_mkT {K : PySem.W.Frag} {L : Addr → Prop} {m : List Addr} {H : Hp} {xs : List A} {a : Addr} {vs : List V} (s : SqTL K L H a vs) (r : RepAs K L m H vs xs) : RepA K L m H (.ref a) (mkT xs) := by
  unfold mkT
  cases e : pures xs with
  | none => exact rep_t.mpr ⟨a, vs, rfl, s, r⟩
  | some ds =>
    rw [pures_eq e] at r
    exact rep_tup.mpr ⟨a, vs, rfl, s, reps_d.mp r⟩
theorem rep_mkL {K : PySem.W.Frag} {L : Addr → Prop} {m : List Addr} {H : Hp} {xs : List A} {vs : List V} (r : RepAs K L m H vs xs) : RepO K L m H (.lst vs) (mkL xs) := by
  unfold mkL
  cases e : pures xs with
  | none =>
    unfold RepO
    exact ⟨vs, rfl, r⟩
  | some ds =>
    rw [pures_eq e] at r
    unfold RepO
    exact ⟨vs, rfl, reps_d.mp r⟩
/-- a new tuple laid -/
theorem Abs.tup {m : List Addr} {σ : L2.St} {H : Hp} {p : Addr} {vs : List V} {xs : List A} {K : PySem.W.Frag} (ab : Abs K F m σ H δ η) (hp : H p = none) (r : RepAs K (Lv F.Z m η) m H vs xs) : Abs K F m σ (upd H p (.tup vs)) δ η ∧ Ext m H η m (upd H p (.tup vs)) η ∧ RepA K (Lv F.Z m η) m (upd H p (.tup vs)) (.ref p) (mkT xs) := by
  have e := ext_new (ho := .tup vs) ab.toAbsH hp
  exact ⟨ab.new hp, e, rep_mkT (vs := vs) (.inl ⟨ab.off hp, .inl upd_same⟩) (e.as r)⟩
theorem w_tup {es : List Expr} {k : Nat} {pos : Pos} (h : WL X F es δ η fun xs η1 => xs.length ≤ sizeLine ∧ Q (mkT xs) η1) : W X F (.Tuple es k pos) δ η Q := fun xt m σ H R ab po =>
  wp_of (pe_tup pa_wp) (h.go xt ab fun vs m1 H1 xs η1 ab1 e1 r1 ⟨hl, q⟩ => ⟨by rw [r1.length]; exact hl, fun p hp => by
    obtain ⟨a2, e2, r2⟩ := ab1.tup hp r1
    exact po _ m1 _ _ η1 a2 (e1.trans e2) r2 q⟩)
theorem Abs.lst {m : List Addr} {σ : L2.St} {H : Hp} {p : Addr} {ho : HO} {o : O} {K : PySem.W.Frag} (ab : Abs K F m σ H δ η) (hp : H p = none) (r : ∀ L' m' H', Kp (Lv F.Z m η) H L' H' → (∀ (i : Nat) (b : Addr), m[i]? = some b → m'[i]? = some b) → RepO K L' m' H' ho o) :
    Abs K F (m ++ [p]) σ (upd H p ho) δ (η ++ [some o]) ∧ Ext m H η (m ++ [p]) (upd H p ho) (η ++ [some o]) ∧ RepA K (Lv F.Z (m ++ [p]) (η ++ [some o])) (m ++ [p]) (upd H p ho) (.ref p) (.h η.length) :=
  ⟨ab.newH hp r, ext_newH ab.toAbsH hp, rep_h.mpr ⟨p, by rw [← ab.len]; simp, rfl⟩⟩
/-- a new list is handed back -/
theorem Pst.newL {m : List Addr} {σ : L2.St} {H : Hp} {p : Addr} {ho : HO} {o : O} {K : PySem.W.Frag} {k : Nat} {η' : Hs} {R : VK} (po : Pst K F m σ H δ η Q R) (ab : Abs K F m σ H δ η) (hp : H p = none) (r : ∀ L' m' H', Kp (Lv F.Z m η) H L' H' → (∀ (i : Nat) (b : Addr), m[i]? = some b → m'[i]? = some b) → RepO K L' m' H' ho o)
    (hk : pushO η (some o) = some (k, η')) (q : Q (.h k) η') : R (.ref p) (upd H p ho) := by
  rw [pushO_eq] at hk
  cases hk
  obtain ⟨a2, e2, r2⟩ := ab.lst (ho := ho) (o := o) hp r
  exact po _ _ _ _ _ a2 e2 r2 q
theorem w_lst {es : List Expr} {pos : Pos} (h : WL X F es δ η fun xs η1 => xs.length ≤ sizeLine ∧ ∃ k η', pushO η1 (some (mkL xs)) = some (k, η') ∧ Q (.h k) η') : W X F (.List es pos) δ η Q := fun xt m σ H R ab po =>
  wp_of (pe_lst pa_wp) (h.go xt ab fun vs m1 H1 xs η1 ab1 e1 r1 ⟨hl, k, η', hk, q⟩ => ⟨by rw [r1.length]; exact hl, fun p hp => (po.after e1).newL ab1 hp (fun L' m' H' kp pr => rep_mkL (kp.as pr r1)) hk q⟩)
/-- subscripts -/
theorem w_ix {a b : Expr} {pos : Pos} (h : W X F a δ η fun x η1 => W X F b δ η1 fun y η2 => Ix2 X F x y δ η2 Q) (hs : PlainIx b) : W X F (.Subscript a b pos) δ η Q := fun xt m σ H R ab po =>
  wp_of (pe_ix opUI pe_wp pe_wp hs) (h xt m σ H _ ab fun _ m1 H1 _ _ ab1 e1 r1 hb => hb xt m1 σ H1 _ ab1 fun _ m2 H2 _ _ ab2 e2 r2 ho => ho m2 σ H2 R _ _ ab2 (e2.a r1) r2 (po.after (e1.trans e2)))
/-- a call of a built-in -/
theorem w_callB {n : Str} {p pos : Pos} {e : Expr} {es : List Expr} {id : String} {BL : List Str} [C : Cfg X N U S G] [bl : Blt X BL] [mb : Mem n BL] [hv : BootB n id] [g : Mem n G] (h : WL X F (e :: es) δ η fun xs η1 => CallJ X F (.builtin id) xs δ η1 Q) (he : starEach (e :: es) X.env = (false, eval e X.env) :: starEach es X.env) (hpl : (backTo pos (starEach es X.env)).any (·.1) = false) : W X F (.Call (.Name n p) (e :: es) [] pos) δ η Q := fun xt m σ H R ab po => by
  have hd := C.dbg n (List.mem_append_right _ g.mem)
  exact wp_of (pe_callB opUC (C.gl g.mem) (bl.no n mb.mem) hv.eq pa_wp hd.2.2 hd.1 he hpl) (h.go xt ab fun vs m1 H1 xs η1 ab1 e1 r1 q => q m1 σ H1 R vs ab1 r1 (po.after e1))
theorem w_callTy {n : Str} {p pos : Pos} {e : Expr} {es : List Expr} {T : String} {BL : List Str} [C : Cfg X N U S G] [bl : Blt X BL] [mb : Mem n BL] [hv : BootT n T] [g : Mem n G] (h : WL X F (e :: es) δ η fun xs η1 => CallJ X F (.type T) xs δ η1 Q) (he : starEach (e :: es) X.env = (false, eval e X.env) :: starEach es X.env) (hpl : (backTo pos (starEach es X.env)).any (·.1) = false) : W X F (.Call (.Name n p) (e :: es) [] pos) δ η Q := fun xt m σ H R ab po => by
  have hd := C.dbg n (List.mem_append_right _ g.mem)
  exact wp_of (pe_callTy opUC (C.gl g.mem) (bl.no n mb.mem) hv.eq pa_wp hd.2.2 hd.1 he hpl) (h.go xt ab fun vs m1 H1 xs η1 ab1 e1 r1 q => q m1 σ H1 R vs ab1 r1 (po.after e1))
end
end Y
set_option Elab.async false
set_option linter.all false
set_option maxRecDepth 100000
set_option maxHeartbeats 2000000
set_option autoImplicit false
/-! calls of own functions: what a function sees of the heap, what comes back -/
namespace Y
open PySem PySem.Spec PyProof.Rows L2

/-- what a function promises: from arguments and heap, what is wanted of value and heap, of an exception -/
abbrev Spec := List A → Hs → (A → Hs → Prop) → (XA → Prop) → Prop

def spOf (K : PySem.W.Frag) (S : Spec) : Sp := fun vs H R E => ∃ (Z : Addr → Prop) (m : List Addr) (η : Hs) (xs : List A) (Q : A → Hs → Prop) (EQ : XA → Prop), AbsH K Z m H η ∧ RepAs K (Lv Z m η) m H vs xs ∧ S xs η Q EQ ∧
  (∀ a η', Q a η' → ∀ (v : V) (m' : List Addr) (H' : Hp), AbsH K Z m' H' η' → Ext m H η m' H' η' → RepA K (Lv Z m' η') m' H' v a → R v H') ∧
  (∀ x, EQ x → ∀ (m' : List Addr) (H' : Hp) (dx : Addr) (fv : List (Str × V)), AbsH K Z m' H' x.η → Ext m H η m' H' x.η → H' dx = some (.xd fv) → ¬ Lv Z m' x.η dx → RepFs K (Lv Z m' x.η) H' fv x.fs → E (.ref x.C) (some dx) H')

/-! ### renaming -/
def posN : List Nat → Nat → Option Nat
  | [], _ => none
  | i :: r, j => if i = j then some 0 else match posN r j with
    | some k => some (k + 1)
    | none => none
theorem posN_get : ∀ {ix : List Nat} {j k : Nat}, posN ix j = some k → ix[k]? = some j
  | [], j, k, h => by cases h
  | i :: r, j, k, h => by
    unfold posN at h
    by_cases e : i = j
    · rw [if_pos e] at h
      cases h
      simp [e]
    · rw [if_neg e] at h
      cases q : posN r j with
      | none => rw [q] at h; cases h
      | some l =>
        rw [q] at h
        cases h
        simpa using posN_get q
mutual
def renA (f : Nat → Option Nat) : A → Option A
  | .d x => some (.d x)
  | .h i => match f i with
    | some k => some (.h k)
    | none => none
  | .t xs => match renAs f xs with
    | some ys => some (.t ys)
    | none => none
def renAs (f : Nat → Option Nat) : List A → Option (List A)
  | [] => some []
  | x :: r => match renA f x with
    | some y => match renAs f r with
      | some ys => some (y :: ys)
      | none => none
    | none => none
end
def renFs (f : Nat → Option Nat) : List (Str × A) → Option (List (Str × A))
  | [] => some []
  | p :: r => match renA f p.2 with
    | some y => match renFs f r with
      | some ys => some ((p.1, y) :: ys)
      | none => none
    | none => none
def renO (f : Nat → Option Nat) : O → Option O
  | .lst xs => some (.lst xs)
  | .lsA xs => match renAs f xs with
    | some ys => some (.lsA ys)
    | none => none
  | .ins C fs => match renFs f fs with
    | some ys => some (.ins C ys)
    | none => none
  | .dK kvs => some (.dK kvs)
  | .dT kvs => some (.dT kvs)
  | .lkd ob vs kvs => some (.lkd ob vs kvs)
  | .set S n => some (.set S n)
/-- the callee's heap: the objects at ix -/
def subH (ix₀ : List Nat) (η : Hs) : List Nat → Option Hs
  | [] => some []
  | i :: r => match η[i]? with
    | some (some o) => match renO (posN ix₀) o with
      | some o' => match subH ix₀ η r with
        | some ys => some (some o' :: ys)
        | none => none
      | none => none
    | _ => none
def ndN : List Nat → Bool
  | [] => true
  | i :: r => !(r.contains i) && ndN r
theorem ndN_ok : ∀ {ix : List Nat}, ndN ix = true → ix.Nodup
  | [], _ => List.nodup_nil
  | i :: r, h => by
    unfold ndN at h
    rw [Bool.and_eq_true] at h
    rw [List.nodup_cons]
    exact ⟨by simpa using h.1, ndN_ok h.2⟩

section
variable {K : PySem.W.Frag} {L : Addr → Prop} {m m₀ : List Addr} {H : Hp} {f : Nat → Option Nat}
def RenOk (f : Nat → Option Nat) (m m₀ : List Addr) : Prop := ∀ (i k : Nat) (a : Addr), f i = some k → m[i]? = some a → m₀[k]? = some a
mutual
theorem ren_a (hm : RenOk f m m₀) : ∀ {x y : A} {v : V}, RepA K L m H v x → renA f x = some y → RepA K L m₀ H v y
  | .d x, y, v, r, h => by
    cases h
    exact rep_d.mpr (rep_d.mp r)
  | .h i, y, v, r, h => by
    unfold renA at h
    obtain ⟨a, h1, h2⟩ := rep_h.mp r
    cases e : f i with
    | none => rw [e] at h; cases h
    | some k =>
      rw [e] at h
      cases h
      exact rep_h.mpr ⟨a, hm _ _ _ e h1, h2⟩
  | .t xs, y, v, r, h => by
    unfold renA at h
    obtain ⟨a, vs, e1, s, r1⟩ := rep_t.mp r
    cases e : renAs f xs with
    | none => rw [e] at h; cases h
    | some ys =>
      rw [e] at h
      cases h
      exact rep_t.mpr ⟨a, vs, e1, s, ren_as hm r1 e⟩
theorem ren_as (hm : RenOk f m m₀) : ∀ {xs ys : List A} {vs : List V}, RepAs K L m H vs xs → renAs f xs = some ys → RepAs K L m₀ H vs ys
  | [], ys, vs, r, h => by
    cases h
    exact reps_nil.mpr (reps_nil.mp r)
  | x :: xs, ys, vs, r, h => by
    unfold renAs at h
    obtain ⟨v, vr, e1, r1, r2⟩ := reps_cons.mp r
    cases e : renA f x with
    | none => rw [e] at h; cases h
    | some y =>
      rw [e] at h
      cases e2 : renAs f xs with
      | none => rw [e2] at h; cases h
      | some zs =>
        rw [e2] at h
        cases h
        exact reps_cons.mpr ⟨v, vr, e1, ren_a hm r1 e, ren_as hm r2 e2⟩
end
theorem repfa_nil {vs : List (Str × V)} : RepFA K L m H vs [] ↔ vs = [] := by unfold RepFA; exact Iff.rfl
theorem repfa_cons {vs : List (Str × V)} {p : Str × A} {xs : List (Str × A)} : RepFA K L m H vs (p :: xs) ↔ ∃ v r, vs = (p.1, v) :: r ∧ RepA K L m H v p.2 ∧ RepFA K L m H r xs := by
  constructor
  · intro h; unfold RepFA at h; exact h
  · intro h; unfold RepFA; exact h
theorem ren_fs (hm : RenOk f m m₀) : ∀ {xs ys : List (Str × A)} {vs : List (Str × V)}, RepFA K L m H vs xs → renFs f xs = some ys → RepFA K L m₀ H vs ys
  | [], ys, vs, r, h => by
    cases h
    exact repfa_nil.mpr (repfa_nil.mp r)
  | p :: xs, ys, vs, r, h => by
    unfold renFs at h
    obtain ⟨v, vr, e1, r1, r2⟩ := repfa_cons.mp r
    cases e : renA f p.2 with
    | none => rw [e] at h; cases h
    | some y =>
      rw [e] at h
      cases e2 : renFs f xs with
      | none => rw [e2] at h; cases h
      | some zs =>
        rw [e2] at h
        cases h
        exact repfa_cons.mpr ⟨v, vr, e1, ren_a hm r1 e, ren_fs hm r2 e2⟩
theorem ren_o (hm : RenOk f m m₀) : ∀ {x y : O} {ho : HO}, RepO K L m H ho x → renO f x = some y → RepO K L m₀ H ho y
  | .lst xs, y, v, r, h => by
    cases h
    unfold RepO at r ⊢
    exact r
  | .lsA xs, y, v, r, h => by
    dsimp only [renO] at h
    unfold RepO at r
    obtain ⟨vs, e1, r1⟩ := r
    cases e : renAs f xs with
    | none => rw [e] at h; cases h
    | some ys =>
      rw [e] at h
      cases h
      unfold RepO
      exact ⟨vs, e1, ren_as hm r1 e⟩
  | .ins C fs, y, v, r, h => by
    dsimp only [renO] at h
    unfold RepO at r
    obtain ⟨dx, fv, e1, r1⟩ := r
    cases e : renFs f fs with
    | none => rw [e] at h; cases h
    | some ys =>
      rw [e] at h
      cases h
      unfold RepO
      exact ⟨dx, fv, e1, ren_fs hm r1 e⟩
  | .dK kvs, y, v, r, h => by
    cases h
    unfold RepO at r ⊢
    exact r
  | .dT kvs, y, v, r, h => by
    cases h
    unfold RepO at r ⊢
    exact r
  | .lkd ob vs kvs, y, v, r, h => by
    cases h
    unfold RepO at r ⊢
    exact r
  | .set S n, y, v, r, h => by
    cases h
    unfold RepO at r ⊢
    exact r
end

/-- the callee's handle j, back at a caller with n handles -/
def mapN (ix : List Nat) (n : Nat) (j : Nat) : Option Nat := match ix[j]? with
  | some i => some i
  | none => some (n + (j - ix.length))
/-- write at a place -/
def wrH : Hs → Nat → Option O → Option Hs
  | [], _, _ => none
  | _ :: r, 0, o => some (o :: r)
  | x :: r, i + 1, o => match wrH r i o with
    | some ys => some (x :: ys)
    | none => none
theorem wrH_eq : ∀ {η : Hs} {i : Nat} {o : Option O} {η' : Hs}, wrH η i o = some η' → i < η.length ∧ η' = η.set i o
  | [], _, _, _, h => by cases h
  | x :: r, 0, o, _, h => by cases h; exact ⟨by simp, rfl⟩
  | x :: r, i + 1, o, η', h => by
    unfold wrH at h
    cases e : wrH r i o with
    | none => rw [e] at h; cases h
    | some ys =>
      rw [e] at h
      cases h
      obtain ⟨h1, h2⟩ := wrH_eq e
      exact ⟨by simpa using h1, by rw [h2]; rfl⟩
/-- the objects at ix are now these; what is behind them is new, at the end -/
def newH (f : Nat → Option Nat) : Hs → Option Hs
  | [] => some []
  | some o :: r => match renO f o with
    | some o' => match newH f r with
      | some ys => some (some o' :: ys)
      | none => none
    | none => none
  | none :: _ => none
def appH (f : Nat → Option Nat) : Hs → Hs → Option Hs
  | [], r => newH f r
  | x :: l, r => match appH f l r with
    | some ys => some (x :: ys)
    | none => none
def backH (f : Nat → Option Nat) : List Nat → Hs → Hs → Option Hs
  | [], η, η₀ => appH f η η₀
  | i :: ix, η, some o :: η₀ => match renO f o with
    | some o' => match wrH η i (some o') with
      | some η1 => backH f ix η1 η₀
      | none => none
    | none => none
  | i :: ix, η, none :: η₀ => match wrH η i none with
    | some η1 => backH f ix η1 η₀
    | none => none
  | _ :: _, _, [] => none
def subS (ix : List Nat) (xs : List A) (η : Hs) : Option (List A × Hs) := if ndN ix then match renAs (posN ix) xs with
  | some ys => match subH ix η ix with
    | some η₀ => some (ys, η₀)
    | none => none
  | none => none else none
def backS (ix : List Nat) (η : Hs) (a : A) (η₀ : Hs) : Option (A × Hs) := match renA (mapN ix η.length) a with
  | some a' => match backH (mapN ix η.length) ix η η₀ with
    | some η' => some (a', η')
    | none => none
  | none => none

theorem appH_nil {f : Nat → Option Nat} : ∀ {r η' : Hs}, newH f r = some η' → η'.length = r.length ∧ ∀ (j : Nat), j < r.length → ∃ o o', r[j]? = some (some o) ∧ renO f o = some o' ∧ η'[j]? = some (some o')
  | [], η', h => by
    cases h
    exact ⟨rfl, fun j hj => absurd hj (by simp)⟩
  | none :: r, η', h => by cases h
  | some o :: r, η', h => by
    unfold newH at h
    cases e : renO f o with
    | none => rw [e] at h; cases h
    | some o' =>
      rw [e] at h
      dsimp only at h
      cases e2 : newH f r with
      | none => rw [e2] at h; cases h
      | some ys =>
        rw [e2] at h
        cases h
        obtain ⟨h1, h2⟩ := appH_nil e2
        refine ⟨by simp [h1], fun j hj => ?_⟩
        cases j with
        | zero => exact ⟨o, o', rfl, e, rfl⟩
        | succ j =>
          obtain ⟨u, u', a, b, c⟩ := h2 j (by simpa using hj)
          exact ⟨u, u', by simpa using a, b, by simpa using c⟩
theorem appH_ok {f : Nat → Option Nat} : ∀ {l r η' : Hs}, appH f l r = some η' → η'.length = l.length + r.length ∧ (∀ (i : Nat), i < l.length → η'[i]? = l[i]?) ∧ ∀ (j : Nat), j < r.length → ∃ o o', r[j]? = some (some o) ∧ renO f o = some o' ∧ η'[l.length + j]? = some (some o')
  | [], r, η', h => by
    obtain ⟨h1, h2⟩ := appH_nil h
    exact ⟨by simp [h1], fun i hi => absurd hi (by simp), fun j hj => by simpa using h2 j hj⟩
  | x :: l, r, η', h => by
    have h' : (match appH f l r with
      | some ys => some (x :: ys)
      | none => none) = some η' := by
      rw [← h]
      rfl
    cases e : appH f l r with
    | none => rw [e] at h'; cases h'
    | some ys =>
      rw [e] at h'
      cases h'
      obtain ⟨h1, h2, h3⟩ := appH_ok e
      refine ⟨by simp [h1]; omega, fun i hi => ?_, fun j hj => ?_⟩
      · cases i with
        | zero => rfl
        | succ i => simpa using h2 i (by simpa using hi)
      · obtain ⟨o, o', a, b, c⟩ := h3 j hj
        refine ⟨o, o', a, b, ?_⟩
        have : (x :: l).length + j = (l.length + j) + 1 := by simp; omega
        rw [this]
        simpa using c
theorem backH_ok {f : Nat → Option Nat} : ∀ {ix : List Nat} {η η₀ η' : Hs}, backH f ix η η₀ = some η' → ix.Nodup → (∀ i ∈ ix, i < η.length) →
    ix.length ≤ η₀.length ∧ η'.length = η.length + (η₀.length - ix.length) ∧ (∀ (i : Nat), i < η.length → i ∉ ix → η'[i]? = η[i]?) ∧
    (∀ (k i : Nat), ix[k]? = some i → (∃ o o', η₀[k]? = some (some o) ∧ renO f o = some o' ∧ η'[i]? = some (some o')) ∨ (η₀[k]? = some none ∧ η'[i]? = some none)) ∧
    (∀ (j : Nat), ix.length ≤ j → j < η₀.length → ∃ o o', η₀[j]? = some (some o) ∧ renO f o = some o' ∧ η'[η.length + (j - ix.length)]? = some (some o'))
  | [], η, η₀, η', h, _, _ => by
    have h' : appH f η η₀ = some η' := by
      rw [← h]
      cases η₀ <;> rfl
    obtain ⟨h1, h2, h3⟩ := appH_ok h'
    exact ⟨by simp, by simpa using h1, fun i hi _ => h2 i hi, fun k i q => by simp at q, fun j _ hj => by simpa using h3 j hj⟩
  | i :: ix, η, [], η', h, _, _ => by cases h
  | i :: ix, η, x :: η₀, η', h, nd, hb => by
    obtain ⟨hi, nd'⟩ := List.nodup_cons.mp nd
    obtain ⟨w, η1, e1, e2, hw⟩ : ∃ (w : Option O) (η1 : Hs), wrH η i w = some η1 ∧ backH f ix η1 η₀ = some η' ∧ ((∃ o o', x = some o ∧ renO f o = some o' ∧ w = some o') ∨ (x = none ∧ w = none)) := by
      cases x with
      | none =>
        unfold backH at h
        cases e : wrH η i none with
        | none => rw [e] at h; cases h
        | some η1 =>
          rw [e] at h
          exact ⟨none, η1, e, h, .inr ⟨rfl, rfl⟩⟩
      | some o =>
        unfold backH at h
        cases e0 : renO f o with
        | none => rw [e0] at h; cases h
        | some o' =>
          rw [e0] at h
          dsimp only at h
          cases e : wrH η i (some o') with
          | none => rw [e] at h; cases h
          | some η1 =>
            rw [e] at h
            exact ⟨some o', η1, e, h, .inl ⟨o, o', rfl, e0, rfl⟩⟩
    obtain ⟨l1, rfl⟩ := wrH_eq e1
    obtain ⟨a1, a2, a3, a4, a5⟩ := backH_ok e2 nd' fun j hj => by
      rw [List.length_set]
      exact hb j (List.mem_cons_of_mem _ hj)
    rw [List.length_set] at a2 a3 a5
    refine ⟨by simpa using a1, by simpa using a2, fun j hj hn => ?_, fun k j q => ?_, fun j h1 h2 => ?_⟩
    · rw [a3 j hj fun z => hn (List.mem_cons_of_mem _ z), List.getElem?_set_ne]
      rintro rfl
      exact hn List.mem_cons_self
    · cases k with
      | zero =>
        have e : i = j := by simpa using q
        subst e
        have e3 : η'[i]? = some w := by
          rw [a3 i l1 hi, List.getElem?_set_self l1]
        rcases hw with ⟨o, o', rfl, r, rfl⟩ | ⟨rfl, rfl⟩
        · exact .inl ⟨o, o', rfl, r, e3⟩
        · exact .inr ⟨rfl, e3⟩
      | succ k => simpa using a4 k j (by simpa using q)
    · cases j with
      | zero => simp at h1
      | succ j =>
        have := a5 j (by simpa using h1) (by simpa using h2)
        simpa using this
theorem subH_ok {f : List Nat} {η : Hs} : ∀ {ix : List Nat} {η₀ : Hs}, subH f η ix = some η₀ → η₀.length = ix.length ∧ ∀ (k i : Nat), ix[k]? = some i → ∃ o o', η[i]? = some (some o) ∧ renO (posN f) o = some o' ∧ η₀[k]? = some (some o')
  | [], η₀, h => by
    cases h
    exact ⟨rfl, fun k i q => by simp at q⟩
  | i :: ix, η₀, h => by
    unfold subH at h
    split at h
    · rename_i o e
      cases e1 : renO (posN f) o with
      | none => rw [e1] at h; cases h
      | some o' =>
        rw [e1] at h
        dsimp only at h
        cases e2 : subH f η ix with
        | none => rw [e2] at h; cases h
        | some ys =>
          rw [e2] at h
          cases h
          obtain ⟨h1, h2⟩ := subH_ok e2
          refine ⟨by simp [h1], fun k j q => ?_⟩
          cases k with
          | zero =>
            have : i = j := by simpa using q
            subst this
            exact ⟨o, o', e, e1, rfl⟩
          | succ k => simpa using h2 k j (by simpa using q)
    · cases h
theorem subS_ok {ix : List Nat} {xs xs₀ : List A} {η η₀ : Hs} (h : subS ix xs η = some (xs₀, η₀)) : ix.Nodup ∧ renAs (posN ix) xs = some xs₀ ∧ subH ix η ix = some η₀ := by
  unfold subS at h
  split at h
  · rename_i hn
    cases e : renAs (posN ix) xs with
    | none => rw [e] at h; cases h
    | some ys =>
      rw [e] at h
      dsimp only at h
      cases e2 : subH ix η ix with
      | none => rw [e2] at h; cases h
      | some zs =>
        rw [e2] at h
        cases h
        exact ⟨ndN_ok hn, rfl, rfl⟩
  · cases h
theorem backS_ok {ix : List Nat} {η η₀ η' : Hs} {a₀ a : A} (h : backS ix η a₀ η₀ = some (a, η')) : renA (mapN ix η.length) a₀ = some a ∧ backH (mapN ix η.length) ix η η₀ = some η' := by
  unfold backS at h
  cases e : renA (mapN ix η.length) a₀ with
  | none => rw [e] at h; cases h
  | some ys =>
    rw [e] at h
    dsimp only at h
    cases e2 : backH (mapN ix η.length) ix η η₀ with
    | none => rw [e2] at h; cases h
    | some zs =>
      rw [e2] at h
      cases h
      exact ⟨rfl, rfl⟩

section
variable {K : PySem.W.Frag} {Z : Addr → Prop} {m : List Addr} {H : Hp} {η : Hs} {ix : List Nat}
/-- the callee's handles, what lives outside of it -/
def subM (ix : List Nat) (m : List Addr) : List Addr := ix.map fun i => m.getD i 0
def subZ (ix : List Nat) (Z : Addr → Prop) (m : List Addr) (η : Hs) : Addr → Prop := fun a => Z a ∨ ∃ (i : Nat) (o : O), i ∉ ix ∧ m[i]? = some a ∧ η[i]? = some (some o)
theorem subM_get {k i : Nat} {a : Addr} (h : ix[k]? = some i) (h2 : m[i]? = some a) : (subM ix m)[k]? = some a := by
  unfold subM
  rw [List.getElem?_map, h]
  simp [h2]
theorem subM_of {k : Nat} {a : Addr} (hb : ∀ i ∈ ix, i < m.length) (h : (subM ix m)[k]? = some a) : ∃ i, ix[k]? = some i ∧ m[i]? = some a := by
  unfold subM at h
  rw [List.getElem?_map] at h
  cases e : ix[k]? with
  | none => rw [e] at h; cases h
  | some i =>
    rw [e] at h
    refine ⟨i, rfl, ?_⟩
    have hi := hb i (List.mem_of_getElem? e)
    have h' : m.getD i 0 = a := by simpa using h
    rw [List.getD_eq_getElem?_getD, List.getElem?_eq_getElem hi] at h'
    rw [List.getElem?_eq_getElem hi]
    simpa using h'
theorem nodup_at {l : List Addr} (nd : l.Nodup) {i j : Nat} {a : Addr} (h1 : l[i]? = some a) (h2 : l[j]? = some a) : i = j := by
  obtain ⟨l1, e1⟩ := List.getElem?_eq_some_iff.mp h1
  obtain ⟨l2, e2⟩ := List.getElem?_eq_some_iff.mp h2
  exact (List.getElem_inj nd).mp (e1.trans e2.symm)
theorem nodup_ixN {l : List Nat} (nd : l.Nodup) {i j : Nat} {a : Nat} (h1 : l[i]? = some a) (h2 : l[j]? = some a) : i = j := by
  obtain ⟨l1, e1⟩ := List.getElem?_eq_some_iff.mp h1
  obtain ⟨l2, e2⟩ := List.getElem?_eq_some_iff.mp h2
  exact (List.getElem_inj nd).mp (e1.trans e2.symm)
theorem RepCongr {L L' : Addr → Prop} (h : ∀ a, L a ↔ L' a) : Kp L H L' H := ⟨fun _ _ q _ => q, fun b _ _ n q => n ((h b).mpr q)⟩
theorem posN_ok {m₀ : List Addr} (hm : ∀ (k i : Nat) (a : Addr), ix[k]? = some i → m[i]? = some a → m₀[k]? = some a) : RenOk (posN ix) m m₀ := fun i k a h1 h2 => hm k i a (posN_get h1) h2
/-- the callee's view -/
theorem sub_view {xs xs₀ : List A} {η₀ : Hs} {vs : List V} (a : AbsH K Z m H η) (r : RepAs K (Lv Z m η) m H vs xs) (h : subS ix xs η = some (xs₀, η₀)) :
    (∀ i ∈ ix, i < m.length) ∧ (∀ b, Lv (subZ ix Z m η) (subM ix m) η₀ b ↔ Lv Z m η b) ∧ AbsH K (subZ ix Z m η) (subM ix m) H η₀ ∧ RepAs K (Lv (subZ ix Z m η) (subM ix m) η₀) (subM ix m) H vs xs₀ := by
  obtain ⟨nd, hx, hh⟩ := subS_ok h
  obtain ⟨hl, ho⟩ := subH_ok hh
  have hb : ∀ i ∈ ix, i < m.length := fun i hi => by
    obtain ⟨k, hk, e⟩ := List.getElem_of_mem hi
    obtain ⟨o, o', e1, _⟩ := ho k i (by rw [List.getElem?_eq_getElem hk, e])
    rw [a.len]
    exact (List.getElem?_eq_some_iff.mp e1).1
  have pk : RenOk (posN ix) m (subM ix m) := posN_ok fun k i b h1 h2 => subM_get h1 h2
  have lv : ∀ b, Lv (subZ ix Z m η) (subM ix m) η₀ b ↔ Lv Z m η b := fun b => by
    constructor
    · rintro ((z | ⟨i, o, _, h1, h2⟩) | ⟨k, o, h1, h2⟩)
      · exact .inl z
      · exact .inr ⟨i, o, h1, h2⟩
      · obtain ⟨i, q1, q2⟩ := subM_of hb h1
        obtain ⟨u, u', e1, _⟩ := ho k i q1
        exact .inr ⟨i, u, q2, e1⟩
    · rintro (z | ⟨i, o, h1, h2⟩)
      · exact .inl (.inl z)
      · by_cases hi : i ∈ ix
        · obtain ⟨k, hk, e⟩ := List.getElem_of_mem hi
          have hk' : ix[k]? = some i := by rw [List.getElem?_eq_getElem hk, e]
          obtain ⟨u, u', _, _, e3⟩ := ho k i hk'
          exact .inr ⟨k, u', subM_get hk' h1, e3⟩
        · exact .inl (.inr ⟨i, o, hi, h1, h2⟩)
  refine ⟨hb, lv, ⟨?_, ?_, fun b hbm => ?_, fun b hz => ?_, fun b hbm hz => ?_, fun k b o h1 h2 => ?_⟩, ?_⟩
  · unfold subM
    rw [List.length_map, hl]
  · rw [List.nodup_iff_pairwise_ne, List.pairwise_iff_getElem]
    intro i j h1 h2 hij e
    have e1 := List.getElem?_eq_getElem h1
    have e2 := List.getElem?_eq_getElem h2
    obtain ⟨i', q1, q2⟩ := subM_of hb e1
    obtain ⟨j', q3, q4⟩ := subM_of hb e2
    rw [← e] at q4
    have := nodup_at a.nd q2 q4
    subst this
    have := nodup_ixN nd q1 q3
    omega
  · obtain ⟨k, hk, e⟩ := List.getElem_of_mem hbm
    obtain ⟨i, q1, q2⟩ := subM_of (k := k) (a := b) hb (by rw [List.getElem?_eq_getElem hk, e])
    exact a.trk b (List.mem_of_getElem? q2)
  · rcases hz with z | ⟨i, o, _, h1, h2⟩
    · exact a.zt b z
    · exact a.trk b (List.mem_of_getElem? h1)
  · obtain ⟨k, hk, e⟩ := List.getElem_of_mem hbm
    obtain ⟨i, q1, q2⟩ := subM_of (k := k) (a := b) hb (by rw [List.getElem?_eq_getElem hk, e])
    rcases hz with z | ⟨j, o, hj, h1, _⟩
    · exact a.zd b (List.mem_of_getElem? q2) z
    · have := nodup_at a.nd q2 h1
      subst this
      exact hj (List.mem_of_getElem? q1)
  · obtain ⟨i, q1, q2⟩ := subM_of hb h1
    obtain ⟨u, u', e1, e2, e3⟩ := ho k i q1
    rw [e3] at h2
    cases h2
    obtain ⟨ho', q3, q4⟩ := a.obj i b u q2 e1
    refine ⟨ho', q3, ?_⟩
    exact (RepCongr fun b => (lv b).symm).o (fun _ _ q => q) (ren_o pk q4 e2)
  · exact (RepCongr fun b => (lv b).symm).as (fun _ _ q => q) (ren_as pk r hx)
/-- back at the caller -/
theorem back_view {xs xs₀ : List A} {η₀ η₁ : Hs} {m₁ : List Addr} {H' : Hp} (a : AbsH K Z m H η) (h : subS ix xs η = some (xs₀, η₀)) (hb : ∀ i ∈ ix, i < m.length) (lv : ∀ b, Lv (subZ ix Z m η) (subM ix m) η₀ b ↔ Lv Z m η b)
    (a₁ : AbsH K (subZ ix Z m η) m₁ H' η₁) (e : Ext (subM ix m) H η₀ m₁ H' η₁) {η' : Hs} (hk : backH (mapN ix η.length) ix η η₁ = some η') :
    ∃ m', AbsH K Z m' H' η' ∧ Ext m H η m' H' η' ∧ RenOk (mapN ix η.length) m₁ m' ∧ ∀ b, Lv (subZ ix Z m η) m₁ η₁ b ↔ Lv Z m' η' b := by
  obtain ⟨nd, hx, hh⟩ := subS_ok h
  obtain ⟨hl, ho⟩ := subH_ok hh
  obtain ⟨c1, c2, c3, c4, c5⟩ := backH_ok hk nd fun i hi => by rw [← a.len]; exact hb i hi
  obtain ⟨r, hr⟩ := e.pre
  have lm : (subM ix m).length = ix.length := by unfold subM; rw [List.length_map]
  have l1 : m₁.length = η₁.length := a₁.len
  have lr : r.length = η₁.length - ix.length := by
    have := congrArg List.length hr
    rw [List.length_append, lm] at this
    omega
  have m1_lt : ∀ (k : Nat) (b : Addr), k < ix.length → (m₁[k]? = some b ↔ (subM ix m)[k]? = some b) := fun k b hk => by
    rw [hr, List.getElem?_append_left (by rw [lm]; exact hk)]
  have m1_ge : ∀ (k : Nat), m₁[ix.length + k]? = r[k]? := fun k => by
    rw [hr, List.getElem?_append_right (by rw [lm]; omega), lm]
    congr 1
    omega
  have rn : RenOk (mapN ix η.length) m₁ (m ++ r) := fun j i b h1 h2 => by
    unfold mapN at h1
    cases q : ix[j]? with
    | some i' =>
      rw [q] at h1
      cases h1
      have hj := (List.getElem?_eq_some_iff.mp q).1
      obtain ⟨i2, q1, q2⟩ := subM_of hb ((m1_lt j b hj).mp h2)
      rw [q] at q1
      cases q1
      rw [List.getElem?_append_left (List.getElem?_eq_some_iff.mp q2).1]
      exact q2
    | none =>
      rw [q] at h1
      cases h1
      have hj : ix.length ≤ j := List.getElem?_eq_none_iff.mp q
      have : j = ix.length + (j - ix.length) := by omega
      rw [this, m1_ge] at h2
      rw [List.getElem?_append_right (by rw [a.len]; omega), a.len]
      have e2 : η.length + (j - ix.length) - η.length = j - ix.length := by omega
      rw [e2]
      exact h2
  -- the new handles
  have new : ∀ (k : Nat) (b : Addr), r[k]? = some b → ∃ o o', η₁[ix.length + k]? = some (some o) ∧ renO (mapN ix η.length) o = some o' ∧ η'[η.length + k]? = some (some o') := fun k b hk => by
    have h1 := (List.getElem?_eq_some_iff.mp hk).1
    obtain ⟨o, o', q1, q2, q3⟩ := c5 (ix.length + k) (by omega) (by omega)
    have e2 : ix.length + k - ix.length = k := by omega
    rw [e2] at q3
    exact ⟨o, o', q1, q2, q3⟩
  have lv2 : ∀ b, Lv (subZ ix Z m η) m₁ η₁ b ↔ Lv Z (m ++ r) η' b := fun b => by
    constructor
    · rintro ((z | ⟨i, o, hi, h1, h2⟩) | ⟨k, o, h1, h2⟩)
      · exact .inl z
      · have hlt := (List.getElem?_eq_some_iff.mp h1).1
        exact .inr ⟨i, o, by rw [List.getElem?_append_left hlt]; exact h1, by rw [c3 i (by rw [← a.len]; exact hlt) hi]; exact h2⟩
      · by_cases hk : k < ix.length
        · obtain ⟨i, q1, q2⟩ := subM_of hb ((m1_lt k b hk).mp h1)
          rcases c4 k i q1 with ⟨u, u', e1, e2, e3⟩ | ⟨e1, e2⟩
          · exact .inr ⟨i, u', by rw [List.getElem?_append_left (List.getElem?_eq_some_iff.mp q2).1]; exact q2, e3⟩
          · rw [e1] at h2
            cases h2
        · have : k = ix.length + (k - ix.length) := by omega
          rw [this, m1_ge] at h1
          obtain ⟨u, u', e1, e2, e3⟩ := new _ _ h1
          refine .inr ⟨η.length + (k - ix.length), u', ?_, e3⟩
          rw [List.getElem?_append_right (by rw [a.len]; omega), a.len]
          have e4 : η.length + (k - ix.length) - η.length = k - ix.length := by omega
          rw [e4]
          exact h1
    · rintro (z | ⟨i, o, h1, h2⟩)
      · exact .inl (.inl z)
      · by_cases hi : i < m.length
        · rw [List.getElem?_append_left hi] at h1
          by_cases hm : i ∈ ix
          · obtain ⟨k, hk, e⟩ := List.getElem_of_mem hm
            have hk' : ix[k]? = some i := by rw [List.getElem?_eq_getElem hk, e]
            rcases c4 k i hk' with ⟨u, u', e1, e2, e3⟩ | ⟨e1, e2⟩
            · exact .inr ⟨k, u, (m1_lt k b hk).mpr (subM_get hk' h1), e1⟩
            · rw [e2] at h2
              cases h2
          · rw [c3 i (by rw [← a.len]; exact hi) hm] at h2
            exact .inl (.inr ⟨i, o, hm, h1, h2⟩)
        · rw [List.getElem?_append_right (by omega)] at h1
          obtain ⟨u, u', e1, e2, e3⟩ := new _ _ h1
          exact .inr ⟨ix.length + (i - m.length), u, by rw [m1_ge]; exact h1, e1⟩
  -- what the callee does not know stays
  have kp0 : Kp (Live m η) H (Live (m ++ r) η') H' := by
    have sub0 : ∀ b, Live (subM ix m) η₀ b → Live m η b := fun b ⟨k, o, h1, h2⟩ => by
      obtain ⟨i, q1, q2⟩ := subM_of hb h1
      obtain ⟨u, u', e1, _⟩ := ho k i q1
      exact ⟨i, u, q2, e1⟩
    refine ⟨fun b o h1 h2 => e.kp.keep b o h1 fun z => h2 (sub0 b z), fun b o h1 h2 => ?_⟩
    have h3 := e.kp.live b o h1 fun z => h2 (sub0 b z)
    rintro ⟨i, u, q1, q2⟩
    by_cases hi : i < m.length
    · rw [List.getElem?_append_left hi] at q1
      by_cases hm : i ∈ ix
      · obtain ⟨k, hk, e⟩ := List.getElem_of_mem hm
        have hk' : ix[k]? = some i := by rw [List.getElem?_eq_getElem hk, e]
        obtain ⟨w, w', e1, _⟩ := ho k i hk'
        exact h2 ⟨i, w, q1, e1⟩
      · rw [c3 i (by rw [← a.len]; exact hi) hm] at q2
        exact h2 ⟨i, u, q1, q2⟩
    · rw [List.getElem?_append_right (by omega)] at q1
      obtain ⟨w, w', e1, e2, e3⟩ := new _ _ q1
      exact h3 ⟨ix.length + (i - m.length), w, by rw [m1_ge]; exact q1, e1⟩
  refine ⟨m ++ r, ⟨?_, ?_, fun b hbm => ?_, fun b hz => a₁.zt b (.inl hz), fun b hbm hz => ?_, fun i b o h1 h2 => ?_⟩, ⟨⟨r, rfl⟩, kp0⟩, rn, lv2⟩
  · rw [List.length_append, lr, c2, a.len]
  · rw [List.nodup_append]
    have nd1 := a₁.nd
    rw [hr, List.nodup_append] at nd1
    refine ⟨a.nd, nd1.2.1, fun x hxm y hy exy => ?_⟩
    subst exy
    obtain ⟨k, hk, ek⟩ := List.getElem_of_mem hy
    have hk' : r[k]? = some x := by rw [List.getElem?_eq_getElem hk, ek]
    obtain ⟨i, hi, ei⟩ := List.getElem_of_mem hxm
    have hi' : m[i]? = some x := by rw [List.getElem?_eq_getElem hi, ei]
    obtain ⟨w, w', e1, e2, e3⟩ := new _ _ hk'
    by_cases hm : i ∈ ix
    · obtain ⟨k2, hk2, e⟩ := List.getElem_of_mem hm
      have hk2' : ix[k2]? = some i := by rw [List.getElem?_eq_getElem hk2, e]
      exact nd1.2.2 x (List.mem_of_getElem? (subM_get hk2' hi')) x hy rfl
    · obtain ⟨o, ho1⟩ := a.trk x hxm
      have n0 : ¬ Live (subM ix m) η₀ x := by
        rintro ⟨k3, o3, q1, q2⟩
        obtain ⟨i3, q3, q4⟩ := subM_of hb q1
        have := nodup_at a.nd hi' q4
        subst this
        exact hm (List.mem_of_getElem? q3)
      exact e.kp.live x o ho1 n0 ⟨ix.length + k, w, by rw [m1_ge]; exact hk', e1⟩
  · rcases List.mem_append.mp hbm with q | q
    · obtain ⟨i, hi, ei⟩ := List.getElem_of_mem q
      have hi' : m[i]? = some b := by rw [List.getElem?_eq_getElem hi, ei]
      by_cases hm : i ∈ ix
      · obtain ⟨k2, hk2, e⟩ := List.getElem_of_mem hm
        have hk2' : ix[k2]? = some i := by rw [List.getElem?_eq_getElem hk2, e]
        exact a₁.trk b (by rw [hr]; exact List.mem_append_left _ (List.mem_of_getElem? (subM_get hk2' hi')))
      · obtain ⟨o, ho1⟩ := a.trk b q
        refine ⟨o, e.kp.keep b o ho1 ?_⟩
        rintro ⟨k3, o3, q1, q2⟩
        obtain ⟨i3, q3, q4⟩ := subM_of hb q1
        have := nodup_at a.nd hi' q4
        subst this
        exact hm (List.mem_of_getElem? q3)
    · exact a₁.trk b (by rw [hr]; exact List.mem_append_right _ q)
  · rcases List.mem_append.mp hbm with q | q
    · exact a.zd b q hz
    · exact a₁.zd b (by rw [hr]; exact List.mem_append_right _ q) (.inl hz)
  · by_cases hi : i < m.length
    · rw [List.getElem?_append_left hi] at h1
      by_cases hm : i ∈ ix
      · obtain ⟨k, hk, e5⟩ := List.getElem_of_mem hm
        have hk' : ix[k]? = some i := by rw [List.getElem?_eq_getElem hk, e5]
        rcases c4 k i hk' with ⟨u, u', e1, e2, e3⟩ | ⟨e1, e2⟩
        · rw [e3] at h2
          cases h2
          obtain ⟨ho', q3, q4⟩ := a₁.obj k b u ((m1_lt k b hk).mpr (subM_get hk' h1)) e1
          exact ⟨ho', q3, (RepCongr lv2).o (fun _ _ q => q) (ren_o rn q4 e2)⟩
        · rw [e2] at h2
          cases h2
      · rw [c3 i (by rw [← a.len]; exact hi) hm] at h2
        obtain ⟨ho', q3, q4⟩ := a.obj i b o h1 h2
        have n0 : ¬ Live (subM ix m) η₀ b := by
          rintro ⟨k3, o3, q1, q2⟩
          obtain ⟨i3, q5, q6⟩ := subM_of hb q1
          have := nodup_at a.nd h1 q6
          subst this
          exact hm (List.mem_of_getElem? q5)
        exact ⟨ho', e.kp.keep b ho' q3 n0, (Ext.mk ⟨r, rfl⟩ kp0 : Ext m H η (m ++ r) H' η').o q4⟩
    · rw [List.getElem?_append_right (by omega)] at h1
      obtain ⟨w, w', e1, e2, e3⟩ := new _ _ h1
      have e4 : η.length + (i - m.length) = i := by rw [← a.len]; omega
      rw [e4, h2] at e3
      cases e3
      obtain ⟨ho', q3, q4⟩ := a₁.obj (ix.length + (i - m.length)) b w (by rw [m1_ge]; exact h1) e1
      exact ⟨ho', q3, (RepCongr lv2).o (fun _ _ q => q) (ren_o rn q4 e2)⟩
end

example : backS [1] [some (.lst []), some (.lst [.int 3])] (.h 1) [some (.lst [.int 4]), some (.lsA [.h 0])] = some (.h 2, [some (.lst []), some (.lst [.int 4]), some (.lsA [.h 1])]) := rfl
example : subS [1] [.d (.int 4), .h 1] [some (.lst []), some (.lst [.int 3])] = some ([.d (.int 4), .h 0], [some (.lst [.int 3])]) := rfl
end Y
set_option Elab.async false
set_option linter.all false
set_option maxRecDepth 100000
set_option maxHeartbeats 2000000
set_option autoImplicit false
/-! statements, functions -/
namespace Y
open PySem PySem.Spec PyProof.Rows L2

def wpS (X : Cx) (st : Stmt) : TS := fun D σ H => ∀ (pins : List (Addr × Obj)) (s : Shared), Inv X pins σ H s → wpAny (model X.prog X.w) X.A (exec st X.env) (SP X pins D) X.xe s
def wpSs (X : Cx) (st : List Stmt) : TS := fun D σ H => ∀ (pins : List (Addr × Obj)) (s : Shared), Inv X pins σ H s → wpAny (model X.prog X.w) X.A (execs st X.env) (SP X pins D) X.xe s
theorem ps_wp {X : Cx} {st : Stmt} : PS X st (wpS X st) := ⟨fun pins s σ H D I h => h pins s I⟩
theorem pss_wp {X : Cx} {st : List Stmt} : PSs X st (wpSs X st) := ⟨fun pins s σ H D I h => h pins s I⟩
theorem wps_of {X : Cx} {st : Stmt} {t : TS} (h : PS X st t) {D : Ends} {σ : L2.St} {H : Hp} (q : t D σ H) : wpS X st D σ H := fun pins s I => h.run pins s σ H D I q
theorem wpss_of {X : Cx} {st : List Stmt} {t : TS} (h : PSs X st t) {D : Ends} {σ : L2.St} {H : Hp} (q : t D σ H) : wpSs X st D σ H := fun pins s I => h.run pins s σ H D I q

abbrev SH := Sl → Hs → Prop
structure EndsOk (K : PySem.W.Frag) (F : Fr0) (nx : SH) (rt : A → Hs → Prop) (bk ct : SH) (E : Ends) : Prop where
  nx : ∀ (m : List Addr) (σ : L2.St) (H : Hp) (δ : Sl) (η : Hs), Abs K F m σ H δ η → nx δ η → E.nx σ H
  rt : ∀ (v : V) (m : List Addr) (σ : L2.St) (H : Hp) (δ : Sl) (η : Hs) (a : A), Abs K F m σ H δ η → RepA K (Lv F.Z m η) m H v a → rt a η → E.rt v H
  bk : ∀ (m : List Addr) (σ : L2.St) (H : Hp) (δ : Sl) (η : Hs), Abs K F m σ H δ η → bk δ η → E.bk σ H
  ct : ∀ (m : List Addr) (σ : L2.St) (H : Hp) (δ : Sl) (η : Hs), Abs K F m σ H δ η → ct δ η → E.ct σ H
def WS (X : Cx) (F : Fr0) (st : Stmt) (δ : Sl) (η : Hs) (nx : SH) (rt : A → Hs → Prop) (bk ct : SH) : Prop :=
  XT X F → ∀ (m : List Addr) (σ : L2.St) (H : Hp) (E : Ends), Abs X.K F m σ H δ η → EndsOk X.K F nx rt bk ct E → wpS X st E σ H
def WSs (X : Cx) (F : Fr0) (st : List Stmt) (δ : Sl) (η : Hs) (nx : SH) (rt : A → Hs → Prop) (bk ct : SH) : Prop :=
  XT X F → ∀ (m : List Addr) (σ : L2.St) (H : Hp) (E : Ends), Abs X.K F m σ H δ η → EndsOk X.K F nx rt bk ct E → wpSs X st E σ H
/-- a target: heap as it is -/
def Tg (X : Cx) (F : Fr0) (tg : Expr) (x : A) (δ : Sl) (η : Hs) (Q : Sl → Prop) : Prop :=
  ∃ g, PG X tg g ∧ ∀ (m : List Addr) (σ : L2.St) (H : Hp) (v : V) (R : L2.St → Hp → Prop), Abs X.K F m σ H δ η → RepA X.K (Lv F.Z m η) m H v x → (∀ (σ' : L2.St) (δ' : Sl), Abs X.K F m σ' H δ' η → Q δ' → R σ' H) → g v σ H R
def Tgs (X : Cx) (F : Fr0) (ts : List Expr) (xs : List A) (δ : Sl) (η : Hs) (Q : Sl → Prop) : Prop :=
  ∃ g, PGs X ts g ∧ ∀ (m : List Addr) (σ : L2.St) (H : Hp) (vs : List V) (R : L2.St → Hp → Prop), Abs X.K F m σ H δ η → RepAs X.K (Lv F.Z m η) m H vs xs → (∀ (σ' : L2.St) (δ' : Sl), Abs X.K F m σ' H δ' η → Q δ' → R σ' H) → g vs σ H R

section
variable {X : Cx} {F : Fr0} {δ : Sl} {η : Hs} {nx bk ct : SH} {rt : A → Hs → Prop} {N U S G : List Str}
theorem ws_nil (q : nx δ η) : WSs X F [] δ η nx rt bk ct := fun xt m σ H E ab eo => wpss_of pss_nil (eo.nx m σ H δ η ab q)
theorem ws_cons {st : Stmt} {r : List Stmt} (h : WS X F st δ η (fun δ1 η1 => WSs X F r δ1 η1 nx rt bk ct) rt bk ct) : WSs X F (st :: r) δ η nx rt bk ct := fun xt m σ H E ab eo =>
  wpss_of (pss_cons ps_wp pss_wp) (h xt m σ H { E with nx := wpSs X r E } ab ⟨fun m σ H δ η ab q => q xt m σ H E ab eo, eo.rt, eo.bk, eo.ct⟩)
theorem ws_one {st : Stmt} (h : WS X F st δ η nx rt bk ct) : WSs X F [st] δ η nx rt bk ct := fun xt m σ H E ab eo => wpss_of (pss_one ps_wp) (h xt m σ H E ab eo)
theorem ws_pass {pos : Pos} (q : nx δ η) : WS X F (.Pass pos) δ η nx rt bk ct := fun xt m σ H E ab eo => wps_of ps_pass (eo.nx m σ H δ η ab q)
theorem ws_break {pos : Pos} (q : bk δ η) : WS X F (.Break pos) δ η nx rt bk ct := fun xt m σ H E ab eo => wps_of ps_break (eo.bk m σ H δ η ab q)
theorem ws_continue {pos : Pos} (q : ct δ η) : WS X F (.Continue pos) δ η nx rt bk ct := fun xt m σ H E ab eo => wps_of ps_continue (eo.ct m σ H δ η ab q)
theorem ws_expr {e : Expr} {pos : Pos} (h : W X F e δ η fun _ η1 => nx δ η1) (hs : swapsWith e none pos.line X.env = pure false) : WS X F (.Expr e pos) δ η nx rt bk ct := fun xt m σ H E ab eo =>
  wps_of (ps_expr pe_wp hs) (h xt m σ H _ ab fun v m1 H1 x η1 ab1 _ _ q => eo.nx m1 σ H1 δ η1 ab1 q)
theorem ws_ret {e : Expr} {pos : Pos} (h : W X F e δ η rt) : WS X F (.Return (some e) pos) δ η nx rt bk ct := fun xt m σ H E ab eo =>
  wps_of (ps_ret pe_wp) (h xt m σ H _ ab fun v m1 H1 x η1 ab1 _ r q => eo.rt v m1 σ H1 δ η1 x ab1 r q)
theorem ws_retN {pos : Pos} (q : rt (.d .non) η) : WS X F (.Return none pos) δ η nx rt bk ct := fun xt m σ H E ab eo =>
  wps_of ps_retN (eo.rt .non m σ H δ η _ ab (rep_non.mpr rfl) q)
theorem ws_if {c : Expr} {a b : List Stmt} {pos : Pos} (h : WT X F c δ η fun k η1 => if k = true then WSs X F a δ η1 nx rt bk ct else WSs X F b δ η1 nx rt bk ct) : WS X F (.If c a b pos) δ η nx rt bk ct := fun xt m σ H E ab eo =>
  wps_of (ps_if pt_wp pss_wp pss_wp) (h xt m σ H _ ab fun k m1 H1 η1 ab1 _ q => by
    cases k with
    | true =>
      rw [if_pos rfl] at q ⊢
      exact q xt m1 σ H1 E ab1 eo
    | false =>
      rw [if_neg Bool.false_ne_true] at q ⊢
      exact q xt m1 σ H1 E ab1 eo)
theorem ws_never {st : Stmt} (h : False) : WS X F st δ η nx rt bk ct := h.elim

/-! ### targets, assignments -/
/-- .. with what loops and unpackings ask besides -/
class CfgC (X : Cx) (N U S G : outParam (List Str)) : Prop extends Cfg X N U S G where
  calm : X.calm = true
  po : PassesOwn (model X.prog X.w) X.A X.env X.xe
theorem tg_name {n : Str} {pos : Pos} {x : A} {Q : Sl → Prop} {δ' : Sl} [C : Cfg X N U S G] [s : SlotS N δ n x δ'] [ms : Mem n S] (q : Q δ') : Tg X F (.Name n pos) x δ η Q := by
  obtain ⟨i, h1, h2, h3⟩ := s.ex
  subst h3
  exact ⟨_, pg_name (i := i) (by rw [C.ns]; exact C.nd) (by rw [C.ns]; exact h1) (C.st n ms.mem).1 (C.st n ms.mem).2, fun m σ H v R ab r k => k _ _ (ab.store h2 r) q⟩
theorem tgs_nil {Q : Sl → Prop} (q : Q δ) : Tgs X F [] [] δ η Q := ⟨_, pgs_nil, fun m σ H vs R ab r k => ⟨reps_nil.mp r, k σ δ ab q⟩⟩
theorem tgs_cons {e : Expr} {es : List Expr} {x : A} {xs : List A} {Q : Sl → Prop} (h : Tg X F e x δ η fun δ1 => Tgs X F es xs δ1 η Q) (hs : (assignEach (e :: es) X.env).map (·.2) = assign e X.env :: (assignEach es X.env).map (·.2)) : Tgs X F (e :: es) (x :: xs) δ η Q := by
  obtain ⟨g, hg, h⟩ := h
  refine ⟨gCons g (fun vs σ H R => ∃ g2, PGs X es g2 ∧ g2 vs σ H R), pgs_cons hg ⟨fun pins s σ H vs us Q I r ⟨g2, h2, q⟩ => h2.run pins s σ H vs us Q I r q⟩ hs, fun m σ H vs R ab r k => ?_⟩
  obtain ⟨v, vr, e1, r1, r2⟩ := reps_cons.mp r
  refine ⟨v, vr, e1, h m σ H v _ ab r1 fun σ1 δ1 ab1 q1 => ?_⟩
  obtain ⟨g2, hg2, h2⟩ := q1
  exact ⟨g2, hg2, h2 m σ1 H vr R ab1 r2 k⟩
/-- the items of a tuple -/
def itemsT : A → Option (List A)
  | .d (.tup xs) => some (xs.map .d)
  | .t xs => some xs
  | _ => none
theorem itemsT_ok {K : PySem.W.Frag} {L : Addr → Prop} {m : List Addr} {H : Hp} {v : V} {x : A} {xs : List A} (h : itemsT x = some xs) (r : RepA K L m H v x) : ∃ a vs, v = .ref a ∧ SqTL K L H a vs ∧ RepAs K L m H vs xs := by
  cases x with
  | h i => cases h
  | t ys =>
    cases h
    exact rep_t.mp r
  | d y =>
    cases y with
    | tup ys =>
      cases h
      obtain ⟨a, vs, e, s, q⟩ := rep_tup.mp r
      exact ⟨a, vs, e, s, reps_d.mpr q⟩
    | _ => cases h
theorem tg_tup {es : List Expr} {k : Nat} {pos : Pos} {x : A} {xs : List A} {Q : Sl → Prop} (hc : X.calm = true) (hx : itemsT x = some xs) (h : Tgs X F es xs δ η Q) (hl : xs.length = es.length) (hn : (assignEach es X.env).length = es.length) (hst : (assignEach es X.env).findIdx? (·.1) = none) : Tg X F (.Tuple es k pos) x δ η Q := by
  obtain ⟨g, hg, h⟩ := h
  refine ⟨_, pg_tup hc hg hn hst, fun m σ H v R ab r k => ?_⟩
  obtain ⟨a, vs, e, s, q⟩ := itemsT_ok hx r
  exact ⟨a, vs, e, s.sq, by rw [q.length, hl], h m σ H vs R ab q k⟩
theorem ws_set {n : Str} {pos pos' : Pos} {e : Expr} [C : Cfg X N U S G] [hn : Mem n N] [ms : Mem n S] (h : W X F e δ η fun x η1 => ∃ δ', SlotS N δ n x δ' ∧ nx δ' η1) (hs : swapsWith e (some (.Name n pos')) pos.line X.env = pure false) : WS X F (.Assign [.Name n pos'] e pos) δ η nx rt bk ct := fun xt m σ H E ab eo => by
  obtain ⟨i, hi, e1⟩ := List.getElem_of_mem hn.mem
  have hN : N[i]? = some n := by rw [List.getElem?_eq_getElem hi, e1]
  refine wps_of (ps_set (i := i) (by rw [C.ns]; exact C.nd) (by rw [C.ns]; exact hN) (C.st n ms.mem).1 pe_wp hs (C.st n ms.mem).2) (h xt m σ H _ ab fun v m1 H1 x η1 ab1 _ r ⟨δ', s, q⟩ => ?_)
  obtain ⟨j, h1, h2, h3⟩ := s.ex
  have := nodup_ix C.nd h1 hN
  subst this
  subst h3
  exact eo.nx m1 _ H1 _ η1 (ab1.store h2 r) q
/-- target = value -/
def gU (X : Cx) (tg : Expr) : TG := fun v σ H R => ∃ g, PG X tg g ∧ g v σ H R
theorem pg_wp {tg : Expr} : PG X tg (gU X tg) := ⟨fun pins s σ H v u Q I r ⟨g, h, q⟩ => h.run pins s σ H v u Q I r q⟩
theorem ws_asg {tg e : Expr} {pos : Pos} (h : W X F e δ η fun x η1 => Tg X F tg x δ η1 fun δ' => nx δ' η1) (hs : swapsWithSole [tg] e pos.line X.env = pure false) (hw : swappedStores [tg] e X.env = pure none)
    (h1 : (assignEach [tg] X.env).map (·.2) = [assign tg X.env]) : WS X F (.Assign [tg] e pos) δ η nx rt bk ct := fun xt m σ H E ab eo =>
  wps_of (ps_asg pe_wp pg_wp hs hw h1) (h xt m σ H _ ab fun v m1 H1 x η1 ab1 _ r ⟨g, hg, q⟩ => ⟨g, hg, q m1 σ H1 v _ ab1 r fun σ' δ' ab2 q2 => eo.nx m1 σ' H1 δ' η1 ab2 q2⟩)
/-- name op= e -/
def Ip2 (X : Cx) (F : Fr0) (op : Operator) (x y : A) (δ : Sl) (η : Hs) (Q : A → Hs → Prop) : Prop :=
  ∀ (m : List Addr) (σ : L2.St) (H : Hp) (R : VK) (v u : V), Abs X.K F m σ H δ η → RepA X.K (Lv F.Z m η) m H v x → RepA X.K (Lv F.Z m η) m H u y → Pst X.K F m σ H δ η Q R → ∃ r, PIp X op r ∧ r v u H R
def rUP (X : Cx) (op : Operator) : TIp := fun v u H R => ∃ r, PIp X op r ∧ r v u H R
theorem opUP {op : Operator} : PIp X op (rUP X op) := by
  intro pins s σ H x y v u Q I r1 r2 ⟨r, h1, h2⟩
  exact h1 pins s σ H x y v u Q I r1 r2 h2
theorem ws_aug {n : Str} {pos pos' : Pos} {e : Expr} {op : Operator} {a : A} [C : Cfg X N U S G] [hn : Mem n N] [ms : Mem n S] [s : SlotG N δ n a] (h : W X F e δ η fun y η1 => Ip2 X F op a y δ η1 fun z η2 => ∃ δ', SlotS N δ n z δ' ∧ nx δ' η2) : WS X F (.AugAssign (.Name n pos') op e pos) δ η nx rt bk ct := fun xt m σ H E ab eo => by
  obtain ⟨i, hi, e1⟩ := List.getElem_of_mem hn.mem
  have hN : N[i]? = some n := by rw [List.getElem?_eq_getElem hi, e1]
  obtain ⟨j, h1, h2⟩ := s.ex
  have := nodup_ix C.nd h1 hN
  subst this
  obtain ⟨v, q1, q2⟩ := ab.slot j a h2
  refine wps_of (ps_aug (i := j) (by rw [C.ns]; exact C.nd) (by rw [C.ns]; exact hN) (C.st n ms.mem).1 pe_wp opUP (C.st n ms.mem).2) ⟨v, q1, h xt m σ H _ ab fun u m1 H1 y η1 ab1 e1 r q => ?_⟩
  refine q m1 σ H1 _ v u ab1 (e1.a q2) r fun z m2 H2 w η2 ab2 e2 r2 ⟨δ', s, q⟩ => ?_
  obtain ⟨k, h1', h2', h3⟩ := s.ex
  have := nodup_ix C.nd h1' hN
  subst this
  subst h3
  exact eo.nx m2 _ H2 _ η2 (ab2.store h2' r2) q

/-! ### a state as a new entry -/
/-- the state (m, H, η) as an entry -/
def Fr0.at (F : Fr0) (m : List Addr) (H : Hp) (η : Hs) : Fr0 := ⟨H, Live m η, m, F.Z, F.EX⟩
theorem Abs.at {K : PySem.W.Frag} {m : List Addr} {σ : L2.St} {H : Hp} (ab : Abs K F m σ H δ η) : Abs K (F.at m H η) m σ H δ η := ⟨ab.toAbsH, ab.sl, ab.slot, .refl, ⟨[], by simp [Fr0.at]⟩⟩
theorem Abs.of_at {K : PySem.W.Frag} {m m' : List Addr} {σ σ' : L2.St} {H H' : Hp} {δ' : Sl} {η' : Hs} (ab : Abs K F m σ H δ η) (a2 : Abs K (F.at m H η) m' σ' H' δ' η') : Abs K F m' σ' H' δ' η' ∧ Ext m H η m' H' η' := by
  have e : Ext m H η m' H' η' := ⟨a2.pre, a2.fr⟩
  refine ⟨⟨a2.toAbsH, a2.sl, a2.slot, ab.fr.trans e.kp, ?_⟩, e⟩
  obtain ⟨r, h1⟩ := ab.pre
  obtain ⟨q, h2⟩ := e.pre
  exact ⟨r ++ q, by rw [h2, h1, List.append_assoc]⟩
theorem XT.at {m : List Addr} {σ : L2.St} {H : Hp} (xt : XT X F) (ab : Abs X.K F m σ H δ η) : XT X (F.at m H η) := xt.imp fun c d σ' H' ⟨m', δ', x, a2, r, q⟩ => ⟨m', δ', x, (ab.of_at a2).1, r, q⟩

/-! ### for -/
/-- what is walked: its items; ok: what must stay so -/
def ItA (X : Cx) (F : Fr0) (J : It) (items : List A) (ok : Hs → Prop) : Prop :=
  ∀ F' : Fr0, F'.H = F.H → F'.L = F.L → F'.m = F.m → (∀ b o, F.H b = some o → F'.Z b → F.Z b) →
  (∀ (m : List Addr) (σ : L2.St) (H : Hp) (δ : Sl) (η : Hs), Abs X.K F' m σ H δ η → ok η → J.stop items.length H) ∧
  ∀ (i : Nat) (x : A), items[i]? = some x → ∀ (m : List Addr) (σ : L2.St) (H : Hp) (δ : Sl) (η : Hs), Abs X.K F' m σ H δ η → ok η → J.go i H ∧ ∀ v H', J.yld i H v H' → Abs X.K F' m σ H' δ η ∧ RepA X.K (Lv F'.Z m η) m H' v x ∧ ∀ b o, H b = some o → H' b = some o
def WI (X : Cx) (F : Fr0) (tg iter : Expr) (δ : Sl) (η : Hs) (Q : List A → (Hs → Prop) → Hs → Prop) : Prop :=
  ∃ wi, PI X tg iter wi ∧ (XT X F → ∀ (m : List Addr) (σ : L2.St) (H : Hp) (R : It → Hp → Prop), Abs X.K F m σ H δ η →
    (∀ (J : It) (m' : List Addr) (H' : Hp) (items : List A) (ok : Hs → Prop) (η' : Hs), Abs X.K F m' σ H' δ η' → Ext m H η m' H' η' → ItA X (F.at m' H' η') J items ok → Q items ok η' → R J H') → wi σ H R)
theorem ws_for {tg iter : Expr} {body : List Stmt} {pos : Pos} [C : CfgC X N U S G] (h : WI X F tg iter δ η fun items ok η1 => ∃ Pv : Nat → SH, Pv 0 δ η1 ∧ (∀ i δ' η', i ≤ items.length → Pv i δ' η' → ok η') ∧
      (∀ F' i x δ' η', F'.m.length = η1.length → F'.EX = F.EX → items[i]? = some x → Pv i δ' η' → Tg X F' tg x δ' η' fun δ2 => WSs X F' body δ2 η' (Pv (i + 1)) rt nx (Pv (i + 1))) ∧ ∀ δ' η', Pv items.length δ' η' → nx δ' η')
    (hs : ∀ x, foldedSetIterable iter X.env x = pure x) : WS X F (.For tg iter body [] pos) δ η nx rt bk ct := fun xt m σ H E ab eo => by
  obtain ⟨wi, hwi, h⟩ := h
  refine wps_of (ps_for C.po C.calm hwi pg_wp pss_wp hs) (h xt m σ H _ ab fun J m1 H1 items ok η1 ab1 _ it ⟨Pv, p0, hok, hstep, hend⟩ => ?_)
  have it := it _ rfl rfl rfl fun _ _ _ z => z
  refine ⟨fun i n σ' H' => n = items.length - i ∧ i ≤ items.length ∧ ∃ m' δ' η', Abs X.K (F.at m1 H1 η1) m' σ' H' δ' η' ∧ Pv i δ' η', ⟨_, rfl, Nat.zero_le _, m1, δ, η1, ab1.at, p0⟩, ?_⟩
  rintro i n σ' H' ⟨rfl, hi, m', δ', η', a2, p⟩
  have hk := hok i δ' η' hi p
  by_cases hlt : i < items.length
  · have hx := List.getElem?_eq_getElem hlt
    obtain ⟨go, yl⟩ := it.2 i _ hx m' σ' H' δ' η' a2 hk
    refine .inr ⟨go, fun σ2 H2 => ∃ m2 δ2 η2, Abs X.K (F.at m1 H1 η1) m2 σ2 H2 δ2 η2 ∧ Pv (i + 1) δ2 η2, fun σ2 H2 ⟨m2, δ2, η2, a3, p3⟩ => ⟨items.length - (i + 1), by omega, rfl, hlt, m2, δ2, η2, a3, p3⟩, fun v H2 y => ?_⟩
    obtain ⟨a3, r3, _⟩ := yl v H2 y
    obtain ⟨g, hg, q⟩ := hstep (F.at m1 H1 η1) i _ δ' η' ab1.len rfl hx p
    refine ⟨g, hg, q m' σ' H2 v _ a3 r3 fun σ4 δ4 a4 q4 => q4 (xt.at ab1) m' σ4 H2 _ a4 ⟨?_, ?_, ?_, ?_⟩⟩
    · exact fun m5 σ5 H5 δ5 η5 a5 p5 => ⟨m5, δ5, η5, a5, p5⟩
    · exact fun v m5 σ5 H5 δ5 η5 a a5 r q => eo.rt v m5 σ5 H5 δ5 η5 a (ab1.of_at a5).1 r q
    · exact fun m5 σ5 H5 δ5 η5 a5 q => eo.nx m5 σ5 H5 δ5 η5 (ab1.of_at a5).1 q
    · exact fun m5 σ5 H5 δ5 η5 a5 p5 => ⟨m5, δ5, η5, a5, p5⟩
  · have e : i = items.length := by omega
    subst e
    exact .inl ⟨it.1 m' σ' H' δ' η' a2 hk, eo.nx m' σ' H' δ' η' (ab1.of_at a2).1 (hend δ' η' p)⟩
/-- while, by a word and a measure -/
theorem ws_while {c : Expr} {body : List Stmt} {pos : Pos} [C : CfgC X N U S G] (Pv : Nat → SH) (h0 : ∃ n, Pv n δ η)
    (hs : ∀ F' n δ' η', F'.m.length = η.length → F'.EX = F.EX → Pv n δ' η' → WT X F' c δ' η' fun k η1 => if k = true then WSs X F' body δ' η1 (fun δ2 η2 => ∃ n', n' < n ∧ Pv n' δ2 η2) rt nx (fun δ2 η2 => ∃ n', n' < n ∧ Pv n' δ2 η2) else nx δ' η1) : WS X F (.While c body [] pos) δ η nx rt bk ct := fun xt m σ H E ab eo => by
  obtain ⟨n0, p0⟩ := h0
  refine wps_of (ps_while C.po pt_wp pss_wp) ⟨fun n σ' H' => ∃ m' δ' η', Abs X.K (F.at m H η) m' σ' H' δ' η' ∧ Pv n δ' η', ⟨n0, m, δ, η, ab.at, p0⟩, ?_⟩
  rintro n σ' H' ⟨m', δ', η', a2, p⟩
  refine hs (F.at m H η) n δ' η' ab.len rfl p (xt.at ab) m' σ' H' _ a2 fun k m2 H2 η2 a3 _ q => ?_
  cases k with
  | true =>
    rw [if_pos rfl] at q ⊢
    refine ⟨fun σ4 H4 => ∃ n', n' < n ∧ ∃ m' δ' η', Abs X.K (F.at m H η) m' σ4 H4 δ' η' ∧ Pv n' δ' η', fun σ4 H4 q => q, q (xt.at ab) m2 σ' H2 _ a3 ⟨?_, ?_, ?_, ?_⟩⟩
    · exact fun m5 σ5 H5 δ5 η5 a5 ⟨n', hn, p5⟩ => ⟨n', hn, m5, δ5, η5, a5, p5⟩
    · exact fun v m5 σ5 H5 δ5 η5 a a5 r q => eo.rt v m5 σ5 H5 δ5 η5 a (ab.of_at a5).1 r q
    · exact fun m5 σ5 H5 δ5 η5 a5 q => eo.nx m5 σ5 H5 δ5 η5 (ab.of_at a5).1 q
    · exact fun m5 σ5 H5 δ5 η5 a5 ⟨n', hn, p5⟩ => ⟨n', hn, m5, δ5, η5, a5, p5⟩
  | false =>
    rw [if_neg Bool.false_ne_true] at q ⊢
    exact eo.nx m2 σ' H2 δ' η2 (ab.of_at a3).1 q

/-! ### forgetting: handles that are needed no more; freezing -/
def renSl (f : Nat → Option Nat) : Sl → Sl
  | [] => []
  | some x :: r => renA f x :: renSl f r
  | none :: r => none :: renSl f r
theorem renSl_len {f : Nat → Option Nat} : ∀ (δ : Sl), (renSl f δ).length = δ.length
  | [] => rfl
  | some x :: r => by
    show (renA f x :: renSl f r).length = _
    rw [List.length_cons, renSl_len r, List.length_cons]
  | none :: r => by
    show (none :: renSl f r).length = _
    rw [List.length_cons, renSl_len r, List.length_cons]
theorem renSl_get {f : Nat → Option Nat} : ∀ {δ : Sl} {i : Nat} {y : A}, (renSl f δ)[i]? = some (some y) → ∃ x, δ[i]? = some (some x) ∧ renA f x = some y
  | [], i, y, h => by simp [renSl] at h
  | some x :: r, 0, y, h => ⟨x, rfl, by simpa [renSl] using h⟩
  | none :: r, 0, y, h => by simp [renSl] at h
  | some x :: r, i + 1, y, h => by simpa using renSl_get (δ := r) (i := i) (by simpa [renSl] using h)
  | none :: r, i + 1, y, h => by simpa using renSl_get (δ := r) (i := i) (by simpa [renSl] using h)
def keepH (ix₀ : List Nat) (η : Hs) : List Nat → Option Hs
  | [] => some []
  | i :: r => match η[i]? with
    | some (some o) => match renO (posN ix₀) o with
      | some o' => match keepH ix₀ η r with
        | some ys => some (some o' :: ys)
        | none => none
      | none => none
    | some none => match keepH ix₀ η r with
      | some ys => some (none :: ys)
      | none => none
    | none => none
theorem keepH_ok {f : List Nat} {η : Hs} : ∀ {ix : List Nat} {η₀ : Hs}, keepH f η ix = some η₀ → η₀.length = ix.length ∧ ∀ (k i : Nat), ix[k]? = some i → i < η.length ∧ ∀ o', η₀[k]? = some (some o') → ∃ o, η[i]? = some (some o) ∧ renO (posN f) o = some o'
  | [], η₀, h => by
    cases h
    exact ⟨rfl, fun k i q => by simp at q⟩
  | i :: ix, η₀, h => by
    unfold keepH at h
    split at h
    · rename_i o e
      cases e1 : renO (posN f) o with
      | none => rw [e1] at h; cases h
      | some o' =>
        rw [e1] at h
        dsimp only at h
        cases e2 : keepH f η ix with
        | none => rw [e2] at h; cases h
        | some ys =>
          rw [e2] at h
          cases h
          obtain ⟨h1, h2⟩ := keepH_ok e2
          refine ⟨by simp [h1], fun k j q => ?_⟩
          cases k with
          | zero =>
            have : i = j := by simpa using q
            subst this
            exact ⟨(List.getElem?_eq_some_iff.mp e).1, fun u hu => by
              have : o' = u := by simpa using hu
              subst this
              exact ⟨o, e, e1⟩⟩
          | succ k => simpa using h2 k j (by simpa using q)
    · rename_i e
      cases e2 : keepH f η ix with
      | none => rw [e2] at h; cases h
      | some ys =>
        rw [e2] at h
        cases h
        obtain ⟨h1, h2⟩ := keepH_ok e2
        refine ⟨by simp [h1], fun k j q => ?_⟩
        cases k with
        | zero =>
          have : i = j := by simpa using q
          subst this
          exact ⟨(List.getElem?_eq_some_iff.mp e).1, fun u hu => by simp at hu⟩
        | succ k => simpa using h2 k j (by simpa using q)
    · cases h
/-- ix begins with 0, 1, .., k - 1 -/
def preN (k : Nat) (ix : List Nat) : Bool := ix.take k == List.range k
theorem preN_pre {k : Nat} {ix : List Nat} (h : preN k ix = true) {m F : List Addr} (hm : ∃ r, m = F ++ r) (hl : F.length ≤ k) (hb : ∀ i ∈ ix, i < m.length) : ∃ r, subM ix m = F ++ r := by
  obtain ⟨r, rfl⟩ := hm
  have e : ix.take k = List.range k := by simpa [preN] using h
  have e2 : (subM ix (F ++ r)).take F.length = F := by
    have e3 : ix.take F.length = List.range F.length := by
      have := congrArg (List.take F.length) e
      rw [List.take_take, List.take_range, Nat.min_eq_left hl] at this
      exact this
    unfold subM
    rw [← List.map_take, e3]
    apply List.ext_getElem?
    intro j
    rw [List.getElem?_map]
    by_cases hj : j < F.length
    · rw [List.getElem?_range hj]
      simp [List.getElem?_append_left hj, List.getElem?_eq_getElem hj]
    · have h1 : (List.range F.length)[j]? = none := by rw [List.getElem?_eq_none_iff, List.length_range]; omega
      rw [h1, List.getElem?_eq_none_iff.mpr (by omega)]
      rfl
  exact ⟨(subM ix (F ++ r)).drop F.length, by conv => lhs; rw [← List.take_append_drop F.length (subM ix (F ++ r))]
                                              rw [e2]⟩
/-- only the handles at ix -/
theorem keep_view {K : PySem.W.Frag} {Z : Addr → Prop} {m : List Addr} {H : Hp} {η η' : Hs} {ix : List Nat} (a : AbsH K Z m H η) (nd : ix.Nodup) (h : keepH ix η ix = some η') :
    (∀ i ∈ ix, i < m.length) ∧ AbsH K Z (subM ix m) H η' ∧ RenOk (posN ix) m (subM ix m) ∧ (∀ b, Live (subM ix m) η' b → Live m η b) := by
  obtain ⟨hl, ho⟩ := keepH_ok h
  have hb : ∀ i ∈ ix, i < m.length := fun i hi => by
    obtain ⟨k, hk, e⟩ := List.getElem_of_mem hi
    rw [a.len]
    exact (ho k i (by rw [List.getElem?_eq_getElem hk, e])).1
  have pk : RenOk (posN ix) m (subM ix m) := posN_ok fun k i b h1 h2 => subM_get h1 h2
  have lv : ∀ b, Live (subM ix m) η' b → Live m η b := by
    rintro b ⟨k, o, h1, h2⟩
    obtain ⟨i, q1, q2⟩ := subM_of hb h1
    obtain ⟨u, e1, _⟩ := (ho k i q1).2 o h2
    exact ⟨i, u, q2, e1⟩
  have kp : Kp (Lv Z m η) H (Lv Z (subM ix m) η') H := ⟨fun _ _ q _ => q, fun b _ _ n q => n (q.elim .inl fun z => .inr (lv b z))⟩
  refine ⟨hb, ⟨?_, ?_, fun b hbm => ?_, a.zt, fun b hbm hz => ?_, fun k b o h1 h2 => ?_⟩, pk, lv⟩
  · unfold subM
    rw [List.length_map, hl]
  · rw [List.nodup_iff_pairwise_ne, List.pairwise_iff_getElem]
    intro i j h1 h2 hij e
    obtain ⟨i', q1, q2⟩ := subM_of hb (List.getElem?_eq_getElem h1)
    obtain ⟨j', q3, q4⟩ := subM_of hb (List.getElem?_eq_getElem h2)
    rw [← e] at q4
    have := nodup_at a.nd q2 q4
    subst this
    have := nodup_ixN nd q1 q3
    omega
  · obtain ⟨k, hk, e⟩ := List.getElem_of_mem hbm
    obtain ⟨i, q1, q2⟩ := subM_of (k := k) (a := b) hb (by rw [List.getElem?_eq_getElem hk, e])
    exact a.trk b (List.mem_of_getElem? q2)
  · obtain ⟨k, hk, e⟩ := List.getElem_of_mem hbm
    obtain ⟨i, q1, q2⟩ := subM_of (k := k) (a := b) hb (by rw [List.getElem?_eq_getElem hk, e])
    exact a.zd b (List.mem_of_getElem? q2) hz
  · obtain ⟨i, q1, q2⟩ := subM_of hb h1
    obtain ⟨u, e1, e2⟩ := (ho k i q1).2 o h2
    obtain ⟨ho', q3, q4⟩ := a.obj i b u q2 e1
    exact ⟨ho', q3, kp.o (fun _ _ q => q) (ren_o pk q4 e2)⟩
theorem Abs.keep {K : PySem.W.Frag} {m : List Addr} {σ : L2.St} {H : Hp} {η' : Hs} {ix : List Nat} {k : Nat} (a : Abs K F m σ H δ η) (nd : ndN ix = true) (h : keepH ix η ix = some η') (hp : preN k ix = true) (hk : F.m.length ≤ k) :
    Abs K F (subM ix m) σ H (renSl (posN ix) δ) η' ∧ ∀ {x y : A} {v : V}, RepA K (Lv F.Z m η) m H v x → renA (posN ix) x = some y → RepA K (Lv F.Z (subM ix m) η') (subM ix m) H v y := by
  obtain ⟨hb, a2, pk, lv⟩ := keep_view a.toAbsH (ndN_ok nd) h
  have kp : Kp (Lv F.Z m η) H (Lv F.Z (subM ix m) η') H := ⟨fun _ _ q _ => q, fun b _ _ n q => n (q.elim .inl fun z => .inr (lv b z))⟩
  have rn : ∀ {x y : A} {v : V}, RepA K (Lv F.Z m η) m H v x → renA (posN ix) x = some y → RepA K (Lv F.Z (subM ix m) η') (subM ix m) H v y := fun r e => kp.a (fun _ _ q => q) (ren_a pk r e)
  refine ⟨⟨a2, by rw [renSl_len]; exact a.sl, fun i y hy => ?_, a.fr.trans ⟨fun _ _ q _ => q, fun b _ _ n q => n (lv b q)⟩, preN_pre hp a.pre hk hb⟩, rn⟩
  obtain ⟨x, h1, h2⟩ := renSl_get hy
  obtain ⟨v, h3, h4⟩ := a.slot i x h1
  exact ⟨v, h3, rn h4 h2⟩
/-- the block's end, with only the handles at ix kept -/
theorem ws_nil_gc {η' : Hs} {k : Nat} (ix : List Nat) (hk : F.m.length ≤ k) (hp : preN k ix = true) (nd : ndN ix = true) (h : keepH ix η ix = some η') (q : nx (renSl (posN ix) δ) η') : WSs X F [] δ η nx rt bk ct := fun xt m σ H E ab eo =>
  wpss_of pss_nil (eo.nx _ σ H _ _ (ab.keep nd h hp hk).1 q)
theorem ws_gc {η' : Hs} {k : Nat} {sts : List Stmt} (ix : List Nat) (hk : F.m.length ≤ k) (hp : preN k ix = true) (nd : ndN ix = true) (h : keepH ix η ix = some η') (q : WSs X F sts (renSl (posN ix) δ) η' nx rt bk ct) : WSs X F sts δ η nx rt bk ct := fun xt m σ H E ab eo =>
  q xt _ σ H E (ab.keep nd h hp hk).1 eo
theorem ws_continue_gc {η' : Hs} {k : Nat} {pos : Pos} (ix : List Nat) (hk : F.m.length ≤ k) (hp : preN k ix = true) (nd : ndN ix = true) (h : keepH ix η ix = some η') (q : ct (renSl (posN ix) δ) η') : WS X F (.Continue pos) δ η nx rt bk ct := fun xt m σ H E ab eo => wps_of ps_continue (eo.ct _ σ H _ _ (ab.keep nd h hp hk).1 q)
/-- forget slots -/
theorem Abs.forget {K : PySem.W.Frag} {m : List Addr} {σ : L2.St} {H : Hp} {δ' : Sl} (a : Abs K F m σ H δ η) (hl : δ'.length = δ.length) (h : ∀ (i : Nat) (x : A), δ'[i]? = some (some x) → δ[i]? = some (some x)) : Abs K F m σ H δ' η :=
  ⟨a.toAbsH, by rw [hl]; exact a.sl, fun i x e => a.slot i x (h i x e), a.fr, a.pre⟩
end

/-! ### freezing: a mutable object that is changed no more becomes pure data -/
mutual
def frzA (i : Nat) (d : D) : A → A
  | .d x => .d x
  | .h j => if j = i then .d d else .h j
  | .t xs => mkT (frzAs i d xs)
def frzAs (i : Nat) (d : D) : List A → List A
  | [] => []
  | x :: r => frzA i d x :: frzAs i d r
end
/-- what it becomes -/
def pureF : List (Str × A) → Option (List (Str × D))
  | [] => some []
  | (n, .d x) :: r => match pureF r with
    | some ys => some ((n, x) :: ys)
    | none => none
  | _ :: _ => none
def pureO : O → Option D
  | .lst xs => some (.lst xs)
  | .ins C fs => match pureF fs with
    | some ys => some (.ins C ys)
    | none => none
  | _ => none
def frzSl (i : Nat) (d : D) : Sl → Sl
  | [] => []
  | some x :: r => some (frzA i d x) :: frzSl i d r
  | none :: r => none :: frzSl i d r
def frzFs (i : Nat) (d : D) : List (Str × A) → List (Str × A)
  | [] => []
  | (n, x) :: r => (n, frzA i d x) :: frzFs i d r
def frzO (i : Nat) (d : D) : O → O
  | .lsA xs => mkL (frzAs i d xs)
  | .ins C fs => .ins C (frzFs i d fs)
  | o => o
def frzH (i : Nat) (d : D) : Nat → Hs → Hs
  | _, [] => []
  | j, some o :: r => (if j = i then none else some (frzO i d o)) :: frzH i d (j + 1) r
  | j, none :: r => none :: frzH i d (j + 1) r
section
variable {K : PySem.W.Frag} {L L' : Addr → Prop} {m : List Addr} {H : Hp} {i : Nat} {d : D} {p : Addr}
mutual
theorem frz_a (kp : Kp L H L' H) (hm : m[i]? = some p) (r : RepD K L' H (.ref p) d) : ∀ {x : A} {v : V}, RepA K L m H v x → RepA K L' m H v (frzA i d x)
  | .d x, v, h => rep_d.mpr (kp.d (rep_d.mp h))
  | .h j, v, h => by
    unfold frzA
    obtain ⟨a, h1, h2⟩ := rep_h.mp h
    split
    · rename_i e
      subst e
      rw [hm] at h1
      cases h1
      rw [h2]
      exact rep_d.mpr r
    · exact rep_h.mpr ⟨a, h1, h2⟩
  | .t xs, v, h => by
    unfold frzA
    obtain ⟨a, vs, e, s, q⟩ := rep_t.mp h
    rw [e]
    exact rep_mkT (kp.sqT s) (frz_as kp hm r q)
theorem frz_as (kp : Kp L H L' H) (hm : m[i]? = some p) (r : RepD K L' H (.ref p) d) : ∀ {xs : List A} {vs : List V}, RepAs K L m H vs xs → RepAs K L' m H vs (frzAs i d xs)
  | [], vs, h => reps_nil.mpr (reps_nil.mp h)
  | x :: xs, vs, h => by
    unfold frzAs
    obtain ⟨v, vr, e, h1, h2⟩ := reps_cons.mp h
    exact reps_cons.mpr ⟨v, vr, e, frz_a kp hm r h1, frz_as kp hm r h2⟩
end
theorem frz_fs (kp : Kp L H L' H) (hm : m[i]? = some p) (r : RepD K L' H (.ref p) d) : ∀ {xs : List (Str × A)} {vs : List (Str × V)}, RepFA K L m H vs xs → RepFA K L' m H vs (frzFs i d xs)
  | [], vs, h => repfa_nil.mpr (repfa_nil.mp h)
  | (n, x) :: xs, vs, h => by
    unfold frzFs
    obtain ⟨v, vr, e, h1, h2⟩ := repfa_cons.mp h
    exact repfa_cons.mpr ⟨v, vr, e, frz_a kp hm r h1, frz_fs kp hm r h2⟩
theorem frz_o (kp : Kp L H L' H) (hm : m[i]? = some p) (r : RepD K L' H (.ref p) d) : ∀ {x : O} {ho : HO}, RepO K L m H ho x → RepO K L' m H ho (frzO i d x)
  | .lst xs, _, h => kp.o (fun _ _ q => q) h
  | .lsA xs, _, h => by
    unfold RepO at h
    obtain ⟨vs, e, q⟩ := h
    subst e
    exact rep_mkL (frz_as kp hm r q)
  | .ins C fs, _, h => by
    unfold RepO at h
    obtain ⟨dx, fv, e, q⟩ := h
    unfold frzO RepO
    exact ⟨dx, fv, e, frz_fs kp hm r q⟩
  | .dK kvs, _, h => kp.o (fun _ _ q => q) h
  | .dT kvs, _, h => kp.o (fun _ _ q => q) h
  | .lkd _ _ _, _, h => kp.o (fun _ _ q => q) h
  | .set S n, _, h => kp.o (fun _ _ q => q) h
end
theorem frzSl_len {i : Nat} {d : D} : ∀ (δ : Sl), (frzSl i d δ).length = δ.length
  | [] => rfl
  | some x :: r => by
    show (some (frzA i d x) :: frzSl i d r).length = _
    rw [List.length_cons, frzSl_len r, List.length_cons]
  | none :: r => by
    show (none :: frzSl i d r).length = _
    rw [List.length_cons, frzSl_len r, List.length_cons]
theorem frzSl_get {i : Nat} {d : D} : ∀ {δ : Sl} {k : Nat} {y : A}, (frzSl i d δ)[k]? = some (some y) → ∃ x, δ[k]? = some (some x) ∧ frzA i d x = y
  | [], k, y, h => by simp [frzSl] at h
  | some x :: r, 0, y, h => ⟨x, rfl, by simpa [frzSl] using h⟩
  | none :: r, 0, y, h => by simp [frzSl] at h
  | some x :: r, k + 1, y, h => by simpa using frzSl_get (δ := r) (k := k) (by simpa [frzSl] using h)
  | none :: r, k + 1, y, h => by simpa using frzSl_get (δ := r) (k := k) (by simpa [frzSl] using h)
theorem frzH_len {i : Nat} {d : D} : ∀ (j : Nat) (η : Hs), (frzH i d j η).length = η.length
  | _, [] => rfl
  | j, some o :: r => by
    show (_ :: frzH i d (j + 1) r).length = _
    rw [List.length_cons, frzH_len (j + 1) r, List.length_cons]
  | j, none :: r => by
    show (_ :: frzH i d (j + 1) r).length = _
    rw [List.length_cons, frzH_len (j + 1) r, List.length_cons]
theorem frzH_get {i : Nat} {d : D} : ∀ {j : Nat} {η : Hs} {k : Nat} {o' : O}, (frzH i d j η)[k]? = some (some o') → j + k ≠ i ∧ ∃ o, η[k]? = some (some o) ∧ frzO i d o = o'
  | j, [], k, o', h => by simp [frzH] at h
  | j, some o :: r, 0, o', h => by
    have h' : (if j = i then none else some (frzO i d o)) = some o' := by simpa [frzH] using h
    split at h'
    · cases h'
    · rename_i n
      exact ⟨by simpa using n, o, rfl, Option.some.inj h'⟩
  | j, none :: r, 0, o', h => by simp [frzH] at h
  | j, some o :: r, k + 1, o', h => by
    obtain ⟨n, q⟩ := frzH_get (j := j + 1) (η := r) (k := k) (by simpa [frzH] using h)
    exact ⟨by omega, by simpa using q⟩
  | j, none :: r, k + 1, o', h => by
    obtain ⟨n, q⟩ := frzH_get (j := j + 1) (η := r) (k := k) (by simpa [frzH] using h)
    exact ⟨by omega, by simpa using q⟩
theorem pureF_ok {K : PySem.W.Frag} {L : Addr → Prop} {m : List Addr} {H : Hp} : ∀ {fs : List (Str × A)} {ds : List (Str × D)} {fv : List (Str × V)}, pureF fs = some ds → RepFA K L m H fv fs → RepFs K L H fv ds
  | [], ds, fv, h, r => by
    cases h
    unfold RepFs
    exact repfa_nil.mp r
  | (n, .d x) :: fs, ds, fv, h, r => by
    unfold pureF at h
    cases e : pureF fs with
    | none => rw [e] at h; cases h
    | some ys =>
      rw [e] at h
      cases h
      obtain ⟨v, vr, e1, h1, h2⟩ := repfa_cons.mp r
      unfold RepFs
      exact ⟨v, vr, e1, rep_d.mp h1, pureF_ok e h2⟩
  | (n, .h i) :: fs, ds, fv, h, r => by simp [pureF] at h
  | (n, .t xs) :: fs, ds, fv, h, r => by simp [pureF] at h
section
variable {X : Cx} {F : Fr0} {δ : Sl} {η : Hs} {nx bk ct : SH} {rt : A → Hs → Prop} {N U S G : List Str}
theorem AbsH.frz {K : PySem.W.Frag} {Z : Addr → Prop} {m : List Addr} {H : Hp} {i : Nat} {o : O} {d : D} (a : AbsH K Z m H η) (h : η[i]? = some (some o)) (hd : pureO o = some d) :
    AbsH K Z m H (frzH i d 0 η) ∧ Ext m H η m H (frzH i d 0 η) ∧ ∀ {x : A} {v : V}, RepA K (Lv Z m η) m H v x → RepA K (Lv Z m (frzH i d 0 η)) m H v (frzA i d x) := by
  have hi := (List.getElem?_eq_some_iff.mp h).1
  have hmi : i < m.length := by rw [a.len]; exact hi
  have hm : m[i]? = some m[i] := List.getElem?_eq_getElem hmi
  have lv : ∀ b, Live m (frzH i d 0 η) b → Live m η b ∧ b ≠ m[i] := by
    rintro b ⟨k, u, h1, h2⟩
    obtain ⟨n, w, h3, _⟩ := frzH_get h2
    refine ⟨⟨k, w, h1, h3⟩, ?_⟩
    rintro rfl
    have := nodup_at a.nd h1 hm
    omega
  have kp : Kp (Lv Z m η) H (Lv Z m (frzH i d 0 η)) H := ⟨fun _ _ q _ => q, fun b _ _ n q => n (q.elim .inl fun z => .inr (lv b z).1)⟩
  have nl : ¬ Lv Z m (frzH i d 0 η) m[i] := by
    rintro (z | l)
    · exact a.zd _ (List.getElem_mem hmi) z
    · exact (lv _ l).2 rfl
  have rd : RepD K (Lv Z m (frzH i d 0 η)) H (.ref m[i]) d := by
    obtain ⟨ho, q1, q2⟩ := a.obj i _ o hm h
    cases o with
    | lst xs =>
      cases hd
      unfold RepO at q2
      obtain ⟨vs, e, r⟩ := q2
      subst e
      unfold RepD
      exact ⟨_, vs, rfl, .inl ⟨nl, .inl q1⟩, kp.ds r⟩
    | ins C fs =>
      dsimp only [pureO] at hd
      cases e : pureF fs with
      | none => rw [e] at hd; cases hd
      | some ys =>
        rw [e] at hd
        cases hd
        unfold RepO at q2
        obtain ⟨dx, fv, e2, r⟩ := q2
        subst e2
        unfold RepD
        exact ⟨_, dx, fv, rfl, nl, q1, kp.fs (pureF_ok e r)⟩
    | lsA xs => cases hd
    | dK xs => cases hd
    | dT xs => cases hd
    | lkd xs => cases hd
    | set xs => cases hd
  refine ⟨⟨by rw [frzH_len]; exact a.len, a.nd, a.trk, a.zt, a.zd, fun k b u h1 h2 => ?_⟩, ⟨⟨[], by simp⟩, ⟨fun _ _ q _ => q, fun b _ _ n q => n (lv b q).1⟩⟩, fun r => frz_a kp hm rd r⟩
  obtain ⟨n, w, h3, h4⟩ := frzH_get h2
  obtain ⟨ho, q1, q2⟩ := a.obj k b w h1 h3
  exact ⟨ho, q1, by rw [← h4]; exact frz_o kp hm rd q2⟩
theorem Abs.frz {K : PySem.W.Frag} {m : List Addr} {σ : L2.St} {H : Hp} {i : Nat} {o : O} {d : D} (a : Abs K F m σ H δ η) (h : η[i]? = some (some o)) (hd : pureO o = some d) : Abs K F m σ H (frzSl i d δ) (frzH i d 0 η) := by
  obtain ⟨a2, e, r⟩ := a.toAbsH.frz h hd
  refine ⟨a2, by rw [frzSl_len]; exact a.sl, fun k y hy => ?_, a.fr.trans e.kp, a.pre⟩
  obtain ⟨x, h1, h2⟩ := frzSl_get hy
  obtain ⟨v, h3, h4⟩ := a.slot k x h1
  exact ⟨v, h3, by rw [← h2]; exact r h4⟩
theorem ws_frz {sts : List Stmt} (i : Nat) {o : O} {d : D} (h : η[i]? = some (some o)) (hd : pureO o = some d) (q : WSs X F sts (frzSl i d δ) (frzH i d 0 η) nx rt bk ct) : WSs X F sts δ η nx rt bk ct := fun xt m σ H E ab eo =>
  q xt m σ H E (ab.frz h hd) eo
end
end Y
set_option Elab.async false
set_option linter.all false
set_option maxRecDepth 100000
set_option maxHeartbeats 2000000
set_option autoImplicit false
/-! functions: their promises, their calls -/
namespace Y
open PySem PySem.Spec PyProof.Rows L2

/-- what stands in a def's text -/
structure ScA (N ps U G : List Str) (st : Stmt) : Prop where
  fs : FnScope N ps (defScope st)
  vi : ∀ x ∈ U, (defScope st).names.lookup x = some .local ∨ (defScope st).names.lookup x = some .cell
  glo : ∀ x ∈ G, (defScope st).names.lookup x = some .globalImplicit
  dbg : ∀ x ∈ U ++ G, (x == ("__debug__" : Str)) = false ∧ (x == ("__classdict__" : Str)) = false ∧ x ≠ "__name__"
def startO : List Str → List A → Option Sl
  | [], [] => some []
  | [], _ :: _ => none
  | _ :: N, x :: xs => match startO N xs with
    | some r => some (some x :: r)
    | none => none
  | _ :: N, [] => match startO N [] with
    | some r => some (none :: r)
    | none => none
theorem startO_ok : ∀ {N : List Str} {xs : List A} {δ : Sl}, startO N xs = some δ → xs.length ≤ N.length ∧ δ = xs.map some ++ List.replicate (N.length - xs.length) none
  | [], [], δ, h => by cases h; exact ⟨Nat.le_refl _, rfl⟩
  | [], x :: xs, δ, h => by cases h
  | n :: N, x :: xs, δ, h => by
    unfold startO at h
    cases e : startO N xs with
    | none => rw [e] at h; cases h
    | some r =>
      rw [e] at h
      cases h
      obtain ⟨h1, h2⟩ := startO_ok e
      refine ⟨by simpa using h1, ?_⟩
      rw [h2]
      simp
  | n :: N, [], δ, h => by
    unfold startO at h
    cases e : startO N [] with
    | none => rw [e] at h; cases h
    | some r =>
      rw [e] at h
      cases h
      obtain ⟨h1, h2⟩ := startO_ok e
      refine ⟨by simp, ?_⟩
      rw [h2]
      simp [List.replicate_succ]
/-- behind a body: what is kept of the heap, then what is wanted -/
def GcR (k : Nat) (Q : A → Hs → Prop) (a : A) (η : Hs) : Prop := ∃ (ix : List Nat) (a' : A) (η' : Hs), ndN ix = true ∧ preN k ix = true ∧ keepH ix η ix = some η' ∧ renA (posN ix) a = some a' ∧ Q a' η'
def GcX (k : Nat) (E : XA → Prop) (x : XA) (_ : Sl) : Prop := ∃ (ix : List Nat) (η' : Hs), ndN ix = true ∧ preN k ix = true ∧ keepH ix x.η ix = some η' ∧ E ⟨x.C, x.fs, η'⟩
def noSH : SH := fun _ _ => False

/-- a def of the module, by its promise -/
structure GFn (P : Program) (w : World) (K : PySem.W.Frag) (mg : Str → Option Value) (base : Heap) (n : Str) (k : Nat) (S : Spec) : Prop where
  ex : ∃ (f : Addr) (fd : FuncData) (ps : List Str), FnOk P w K mg base (L2.CX P w) k f fd ps (spOf K S) ∧ mg n = some (.ref f) ∧ PySem.W.keepIn K (.ref f) = true ∧ Binds K fd ps []
class GFx (X : Cx) (n : Str) (k : outParam Nat) (S : outParam Spec) : Prop where
  g : GFn X.prog X.w X.K X.mg X.base n k S
/-- room for so many calls, one in another -/
class Rm (X : Cx) (j : outParam Nat) : Prop where
  r : Room j X.A
/-- the context of a body -/
structure Lift (P : Program) (w : World) (K : PySem.W.Frag) (mg : Str → Option Value) (base : Heap) (X : Cx) (k : Nat) : Prop where
  rm : Rm X k
  bl : ∀ {L : List Str}, (∀ x ∈ L, mg x = none) → Blt X L
  fn : ∀ {n : Str} {j : Nat} {S : Spec}, GFn P w K mg base n j S → GFx X n j S
  rf : ∀ {n : Str} {a : Addr}, mg n = some (.ref a) → GRef X n a
  K : X.K = K
section
variable {P : Program} {w : World} {K : PySem.W.Frag} {mg : Str → Option Value} {base : Heap}
theorem cfg_of {CXt : CXT} {N ps U G : List Str} {st : Stmt} {qual : Str} {f : Addr} {cd : Value} {A : Around} {outer : List Env} {s : Shared} {H : Hp} {E : XK} (S : ScA N ps U G st)
    : CfgC (cxOf CXt P w K mg base N qual (defScope st) f cd A outer s H E) N U U G :=
  { toCfg := ⟨rfl, S.fs.nd, fun x h => (S.vi x h).elim .inl fun z => .inr (.inl z), fun x h => ⟨S.vi x h, .inl rfl⟩, S.glo, S.dbg⟩, calm := rfl, po := passes_of rfl }
theorem start_abs {K : PySem.W.Frag} {N : List Str} {xs : List A} {δ : Sl} {vs : List V} {F : Fr0} {m : List Addr} {H : Hp} {η : Hs} (h : startO N xs = some δ) (a : AbsH K F.Z m H η) (r : RepAs K (Lv F.Z m η) m H vs xs) (hfr : Kp F.L F.H (Live m η) H) (hp : ∃ q, m = F.m ++ q) : Abs K F m (L2.start N vs) H δ η := by
  obtain ⟨h1, rfl⟩ := startO_ok h
  have hl := r.length
  refine ⟨a, ?_, fun i x e => ?_, hfr, hp⟩
  · unfold L2.start
    rw [List.length_append, List.length_append, List.length_map, List.length_map, List.length_replicate, List.length_replicate, hl]
  · by_cases hi : i < xs.length
    · rw [List.getElem?_append_left (by simpa using hi), List.getElem?_map] at e
      cases q : xs[i]? with
      | none => rw [q] at e; cases e
      | some y =>
        rw [q] at e
        cases e
        obtain ⟨v, q1, q2⟩ := r.get q
        refine ⟨v, ?_, q2⟩
        unfold L2.start
        rw [List.getElem?_append_left (by rw [List.length_map, hl]; exact hi), List.getElem?_map, q1]
        rfl
    · rw [List.getElem?_append_right (by simpa using hi), List.getElem?_replicate] at e
      split at e <;> cases e
/-- THE RULE for a def -/
theorem okA {x qual : Str} {st : Stmt} {f : Addr} {fd : FuncData} {N ps U G : List Str} {k : Nat} {S : Spec} (F : Fun K x qual st f fd) (Sc : ScA N ps U G st) (len : ∀ xs η Q E, S xs η Q E → xs.length = ps.length)
    (hbody : ∀ (cdv : Value) (A₀ : Around) (outer : List Env) (s : Shared) (H : Hp) (E : XK), Lift P w K mg base (cxOf (L2.CX P w) P w K mg base N qual (defScope st) f cdv A₀ outer s H E) k →
      CfgC (cxOf (L2.CX P w) P w K mg base N qual (defScope st) f cdv A₀ outer s H E) N U U G →
      ∀ (xs : List A) (η : Hs) (Q : A → Hs → Prop) (EQ : XA → Prop), S xs η Q EQ → ∀ (F₀ : Fr0) (δ : Sl), F₀.m.length = η.length → F₀.EX = GcX η.length EQ → startO N xs = some δ →
        WSs (cxOf (L2.CX P w) P w K mg base N qual (defScope st) f cdv A₀ outer s H E) F₀ (defBody st) δ η (fun _ η' => GcR η.length Q (.d .non) η') (GcR η.length Q) noSH noSH)
    (hst : ∀ xs η Q E, S xs η Q E → ∃ δ, startO N xs = some δ) :
    FnOk P w K mg base (L2.CX P w) (k + 1) f fd ps (spOf K S) := by
  refine F.okX Sc.fs (fun vs H R E ⟨Z, m, η, xs, Q, EQ, a, r, q, _⟩ => by rw [r.length]; exact len _ _ _ _ q) fun cdv A₀ outer s H vs R E hr ⟨Z, m, η, xs, Q, EQ, a, r, q, qR, qE⟩ => ⟨wpSs _ (defBody st), pss_wp, ?_⟩
  obtain ⟨δ, hδ⟩ := hst _ _ _ _ q
  have hF := hbody cdv A₀ outer s H E ⟨⟨hr⟩, fun h => ⟨h⟩, fun h => ⟨h⟩, fun h => ⟨h⟩, rfl⟩ (cfg_of Sc) xs η Q EQ q ⟨H, Live m η, m, Z, GcX η.length EQ⟩ δ a.len rfl hδ
  have key : ∀ (m' : List Addr) (σ' : L2.St) (H' : Hp) (δ' : Sl) (η' : Hs) (ix : List Nat) (η'' : Hs), Abs K ⟨H, Live m η, m, Z, GcX η.length EQ⟩ m' σ' H' δ' η' → ndN ix = true → preN η.length ix = true → keepH ix η' ix = some η'' →
      AbsH K Z (subM ix m') H' η'' ∧ Ext m H η (subM ix m') H' η'' ∧ (∀ {x y : A} {v : V}, RepA K (Lv Z m' η') m' H' v x → renA (posN ix) x = some y → RepA K (Lv Z (subM ix m') η'') (subM ix m') H' v y) ∧ ∀ {fv : List (Str × V)} {fs : List (Str × D)}, RepFs K (Lv Z m' η') H' fv fs → RepFs K (Lv Z (subM ix m') η'') H' fv fs := by
    intro m' σ' H' δ' η' ix η'' ab nd hp hk
    obtain ⟨a2, rn⟩ := ab.keep nd hk hp (Nat.le_of_eq a.len)
    obtain ⟨hb, a3, pk, lv⟩ := keep_view ab.toAbsH (ndN_ok nd) hk
    exact ⟨a2.toAbsH, ⟨a2.pre, a2.fr⟩, rn, fun h => (⟨fun _ _ q _ => q, fun b _ _ n q => n (q.elim .inl fun z => .inr (lv b z))⟩ : Kp (Lv Z m' η') H' (Lv Z (subM ix m') η'') H').fs h⟩
  refine hF (takes_of rfl rfl rfl rfl |>.imp ?_) m (L2.start N vs) H _ (start_abs (F := ⟨H, Live m η, m, Z, GcX η.length EQ⟩) hδ a r .refl ⟨[], by simp⟩) ⟨?_, ?_, ?_, ?_⟩
  · rintro c d σ' H' ⟨m', δ', x, ab, ⟨rfl, dx, fv, rfl, nl, hd, rf⟩, ix, η', nd, hp, hk, hE⟩
    obtain ⟨a2, e2, rn, rfs⟩ := key m' σ' H' δ' x.η ix η' ab nd hp hk
    obtain ⟨_, _, _, lv⟩ := keep_view ab.toAbsH (ndN_ok nd) hk
    exact qE _ hE (subM ix m') H' dx fv a2 e2 hd (fun z => nl (z.elim .inl fun z => .inr (lv _ z))) (rfs rf)
  · rintro m' σ' H' δ' η' ab ⟨ix, a', η'', nd, hp, hk, hr', hq⟩
    cases hr'
    obtain ⟨a2, e2, rn, _⟩ := key m' σ' H' δ' η' ix η'' ab nd hp hk
    exact qR _ _ hq .non (subM ix m') H' a2 e2 (rep_non.mpr rfl)
  · rintro v m' σ' H' δ' η' y ab rv ⟨ix, a', η'', nd, hp, hk, hr', hq⟩
    obtain ⟨a2, e2, rn, _⟩ := key m' σ' H' δ' η' ix η'' ab nd hp hk
    exact qR _ _ hq v (subM ix m') H' a2 e2 (rn rv hr')
  · intro _ _ _ _ _ _ h; exact h.elim
  · intro _ _ _ _ _ _ h; exact h.elim
end

/-! ### calls -/
/-- what a call asks: which handles go along, what the function asks of them, what is made of what comes back -/
def CallA (F : Fr0) (δ : Sl) (S : Spec) (xs : List A) (η : Hs) (Q : A → Hs → Prop) : Prop :=
  ∃ (ix : List Nat) (xs₀ : List A) (η₀ : Hs), subS ix xs η = some (xs₀, η₀) ∧ S xs₀ η₀ (fun a₀ η₁ => ∃ a η', backS ix η a₀ η₁ = some (a, η') ∧ Q a η') (fun x => ∃ η', backH (mapN ix η.length) ix η x.η = some η' ∧ F.EX ⟨x.C, x.fs, η'⟩ δ)
section
variable {X : Cx} {F : Fr0} {δ : Sl} {η : Hs} {Q : A → Hs → Prop} {N U S G : List Str}
/-- the wish of a callee, at slots σ -/
theorem call_xe {pins : List (Addr × Obj)} {σ : L2.St} {H : Hp} {s : Shared} {E : XK} (xt : XT X F) (I : Inv X pins σ H s) (hW : ∀ cls d H', E cls d H' → WXF X F cls d σ H') {e : Value} {s' : Shared} (c : L2.CX X.prog X.w X.stack H s E e s') : X.xe e s' := xt e s' (XE.of_call I hW c)
/-- what the callee is asked, at its values -/
theorem sp_A {S : Spec} {σ : L2.St} {H : Hp} {R : VK} {vs : List V} {xs : List A} {m : List Addr} (ab : Abs X.K F m σ H δ η) (rx : RepAs X.K (Lv F.Z m η) m H vs xs) (h : CallA F δ S xs η Q) (po : Pst X.K F m σ H δ η Q R) :
    spOf X.K S vs H R (fun cls d H' => WXF X F cls d σ H') := by
  obtain ⟨ix, xs₀, η₀, hs, hS⟩ := h
  obtain ⟨hbd, lv, a2, r2⟩ := sub_view ab.toAbsH rx hs
  have sub : ∀ {m₁ : List Addr} {H' : Hp} {η₁ η' : Hs}, AbsH X.K (subZ ix F.Z m η) m₁ H' η₁ → Ext (subM ix m) H η₀ m₁ H' η₁ → backH (mapN ix η.length) ix η η₁ = some η' →
      ∃ m', Abs X.K F m' σ H' δ η' ∧ Ext m H η m' H' η' ∧ RenOk (mapN ix η.length) m₁ m' ∧ ∀ b, Lv (subZ ix F.Z m η) m₁ η₁ b ↔ Lv F.Z m' η' b := by
    intro m₁ H' η₁ η' q1 q2 q3
    obtain ⟨m', b1, b2, b3, b4⟩ := back_view ab.toAbsH hs hbd lv q1 q2 q3
    refine ⟨m', ⟨b1, ab.sl, fun i x e => ?_, ab.fr.trans b2.kp, ?_⟩, b2, b3, b4⟩
    · obtain ⟨v, h1, h2⟩ := ab.slot i x e
      exact ⟨v, h1, b2.a h2⟩
    · obtain ⟨q, h1⟩ := ab.pre
      obtain ⟨q', h2⟩ := b2.pre
      exact ⟨q ++ q', by rw [h2, h1, List.append_assoc]⟩
  refine ⟨subZ ix F.Z m η, subM ix m, η₀, xs₀, _, _, a2, r2, hS, ?_, ?_⟩
  · rintro a₀ η₁ ⟨a, η', hk, q⟩ v m₁ H' b1 b2 b3
    obtain ⟨k1, k2⟩ := backS_ok hk
    obtain ⟨m', c1, c2, c3, c4⟩ := sub b1 b2 k2
    exact po v m' H' a η' c1 c2 ((RepCongr c4).a (fun _ _ q => q) (ren_a c3 b3 k1)) q
  · rintro x ⟨η', hk, q⟩ m₁ H' dx fv b1 b2 b3 b4 b5
    obtain ⟨m', c1, c2, c3, c4⟩ := sub b1 b2 hk
    exact ⟨m', δ, ⟨x.C, x.fs, η'⟩, c1, ⟨rfl, dx, fv, rfl, fun z => b4 ((c4 dx).mpr z), b3, (RepCongr c4).fs b5⟩, q⟩
/-- the core: the function at f, called with these -/
theorem run_A {k : Nat} {f : Addr} {fd : FuncData} {ps : List Str} {S : Spec} {ds : List Value} {dvs : List V} {pins : List (Addr × Obj)} {σ : L2.St} {H : Hp} {s : Shared} {R : VK} {us : List Value} {vs : List V} {xs : List A} {m : List Addr}
    (G0 : FnOk X.prog X.w X.K X.mg X.base (L2.CX X.prog X.w) k f fd ps (spOf X.K S)) (hr : Room k X.A) (hb : Binds X.K fd ps ds) (hd : Vals dvs ds) (xt : XT X F) (I : Inv X pins σ H s) (r : Vals vs us)
    (ab : Abs X.K F m σ H δ η) (rx : RepAs X.K (Lv F.Z m η) m H (vs ++ dvs) xs) (h : CallA F δ S xs η Q) (po : Pst X.K F m σ H δ η Q R) : wpAny (model X.prog X.w) X.A (call (.ref f) us) (EP X pins σ R) X.xe s := by
  have h3 := sp_A ab rx h po
  have r3 : Vals (vs ++ dvs) (us ++ ds) := r.append hd
  have hl : (us ++ ds).length = ps.length := by rw [← r3.length]; exact G0.len _ _ _ _ h3
  refine wpAny_call (codeAny_mono (G0.run X.A X.stack s H ⟨us, []⟩ (us ++ ds) (vs ++ dvs) R _ hr I.env0 (hb s us I.kIn hl) r3 h3) fun r s' hq => ?_)
  cases r with
  | error e => exact call_xe xt I (fun _ _ _ h => h) hq
  | ok fl =>
    cases fl with
    | ret u => exact I.after hq
    | next => exact False.elim hq
    | brk => exact False.elim hq
    | cont => exact False.elim hq
/-- f(e, ..) -/
theorem w_call {n : Str} {p pos : Pos} {e : Expr} {es : List Expr} {k j : Nat} {Sp : Spec} [C : Cfg X N U S G] [rm : Rm X j] [g : GFx X n k Sp] [mg : Mem n G]
    (h : WL X F (e :: es) δ η fun xs η1 => CallA F δ Sp xs η1 Q) (hk : k ≤ j) (he : starEach (e :: es) X.env = (false, eval e X.env) :: starEach es X.env) (hpl : (backTo pos (starEach es X.env)).any (·.1) = false) : W X F (.Call (.Name n p) (e :: es) [] pos) δ η Q := by
  intro xt m σ H R ab po pins s I
  obtain ⟨f, fd, ps, G0, hm, hkp, hb⟩ := g.g.ex
  obtain ⟨t, ht, h⟩ := h
  refine wpAny_Call_Name_kw (ld_glob I (C.gl mg.mem) hm ?_ (C.dbg n (List.mem_append_right _ mg.mem)).1)
  refine PySem.W.callWith_K (h₀ := X.base) I.ok.mod.kin hkp (thn (ht.run pos pins s σ H (fun vs H1 => ∀ (us : List Value) (s1 : Shared), Inv X pins σ H1 s1 → Vals vs us → wpAny (model X.prog X.w) X.A (PySem.call (.ref f) us) (EP X pins σ R) X.xe s1) I (h xt m σ H _ ab fun vs m1 H1 xs η1 ab1 e1 r1 q => ?_)) fun us s1 ⟨vs, H1, I1, r, q⟩ => ⟨I1.kIn, q us s1 I1 r⟩) he hpl
  intro us s1 I1 r
  exact run_A G0 (rm.r.mono hk) hb .nil xt I1 r ab1 (by rw [List.append_nil]; exact r1) q (po.after e1)
end
end Y
set_option Elab.async false
set_option linter.all false
set_option maxRecDepth 100000
set_option maxHeartbeats 2000000
set_option autoImplicit false
/-! operators on values -/
namespace Y
open PySem PySem.Spec PyProof.Rows L2
section
variable {X : Cx} {F : Fr0} {δ : Sl} {η : Hs} {Q : A → Hs → Prop} {N U S G : List Str}
abbrev I (i : Int) : A := .d (.int i)
abbrev B (b : Bool) : A := .d (.bl b)
theorem op_int {f : Value → Value → Sem Value} {c : Int → Int → Prop} {g : Int → Int → Int} {i j : Int} (h : OpR X f (rI c fun i j => .int (g i j))) (hc : c i j) (q : Q (I (g i j)) η) : Op2 X F f (I i) (I j) δ η Q :=
  fun m σ H R v u ab r1 r2 po => ⟨_, h, i, j, rep_int.mp r1, rep_int.mp r2, hc, po _ m H _ η ab .refl (rep_int.mpr rfl) q⟩
theorem op_int0 {f : Value → Value → Sem Value} {g : Int → Int → Int} {i j : Int} (h : OpR X f (rI0 fun i j => .int (g i j))) (q : Q (I (g i j)) η) : Op2 X F f (I i) (I j) δ η Q :=
  fun m σ H R v u ab r1 r2 po => ⟨_, h, i, j, rep_int.mp r1, rep_int.mp r2, po _ m H _ η ab .refl (rep_int.mpr rfl) q⟩
theorem op_cmp0 {f : Value → Value → Sem Value} {g : Int → Int → Bool} {i j : Int} (h : OpR X f (rI0 fun i j => .bl (g i j))) (q : Q (B (g i j)) η) : Op2 X F f (I i) (I j) δ η Q :=
  fun m σ H R v u ab r1 r2 po => ⟨_, h, i, j, rep_int.mp r1, rep_int.mp r2, po _ m H _ η ab .refl (rep_bl.mpr rfl) q⟩
theorem b_add {i j : Int} (q : Q (I (i + j)) η) : Op2 X F (binaryOp .Add) (I i) (I j) δ η Q := op_int0 op_add q
theorem b_sub {i j : Int} (q : Q (I (i - j)) η) : Op2 X F (binaryOp .Sub) (I i) (I j) δ η Q := op_int0 op_sub q
/-- one of both within 2 ^ 64 -/
theorem b_mul {i j : Int} (h : (-(2 ^ 64) < i ∧ i < 2 ^ 64) ∨ (-(2 ^ 64) < j ∧ j < 2 ^ 64)) (q : Q (I (i * j)) η) : Op2 X F (binaryOp .Mult) (I i) (I j) δ η Q := op_int op_mul h q
theorem b_mod {i j : Int} (h : 0 < j) (q : Q (I (i % j)) η) : Op2 X F (binaryOp .Mod) (I i) (I j) δ η Q := op_int op_mod h q
theorem b_div {i j : Int} (h : 0 < j) (h2 : j.natAbs.log2 < 9000) (q : Q (I (i / j)) η) : Op2 X F (binaryOp .FloorDiv) (I i) (I j) δ η Q := op_int op_fdivW ⟨h, h2⟩ q
theorem b_pow {i j : Int} (h : 0 ≤ j ∧ j ≤ 1000000 ∧ i.natAbs < 2 ^ 64) (q : Q (I (i ^ j.toNat)) η) : Op2 X F (binaryOp .Pow) (I i) (I j) δ η Q := op_int op_pow h q
theorem b_shl {i j : Int} (h : 0 ≤ j ∧ j ≤ 1000000 ∧ i.natAbs < 2 ^ 64) (q : Q (I (i * 2 ^ j.toNat)) η) : Op2 X F (binaryOp .LShift) (I i) (I j) δ η Q := op_int op_shl h q
theorem b_shr {i j : Int} (h : 0 ≤ j) (q : Q (I (i / 2 ^ j.toNat)) η) : Op2 X F (binaryOp .RShift) (I i) (I j) δ η Q := op_int op_shr h q
theorem b_and {i j : Int} (q : Q (I (Builtin.bitAnd i j)) η) : Op2 X F (binaryOp .BitAnd) (I i) (I j) δ η Q := op_int0 op_and q
theorem b_xor {i j : Int} (q : Q (I (Builtin.bitXor i j)) η) : Op2 X F (binaryOp .BitXor) (I i) (I j) δ η Q := op_int0 op_xor q
theorem b_addB {i : Int} {k : Bool} (q : Q (I (i + b2i k)) η) : Op2 X F (binaryOp .Add) (I i) (B k) δ η Q :=
  fun m σ H R v u ab r1 r2 po => ⟨_, op_add_ib, i, k, rep_int.mp r1, rep_bl.mp r2, po _ m H _ η ab .refl (rep_int.mpr rfl) q⟩
theorem c_lt {i j : Int} (q : Q (B (decide (i < j))) η) : Op2 X F (compareOp .Lt) (I i) (I j) δ η Q := op_cmp0 op_lt q
theorem c_le {i j : Int} (q : Q (B (decide (i ≤ j))) η) : Op2 X F (compareOp .LtE) (I i) (I j) δ η Q := op_cmp0 op_le q
theorem c_gt {i j : Int} (q : Q (B (decide (j < i))) η) : Op2 X F (compareOp .Gt) (I i) (I j) δ η Q := op_cmp0 op_gt q
theorem c_ge {i j : Int} (q : Q (B (decide (j ≤ i))) η) : Op2 X F (compareOp .GtE) (I i) (I j) δ η Q := op_cmp0 op_ge q
theorem c_eqI {i j : Int} (q : Q (B (decide (i = j))) η) : Op2 X F (compareOp .Eq) (I i) (I j) δ η Q := fun m σ H R v u ab r1 r2 po => by
  obtain rfl := rep_int.mp r1
  obtain rfl := rep_int.mp r2
  refine ⟨_, op_eq, rfl, ?_⟩
  have e : decide (V.int i = V.int j) = decide (i = j) := by
    by_cases h : i = j
    · subst h; simp
    · rw [decide_eq_false h, decide_eq_false]
      intro z; exact h (V.int.inj z)
  rw [e]
  exact po _ m H _ η ab .refl (rep_bl.mpr rfl) q
theorem c_neI {i j : Int} (q : Q (B (!decide (i = j))) η) : Op2 X F (compareOp .NotEq) (I i) (I j) δ η Q := fun m σ H R v u ab r1 r2 po => by
  obtain rfl := rep_int.mp r1
  obtain rfl := rep_int.mp r2
  refine ⟨_, op_ne, rfl, ?_⟩
  have e : decide (V.int i = V.int j) = decide (i = j) := by
    by_cases h : i = j
    · subst h; simp
    · rw [decide_eq_false h, decide_eq_false]
      intro z; exact h (V.int.inj z)
  rw [e]
  exact po _ m H _ η ab .refl (rep_bl.mpr rfl) q
theorem c_eqS {i j : Str} (q : Q (B (decide (i = j))) η) : Op2 X F (compareOp .Eq) (.d (.str i)) (.d (.str j)) δ η Q := fun m σ H R v u ab r1 r2 po => by
  obtain rfl := rep_str.mp r1
  obtain rfl := rep_str.mp r2
  refine ⟨_, op_eq, rfl, ?_⟩
  have e : decide (V.str i = V.str j) = decide (i = j) := by
    by_cases h : i = j
    · subst h; simp
    · rw [decide_eq_false h, decide_eq_false]
      intro z; exact h (V.str.inj z)
  rw [e]
  exact po _ m H _ η ab .refl (rep_bl.mpr rfl) q
theorem c_neS {i j : Str} (q : Q (B (!decide (i = j))) η) : Op2 X F (compareOp .NotEq) (.d (.str i)) (.d (.str j)) δ η Q := fun m σ H R v u ab r1 r2 po => by
  obtain rfl := rep_str.mp r1
  obtain rfl := rep_str.mp r2
  refine ⟨_, op_ne, rfl, ?_⟩
  have e : decide (V.str i = V.str j) = decide (i = j) := by
    by_cases h : i = j
    · subst h; simp
    · rw [decide_eq_false h, decide_eq_false]
      intro z; exact h (V.str.inj z)
  rw [e]
  exact po _ m H _ η ab .refl (rep_bl.mpr rfl) q
/-- is None -/
def isNone : A → Bool
  | .d .non => true
  | _ => false
theorem isNone_ok {K : PySem.W.Frag} {L : Addr → Prop} {m : List Addr} {H : Hp} {v : V} {x : A} (r : RepA K L m H v x) : decide (v = .non) = isNone x := by
  cases x with
  | h i => obtain ⟨a, _, rfl⟩ := rep_h.mp r; rfl
  | t xs => obtain ⟨a, vs, rfl, _⟩ := rep_t.mp r; rfl
  | d y =>
    have r := rep_d.mp r
    cases y with
    | non => unfold RepD at r; subst r; rfl
    | bl => unfold RepD at r; subst r; rfl
    | int => unfold RepD at r; subst r; rfl
    | str => unfold RepD at r; subst r; rfl
    | ref => unfold RepD at r; subst r; rfl
    | ty => unfold RepD at r; subst r; rfl
    | tup => unfold RepD at r; obtain ⟨a, vs, rfl, _⟩ := r; rfl
    | lst => unfold RepD at r; obtain ⟨a, vs, rfl, _⟩ := r; rfl
    | ins => unfold RepD at r; obtain ⟨a, dx, fv, rfl, _⟩ := r; rfl
    | exc => unfold RepD at r; obtain ⟨rfl, _⟩ := r; rfl
theorem c_isN {x : A} (q : Q (B (isNone x)) η) : Op2 X F (compareOp .Is) x (.d .non) δ η Q := fun m σ H R v u ab r1 r2 po => by
  obtain rfl := rep_non.mp r2
  refine ⟨_, op_isN, rfl, ?_⟩
  rw [isNone_ok r1]
  exact po _ m H _ η ab .refl (rep_bl.mpr rfl) q
theorem c_notN {x : A} (q : Q (B (!isNone x)) η) : Op2 X F (compareOp .IsNot) x (.d .non) δ η Q := fun m σ H R v u ab r1 r2 po => by
  obtain rfl := rep_non.mp r2
  refine ⟨_, op_notN, rfl, ?_⟩
  rw [isNone_ok r1]
  exact po _ m H _ η ab .refl (rep_bl.mpr rfl) q
theorem u_neg {i : Int} (q : Q (I (-i)) η) : Op1 X F (unaryOp .USub) (I i) δ η Q := fun m σ H R v ab r1 po => ⟨_, un_neg, i, rep_int.mp r1, po _ m H _ η ab .refl (rep_int.mpr rfl) q⟩

/-! ### subscripts -/
/-- the place of an index -/
def ixA {α : Type} (xs : List α) (i : Int) : Option α := if 0 ≤ i then xs[i.toNat]? else if -(xs.length : Int) ≤ i then xs[(i + xs.length).toNat]? else none
theorem ixA_at {α β : Type} {xs : List α} {ys : List β} {i : Int} {x : α} (h : ixA xs i = some x) (hl : ys.length = xs.length) : ∃ j : Nat, xs[j]? = some x ∧ ∀ y, ys[j]? = some y → atI ys i = some y := by
  unfold ixA at h
  split at h
  · rename_i h0
    refine ⟨i.toNat, h, fun y hy => ?_⟩
    have hlt := (List.getElem?_eq_some_iff.mp hy).1
    unfold atI ixN
    rw [if_pos h0, if_pos (by omega)]
    exact hy
  · rename_i h0
    split at h
    · rename_i h1
      refine ⟨_, h, fun y hy => ?_⟩
      unfold atI ixN
      rw [if_neg h0, hl, if_pos h1]
      exact hy
    · cases h
theorem x_tup {xs : List D} {i : Int} {x : D} (h : ixA xs i = some x) (q : Q (.d x) η) : Ix2 X F (.d (.tup xs)) (I i) δ η Q := fun m σ H R v u ab r1 r2 po => by
  obtain ⟨a, vs, rfl, s, r⟩ := rep_tup.mp r1
  obtain rfl := rep_int.mp r2
  obtain ⟨j, h1, h2⟩ := ixA_at h r.length
  obtain ⟨w, h3, h4⟩ := r.get h1
  exact ⟨_, ix_tup, a, vs, i, w, rfl, rfl, s.sq, h2 w h3, po w m H _ η ab .refl (rep_d.mpr h4) q⟩
theorem x_tupA {xs : List A} {i : Int} {x : A} (h : ixA xs i = some x) (q : Q x η) : Ix2 X F (.t xs) (I i) δ η Q := fun m σ H R v u ab r1 r2 po => by
  obtain ⟨a, vs, rfl, s, r⟩ := rep_t.mp r1
  obtain rfl := rep_int.mp r2
  obtain ⟨j, h1, h2⟩ := ixA_at h r.length
  obtain ⟨w, h3, h4⟩ := r.get h1
  exact ⟨_, ix_tup, a, vs, i, w, rfl, rfl, s.sq, h2 w h3, po w m H _ η ab .refl h4 q⟩
theorem x_frz {xs : List D} {i : Int} {x : D} (h : ixA xs i = some x) (q : Q (.d x) η) : Ix2 X F (.d (.lst xs)) (I i) δ η Q := fun m σ H R v u ab r1 r2 po => by
  obtain ⟨a, vs, rfl, s, r⟩ := rep_lst.mp r1
  obtain rfl := rep_int.mp r2
  obtain ⟨j, h1, h2⟩ := ixA_at h r.length
  obtain ⟨w, h3, h4⟩ := r.get h1
  exact ⟨_, ix_list, a, vs, i, w, rfl, rfl, s.sq, h2 w h3, po w m H _ η ab .refl (rep_d.mpr h4) q⟩
/-- what lies at a handle -/
def atH (η : Hs) (k : Nat) : Option O := match η[k]? with
  | some (some o) => some o
  | _ => none
theorem atH_ok {η : Hs} {k : Nat} {o : O} (h : atH η k = some o) : η[k]? = some (some o) := by
  unfold atH at h
  split at h
  · rename_i e
    cases h
    exact e
  · cases h
theorem Abs.at_h {K : PySem.W.Frag} {m : List Addr} {σ : L2.St} {H : Hp} {k : Nat} {o : O} {v : V} (ab : Abs K F m σ H δ η) (h : atH η k = some o) (r : RepA K (Lv F.Z m η) m H v (.h k)) : ∃ a ho, m[k]? = some a ∧ v = .ref a ∧ H a = some ho ∧ RepO K (Lv F.Z m η) m H ho o := by
  obtain ⟨a, h1, h2⟩ := rep_h.mp r
  obtain ⟨ho, q1, q2⟩ := ab.obj k a o h1 (atH_ok h)
  exact ⟨a, ho, h1, h2, q1, q2⟩
theorem x_lst {k : Nat} {xs : List D} {i : Int} {x : D} (hk : atH η k = some (.lst xs)) (h : ixA xs i = some x) (q : Q (.d x) η) : Ix2 X F (.h k) (I i) δ η Q := fun m σ H R v u ab r1 r2 po => by
  obtain ⟨a, ho, hm, rfl, e, r⟩ := ab.at_h hk r1
  unfold RepO at r
  obtain ⟨vs, rfl, r⟩ := r
  obtain rfl := rep_int.mp r2
  obtain ⟨j, h1, h2⟩ := ixA_at h r.length
  obtain ⟨w, h3, h4⟩ := r.get h1
  exact ⟨_, ix_list, a, vs, i, w, rfl, rfl, SqL.of e, h2 w h3, po w m H _ η ab .refl (rep_d.mpr h4) q⟩
theorem x_lsA {k : Nat} {xs : List A} {i : Int} {x : A} (hk : atH η k = some (.lsA xs)) (h : ixA xs i = some x) (q : Q x η) : Ix2 X F (.h k) (I i) δ η Q := fun m σ H R v u ab r1 r2 po => by
  obtain ⟨a, ho, hm, rfl, e, r⟩ := ab.at_h hk r1
  unfold RepO at r
  obtain ⟨vs, rfl, r⟩ := r
  obtain rfl := rep_int.mp r2
  obtain ⟨j, h1, h2⟩ := ixA_at h r.length
  obtain ⟨w, h3, h4⟩ := r.get h1
  exact ⟨_, ix_list, a, vs, i, w, rfl, rfl, SqL.of e, h2 w h3, po w m H _ η ab .refl h4 q⟩

/-! ### built-ins -/
theorem reps_one {K : PySem.W.Frag} {L : Addr → Prop} {m : List Addr} {H : Hp} {vs : List V} {x : A} (h : RepAs K L m H vs [x]) : ∃ v, vs = [v] ∧ RepA K L m H v x := by
  obtain ⟨v, r, rfl, h1, h2⟩ := reps_cons.mp h
  obtain rfl := reps_nil.mp h2
  exact ⟨v, rfl, h1⟩
theorem reps_two {K : PySem.W.Frag} {L : Addr → Prop} {m : List Addr} {H : Hp} {vs : List V} {x y : A} (h : RepAs K L m H vs [x, y]) : ∃ v u, vs = [v, u] ∧ RepA K L m H v x ∧ RepA K L m H u y := by
  obtain ⟨v, r, rfl, h1, h2⟩ := reps_cons.mp h
  obtain ⟨u, rfl, h3⟩ := reps_one h2
  exact ⟨v, u, rfl, h1, h3⟩
theorem f_abs {i : Int} (q : Q (I (if i < 0 then -i else i)) η) : CallJ X F (.builtin "abs") [I i] δ η Q := fun m σ H R vs ab r po => by
  obtain ⟨v, rfl, r1⟩ := reps_one r
  obtain rfl := rep_int.mp r1
  exact ⟨_, call_abs, i, rfl, po _ m H _ η ab .refl (rep_int.mpr rfl) q⟩
theorem f_int {i : Int} (q : Q (I i) η) : CallJ X F (.type "int") [I i] δ η Q := fun m σ H R vs ab r po => by
  obtain ⟨v, rfl, r1⟩ := reps_one r
  obtain rfl := rep_int.mp r1
  exact ⟨_, call_int1, .inl ⟨i, rfl, po _ m H _ η ab .refl (rep_int.mpr rfl) q⟩⟩
theorem f_intB {k : Bool} (q : Q (I (if k then 1 else 0)) η) : CallJ X F (.type "int") [B k] δ η Q := fun m σ H R vs ab r po => by
  obtain ⟨v, rfl, r1⟩ := reps_one r
  obtain rfl := rep_bl.mp r1
  exact ⟨_, call_int1, .inr ⟨k, rfl, po _ m H _ η ab .refl (rep_int.mpr rfl) q⟩⟩
theorem f_max {i j : Int} (hc : X.calm = true) (q : Q (I (max i j)) η) : CallJ X F (.builtin "max") [I i, I j] δ η Q := fun m σ H R vs ab r po => by
  obtain ⟨v, u, rfl, r1, r2⟩ := reps_two r
  obtain rfl := rep_int.mp r1
  obtain rfl := rep_int.mp r2
  refine ⟨_, call_max2 hc, i, j, rfl, ?_⟩
  have e : (if j > i then j else i) = max i j := by
    rw [Int.max_def]
    split <;> split <;> omega
  rw [e]
  exact po _ m H _ η ab .refl (rep_int.mpr rfl) q
theorem f_min {i j : Int} (hc : X.calm = true) (q : Q (I (min i j)) η) : CallJ X F (.builtin "min") [I i, I j] δ η Q := fun m σ H R vs ab r po => by
  obtain ⟨v, u, rfl, r1, r2⟩ := reps_two r
  obtain rfl := rep_int.mp r1
  obtain rfl := rep_int.mp r2
  refine ⟨_, call_min2 hc, i, j, rfl, ?_⟩
  have e : (if j < i then j else i) = min i j := by
    rw [Int.min_def]
    split <;> split <;> omega
  rw [e]
  exact po _ m H _ η ab .refl (rep_int.mpr rfl) q
/-- the number of items -/
def lenA (η : Hs) : A → Option Nat
  | .d (.tup xs) => some xs.length
  | .d (.lst xs) => some xs.length
  | .t xs => some xs.length
  | .h k => match atH η k with
    | some (.lst xs) => some xs.length
    | some (.lsA xs) => some xs.length
    | _ => none
  | _ => none
theorem f_len {x : A} {n : Nat} (h : lenA η x = some n) (q : Q (I n) η) : CallJ X F (.builtin "len") [x] δ η Q := fun m σ H R vs ab r po => by
  obtain ⟨v, rfl, r1⟩ := reps_one r
  have fin : ∀ (p : Addr) (ys : List V), v = .ref p → ys.length = n → (SqL X.K H p ys ∨ SqT X.K H p ys) → ∃ r, CallR X (.builtin "len") r ∧ r [v] H R := by
    rintro p ys rfl hl hs
    refine ⟨_, call_len_seq, p, ys, rfl, hs, ?_⟩
    rw [hl]
    exact po _ m H _ η ab .refl (rep_int.mpr rfl) q
  cases x with
  | h k =>
    unfold lenA at h
    dsimp only at h
    cases e : atH η k with
    | none => rw [e] at h; cases h
    | some o =>
      rw [e] at h
      obtain ⟨a, ho, hm, rfl, e2, r2⟩ := ab.at_h e r1
      cases o with
      | lst xs =>
        cases h
        unfold RepO at r2
        obtain ⟨vs, rfl, r2⟩ := r2
        exact fin a vs rfl r2.length (.inl (SqL.of e2))
      | lsA xs =>
        cases h
        unfold RepO at r2
        obtain ⟨vs, rfl, r2⟩ := r2
        exact fin a vs rfl r2.length (.inl (SqL.of e2))
      | _ => cases h
  | t xs =>
    cases h
    obtain ⟨a, vs, rfl, s, r2⟩ := rep_t.mp r1
    exact fin a vs rfl r2.length (.inr s.sq)
  | d y =>
    cases y with
    | tup xs =>
      cases h
      obtain ⟨a, vs, rfl, s, r2⟩ := rep_tup.mp r1
      exact fin a vs rfl r2.length (.inr s.sq)
    | lst xs =>
      cases h
      obtain ⟨a, vs, rfl, s, r2⟩ := rep_lst.mp r1
      exact fin a vs rfl r2.length (.inl s.sq)
    | _ => cases h

/-! ### o[i] = v -/
/-- a list with another item -/
def setO : O → Int → A → Option O
  | .lst xs, i, .d x => match ixN xs.length i with
    | some j => some (.lst (xs.set j x))
    | none => none
  | .lsA xs, i, x => match ixN xs.length i with
    | some j => some (.lsA (xs.set j x))
    | none => none
  | _, _, _ => none
theorem RepDs.set {K : PySem.W.Frag} {L : Addr → Prop} {H : Hp} {x : D} {v : V} (r : RepD K L H v x) : ∀ {xs : List D} {vs : List V} (j : Nat), RepDs K L H vs xs → RepDs K L H (vs.set j v) (xs.set j x)
  | [], vs, j, h => by
    obtain rfl := repds_nil.mp h
    exact repds_nil.mpr rfl
  | y :: ys, vs, 0, h => by
    obtain ⟨u, r1, rfl, h1, h2⟩ := repds_cons.mp h
    exact repds_cons.mpr ⟨v, r1, rfl, r, h2⟩
  | y :: ys, vs, j + 1, h => by
    obtain ⟨u, r1, rfl, h1, h2⟩ := repds_cons.mp h
    exact repds_cons.mpr ⟨u, r1.set j v, rfl, h1, RepDs.set r j h2⟩
theorem RepAs.set {K : PySem.W.Frag} {L : Addr → Prop} {m : List Addr} {H : Hp} {x : A} {v : V} (r : RepA K L m H v x) : ∀ {xs : List A} {vs : List V} (j : Nat), RepAs K L m H vs xs → RepAs K L m H (vs.set j v) (xs.set j x)
  | [], vs, j, h => by
    obtain rfl := reps_nil.mp h
    exact reps_nil.mpr rfl
  | y :: ys, vs, 0, h => by
    obtain ⟨u, r1, rfl, h1, h2⟩ := reps_cons.mp h
    exact reps_cons.mpr ⟨v, r1, rfl, r, h2⟩
  | y :: ys, vs, j + 1, h => by
    obtain ⟨u, r1, rfl, h1, h2⟩ := reps_cons.mp h
    exact reps_cons.mpr ⟨u, r1.set j v, rfl, h1, RepAs.set r j h2⟩
/-- a list's object, as values -/
theorem RepO.list_set {K : PySem.W.Frag} {L : Addr → Prop} {m : List Addr} {H : Hp} {ho : HO} {o o' : O} {i : Int} {x : A} {v : V} (r : RepO K L m H ho o) (rx : RepA K L m H v x) (h : setO o i x = some o') :
    ∃ vs j, ho = .lst vs ∧ ixN vs.length i = some j ∧ RepO K L m H (.lst (vs.set j v)) o' := by
  cases o with
  | lst xs =>
    unfold RepO at r
    obtain ⟨vs, e, r⟩ := r
    cases x with
    | d y =>
      unfold setO at h
      dsimp only at h
      cases q : ixN xs.length i with
      | none => rw [q] at h; cases h
      | some j =>
        rw [q] at h
        cases h
        refine ⟨vs, j, e, by rw [r.length]; exact q, ?_⟩
        unfold RepO
        exact ⟨_, rfl, RepDs.set (rep_d.mp rx) j r⟩
    | h k => cases h
    | t ys => cases h
  | lsA xs =>
    unfold RepO at r
    obtain ⟨vs, e, r⟩ := r
    unfold setO at h
    dsimp only at h
    cases q : ixN xs.length i with
    | none => rw [q] at h; cases h
    | some j =>
      rw [q] at h
      cases h
      refine ⟨vs, j, e, by rw [r.length]; exact q, ?_⟩
      unfold RepO
      exact ⟨_, rfl, RepAs.set rx j r⟩
  | _ => cases h
/-- the same, worked out -/
def setF : List D → Nat → D → Option (List D)
  | [], _, _ => none
  | _ :: r, 0, x => some (x :: r)
  | y :: r, i + 1, x => match setF r i x with
    | some ys => some (y :: ys)
    | none => none
theorem setF_ok : ∀ {xs : List D} {i : Nat} {x : D} {ys : List D}, setF xs i x = some ys → i < xs.length ∧ ys = xs.set i x
  | [], _, _, _, h => by cases h
  | y :: r, 0, x, _, h => by cases h; exact ⟨by simp, rfl⟩
  | y :: r, i + 1, x, ys, h => by
    unfold setF at h
    cases e : setF r i x with
    | none => rw [e] at h; cases h
    | some zs =>
      rw [e] at h
      cases h
      obtain ⟨h1, h2⟩ := setF_ok e
      exact ⟨by simpa using h1, by rw [h2]; rfl⟩
theorem setO_f {xs ys : List D} {i : Int} {x : D} (h0 : 0 ≤ i) (h : setF xs i.toNat x = some ys) : setO (.lst xs) i (.d x) = some (.lst ys) := by
  obtain ⟨h1, rfl⟩ := setF_ok h
  unfold setO ixN
  dsimp only
  rw [if_pos h0, if_pos (by omega)]
theorem ws_setL {nx bk ct : SH} {rt : A → Hs → Prop} {o i e : Expr} {pos pos' : Pos} (h : W X F e δ η fun x η1 => W X F o δ η1 fun y η2 => W X F i δ η2 fun z η3 => ∃ k j u u' η4, y = .h k ∧ z = I j ∧ atH η3 k = some u ∧ setO u j x = some u' ∧ wrH η3 k (some u') = some η4 ∧ nx δ η4)
    (hs : swapsWithSole [.Subscript o i pos'] e pos.line X.env = pure false) (hw : swappedStores [.Subscript o i pos'] e X.env = pure none)
    (h1 : (assignEach [.Subscript o i pos'] X.env).map (·.2) = [assign (.Subscript o i pos') X.env])
    (ha : ∀ v, assign (.Subscript o i pos') X.env v = (do
      let ov ← holding [v] (eval o X.env)
      let iv ← holding [v, ov] (eval i X.env)
      standAt pos'
      holding [v, ov, iv] (setItem ov iv v)
      release [v, ov, iv] [])) : WS X F (.Assign [.Subscript o i pos'] e pos) δ η nx rt bk ct := fun xt m σ H E ab eo =>
  wps_of (ps_asg pe_wp (pg_sub pe_wp pe_wp set_list ha) hs hw h1) (h xt m σ H _ ab fun v m1 H1 x η1 ab1 e1 r1 q1 => q1 xt m1 σ H1 _ ab1 fun w m2 H2 y η2 ab2 e2 r2 q2 => q2 xt m2 σ H2 _ ab2 fun z m3 H3 zz η3 ab3 e3 r3 ⟨k, j, u, u', η4, ey, ez, hu, hu', hw', q⟩ => by
    subst ey ez
    obtain rfl := rep_int.mp r3
    have r2' := e3.a r2
    obtain ⟨a, ho, hm, rfl, eH, rO⟩ := ab3.at_h hu r2'
    obtain ⟨vs, jj, rfl, hj, rO'⟩ := rO.list_set ((e2.trans e3).a r1) hu'
    obtain ⟨hlt, rfl⟩ := wrH_eq hw'
    refine ⟨a, vs, j, jj, rfl, rfl, eH, hj, eo.nx m3 σ _ δ _ (ab3.set hm (atH_ok hu) fun L' m' H' kp pr => kp.o pr rO') q⟩)
end
end Y
set_option Elab.async false
set_option linter.all false
set_option maxRecDepth 100000
set_option maxHeartbeats 2000000
set_option autoImplicit false
/-! for the walk: branches, cuts -/
namespace Y
open PySem PySem.Spec PyProof.Rows L2
theorem isB_i {Q : Bool → Hs → Prop} {b : Bool} {η : Hs} (q : Q b η) : isB Q (.d (.bl b)) η := ⟨b, rfl, q⟩
theorem br {p A B : Prop} {d : Decidable p} (h1 : p → A) (h2 : ¬ p → B) : if @decide p d = true then A else B := by
  by_cases h : p
  · rw [if_pos (decide_eq_true h)]; exact h1 h
  · rw [if_neg (by simpa using h)]; exact h2 h
theorem brn {p A B : Prop} {d : Decidable p} (h1 : ¬ p → A) (h2 : p → B) : if (!@decide p d) = true then A else B := by
  by_cases h : p
  · rw [if_neg (by simpa using h)]; exact h2 h
  · rw [if_pos (by simpa using h)]; exact h1 h
theorem brT {p A B : Prop} {d : Decidable p} (hp : p) (h1 : A) : if @decide p d = true then A else B := by
  rw [if_pos (decide_eq_true hp)]; exact h1
theorem brF {p A B : Prop} {d : Decidable p} (hp : ¬ p) (h1 : B) : if @decide p d = true then A else B := by
  rw [if_neg (by simpa using hp)]; exact h1
theorem brb {b : Bool} {A B : Prop} (h1 : b = true → A) (h2 : b = false → B) : if b = true then A else B := by
  cases b
  · rw [if_neg Bool.false_ne_true]; exact h2 rfl
  · rw [if_pos rfl]; exact h1 rfl
theorem brt {A B : Prop} (h1 : A) : if true = true then A else B := by rw [if_pos rfl]; exact h1
theorem brf {A B : Prop} (h1 : B) : if false = true then A else B := by rw [if_neg Bool.false_ne_true]; exact h1
theorem breq {b c : Bool} {A B : Prop} (e : b = c) (h : if c = true then A else B) : if b = true then A else B := by rw [e]; exact h
section
variable {X : Cx} {F : Fr0} {δ : Sl} {η : Hs} {nx bk ct : SH} {rt : A → Hs → Prop}
theorem wss_open {b : List Stmt} {st : Stmt} {r : List Stmt} (h : b = st :: r) (q : WSs X F (st :: r) δ η nx rt bk ct) : WSs X F b δ η nx rt bk ct := by
  subst h; exact q
theorem WS.mono {st : Stmt} {nx' bk' ct' : SH} {rt' : A → Hs → Prop} (h : WS X F st δ η nx rt bk ct) (h1 : ∀ δ η, nx δ η → nx' δ η) (h2 : ∀ a η, rt a η → rt' a η) (h3 : ∀ δ η, bk δ η → bk' δ η) (h4 : ∀ δ η, ct δ η → ct' δ η) : WS X F st δ η nx' rt' bk' ct' :=
  fun xt m σ H E ab eo => h xt m σ H E ab ⟨fun m σ H δ η a q => eo.nx m σ H δ η a (h1 _ _ q), fun v m σ H δ η x a r q => eo.rt v m σ H δ η x a r (h2 _ _ q), fun m σ H δ η a q => eo.bk m σ H δ η a (h3 _ _ q), fun m σ H δ η a q => eo.ct m σ H δ η a (h4 _ _ q)⟩
/-- a statement, then the rest, with a word between -/
theorem ws_cut {st : Stmt} {r : List Stmt} (M : SH) (h : WS X F st δ η M rt bk ct) (k : ∀ δ1 η1, M δ1 η1 → WSs X F r δ1 η1 nx rt bk ct) : WSs X F (st :: r) δ η nx rt bk ct :=
  ws_cons (h.mono (fun δ η q => k δ η q) (fun _ _ q => q) (fun _ _ q => q) (fun _ _ q => q))
/-- a test whose value is known, whatever the way to it -/
theorem wt_eval {e : Expr} {Q : Bool → Hs → Prop} (p : Bool) (h : WT X F e δ η fun b η1 => b = p ∧ η1 = η) (q : Q p η) : WT X F e δ η Q := h.mono fun b η1 ⟨h1, h2⟩ => by subst h1 h2; exact q
theorem w_eval {e : Expr} {Q : A → Hs → Prop} (a : A) (h : W X F e δ η fun b η1 => b = a ∧ η1 = η) (q : Q a η) : W X F e δ η Q := h.mono fun b η1 ⟨h1, h2⟩ => by subst h1 h2; exact q
/-- forget slots of a block -/
theorem ws_forget {sts : List Stmt} {δ' : Sl} (hl : δ'.length = δ.length) (h : ∀ (i : Nat) (x : A), δ'[i]? = some (some x) → δ[i]? = some (some x)) (q : WSs X F sts δ' η nx rt bk ct) : WSs X F sts δ η nx rt bk ct := fun xt m σ H E ab eo => q xt m σ H E (ab.forget hl h) eo
end
end Y
set_option Elab.async false
set_option linter.all false
set_option maxRecDepth 100000
set_option maxHeartbeats 2000000
set_option autoImplicit false
/-! what a loop walks -/
namespace Y
open PySem PySem.Spec PyProof.Rows L2

/-! ### numbers -/
def intsA (lo : Int) (n : Nat) : List A := (List.range n).map fun k => I (lo + (k : Nat))
theorem intsA_len {lo : Int} {n : Nat} : (intsA lo n).length = n := by simp [intsA]
theorem intsA_get {lo : Int} {n i : Nat} {x : A} (h : (intsA lo n)[i]? = some x) : i < n ∧ x = I (lo + (i : Nat)) := by
  have hi : i < n := by simpa [intsA_len] using (List.getElem?_eq_some_iff.mp h).1
  refine ⟨hi, ?_⟩
  simp [intsA, List.getElem?_map, List.getElem?_range hi] at h
  exact h.symm
/-! ### sequences: their items -/
def itemsA (η : Hs) : A → Option (List A)
  | .d (.tup xs) => some (xs.map .d)
  | .d (.lst xs) => some (xs.map .d)
  | .t xs => some xs
  | .h k => match atH η k with
    | some (.lst xs) => some (xs.map .d)
    | some (.lsA xs) => some xs
    | _ => none
  | _ => none
theorem itemsA_ok {K : PySem.W.Frag} {F : Fr0} {m : List Addr} {σ : L2.St} {H : Hp} {δ : Sl} {η : Hs} {x : A} {v : V} {items : List A} (ab : Abs K F m σ H δ η) (h : itemsA η x = some items) (r : RepA K (Lv F.Z m η) m H v x) :
    ∃ a vs, v = .ref a ∧ (SqT K H a vs ∨ SqL K H a vs) ∧ RepAs K (Lv F.Z m η) m H vs items := by
  cases x with
  | h k =>
    unfold itemsA at h
    dsimp only at h
    cases e : atH η k with
    | none => rw [e] at h; cases h
    | some o =>
      rw [e] at h
      obtain ⟨a, ho, hm, rfl, e2, r2⟩ := ab.at_h e r
      cases o with
      | lst xs =>
        cases h
        unfold RepO at r2
        obtain ⟨vs, rfl, r2⟩ := r2
        exact ⟨a, vs, rfl, .inr (SqL.of e2), reps_d.mpr r2⟩
      | lsA xs =>
        cases h
        unfold RepO at r2
        obtain ⟨vs, rfl, r2⟩ := r2
        exact ⟨a, vs, rfl, .inr (SqL.of e2), r2⟩
      | _ => cases h
  | t xs =>
    cases h
    obtain ⟨a, vs, rfl, s, r2⟩ := rep_t.mp r
    exact ⟨a, vs, rfl, .inl s.sq, r2⟩
  | d y =>
    cases y with
    | tup xs =>
      cases h
      obtain ⟨a, vs, rfl, s, r2⟩ := rep_tup.mp r
      exact ⟨a, vs, rfl, .inl s.sq, reps_d.mpr r2⟩
    | lst xs =>
      cases h
      obtain ⟨a, vs, rfl, s, r2⟩ := rep_lst.mp r
      exact ⟨a, vs, rfl, .inr s.sq, reps_d.mpr r2⟩
    | _ => cases h
/-- both kinds at once -/
def iSeq (K : PySem.W.Frag) (tl : TE) : TI := fun σ H R => tl σ H fun x H1 => ∃ a, x = .ref a ∧ (((∃ xs, SqT K H1 a xs) ∧ R (Itt K a) H1) ∨ ((∃ xs, SqL K H1 a xs) ∧ R (Itl K a) H1))
section
variable {X : Cx} {tg : Expr}
theorem pi_seq {l : Expr} {tl : TE} (hl : PE X l tl) : PI X tg l (iSeq X.K tl) := by
  refine ⟨fun pins s σ H R hI h => thn (hl.run pins s σ H _ hI h) fun v s1 ⟨x, H1, I1, r1, a, e, q1⟩ => ?_⟩
  subst e
  cases r1
  have fpq : ∀ b ∈ [s1.heap.objs.size], FpOk X pins H1 b := by
    intro b hb
    obtain rfl := List.mem_singleton.mp hb
    exact I1.fpOk (Nat.le_refl _) (I1.hok.fresh (Nat.le_refl _))
  rcases q1 with ⟨⟨xs, hq⟩, q⟩ | ⟨⟨xs, hq⟩, q⟩
  · obtain ⟨its, rv, p, hz⟩ := I1.tuple hq
    exact wpAny_pyIter_tuple (show s1.heap.IsTuple a its.toArray from p) ⟨_, _, _, _, H1, rfl, I1.kept (t' := s1.toks) fun b o e => Heap.get?_push_of_some _ e, turn_tuple a _, ⟨_, Heap.get?_push_size _ rfl, rfl, rfl⟩, fpq, q⟩
  · obtain ⟨its, rv, p, hz⟩ := I1.list hq
    exact wpAny_pyIter_list p.isList ⟨_, _, _, _, H1, rfl, I1.kept (t' := s1.toks) fun b o e => Heap.get?_push_of_some _ e, turn_list a _, ⟨_, Heap.get?_push_size _ rfl, rfl, rfl⟩, fpq, q⟩
end

/-! ### enumerate(tuple) -/
def IteT (K : PySem.W.Frag) (a : Addr) : It where
  go := fun i H => ∃ (xs : List V) (x : V), SqT K H a xs ∧ xs[i]? = some x
  yld := fun i H v H' => ∃ T x, v = .ref T ∧ H T = none ∧ H' = upd H T (.tup [.int (i : Nat), x]) ∧ ∀ xs, SqT K H a xs → xs[i]? = some x
  stop := fun i H => ∃ xs : List V, SqT K H a xs ∧ xs.length ≤ i
theorem turn_enT {P : Program} {w : World} {K : PySem.W.Frag} {elts : List Expr} {kk : Nat} {tpos : Pos} (a e it : Addr) :
    Turn P w K (.Tuple elts kk tpos) (IteT K a) [e, it] e fun i h => (∃ old, IsEnum h e it ((i : Nat) : Int) old) ∧ h.IsTupleIter it a i ∧ e ≠ it ∧ a ≠ e ∧ a ≠ it where
  mem := by simp
  obj := fun i h ⟨⟨old, he⟩, ⟨o, ho, hc, hd⟩, _⟩ b hb => by
    rcases (show b = e ∨ b = it by simpa using hb) with rfl | rfl
    · exact ⟨_, he, fun v q => nomatch q⟩
    · exact ⟨o, ho, fun v q => by rw [hd] at q; cases q⟩
  keep := fun i h h' ⟨⟨old, he⟩, hi, hne⟩ k => ⟨⟨old, k e (by simp) _ he⟩, hi.at fun o q => k it (by simp) o q, hne⟩
  item := by
    rintro X rfl rfl rfl hc i pins s σ H E hI hf ⟨⟨old, he⟩, hit, hne, ha1, ha2⟩ ⟨xs, x, hq, hx⟩
    obtain ⟨its, rv, p, hz⟩ := hI.tuple hq
    have hT0 : s.heap.IsTuple a its.toArray := p
    obtain ⟨u, hu, ru⟩ := rv.get hx
    have hel : e < s.heap.objs.size := Heap.lt_size he
    have hil : it < s.heap.objs.size := by
      obtain ⟨_, q, _⟩ := hit
      exact Heap.lt_size q
    have hh : X.A.in1.handled = none := hI.ok.hd hc
    have hlt : i < its.toArray.size := by
      have := (List.getElem?_eq_some_iff.mp hu).1
      simpa using this
    refine wpAny_pyNext_enum_itemC (Draws.tuple hh it a ha2 its.toArray) he ⟨hit, hT0⟩ hlt hne (by simp [hne, Ne.symm ha1]) fun x' h' tk hP ho hs' hT hsz hk => ?_
    have ex' : x' = u := by
      have q : its[i]? = some x' := by simpa using hP
      rw [hu] at q
      exact (Option.some.inj q).symm
    subst ex'
    refine ⟨_, rfl, wpAny_letOwnedTupleGo_enum (s := { s with heap := h', toks := tk + 1 }) ho fun h'' he' sb => ?_⟩
    have hT2 := (sb.2 _ (Nat.ne_of_gt hel)).trans hT
    have new : ObjOk X.prog X.w (upd H s.heap.objs.size (.tup [.int (i : Nat), x])) h'' s.heap.objs.size (.tup [.int (i : Nat), x]) :=
      ⟨show 2 ≤ sizeLine by decide, [.int i tk, x'], .cons ⟨_, rfl⟩ (.cons ru .nil), ⟨_, hT2, rfl, _, rfl⟩⟩
    refine ⟨.ref s.heap.objs.size, _, hI.turnedNew (t' := tk + 1) (ch := [e, it]) (fun b ob hb q => ?_) hf (Nat.le_refl _) new, rfl, ⟨_, x, rfl, hI.hok.fresh (Nat.le_refl _), rfl, fun ys hy => by rw [hI.tuple_inj hy hq]; exact hx⟩, ⟨⟨x', ?_⟩, hs'.1.at fun o q => (sb.2 it (Ne.symm hne)).trans q, hne, ha1, ha2⟩, fun b hb => ?_⟩
    · exact (sb.2 b fun z => hb (by simp [z])).trans (hk b ob (fun z => hb (by simp [z])) (fun z => hb (by simp [z])) q)
    · rw [show ((i + 1 : Nat) : Int) = (i : Int) + 1 by omega]; exact he'
    · rw [upd_ne]
      · exact (hf b hb).1
      · rcases (show b = e ∨ b = it by simpa using hb) with rfl | rfl
        · exact Nat.ne_of_lt hel
        · exact Nat.ne_of_lt hil
  done := by
    rintro X rfl rfl rfl hc i pins s σ H E hI hf ⟨⟨old, he⟩, hit, hne, ha1, ha2⟩ ⟨xs, hq, hx⟩
    obtain ⟨its, rv, p, hz⟩ := hI.tuple hq
    have hT0 : s.heap.IsTuple a its.toArray := p
    have hl := rv.length
    obtain ⟨f0, f1, f2, f3, f4, f5⟩ := hf it (by simp)
    have hh : X.A.in1.handled = none := hI.ok.hd hc
    obtain ⟨hp, g, d, tk, os⟩ := s
    have hTy : (Shared.mk hp g d tk os).TypeIs (.ref e) "enumerate" := ⟨_, he, rfl⟩
    unfold pyNext
    refine wpAny_bind (wpAny_attempt (wpAny_callSpecial?_slot (name := Str.ofString "__next__") hTy F.slot_enumerate_next
      (wpAny_call_entry F.slot_enumerate_next hTy F.entry_enumerate_next ?_ (F.args_enumerate_next_1 _))))
    show wpAny _ _ (field (.ref e) 2 >>= _) _ _ _
    refine wpAny_bind (wpAny_field he rfl (x := .ref it) rfl ?_)
    refine wpAny_bind (wpAny_nextOf_tuple_end hh hit hT0 (by simp; omega) fun h' y he' ⟨o, ho, hcl⟩ => ?_)
    refine wpAny_bind (wpAny_isInstance (T := "StopIteration") (b := true) ⟨o, ho, hcl⟩ isSubtype_stop ?_)
    exact wpAny_pure ⟨rfl, hI.turned (t' := tk) (fun b o hb q => he' b o hb q) f0 f1 f3 f4 f5⟩
  self := fun A i s Q E ⟨⟨_, he⟩, _⟩ h => wpAny_pyIter_enum he h
set_option maxHeartbeats 4000000 in
theorem meets_enum0 {v : Value} {o : Obj} {H : Heap → Prop} (Bg : Begins v o H) :
    Meets (Builtin.«enumerate.__new__» ⟨[.type "enumerate", v], []⟩) fun _ R s => H s.heap ∧
      R (.ok (.ret (.ref (s.heap.push o).objs.size))) { s with heap := (s.heap.push o).push { cls := .type "enumerate", data := .fields #[.none, .bool false, .ref s.heap.objs.size, rawInt 0, .none, .none] } } := by
  refine .of_wp fun prog w A R s ⟨h1, h⟩ => ?_
  obtain ⟨hp, g, d, tk, os⟩ := s
  have hsub := sub_enumerate
  have q1 : ∀ {A' : Around} {E : Value → Shared → Prop} {Q : Value → Shared → Prop}, Q (.ref hp.objs.size) ⟨hp.push o, g, d, tk, os⟩ → wpAny (model prog w) A' (pyIter v) Q E ⟨hp, g, d, tk, os⟩ := fun q => Bg.iter prog w _ _ ⟨hp, g, d, tk, os⟩ _ h1 q
  wp_walk using q1
  refine wpAny_stack_any fun st => wpAny_pure ?_
  split
  · rename_i c _ _ _ _ _
    by_cases hc : (c == Value.type "enumerate") = true
    · simp only [hc]
      wp_walk using q1
      exact ⟨_, rfl, h⟩
    · rw [Bool.not_eq_true] at hc
      simp only [hc]
      wp_walk using q1
      exact ⟨_, rfl, h⟩
  · wp_walk using q1
    exact ⟨_, rfl, h⟩
theorem enum_begins0 {prog : Program} {w : World} {A : Around} {E : Value → Shared → Prop} {s : Shared} {v : Value} {o : Obj} {H : Heap → Prop} {Q : Value → Shared → Prop} (Bg : Begins v o H) (h1 : H s.heap)
    (h : ∀ h', IsEnum h' (s.heap.objs.size + 1) s.heap.objs.size 0 .none → h'.get? s.heap.objs.size = some o → (∀ b o, s.heap.get? b = some o → h'.get? b = some o) → Q (.ref (s.heap.objs.size + 1)) { s with heap := h' }) :
    wpAny (model prog w) A (call (.type "enumerate") [v]) Q E s := by
  have hz : (s.heap.push o).objs.size = s.heap.objs.size + 1 := Heap.size_push ..
  refine callType_new F.called_enumerate (by decide) (F.typeCall_enumerate_1 _) (F.newCall_enumerate_1 _) (fun obj => F.args_object_init_2 obj _) F.entry_enumerate_new (meets_enum0 Bg) ⟨h1, ?_⟩
  have he : IsEnum ((s.heap.push o).push { cls := .type "enumerate", data := .fields #[.none, .bool false, .ref s.heap.objs.size, rawInt 0, .none, .none] }) (s.heap.objs.size + 1) s.heap.objs.size 0 .none := by
    have q := Heap.get?_push_size (s.heap.push o) (o := { cls := .type "enumerate", data := .fields #[.none, .bool false, .ref s.heap.objs.size, rawInt 0, .none, .none] }) rfl
    rw [hz] at q
    exact q
  show _ ∧ _
  rw [hz]
  exact ⟨⟨_, he, rfl⟩, h _ he (Heap.get?_push_of_some _ (Heap.get?_push_size _ Bg.free)) fun b o x => Heap.get?_push_of_some _ (Heap.get?_push_of_some _ x)⟩

/-- both kinds -/
def iEn (K : PySem.W.Frag) (ta : TA) : TI := fun σ H R => ta σ H fun vs H1 => ∃ a, vs = [.ref a] ∧ (((∃ xs, SqT K H1 a xs) ∧ R (IteT K a) H1) ∨ ((∃ xs, SqL K H1 a xs) ∧ R (Ite K a) H1))
theorem pi_en {X : Cx} {e : Expr} {ta : TA} {p pos tpos : Pos} {elts : List Expr} {kk : Nat} (hg : Gl X "enumerate") (hm : X.mg "enumerate" = none) (ha : PA X [e] ta) (hs : starEach [e] X.env = [(false, eval e X.env)]) :
    PI X (.Tuple elts kk tpos) (.Call (.Name "enumerate" p) [e] [] pos) (iEn X.K ta) := by
  refine ⟨fun pins s σ H R hI h => Call_ (ld_blt hI hg hm boot_enumerate (PyProof.Rows.callWith_type1 (thn (ha.run pos pins s σ H _ hI h) fun us s1 ⟨vs, H1, I1, r1, a, ex, q1⟩ => ?_) hs rfl))⟩
  subst ex
  cases r1 with
  | cons r rr =>
    cases rr
    cases r
    have fpq : ∀ b ∈ [s1.heap.objs.size + 1, s1.heap.objs.size], FpOk X pins H1 b := by
      intro b hb
      have hle : s1.heap.objs.size ≤ b := by
        rcases (show b = s1.heap.objs.size + 1 ∨ b = s1.heap.objs.size by simpa using hb) with z | z
        · rw [z]; exact Nat.le_succ _
        · rw [z]; exact Nat.le_refl _
      exact I1.fpOk hle (I1.hok.fresh hle)
    rcases q1 with ⟨⟨xs, hq⟩, q⟩ | ⟨⟨xs, hq⟩, q⟩
    · obtain ⟨its, rv, p', hz⟩ := I1.tuple hq
      have hT : s1.heap.IsTuple a its.toArray := p'
      have hlt : a < s1.heap.objs.size := by
        obtain ⟨_, q, _⟩ := p'
        exact Heap.lt_size q
      refine enum_begins0 (begins_tuple a its.toArray) hT fun h' he hit hk => wpAny_pyIter_enum he ?_
      exact ⟨_, _, _, _, H1, rfl, I1.kept (t' := s1.toks) hk, turn_enT a (s1.heap.objs.size + 1) s1.heap.objs.size, ⟨⟨.none, he⟩, ⟨_, hit, rfl, rfl⟩, Nat.succ_ne_self _, Nat.ne_of_lt (Nat.lt_succ_of_lt hlt), Nat.ne_of_lt hlt⟩, fpq, q⟩
    · obtain ⟨its, rv, p', hz⟩ := I1.list hq
      refine enum_begins0 (begins_list a its.toArray) p'.isList fun h' he hit hk => wpAny_pyIter_enum he ?_
      exact ⟨_, _, _, _, H1, rfl, I1.kept (t' := s1.toks) hk, turn_enum a (s1.heap.objs.size + 1) s1.heap.objs.size, ⟨⟨.none, he⟩, ⟨_, hit, rfl, rfl⟩, Nat.succ_ne_self _⟩, fpq, q⟩
/-! ### the rules -/
section
variable {X : Cx} {F : Fr0} {δ : Sl} {η : Hs} {N U S G : List Str} {tg : Expr} {Q : List A → (Hs → Prop) → Hs → Prop}
/-- a later state, with more outside that is new -/
structure Aft (F : Fr0) (m : List Addr) (H : Hp) (η : Hs) (F' : Fr0) : Prop where
  hH : F'.H = H
  hL : F'.L = Live m η
  hm : F'.m = m
  hZ : ∀ b o, H b = some o → F'.Z b → F.Z b
theorem Aft.refl {m : List Addr} {H : Hp} : Aft F m H η (F.at m H η) := ⟨rfl, rfl, rfl, fun _ _ _ z => z⟩
theorem Ext.at_h {K : PySem.W.Frag} {m : List Addr} {H : Hp} {v : V} {x : A} {F' : Fr0} (af : Aft F m H η F') {m' : List Addr} {σ' : L2.St} {H' : Hp} {δ' : Sl} {η' : Hs} (a2 : Abs K F' m' σ' H' δ' η') (r : RepA K (Lv F.Z m η) m H v x) : RepA K (Lv F'.Z m' η') m' H' v x := by
  have k := a2.fr
  have pr := a2.pre
  rw [af.hH, af.hL] at k
  rw [af.hm] at pr
  exact (⟨fun b o h n => k.keep b o h fun z => n (.inr z), fun b o h n z => z.elim (fun z => n (.inl (af.hZ b o h z))) (k.live b o h fun z => n (.inr z))⟩ : Kp (Lv F.Z m η) H (Lv F'.Z m' η') H').a (fun _ _ q => pre_get pr q) r
theorem itr_it {m : List Addr} {H : Hp} {η : Hs} (lo : Int) (n : Nat) : ItA X (F.at m H η) (Itr lo n) (intsA lo n) fun _ => True := by
  refine fun F' _ _ _ _ => ⟨fun m σ H δ η ab _ => ?_, fun i x hx m σ H δ η ab _ => ?_⟩
  · show n ≤ (intsA lo n).length
    rw [intsA_len]
    exact Nat.le_refl _
  · obtain ⟨h1, rfl⟩ := intsA_get hx
    refine ⟨h1, fun v H' ⟨e1, e2⟩ => ?_⟩
    subst e1 e2
    exact ⟨ab, rep_int.mpr rfl, fun _ _ z => z⟩
theorem wi_range1 {a : Expr} {p pos : Pos} {BL : List Str} [C : Cfg X N U S G] [bl : Blt X BL] [mb : Mem "range" BL] [g : Mem "range" G]
    (h : WL X F [a] δ η fun xs η1 => ∃ j : Int, xs = [I j] ∧ (-(2 ^ 62) ≤ j ∧ j < 2 ^ 62) ∧ Q (intsA 0 j.toNat) (fun _ => True) η1) (hs : starEach [a] X.env = [(false, eval a X.env)]) : WI X F tg (.Call (.Name "range" p) [a] [] pos) δ η Q := by
  refine ⟨_, pi_range1 (C.gl g.mem) (bl.no _ mb.mem) pa_wp hs, fun xt m σ H R ab k => h.go xt ab fun vs m1 H1 xs η1 ab1 e1 r1 ⟨j, ex, hj, q⟩ => ?_⟩
  subst ex
  obtain ⟨v, rfl, r⟩ := reps_one r1
  obtain rfl := rep_int.mp r
  exact ⟨j, rfl, hj.1, hj.2, k _ m1 H1 _ _ η1 ab1 e1 (itr_it 0 j.toNat) q⟩
theorem wi_range2 {a b : Expr} {p pos : Pos} {BL : List Str} [C : Cfg X N U S G] [bl : Blt X BL] [mb : Mem "range" BL] [g : Mem "range" G]
    (h : WL X F [a, b] δ η fun xs η1 => ∃ i j : Int, xs = [I i, I j] ∧ (-(2 ^ 62) ≤ i ∧ i < 2 ^ 62 ∧ -(2 ^ 62) ≤ j ∧ j < 2 ^ 62) ∧ Q (intsA i (j - i).toNat) (fun _ => True) η1) (hs : starEach [a, b] X.env = [(false, eval a X.env), (false, eval b X.env)]) (hs2 : starEach [b] X.env = [(false, eval b X.env)]) :
    WI X F tg (.Call (.Name "range" p) [a, b] [] pos) δ η Q := by
  refine ⟨_, pi_range2 (C.gl g.mem) (bl.no _ mb.mem) pa_wp hs hs2, fun xt m σ H R ab k => h.go xt ab fun vs m1 H1 xs η1 ab1 e1 r1 ⟨i, j, ex, hj, q⟩ => ?_⟩
  subst ex
  obtain ⟨v, u, rfl, r, r'⟩ := reps_two r1
  obtain rfl := rep_int.mp r
  obtain rfl := rep_int.mp r'
  exact ⟨i, j, rfl, hj, k _ m1 H1 _ _ η1 ab1 e1 (itr_it i (j - i).toNat) q⟩
/-- what stays so that a sequence is walked as it was -/
def okSeq (η : Hs) : A → Hs → Prop
  | .h k => fun η' => atH η' k = atH η k
  | _ => fun _ => True
theorem sq_kind {K : PySem.W.Frag} {m : List Addr} {σ : L2.St} {H : Hp} {x : A} {v : V} {items : List A} (ab : Abs K F m σ H δ η) (h : itemsA η x = some items) (r : RepA K (Lv F.Z m η) m H v x) : (∀ {F' : Fr0} {m' : List Addr} {σ' : L2.St} {H' : Hp} {δ' : Sl} {η' : Hs}, Aft F m H η F' → Abs K F' m' σ' H' δ' η' → okSeq η x η' → ∃ a vs, v = .ref a ∧ SqT K H' a vs ∧ RepAs K (Lv F'.Z m' η') m' H' vs items) ∨
    ∀ {F' : Fr0} {m' : List Addr} {σ' : L2.St} {H' : Hp} {δ' : Sl} {η' : Hs}, Aft F m H η F' → Abs K F' m' σ' H' δ' η' → okSeq η x η' → ∃ a vs, v = .ref a ∧ SqL K H' a vs ∧ RepAs K (Lv F'.Z m' η') m' H' vs items := by
  cases x with
  | h k =>
    refine .inr fun {F' m' σ' H' δ' η'} af a2 ok => ?_
    have ok : atH η' k = atH η k := ok
    have r2 := Ext.at_h af a2 r
    unfold itemsA at h
    dsimp only at h
    cases e : atH η k with
    | none => rw [e] at h; cases h
    | some o =>
      rw [e] at h ok
      obtain ⟨a, ho, hm, rfl, e2, r3⟩ := Abs.at_h (F := F') a2 ok r2
      cases o with
      | lst xs =>
        cases h
        unfold RepO at r3
        obtain ⟨vs, rfl, r3⟩ := r3
        exact ⟨a, vs, rfl, SqL.of e2, reps_d.mpr r3⟩
      | lsA xs =>
        cases h
        unfold RepO at r3
        obtain ⟨vs, rfl, r3⟩ := r3
        exact ⟨a, vs, rfl, SqL.of e2, r3⟩
      | _ => cases h
  | t xs =>
    refine .inl fun {F' m' σ' H' δ' η'} af a2 _ => ?_
    cases h
    obtain ⟨a, vs, rfl, s, r2⟩ := rep_t.mp (Ext.at_h af a2 r)
    exact ⟨a, vs, rfl, s.sq, r2⟩
  | d y =>
    cases y with
    | tup xs =>
      refine .inl fun {F' m' σ' H' δ' η'} af a2 _ => ?_
      cases h
      obtain ⟨a, vs, rfl, s, r2⟩ := rep_tup.mp (Ext.at_h af a2 r)
      exact ⟨a, vs, rfl, s.sq, reps_d.mpr r2⟩
    | lst xs =>
      refine .inr fun {F' m' σ' H' δ' η'} af a2 _ => ?_
      cases h
      obtain ⟨a, vs, rfl, s, r2⟩ := rep_lst.mp (Ext.at_h af a2 r)
      exact ⟨a, vs, rfl, s.sq, reps_d.mpr r2⟩
    | _ => cases h
theorem okSeq_self {x : A} : okSeq η x η := by
  cases x <;> first | exact trivial | rfl
theorem wi_seq {l : Expr} (h : W X F l δ η fun x η1 => ∃ items, itemsA η1 x = some items ∧ Q items (okSeq η1 x) η1) : WI X F tg l δ η Q := by
  refine ⟨_, pi_seq pe_wp, fun xt m σ H R ab k => h xt m σ H _ ab fun v m1 H1 x η1 ab1 e1 r1 ⟨items, hi, q⟩ => ?_⟩
  rcases sq_kind ab1 hi r1 with hk | hk
  · obtain ⟨a, vs, rfl, s0, _⟩ := hk .refl ab1.at okSeq_self
    refine ⟨a, rfl, .inl ⟨⟨vs, s0⟩, k _ m1 H1 items _ η1 ab1 e1 (fun F' hH hL hm hZ => ⟨fun m σ H δ η a2 ok => ?_, fun i y hy m σ H δ η a2 ok => ?_⟩) q⟩⟩
    · obtain ⟨a', ws, e, s, r⟩ := hk ⟨hH, hL, hm, hZ⟩ a2 ok
      cases e
      exact ⟨ws, s, Nat.le_of_eq r.length⟩
    · obtain ⟨a', ws, e, s, r⟩ := hk ⟨hH, hL, hm, hZ⟩ a2 ok
      cases e
      obtain ⟨w, h1, h2⟩ := r.get hy
      refine ⟨⟨ws, w, s, h1⟩, fun u H' ⟨e1, e2⟩ => ?_⟩
      subst e1
      have e3 : w = u := Option.some.inj (h1.symm.trans (e2 ws s))
      subst e3
      exact ⟨a2, h2, fun _ _ z => z⟩
  · obtain ⟨a, vs, rfl, s0, _⟩ := hk .refl ab1.at okSeq_self
    refine ⟨a, rfl, .inr ⟨⟨vs, s0⟩, k _ m1 H1 items _ η1 ab1 e1 (fun F' hH hL hm hZ => ⟨fun m σ H δ η a2 ok => ?_, fun i y hy m σ H δ η a2 ok => ?_⟩) q⟩⟩
    · obtain ⟨a', ws, e, s, r⟩ := hk ⟨hH, hL, hm, hZ⟩ a2 ok
      cases e
      exact ⟨ws, s, Nat.le_of_eq r.length⟩
    · obtain ⟨a', ws, e, s, r⟩ := hk ⟨hH, hL, hm, hZ⟩ a2 ok
      cases e
      obtain ⟨w, h1, h2⟩ := r.get hy
      refine ⟨⟨ws, w, s, h1⟩, fun u H' ⟨e1, e2⟩ => ?_⟩
      subst e1
      have e3 : w = u := Option.some.inj (h1.symm.trans (e2 ws s))
      subst e3
      exact ⟨a2, h2, fun _ _ z => z⟩
/-- (0, x), (1, y), .. -/
def enumA (items : List A) : List A := items.zipIdx.map fun p => mkT [I (p.2 : Nat), p.1]
theorem enumA_len {items : List A} : (enumA items).length = items.length := by simp [enumA]
theorem enumA_get {items : List A} {i : Nat} {y : A} (h : (enumA items)[i]? = some y) : ∃ x, items[i]? = some x ∧ y = mkT [I (i : Nat), x] := by
  unfold enumA at h
  rw [List.getElem?_map, List.getElem?_zipIdx] at h
  cases e : items[i]? with
  | none => rw [e] at h; cases h
  | some x =>
    rw [e] at h
    simp at h
    exact ⟨x, rfl, h.symm⟩
theorem pair_new {K : PySem.W.Frag} {m : List Addr} {σ : L2.St} {H : Hp} {T : Addr} {x y : A} {v u : V} (ab : Abs K F m σ H δ η) (hT : H T = none) (r1 : RepA K (Lv F.Z m η) m H v x) (r2 : RepA K (Lv F.Z m η) m H u y) :
    Abs K F m σ (upd H T (.tup [v, u])) δ η ∧ RepA K (Lv F.Z m η) m (upd H T (.tup [v, u])) (.ref T) (mkT [x, y]) ∧ ∀ b o, H b = some o → upd H T (.tup [v, u]) b = some o := by
  obtain ⟨a, _, r⟩ := ab.tup hT (vs := [v, u]) (xs := [x, y]) (reps_cons.mpr ⟨v, [u], rfl, r1, reps_cons.mpr ⟨u, [], rfl, r2, reps_nil.mpr rfl⟩⟩)
  exact ⟨a, r, fun b o e => by rw [upd_ne (ne_of_none e hT)]; exact e⟩
theorem wi_enum {l : Expr} {p pos tpos : Pos} {elts : List Expr} {kk : Nat} {BL : List Str} [C : Cfg X N U S G] [bl : Blt X BL] [mb : Mem "enumerate" BL] [g : Mem "enumerate" G]
    (h : W X F l δ η fun x η1 => ∃ items, itemsA η1 x = some items ∧ Q (enumA items) (okSeq η1 x) η1) (hs : starEach [l] X.env = [(false, eval l X.env)]) : WI X F (.Tuple elts kk tpos) (.Call (.Name "enumerate" p) [l] [] pos) δ η Q := by
  have hw : WL X F [l] δ η fun xs η1 => ∃ x, xs = [x] ∧ ∃ items, itemsA η1 x = some items ∧ Q (enumA items) (okSeq η1 x) η1 := wl_cons (h.mono fun x η1 q => wl_nil ⟨x, rfl, q⟩) hs
  refine ⟨_, pi_en (C.gl g.mem) (bl.no _ mb.mem) pa_wp hs, fun xt m σ H R ab k => hw.go xt ab fun vs m1 H1 xs η1 ab1 e1 rr ⟨x, ex, items, hi, q⟩ => ?_⟩
  subst ex
  obtain ⟨v, rfl, r1⟩ := reps_one rr
  rcases sq_kind ab1 hi r1 with hk | hk
  · obtain ⟨a, vs, rfl, s0, _⟩ := hk .refl ab1.at okSeq_self
    refine ⟨a, rfl, .inl ⟨⟨vs, s0⟩, k _ m1 H1 _ _ η1 ab1 e1 (fun F' hH hL hm hZ => ⟨fun m σ H δ η a2 ok => ?_, fun i y hy m σ H δ η a2 ok => ?_⟩) q⟩⟩
    · obtain ⟨a', ws, e, s, r⟩ := hk ⟨hH, hL, hm, hZ⟩ a2 ok
      cases e
      rw [enumA_len]
      exact ⟨ws, s, Nat.le_of_eq r.length⟩
    · obtain ⟨z, hz, rfl⟩ := enumA_get hy
      obtain ⟨a', ws, e, s, r⟩ := hk ⟨hH, hL, hm, hZ⟩ a2 ok
      cases e
      obtain ⟨w, h1, h2⟩ := r.get hz
      refine ⟨⟨ws, w, s, h1⟩, fun u H' ⟨T, w', e1, hT, e2, e3⟩ => ?_⟩
      subst e1 e2
      have e4 : w = w' := Option.some.inj (h1.symm.trans (e3 ws s))
      subst e4
      exact pair_new a2 hT (rep_int.mpr rfl) h2
  · obtain ⟨a, vs, rfl, s0, _⟩ := hk .refl ab1.at okSeq_self
    refine ⟨a, rfl, .inr ⟨⟨vs, s0⟩, k _ m1 H1 _ _ η1 ab1 e1 (fun F' hH hL hm hZ => ⟨fun m σ H δ η a2 ok => ?_, fun i y hy m σ H δ η a2 ok => ?_⟩) q⟩⟩
    · obtain ⟨a', ws, e, s, r⟩ := hk ⟨hH, hL, hm, hZ⟩ a2 ok
      cases e
      rw [enumA_len]
      exact ⟨ws, s, Nat.le_of_eq r.length⟩
    · obtain ⟨z, hz, rfl⟩ := enumA_get hy
      obtain ⟨a', ws, e, s, r⟩ := hk ⟨hH, hL, hm, hZ⟩ a2 ok
      cases e
      obtain ⟨w, h1, h2⟩ := r.get hz
      refine ⟨⟨ws, w, s, h1⟩, fun u H' ⟨T, w', e1, hT, e2, e3⟩ => ?_⟩
      subst e1 e2
      have e4 : w = w' := Option.some.inj (h1.symm.trans (e3 ws s))
      subst e4
      exact pair_new a2 hT (rep_int.mpr rfl) h2
end
end Y
set_option Elab.async false
set_option linter.all false
set_option maxRecDepth 100000
set_option maxHeartbeats 2000000
set_option autoImplicit false
/-! comprehensions -/
namespace Y
open PySem PySem.Spec PyProof.Rows L2

/-- what a context takes over from the one around -/
class LowS (X : outParam Cx) (Y : Cx) : Prop where
  prog : Y.prog = X.prog
  w : Y.w = X.w
  K : Y.K = X.K
  mg : Y.mg = X.mg
  base : Y.base = X.base
class Low (X : outParam Cx) (Y : Cx) : Prop extends LowS X Y where
  rm : ∀ j, Room j X.A → Room j Y.A
instance low_rm {X Y : Cx} {j : Nat} [l : Low X Y] [r : Rm X j] : Rm Y j := ⟨l.rm j r.r⟩
instance low_bl {X Y : Cx} {L : List Str} [l : LowS X Y] [r : Blt X L] : Blt Y L := ⟨by rw [l.mg]; exact r.no⟩
instance low_rf {X Y : Cx} {n : Str} {a : Addr} [l : LowS X Y] [r : GRef X n a] : GRef Y n a := ⟨by rw [l.mg]; exact r.eq⟩
instance low_fn {X Y : Cx} {n : Str} {k : Nat} {S : Spec} [l : LowS X Y] [r : GFx X n k S] : GFx Y n k S := ⟨by rw [l.prog, l.w, l.K, l.mg, l.base]; exact r.g⟩
class Calm (X : Cx) : Prop where
  c : X.calm = true
instance calm_c {X : Cx} {N U S G : List Str} [c : CfgC X N U S G] : Calm X := ⟨c.calm⟩

/-- what stands in a comprehension's block -/
structure BlkF (N : List Str) (sc scope : Scope) (own : List (Str × Nat)) (U S G : List Str) : Prop where
  blk : blkC N sc scope own = true
  vi : ∀ x ∈ U, (relS scope sc).names.lookup x = some .local ∨ (relS scope sc).names.lookup x = some .cell ∨ (relS scope sc).names.lookup x = some .free
  st : ∀ x ∈ S, ((relS scope sc).names.lookup x = some .local ∨ (relS scope sc).names.lookup x = some .cell) ∧ ((scope.names.lookup x == some .cell) = true ∨ (relS scope sc).names.lookup x = some .local)
  glo : ∀ x ∈ G, (relS scope sc).names.lookup x = some .globalImplicit
  dbg : ∀ x ∈ U ++ G, (x == ("__debug__" : Str)) = false ∧ (x == ("__classdict__" : Str)) = false ∧ x ≠ "__name__"
/-- the contexts of the block -/
def Fam (X : Cx) (scope : Scope) (Y : Cx) : Prop := ∃ (s : Shared) (H : Hp) (C : Addr) (cl : List (Str × Addr)) (fp : List Addr), Y = X.blk s H scope (compEnvC scope cl C X.env) fp
section
variable {X Y : Cx} {scope sc : Scope} {own : List (Str × Nat)} {N U S G U' S' G' : List Str}
theorem Fam.low (h : Fam X scope Y) : Low X Y := by
  obtain ⟨s, H, C, cl, fp, rfl⟩ := h
  exact { prog := rfl, w := rfl, K := rfl, mg := rfl, base := rfl, rm := fun _ r => r }
theorem Fam.calm (h : Fam X scope Y) (c : X.calm = true) : Calm Y := by
  obtain ⟨s, H, C, cl, fp, rfl⟩ := h
  exact ⟨c⟩
theorem Fam.cfg (h : Fam X scope Y) (C : Cfg X N U S G) (hsc : X.env.scope = sc) (b : BlkF N sc scope own U' S' G') : Cfg Y N U' S' G' := by
  obtain ⟨s, H, c, cl, fp, rfl⟩ := h
  subst hsc
  exact ⟨C.ns, C.nd, b.vi, b.st, b.glo, b.dbg⟩
theorem Fam.xt {F : Fr0} (h : Fam X scope Y) (hF : ∀ x δ, ¬ F.EX x δ) : XT Y F := fun u s' ⟨_, _, _, _, _, _, _, _, _, _, _, _, _, _, _, _, m, δ, x, _, _, f⟩ => (hF x δ f).elim
end

/-! ### targets of the block: only its own names -/
def TgW (X : Cx) (F : Fr0) (vs : List Nat) (tg : Expr) (x : A) (δ : Sl) (η : Hs) (Q : Sl → Prop) : Prop :=
  ∃ g, PG X tg g ∧ ∀ (m : List Addr) (σ : L2.St) (H : Hp) (v : V) (R : L2.St → Hp → Prop), Abs X.K F m σ H δ η → RepA X.K (Lv F.Z m η) m H v x → (∀ (σ' : L2.St) (δ' : Sl), wipe σ' vs = wipe σ vs → Abs X.K F m σ' H δ' η → Q δ' → R σ' H) → g v σ H R
def TgsW (X : Cx) (F : Fr0) (vs : List Nat) (ts : List Expr) (xs : List A) (δ : Sl) (η : Hs) (Q : Sl → Prop) : Prop :=
  ∃ g, PGs X ts g ∧ ∀ (m : List Addr) (σ : L2.St) (H : Hp) (us : List V) (R : L2.St → Hp → Prop), Abs X.K F m σ H δ η → RepAs X.K (Lv F.Z m η) m H us xs → (∀ (σ' : L2.St) (δ' : Sl), wipe σ' vs = wipe σ vs → Abs X.K F m σ' H δ' η → Q δ' → R σ' H) → g us σ H R
theorem wipe_set {σ : L2.St} {i : Nat} {v : Option V} : ∀ {vs : List Nat}, i ∈ vs → wipe (σ.set i v) vs = wipe σ vs := by
  intro vs hi
  apply List.ext_getElem?
  intro j
  by_cases hj : j ∈ vs
  · have key : ∀ (τ : L2.St) (ws : List Nat), j ∈ ws → (wipe τ ws)[j]? = if j < τ.length then some none else none := by
      intro τ ws
      induction ws with
      | nil => intro h; cases h
      | cons w ws ih =>
        intro h
        show ((wipe τ ws).set w none)[j]? = _
        by_cases hw : w = j
        · subst hw
          rw [List.getElem?_set, if_pos rfl, wipe_length]
        · rw [List.getElem?_set_ne hw]
          exact ih ((List.mem_cons.mp h).resolve_left fun e => hw e.symm)
    rw [key _ _ hj, key _ _ hj, List.length_set]
  · rw [wipe_out hj, wipe_out hj, List.getElem?_set_ne]
    rintro rfl
    exact hj hi
theorem wipe_wipe {σ : L2.St} {vs : List Nat} : wipe (wipe σ vs) vs = wipe σ vs := by
  have key : ∀ (ws : List Nat), (∀ i ∈ ws, i ∈ vs) → wipe (wipe σ ws) vs = wipe σ vs := by
    intro ws
    induction ws with
    | nil => intro _; rfl
    | cons w ws ih =>
      intro h
      show wipe ((wipe σ ws).set w none) vs = _
      rw [wipe_set (h w List.mem_cons_self)]
      exact ih fun i hi => h i (List.mem_cons_of_mem _ hi)
  exact key vs fun _ h => h
/-- the places of names -/
class At (N : List Str) (n : Str) (vs : List Nat) : Prop where
  ok : ∃ i, N[i]? = some n ∧ i ∈ vs
section
variable {X : Cx} {F : Fr0} {δ : Sl} {η : Hs} {N U S G : List Str} {vs : List Nat}
theorem tgw_name {n : Str} {pos : Pos} {x : A} {Q : Sl → Prop} {δ' : Sl} {i : Nat} [C : Cfg X N U S G] [s : SlotS N δ n x δ'] [ms : Mem n S] (q : Q δ') (hi : N[i]? = some n) (hv : i ∈ vs) : TgW X F vs (.Name n pos) x δ η Q := by
  obtain ⟨j, h1, h2, h3⟩ := s.ex
  obtain rfl := nodup_ix C.nd h1 hi
  subst h3
  exact ⟨_, pg_name (i := j) (by rw [C.ns]; exact C.nd) (by rw [C.ns]; exact h1) (C.st n ms.mem).1 (C.st n ms.mem).2, fun m σ H v R ab r k => k _ _ (wipe_set hv) (ab.store h2 r) q⟩
theorem tgsw_nil {Q : Sl → Prop} (q : Q δ) : TgsW X F vs [] [] δ η Q := ⟨_, pgs_nil, fun m σ H us R ab r k => ⟨reps_nil.mp r, k σ δ rfl ab q⟩⟩
theorem tgsw_cons {e : Expr} {es : List Expr} {x : A} {xs : List A} {Q : Sl → Prop} (h : TgW X F vs e x δ η fun δ1 => TgsW X F vs es xs δ1 η Q) (hs : (assignEach (e :: es) X.env).map (·.2) = assign e X.env :: (assignEach es X.env).map (·.2)) : TgsW X F vs (e :: es) (x :: xs) δ η Q := by
  obtain ⟨g, hg, h⟩ := h
  refine ⟨gCons g (fun us σ H R => ∃ g2, PGs X es g2 ∧ g2 us σ H R), pgs_cons hg ⟨fun pins s σ H vs us Q hI r ⟨g2, h2, q⟩ => h2.run pins s σ H vs us Q hI r q⟩ hs, fun m σ H us R ab r k => ?_⟩
  obtain ⟨v, vr, e1, r1, r2⟩ := reps_cons.mp r
  refine ⟨v, vr, e1, h m σ H v _ ab r1 fun σ1 δ1 hw ab1 ⟨g2, hg2, h2⟩ => ⟨g2, hg2, h2 m σ1 H vr R ab1 r2 fun σ2 δ2 hw2 => k σ2 δ2 (hw2.trans hw)⟩⟩
theorem tgw_tup {es : List Expr} {k : Nat} {pos : Pos} {x : A} {xs : List A} {Q : Sl → Prop} [hc : Calm X] (hx : itemsT x = some xs) (h : TgsW X F vs es xs δ η Q) (hl : xs.length = es.length) (hn : (assignEach es X.env).length = es.length) (hst : (assignEach es X.env).findIdx? (·.1) = none) : TgW X F vs (.Tuple es k pos) x δ η Q := by
  obtain ⟨g, hg, h⟩ := h
  refine ⟨_, pg_tup hc.c hg hn hst, fun m σ H v R ab r k => ?_⟩
  obtain ⟨a, us, e, s, q⟩ := itemsT_ok hx r
  exact ⟨a, us, e, s.sq, by rw [q.length, hl], h m σ H us R ab q k⟩
/-- a clause's tests -/
def WTs (X : Cx) (F : Fr0) (ifs : List Expr) (δ : Sl) (η : Hs) (Q : Bool → Hs → Prop) : Prop :=
  ∃ t, PTs X ifs t ∧ (XT X F → ∀ (m : List Addr) (σ : L2.St) (H : Hp) (R : Bool → Hp → Prop), Abs X.K F m σ H δ η → PstT X.K F m σ H δ η Q R → t σ H R)
theorem wts_nil {Q : Bool → Hs → Prop} (q : Q true η) : WTs X F [] δ η Q := ⟨_, pts_nil, fun xt m σ H R ab po => po true m H η ab .refl q⟩
theorem wts_one {c : Expr} {Q : Bool → Hs → Prop} (h : WT X F c δ η Q) : WTs X F [c] δ η Q := ⟨_, pts_one pt_wp, h⟩
end

/-! ### the accumulator: it lives outside while the items are worked out -/
def accF (F : Fr0) (m : List Addr) (H : Hp) (η : Hs) (D : Addr) : Fr0 := ⟨H, Live m η, m, fun b => F.Z b ∨ b = D, fun _ _ => False⟩
/-- at D stands o -/
def AccOk (K : PySem.W.Frag) (F1 : Fr0) (D : Addr) (σ : L2.St) (δ : Sl) (o : O) (η : Hs) (H : Hp) : Prop :=
  Abs K F1 F1.m σ H δ η ∧ ∃ ho, H D = some ho ∧ RepO K (Lv F1.Z F1.m η) F1.m H ho o
section
variable {K : PySem.W.Frag} {F : Fr0} {m : List Addr} {σ : L2.St} {H : Hp} {δ : Sl} {η : Hs} {D : Addr}
theorem acc_kp (ab : Abs K F m σ H δ η) (hD : H D = none) {ho : HO} : Kp (Lv F.Z m η) H (Lv (accF F m H η D).Z m η) (upd H D ho) :=
  ⟨fun b o h n => by rw [upd_ne (ne_of_none h hD)]; exact h, fun b o h n q => by
    rcases q with (z | z) | z
    · exact n (.inl z)
    · exact ne_of_none h hD z
    · exact n (.inr z)⟩
theorem acc_start {σ' : L2.St} {δ' : Sl} {ho : HO} {o : O} (ab : Abs K F m σ H δ η) (hD : H D = none) (hl : δ'.length = σ'.length) (hs : ∀ (i : Nat) (x : A), δ'[i]? = some (some x) → δ[i]? = some (some x) ∧ σ'[i]? = σ[i]?)
    (r : ∀ L' H', RepO K L' m H' ho o) : AccOk K (accF F m H η D) D σ' δ' o η (upd H D ho) := by
  have kp := acc_kp ab hD (ho := ho)
  refine ⟨⟨⟨ab.len, ab.nd, fun b hb => trk_upd (ab.trk b hb), fun b hb => ?_, fun b hb z => ?_, fun i b u h1 h2 => ?_⟩, hl, fun i x e => ?_, ⟨fun b u h n => ?_, fun _ _ _ n => n⟩, ⟨[], by simp [accF]⟩⟩, ho, upd_same, r _ _⟩
  · rcases hb with z | rfl
    · exact trk_upd (ab.zt b z)
    · exact ⟨ho, upd_same⟩
  · rcases z with z | rfl
    · exact ab.zd b hb z
    · obtain ⟨u, e⟩ := ab.trk _ hb
      rw [hD] at e
      cases e
  · obtain ⟨w, q1, q2⟩ := ab.obj i b u h1 h2
    exact ⟨w, by rw [upd_ne (ne_of_none q1 hD)]; exact q1, kp.o (fun _ _ q => q) q2⟩
  · obtain ⟨e1, e2⟩ := hs i x e
    obtain ⟨v, h1, h2⟩ := ab.slot i x e1
    exact ⟨v, by rw [e2]; exact h1, kp.a (fun _ _ q => q) h2⟩
  · rw [upd_ne (ne_of_none (show H b = some u from h) hD)]; exact h
/-- written anew -/
theorem acc_write {m1 : List Addr} {H1 : Hp} {η1 : Hs} {ho : HO} {o : O} (hD : H D = none) (ab1 : Abs K (accF F m H η D) m1 σ H1 δ η1) (hl : η1.length = m.length)
    (r : ∀ L' H', Kp (Lv (accF F m H η D).Z m1 η1) H1 L' H' → RepO K L' m1 H' ho o) : AccOk K (accF F m H η D) D σ δ o η1 (upd H1 D ho) := by
  have em : m1 = m := by
    obtain ⟨q, e⟩ := ab1.pre
    have e : m1 = m ++ q := e
    have := ab1.len
    rw [e, List.length_append] at this
    have : q = [] := List.eq_nil_of_length_eq_zero (by omega)
    rw [e, this, List.append_nil]
  subst em
  have kp : Kp (Lv (accF F m1 H η D).Z m1 η1) H1 (Lv (accF F m1 H η D).Z m1 η1) (upd H1 D ho) := ⟨fun b u h n => by
    rw [upd_ne]
    · exact h
    · rintro rfl
      exact n (.inl (.inr rfl)), fun _ _ _ n => n⟩
  refine ⟨⟨⟨ab1.len, ab1.nd, fun b hb => trk_upd (ab1.trk b hb), fun b hb => trk_upd (ab1.zt b hb), ab1.zd, fun i b u h1 h2 => ?_⟩, ab1.sl, fun i x e => ?_, ⟨fun b u h n => ?_, ab1.fr.live⟩, ⟨[], by simp [accF]⟩⟩, ho, upd_same, r _ _ kp⟩
  · obtain ⟨w, q1, q2⟩ := ab1.obj i b u h1 h2
    refine ⟨w, ?_, kp.o (fun _ _ q => q) q2⟩
    rw [upd_ne]
    · exact q1
    · rintro rfl
      exact ab1.zd _ (List.mem_of_getElem? h1) (.inr rfl)
  · obtain ⟨v, h1, h2⟩ := ab1.slot i x e
    exact ⟨v, h1, kp.a (fun _ _ q => q) h2⟩
  · have h : H b = some u := h
    rw [upd_ne (ne_of_none h hD)]
    exact ab1.fr.keep b u h n
/-- the end: it becomes a handle -/
theorem acc_end {σ1 : L2.St} {δ1 : Sl} {H1 : Hp} {η1 : Hs} {o : O} (ab : Abs K F m σ H δ η) (hD : H D = none) (a1 : AccOk K (accF F m H η D) D σ1 δ1 o η1 H1) :
    Abs K F (m ++ [D]) σ H1 δ (η1 ++ [some o]) ∧ Ext m H η (m ++ [D]) H1 (η1 ++ [some o]) ∧ RepA K (Lv F.Z (m ++ [D]) (η1 ++ [some o])) (m ++ [D]) H1 (.ref D) (.h η1.length) := by
  obtain ⟨a1, ho, hH, rO⟩ := a1
  have a1 : Abs K (accF F m H η D) m σ1 H1 δ1 η1 := a1
  have hDm : D ∉ m := ab.fresh hD
  have hDZ : ¬ F.Z D := fun z => by
    obtain ⟨u, e⟩ := ab.zt D z
    rw [hD] at e
    cases e
  have lvEq : ∀ b, Lv (accF F m H η D).Z m η1 b ↔ Lv F.Z (m ++ [D]) (η1 ++ [some o]) b := fun b => by
    unfold Lv
    rw [live_snoc a1.len]
    show (F.Z b ∨ b = D) ∨ _ ↔ _
    constructor
    · rintro ((h | h) | h)
      · exact .inl h
      · exact .inr (.inl h)
      · exact .inr (.inr h)
    · rintro (h | h | h)
      · exact .inl (.inl h)
      · exact .inl (.inr h)
      · exact .inr h
  have kpE : Kp (Live m η) H (Live (m ++ [D]) (η1 ++ [some o])) H1 := ⟨fun b u h n => a1.fr.keep b u h n, fun b u h n q => by
    rcases (live_snoc a1.len).mp q with e | e
    · exact ne_of_none h hD e
    · exact a1.fr.live b u h n e⟩
  have ex : Ext m H η (m ++ [D]) H1 (η1 ++ [some o]) := ⟨⟨[D], rfl⟩, kpE⟩
  have kc := RepCongr (H := H1) lvEq
  have pre : ∀ (i : Nat) (b : Addr), m[i]? = some b → (m ++ [D])[i]? = some b := fun i b q => pre_get ⟨[D], rfl⟩ q
  refine ⟨⟨⟨by simp [a1.len], nodup_snoc ab.nd hDm, fun b hb => ?_, fun b hb => a1.zt b (.inl hb), fun b hb z => ?_, fun i b u h1 h2 => ?_⟩, ab.sl, fun i x e => ?_, ab.fr.trans kpE, ?_⟩, ex, rep_h.mpr ⟨D, by rw [← a1.len]; simp, rfl⟩⟩
  · rcases List.mem_append.mp hb with hb | hb
    · exact a1.trk b hb
    · obtain rfl := List.mem_singleton.mp hb
      exact ⟨ho, hH⟩
  · rcases List.mem_append.mp hb with hb | hb
    · exact ab.zd b hb z
    · obtain rfl := List.mem_singleton.mp hb
      exact hDZ z
  · by_cases hi : i < m.length
    · rw [List.getElem?_append_left hi] at h1
      rw [List.getElem?_append_left (by rw [← a1.len]; exact hi)] at h2
      obtain ⟨w, q1, q2⟩ := a1.obj i b u h1 h2
      exact ⟨w, q1, kc.o pre q2⟩
    · rw [List.getElem?_append_right (by omega)] at h1
      rw [List.getElem?_append_right (by rw [← a1.len]; omega), ← a1.len] at h2
      have z : i - m.length = 0 := by
        have := (List.getElem?_eq_some_iff.mp h1).1
        simp at this
        omega
      rw [z] at h1 h2
      cases h1; cases h2
      exact ⟨ho, hH, kc.o pre rO⟩
  · obtain ⟨v, h1, h2⟩ := ab.slot i x e
    exact ⟨v, h1, ex.a h2⟩
  · obtain ⟨q, e⟩ := ab.pre
    exact ⟨q ++ [D], by rw [e, List.append_assoc]⟩
end
/-- the slots of an earlier state -/
theorem Abs.reslot {K : PySem.W.Frag} {F : Fr0} {m m5 : List Addr} {σ σ5 : L2.St} {H H5 : Hp} {δ δ5 : Sl} {η η5 : Hs} (a2 : Abs K F m σ H δ η) (a5 : Abs K F m5 σ5 H5 δ5 η5) (E : Ext m H η m5 H5 η5) : Abs K F m5 σ H5 δ η5 :=
  ⟨a5.toAbsH, a2.sl, fun i x e => by
    obtain ⟨v, h1, h2⟩ := a2.slot i x e
    exact ⟨v, h1, E.a h2⟩, a5.fr, a5.pre⟩
theorem Abs.same_m {K : PySem.W.Frag} {F : Fr0} {m : List Addr} {σ : L2.St} {H : Hp} {δ : Sl} {η : Hs} (a : Abs K F m σ H δ η) (hl : η.length = F.m.length) : m = F.m := by
  obtain ⟨q, e⟩ := a.pre
  have := a.len
  rw [e, List.length_append] at this
  have : q = [] := List.eq_nil_of_length_eq_zero (by omega)
  rw [e, this, List.append_nil]
/-- the tidied heap -/
theorem Abs.tidy {K : PySem.W.Frag} {F : Fr0} {m : List Addr} {σ : L2.St} {H : Hp} {δ : Sl} {η η' : Hs} {ix : List Nat} {k : Nat} (a : Abs K F m σ H δ η) (nd : ndN ix = true) (h : keepH ix η ix = some η') (hp : preN k ix = true) (hk : F.m.length ≤ k) :
    Abs K F (subM ix m) σ H (renSl (posN ix) δ) η' ∧ (∀ {x y : A} {v : V}, RepA K (Lv F.Z m η) m H v x → renA (posN ix) x = some y → RepA K (Lv F.Z (subM ix m) η') (subM ix m) H v y) ∧ Kp (Live m η) H (Live (subM ix m) η') H := by
  obtain ⟨a2, rn⟩ := a.keep nd h hp hk
  obtain ⟨_, _, _, lv⟩ := keep_view a.toAbsH (ndN_ok nd) h
  exact ⟨a2, rn, fun _ _ q _ => q, fun b _ _ n q => n (lv b q)⟩
def wipeSl (δ : Sl) : List Nat → Sl
  | [] => δ
  | v :: vs => (wipeSl δ vs).set v none
theorem wipeSl_len {δ : Sl} : ∀ {vs : List Nat}, (wipeSl δ vs).length = δ.length
  | [] => rfl
  | v :: vs => by
    unfold wipeSl
    rw [List.length_set, wipeSl_len]
theorem wipeSl_get {δ : Sl} {i : Nat} {x : A} : ∀ {vs : List Nat}, (wipeSl δ vs)[i]? = some (some x) → δ[i]? = some (some x) ∧ i ∉ vs
  | [], h => ⟨h, by simp⟩
  | v :: vs, h => by
    unfold wipeSl at h
    by_cases hi : v = i
    · subst hi
      rw [List.getElem?_set, if_pos rfl] at h
      split at h <;> cases h
    · rw [List.getElem?_set_ne hi] at h
      obtain ⟨h1, h2⟩ := wipeSl_get h
      exact ⟨h1, by simp only [List.mem_cons, not_or]; exact ⟨fun e => hi e.symm, h2⟩⟩
theorem RepDs.snoc {K : PySem.W.Frag} {L : Addr → Prop} {H : Hp} {x : D} {v : V} (r : RepD K L H v x) : ∀ {xs : List D} {vs : List V}, RepDs K L H vs xs → RepDs K L H (vs ++ [v]) (xs ++ [x])
  | [], vs, h => by
    obtain rfl := repds_nil.mp h
    exact repds_cons.mpr ⟨v, [], rfl, r, repds_nil.mpr rfl⟩
  | y :: ys, vs, h => by
    obtain ⟨u, r1, rfl, h1, h2⟩ := repds_cons.mp h
    exact repds_cons.mpr ⟨u, r1 ++ [v], rfl, h1, RepDs.snoc r h2⟩
theorem RepAs.snoc {K : PySem.W.Frag} {L : Addr → Prop} {m : List Addr} {H : Hp} {x : A} {v : V} (r : RepA K L m H v x) : ∀ {xs : List A} {vs : List V}, RepAs K L m H vs xs → RepAs K L m H (vs ++ [v]) (xs ++ [x])
  | [], vs, h => by
    obtain rfl := reps_nil.mp h
    exact reps_cons.mpr ⟨v, [], rfl, r, reps_nil.mpr rfl⟩
  | y :: ys, vs, h => by
    obtain ⟨u, r1, rfl, h1, h2⟩ := reps_cons.mp h
    exact reps_cons.mpr ⟨u, r1 ++ [v], rfl, h1, RepAs.snoc r h2⟩
/-- an item: pure, and the heap tidied -/
def GcD (k : Nat) (Q : D → Hs → Prop) (a : A) (η : Hs) : Prop := ∃ (ix : List Nat) (y : D) (η' : Hs), ndN ix = true ∧ preN k ix = true ∧ keepH ix η ix = some η' ∧ a = .d y ∧ Q y η'

section
variable {X : Cx} {F : Fr0} {δ : Sl} {η : Hs} {N U S G U' S' G' : List Str} {scope sc : Scope} {own : List (Str × Nat)}
def gB (X : Cx) (scope : Scope) (tg : Expr) : TG := fun v σ H R => ∀ Y, Fam X scope Y → gU Y tg v σ H R
def tB (X : Cx) (scope : Scope) (ifs : List Expr) : TT := fun σ H R => ∀ Y, Fam X scope Y → ∃ t, PTs Y ifs t ∧ t σ H R
def eB (X : Cx) (scope : Scope) (e : Expr) : TE := fun σ H R => ∀ Y, Fam X scope Y → wpE Y e σ H R
theorem pg_B {tg : Expr} (s : Shared) (H : Hp) (C : Addr) (cl : List (Str × Addr)) (fp : List Addr) : PG (X.blk s H scope (compEnvC scope cl C X.env) fp) tg (gB X scope tg) :=
  ⟨fun pins s' σ H' v u Q hI r h => pg_wp.run pins s' σ H' v u Q hI r (h _ ⟨s, H, C, cl, fp, rfl⟩)⟩
theorem pts_B {ifs : List Expr} (s : Shared) (H : Hp) (C : Addr) (cl : List (Str × Addr)) (fp : List Addr) : PTs (X.blk s H scope (compEnvC scope cl C X.env) fp) ifs (tB X scope ifs) :=
  ⟨fun pins s' σ H' Q hI h => by
    obtain ⟨t, h1, h2⟩ := h _ ⟨s, H, C, cl, fp, rfl⟩
    exact h1.run pins s' σ H' Q hI h2⟩
theorem pe_B {e : Expr} (s : Shared) (H : Hp) (C : Addr) (cl : List (Str × Addr)) (fp : List Addr) : PE (X.blk s H scope (compEnvC scope cl C X.env) fp) e (eB X scope e) :=
  ⟨fun pins s' σ H' Q hI h => h _ ⟨s, H, C, cl, fp, rfl⟩ pins s' hI⟩
/-- what a list comprehension asks -/
def LcJ (X : Cx) (F : Fr0) (N U' S' G' : List Str) (vs : List Nat) (tg elt : Expr) (ifs : List Expr) (δ : Sl) (Q : A → Hs → Prop) (items : List A) (ok : Hs → Prop) (η1 : Hs) : Prop :=
  ∃ Pv : Nat → List D → Hs → Prop, Pv 0 [] η1 ∧ (∀ i acc η', i ≤ items.length → Pv i acc η' → ok η' ∧ η'.length = η1.length) ∧
    (∀ (F' : Fr0), F'.m.length = η1.length → ∀ (i : Nat) (x : A) (acc : List D) (η' : Hs), items[i]? = some x → Pv i acc η' →
      acc.length < sizeLine ∧ ∀ (Y : Cx) [Low X Y] [Cfg Y N U' S' G'] [Calm Y], TgW Y F' vs tg x (wipeSl δ vs) η' fun δ2 => ∀ (Y : Cx) [Low X Y] [Cfg Y N U' S' G'] [Calm Y], WTs Y F' ifs δ2 η' fun b η2 =>
        if b = true then ∀ (Y : Cx) [Low X Y] [Cfg Y N U' S' G'] [Calm Y], W Y F' elt δ2 η2 (GcD η1.length fun y η3 => Pv (i + 1) (acc ++ [y]) η3) else Pv (i + 1) acc η2) ∧
    ∀ acc η', Pv items.length acc η' → ∃ k η'', pushO η' (some (.lst acc)) = some (k, η'') ∧ Q (.h k) η''
theorem lc_sem {elt tg iter : Expr} {ifs : List Expr} {Q : A → Hs → Prop} [C : Cfg X N U S G] [cm : Calm X] (hsc : X.env.scope = sc) (bf : BlkF N sc scope own U' S' G')
    (h : WI X F tg iter δ η fun items ok η1 => LcJ X F N U' S' G' (own.map (·.2)) tg elt ifs δ Q items ok η1) :
    ∃ wi, PI X tg iter wi ∧ (XT X F → ∀ (m : List Addr) (σ : L2.St) (H : Hp) (R : VK), Abs X.K F m σ H δ η → Pst X.K F m σ H δ η Q R → tLc wi (gB X scope tg) (tB X scope ifs) (eB X scope elt) (own.map (·.2)) σ H R) := by
  obtain ⟨wi, hwi, h⟩ := h
  refine ⟨wi, hwi, fun xt m σ H R ab po => h xt m σ H _ ab fun J m1 H1 items ok η1 ab1 e1 it hq D hD => ?_⟩
  obtain ⟨Pv, p0, hok, hstep, hend⟩ := hq
  generalize hF1 : accF F m1 H1 η1 D = F1
  have hFm : F1.m = m1 := by rw [← hF1]; rfl
  have hFx : ∀ x δ, ¬ F1.EX x δ := by rw [← hF1]; exact fun _ _ f => f
  have it := it F1 (by rw [← hF1]; rfl) (by rw [← hF1]; rfl) (by rw [← hF1]; rfl) (by
    rw [← hF1]
    rintro b o h (z | z)
    · exact z
    · exact (ne_of_none h hD z).elim)
  refine ⟨fun i n H' => n = items.length - i ∧ i ≤ items.length ∧ ∃ acc η', AccOk X.K F1 D (wipe σ (own.map (·.2))) (wipeSl δ (own.map (·.2))) (.lst acc) η' H' ∧ Pv i acc η', ⟨_, rfl, Nat.zero_le _, [], η1, ?_, p0⟩, ?_⟩
  · rw [← hF1]
    refine acc_start ab1 hD (by rw [wipeSl_len, wipe_length]; exact ab1.sl) (fun i x e => ?_) fun L' H' => ?_
    · obtain ⟨e1, e2⟩ := wipeSl_get e
      exact ⟨e1, wipe_out e2⟩
    · unfold RepO
      exact ⟨[], rfl, repds_nil.mpr rfl⟩
  rintro i n H' ⟨rfl, hi, acc, η', a2, p⟩
  obtain ⟨ok', hl'⟩ := hok i acc η' hi p
  have a2' := a2.1
  by_cases hlt : i < items.length
  · have hx := List.getElem?_eq_getElem hlt
    obtain ⟨go, yl⟩ := it.2 i _ hx F1.m _ H' _ η' a2' ok'
    refine .inr ⟨go, fun H2 => ∃ acc2 η2, AccOk X.K F1 D (wipe σ (own.map (·.2))) (wipeSl δ (own.map (·.2))) (.lst acc2) η2 H2 ∧ Pv (i + 1) acc2 η2, fun H2 ⟨acc2, η2, q1, q2⟩ => ⟨_, ?_, rfl, hlt, acc2, η2, q1, q2⟩, fun v H2 y => ?_⟩
    · omega
    obtain ⟨a3, r3, k3⟩ := yl v H2 y
    obtain ⟨_, ho, hHD, rO⟩ := a2
    unfold RepO at rO
    obtain ⟨vs, rfl, rD⟩ := rO
    have h2D := k3 D _ hHD
    have rD3 : RepDs X.K (Lv F1.Z F1.m η') H2 vs acc := (⟨fun b o e _ => k3 b o e, fun _ _ _ n => n⟩ : Kp (Lv F1.Z F1.m η') H' (Lv F1.Z F1.m η') H2).ds rD
    obtain ⟨hsz, hstep⟩ := hstep F1 (by rw [hFm]; exact ab1.len) i _ acc η' hx p
    have ins : ∀ {Y : Cx}, Fam X scope Y → Low X Y ∧ Cfg Y N U' S' G' ∧ Calm Y := fun {Y} hY => ⟨hY.low, hY.cfg C hsc bf, hY.calm cm.c⟩
    intro Y hY
    obtain ⟨i1, i2, i3⟩ := ins hY
    have hK : Y.K = X.K := i1.K
    obtain ⟨g, hg, hgo⟩ := hstep Y
    rw [hK] at hgo
    refine ⟨g, hg, hgo F1.m _ H2 v _ a3 r3 fun σ2 δ2 hw a4 hts => ⟨hw.trans wipe_wipe, fun Y' hY' => ?_⟩⟩
    obtain ⟨j1, j2, j3⟩ := ins hY'
    have hK' : Y'.K = X.K := j1.K
    obtain ⟨t, ht, hto⟩ := hts Y'
    rw [hK'] at hto
    refine ⟨t, ht, hto (hY'.xt hFx) F1.m σ2 H2 _ a4 fun b m5 H5 η5 a5 e5 q5 => ?_⟩
    have e0 : Ext F1.m H' η' F1.m H2 η' := ⟨⟨[], by simp⟩, fun b o e _ => k3 b o e, fun _ _ _ n => n⟩
    have nD : ∀ {m' : List Addr} {σ' : L2.St} {H'' : Hp} {δ' : Sl} {η'' : Hs}, Abs X.K F1 m' σ' H'' δ' η'' → ¬ Live m' η'' D := fun {m' σ' H'' δ' η''} a ⟨i, o, h1, _⟩ => a.zd D (List.mem_of_getElem? h1) (by rw [← hF1]; exact .inr rfl)
    have h5D := e5.kp.keep D _ h2D (nD a4)
    have rD5 := (e5.lv F1.Z).ds rD3
    cases b with
    | false =>
      rw [if_neg Bool.false_ne_true] at q5 ⊢
      obtain ⟨_, hl5⟩ := hok (i + 1) acc η5 hlt q5
      have em := a5.same_m (by rw [hl5, hFm, ab1.len])
      subst em
      refine ⟨acc, η5, ⟨a2'.reslot a5 (e0.trans e5), _, h5D, ?_⟩, q5⟩
      unfold RepO
      exact ⟨vs, rfl, rD5⟩
    | true =>
      rw [if_pos rfl] at q5 ⊢
      intro Y2 hY2
      obtain ⟨l1, l2, l3⟩ := ins hY2
      have hK2 : Y2.K = X.K := l1.K
      have q6 := q5 Y2 (hY2.xt hFx) m5 σ2 H5
      rw [hK2] at q6
      refine q6 _ a5 fun w m7 H7 a η7 a7 e7 r7 ⟨ix, y, η8, nd, pr, hk, ea, p8⟩ => ?_
      subst ea
      obtain ⟨_, hl8⟩ := hok (i + 1) _ η8 hlt p8
      obtain ⟨a8, rn, k8⟩ := a7.tidy nd hk pr (by rw [hFm, ab1.len]; exact Nat.le_refl _)
      have r8 := rn r7 (y := .d y) rfl
      have E7 := (e0.trans e5).trans e7
      have E8 : Ext F1.m H' η' (subM ix m7) H7 η8 := ⟨a8.pre, E7.kp.trans k8⟩
      have a9 := a2'.reslot a8 E8
      have em := a9.same_m (by rw [hl8, hFm, ab1.len])
      have h7D := E8.kp.keep D _ hHD (nD a2')
      have rD8 := (E8.lv F1.Z).ds rD
      refine ⟨vs, h7D, by rw [rD.length]; exact hsz, acc ++ [y], η8, ?_, p8⟩
      subst hF1
      refine acc_write hD a9 (by rw [hl8, ab1.len]) fun L' H'' kp => ?_
      unfold RepO
      exact ⟨_, rfl, RepDs.snoc (kp.d (rep_d.mp r8)) (kp.ds rD8)⟩
  · have e : i = items.length := by omega
    subst e
    refine .inl ⟨it.1 F1.m _ H' _ η' a2' ok', ?_⟩
    obtain ⟨k, η'', hk, q⟩ := hend acc η' p
    rw [pushO_eq] at hk
    cases hk
    rw [← hF1] at a2
    obtain ⟨b1, b2, b3⟩ := acc_end (σ := σ) (δ := δ) ab1 hD a2
    exact po _ _ _ _ _ b1 (e1.trans b2) b3 q
theorem BlkF.ok [C : Cfg X N U S G] (hsc : X.env.scope = sc) (bf : BlkF N sc scope own U' S' G') : BlkOk X.N X.env.scope scope own := by
  rw [C.ns, hsc]
  exact blkOk_by bf.blk
theorem w_lc {elt tg iter : Expr} {ifs : List Expr} {pos : Pos} {Q : A → Hs → Prop} [C : Cfg X N U S G] [cm : Calm X] (hsc : X.env.scope = sc) (bf : BlkF N sc scope own U' S' G')
    (h : WI X F tg iter δ η fun items ok η1 => LcJ X F N U' S' G' (own.map (·.2)) tg elt ifs δ Q items ok η1) (hs : ∀ x, foldedSetIterable iter X.env x = pure x) :
    W X F (.ListComp elt [⟨tg, iter, ifs, 0⟩] scope pos) δ η Q := by
  obtain ⟨wi, hwi, k⟩ := lc_sem (elt := elt) (ifs := ifs) hsc bf h
  exact fun xt m σ H R ab po => wp_of (pe_lc cm.c (by rw [C.ns]; exact C.nd) hwi (bf.ok hsc) pg_B pts_B pe_B hs) (k xt m σ H R ab po)
theorem ws_setLc {n : Str} {py : Pos} {elt tg iter : Expr} {ifs : List Expr} {pos spos : Pos} {nx bk ct : SH} {rt : A → Hs → Prop} [C : Cfg X N U S G] [cm : Calm X] [hn : Mem n N] [ms : Mem n S] (hsc : X.env.scope = sc) (bf : BlkF N sc scope own U' S' G')
    (h : WI X F tg iter δ η fun items ok η1 => LcJ X F N U' S' G' (own.map (·.2)) tg elt ifs δ (fun x η1 => ∃ δ', SlotS N δ n x δ' ∧ nx δ' η1) items ok η1) (hs : ∀ x, foldedSetIterable iter X.env x = pure x)
    (hyl : X.env.scope.names.lookup n = some .local) (hsw : swapsWith (.ListComp elt [⟨tg, iter, ifs, 0⟩] scope pos) (some (.Name n py)) spos.line X.env = pure true) :
    WS X F (.Assign [.Name n py] (.ListComp elt [⟨tg, iter, ifs, 0⟩] scope pos) spos) δ η nx rt bk ct := by
  obtain ⟨i, hi, e1⟩ := List.getElem_of_mem hn.mem
  have hN : N[i]? = some n := by rw [List.getElem?_eq_getElem hi, e1]
  obtain ⟨wi, hwi, k⟩ := lc_sem (elt := elt) (ifs := ifs) hsc bf h
  refine fun xt m σ H E ab eo => wps_of (ps_setLc (i := i) cm.c (by rw [C.ns]; exact C.nd) (by rw [C.ns]; exact hN) hyl hsw hwi (bf.ok hsc) pg_B pts_B pe_B hs) (k xt m σ H _ ab fun v m1 H1 x η1 ab1 _ r ⟨δ', s, q⟩ => ?_)
  obtain ⟨j, h1, h2, h3⟩ := s.ex
  obtain rfl := nodup_ix C.nd h1 hN
  subst h3
  exact eo.nx m1 _ H1 _ η1 (ab1.store h2 r) q
end
end Y
set_option Elab.async false
set_option linter.all false
set_option maxRecDepth 100000
set_option maxHeartbeats 2000000
set_option autoImplicit false
/-! lists and tuples -/
namespace Y
open PySem PySem.Spec PyProof.Rows L2
section
variable {X : Cx} {F : Fr0} {δ : Sl} {η : Hs} {Q : A → Hs → Prop} {N U S G : List Str}
theorem pures_map : ∀ {ds : List D}, pures (ds.map .d) = some ds
  | [] => rfl
  | d :: r => by
    show (match pures (r.map .d) with | some xs => some (d :: xs) | none => none) = _
    rw [pures_map]
theorem mkT_map {ds : List D} : mkT (ds.map .d) = .d (.tup ds) := by
  unfold mkT
  rw [pures_map]
theorem mkL_map {ds : List D} : mkL (ds.map .d) = .lst ds := by
  unfold mkL
  rw [pures_map]
/-! ### tuple(x), list(x) -/
theorem Pst.tupV {m : List Addr} {σ : L2.St} {H : Hp} {R : VK} {vs : List V} {xs : List A} (po : Pst X.K F m σ H δ η Q R) (ab : Abs X.K F m σ H δ η) (r : RepAs X.K (Lv F.Z m η) m H vs xs) (q : Q (mkT xs) η) : ∀ l, H l = none → R (.ref l) (upd H l (.tup vs)) := fun l hl => by
  obtain ⟨a2, e2, r2⟩ := ab.tup hl r
  exact po _ m _ _ η a2 e2 r2 q
theorem f_tuple {x : A} {items : List A} (h : itemsA η x = some items) (q : Q (mkT items) η) : CallJ X F (.type "tuple") [x] δ η Q := fun m σ H R vs ab rr po => by
  obtain ⟨v, rfl, r⟩ := reps_one rr
  cases x with
  | h k =>
    unfold itemsA at h
    dsimp only at h
    cases e : atH η k with
    | none => rw [e] at h; cases h
    | some o =>
      rw [e] at h
      obtain ⟨a, ho, hm, rfl, e2, r2⟩ := ab.at_h e r
      cases o with
      | lst xs =>
        cases h
        unfold RepO at r2
        obtain ⟨vs, rfl, r2⟩ := r2
        exact ⟨_, call_tuple_of, a, vs, rfl, .inl ⟨SqL.of e2, po.tupV ab (reps_d.mpr r2) q⟩⟩
      | lsA xs =>
        cases h
        unfold RepO at r2
        obtain ⟨vs, rfl, r2⟩ := r2
        exact ⟨_, call_tuple_of, a, vs, rfl, .inl ⟨SqL.of e2, po.tupV ab r2 q⟩⟩
      | _ => cases h
  | t xs =>
    cases h
    obtain ⟨a, vs, rfl, s, r2⟩ := rep_t.mp r
    exact ⟨_, call_tuple_of, a, vs, rfl, .inr ⟨s.sq, po _ m H _ η ab .refl (rep_mkT s r2) q⟩⟩
  | d y =>
    cases y with
    | tup xs =>
      cases h
      obtain ⟨a, vs, rfl, s, r2⟩ := rep_tup.mp r
      exact ⟨_, call_tuple_of, a, vs, rfl, .inr ⟨s.sq, po _ m H _ η ab .refl (rep_mkT s (reps_d.mpr r2)) q⟩⟩
    | lst xs =>
      cases h
      obtain ⟨a, vs, rfl, s, r2⟩ := rep_lst.mp r
      exact ⟨_, call_tuple_of, a, vs, rfl, .inl ⟨s.sq, po.tupV ab (reps_d.mpr r2) q⟩⟩
    | _ => cases h
theorem f_list {x : A} {items : List A} {k : Nat} {η' : Hs} (h : itemsA η x = some items) (hk : pushO η (some (mkL items)) = some (k, η')) (q : Q (.h k) η') : CallJ X F (.type "list") [x] δ η Q := fun m σ H R vs ab rr po => by
  obtain ⟨v, rfl, r⟩ := reps_one rr
  obtain ⟨a, vs, rfl, s, r2⟩ := itemsA_ok ab h r
  exact ⟨_, call_list_of, a, vs, rfl, s.symm, fun l hl => po.newL ab hl (fun L' m' H' kp pr => rep_mkL (kp.as pr r2)) hk q⟩
/-! ### + and * -/
theorem RepAs.app {K : PySem.W.Frag} {L : Addr → Prop} {m : List Addr} {H : Hp} {us : List V} {ys : List A} (r : RepAs K L m H us ys) : ∀ {xs : List A} {vs : List V}, RepAs K L m H vs xs → RepAs K L m H (vs ++ us) (xs ++ ys)
  | [], vs, h => by
    obtain rfl := reps_nil.mp h
    exact r
  | x :: xs, vs, h => by
    obtain ⟨v, r1, rfl, h1, h2⟩ := reps_cons.mp h
    exact reps_cons.mpr ⟨v, r1 ++ us, rfl, h1, RepAs.app r h2⟩
theorem reps_len0 {K : PySem.W.Frag} {L : Addr → Prop} {m : List Addr} {H : Hp} {xs : List A} {vs : List V} (r : RepAs K L m H vs xs) (h : vs = []) : xs = [] := by
  subst h
  exact List.eq_nil_of_length_eq_zero r.length.symm
theorem b_catT {x y : A} {xs ys : List A} (hx : itemsT x = some xs) (hy : itemsT y = some ys) (hl : xs.length + ys.length ≤ sizeLine) (q : Q (mkT (xs ++ ys)) η) : Op2 X F (binaryOp .Add) x y δ η Q := fun m σ H R v u ab r1 r2 po => by
  obtain ⟨a, vs, rfl, s1, q1⟩ := itemsT_ok hx r1
  obtain ⟨b, us, rfl, s2, q2⟩ := itemsT_ok hy r2
  refine ⟨_, op_catA, a, b, vs, us, rfl, rfl, s1.sq, s2.sq, by rw [q1.length, q2.length]; exact hl, fun e => ?_, fun e1 e2 => ?_, fun e1 e2 => po.tupV ab (q2.app q1) q⟩
  · have := reps_len0 q1 e
    subst this
    exact po _ m H _ η ab .refl (rep_mkT s2 q2) q
  · have := reps_len0 q2 e2
    subst this
    rw [List.append_nil] at q
    exact po _ m H _ η ab .refl (rep_mkT s1 q1) q
/-- the items of a list that is a handle -/
def lstH (η : Hs) (k : Nat) : Option (List A) := match atH η k with
  | some (.lst xs) => some (xs.map .d)
  | some (.lsA xs) => some xs
  | _ => none
theorem Abs.lstH {K : PySem.W.Frag} {m : List Addr} {σ : L2.St} {H : Hp} {k : Nat} {v : V} {xs : List A} (ab : Abs K F m σ H δ η) (h : lstH η k = some xs) (r : RepA K (Lv F.Z m η) m H v (.h k)) : ∃ a vs, m[k]? = some a ∧ v = .ref a ∧ H a = some (.lst vs) ∧ RepAs K (Lv F.Z m η) m H vs xs := by
  unfold Y.lstH at h
  cases e : atH η k with
  | none => rw [e] at h; cases h
  | some o =>
    rw [e] at h
    obtain ⟨a, ho, hm, rfl, e2, r2⟩ := ab.at_h e r
    cases o with
    | lst xs =>
      cases h
      unfold RepO at r2
      obtain ⟨vs, rfl, r2⟩ := r2
      exact ⟨a, vs, hm, rfl, e2, reps_d.mpr r2⟩
    | lsA xs =>
      cases h
      unfold RepO at r2
      obtain ⟨vs, rfl, r2⟩ := r2
      exact ⟨a, vs, hm, rfl, e2, r2⟩
    | _ => cases h
theorem b_cat {j k n : Nat} {xs ys : List A} {η' : Hs} (hx : lstH η j = some xs) (hy : lstH η k = some ys) (hl : xs.length + ys.length ≤ sizeLine) (hk : pushO η (some (mkL (xs ++ ys))) = some (n, η')) (q : Q (.h n) η') : Op2 X F (binaryOp .Add) (.h j) (.h k) δ η Q := fun m σ H R v u ab r1 r2 po => by
  obtain ⟨a, vs, _, rfl, s1, q1⟩ := ab.lstH hx r1
  obtain ⟨b, us, _, rfl, s2, q2⟩ := ab.lstH hy r2
  exact ⟨_, op_cat, a, b, vs, us, rfl, rfl, s1, s2, by rw [q1.length, q2.length]; exact hl, fun p hp => po.newL ab hp (fun L' m' H' kp pr => rep_mkL (kp.as pr (q2.app q1))) hk q⟩
theorem RepAs.rep {K : PySem.W.Frag} {L : Addr → Prop} {m : List Addr} {H : Hp} {us : List V} {ys : List A} (r : RepAs K L m H us ys) : ∀ n : Nat, RepAs K L m H (List.replicate n us).flatten (List.replicate n ys).flatten
  | 0 => reps_nil.mpr rfl
  | n + 1 => by
    rw [List.replicate_succ, List.flatten_cons, List.replicate_succ, List.flatten_cons]
    exact (RepAs.rep r n).app r
theorem b_rep {j n : Nat} {i : Int} {xs : List A} {η' : Hs} (hx : lstH η j = some xs) (hi : -(2 ^ 63) ≤ i ∧ i < 2 ^ 63) (hl : xs.length * i.toNat ≤ sizeLine) (hk : pushO η (some (mkL (List.replicate i.toNat xs).flatten)) = some (n, η')) (q : Q (.h n) η') : Op2 X F (binaryOp .Mult) (.h j) (I i) δ η Q := fun m σ H R v u ab r1 r2 po => by
  obtain ⟨a, vs, _, rfl, s1, q1⟩ := ab.lstH hx r1
  obtain rfl := rep_int.mp r2
  exact ⟨_, op_rep, a, i, vs, rfl, rfl, s1, hi.1, hi.2, by rw [q1.length]; exact hl, fun p hp => po.newL ab hp (fun L' m' H' kp pr => rep_mkL (kp.as pr (q1.rep _))) hk q⟩
/-! ### slices -/
def cutA {α : Type} (xs : List α) (lo hi : Option Int) : List α := (xs.drop (HT.sIx xs.length 0 lo)).take (HT.sIx xs.length xs.length hi - HT.sIx xs.length 0 lo)
theorem RepAs.drop {K : PySem.W.Frag} {L : Addr → Prop} {m : List Addr} {H : Hp} : ∀ (n : Nat) {xs : List A} {vs : List V}, RepAs K L m H vs xs → RepAs K L m H (vs.drop n) (xs.drop n)
  | 0, xs, vs, h => h
  | n + 1, [], vs, h => by
    obtain rfl := reps_nil.mp h
    exact h
  | n + 1, x :: xs, vs, h => by
    obtain ⟨v, r1, rfl, h1, h2⟩ := reps_cons.mp h
    exact RepAs.drop n h2
theorem RepAs.take {K : PySem.W.Frag} {L : Addr → Prop} {m : List Addr} {H : Hp} : ∀ (n : Nat) {xs : List A} {vs : List V}, RepAs K L m H vs xs → RepAs K L m H (vs.take n) (xs.take n)
  | 0, xs, vs, h => reps_nil.mpr rfl
  | n + 1, [], vs, h => by
    obtain rfl := reps_nil.mp h
    exact h
  | n + 1, x :: xs, vs, h => by
    obtain ⟨v, r1, rfl, h1, h2⟩ := reps_cons.mp h
    exact reps_cons.mpr ⟨v, r1.take n, rfl, h1, RepAs.take n h2⟩
theorem RepAs.cut {K : PySem.W.Frag} {L : Addr → Prop} {m : List Addr} {H : Hp} {xs : List A} {vs : List V} (r : RepAs K L m H vs xs) (lo hi : Option Int) : RepAs K L m H (cutV vs lo hi) (cutA xs lo hi) := by
  unfold cutV cutA
  rw [r.length]
  exact (r.drop _).take _
/-- a slice's end -/
def WP (X : Cx) (F : Fr0) (e : Option Expr) (δ : Sl) (η : Hs) (Q : Option Int → Hs → Prop) : Prop :=
  ∃ t, PO X e t ∧ (XT X F → ∀ (m : List Addr) (σ : L2.St) (H : Hp) (R : Option Int → Hp → Prop), Abs X.K F m σ H δ η → (∀ o m' H' η', Abs X.K F m' σ H' δ η' → Ext m H η m' H' η' → Q o η' → R o H') → t σ H R)
theorem wp_none {Q : Option Int → Hs → Prop} (q : Q none η) : WP X F none δ η Q := ⟨_, po_none, fun xt m σ H R ab k => k none m H η ab .refl q⟩
theorem wp_some {e : Expr} {Q : Option Int → Hs → Prop} (h : W X F e δ η fun x η1 => ∃ i, x = I i ∧ Q (some i) η1) : WP X F (some e) δ η Q :=
  ⟨_, po_some pe_wp, fun xt m σ H R ab k => h xt m σ H _ ab fun v m1 H1 x η1 ab1 e1 r1 ⟨i, ex, q⟩ => by
    subst ex
    exact ⟨i, rep_int.mp r1, k _ m1 H1 η1 ab1 e1 q⟩⟩
/-- x[lo:hi] of the value x -/
def Sl3 (X : Cx) (F : Fr0) (x : A) (lo hi : Option Int) (δ : Sl) (η : Hs) (Q : A → Hs → Prop) : Prop :=
  ∀ (m : List Addr) (σ : L2.St) (H : Hp) (R : VK) (v : V), Abs X.K F m σ H δ η → RepA X.K (Lv F.Z m η) m H v x → Pst X.K F m σ H δ η Q R → ∃ r, SlR X r ∧ r v lo hi H R
def rUS (X : Cx) : V → Option Int → Option Int → Hp → VK → Prop := fun v lo hi H R => ∃ r, SlR X r ∧ r v lo hi H R
theorem slU : SlR X (rUS X) := by
  intro pins s σ H x v vl vu lo hi sl Q hI rx hs pl pu ⟨r, h1, h2⟩
  exact h1 pins s σ H x v vl vu lo hi sl Q hI rx hs pl pu h2
def poU (X : Cx) (e : Option Expr) : TO := fun σ H R => ∃ t, PO X e t ∧ t σ H R
theorem po_U {e : Option Expr} : PO X e (poU X e) := ⟨fun pins s σ H Q hI ⟨t, h1, h2⟩ => h1.run pins s σ H Q hI h2⟩
theorem w_slice {a : Expr} {lo hi : Option Expr} {p2 pos : Pos} (h : W X F a δ η fun x η1 => WP X F lo δ η1 fun l η2 => WP X F hi δ η2 fun u η3 => Sl3 X F x l u δ η3 Q) : W X F (.Subscript a (.Slice lo hi none p2) pos) δ η Q := fun xt m σ H R ab po =>
  wp_of (pe_slice slU pe_wp po_U po_U) (h xt m σ H _ ab fun v m1 H1 x η1 ab1 e1 r1 ⟨t1, ht1, q1⟩ => ⟨t1, ht1, q1 xt m1 σ H1 _ ab1 fun l m2 H2 η2 ab2 e2 ⟨t2, ht2, q2⟩ => ⟨t2, ht2, q2 xt m2 σ H2 _ ab2 fun u m3 H3 η3 ab3 e3 q3 =>
    q3 m3 σ H3 R v ab3 ((e2.trans e3).a r1) (po.after ((e1.trans e2).trans e3))⟩⟩)
theorem cut_all {α : Type} {xs : List α} {lo hi : Option Int} (h : HT.sIx xs.length 0 lo = 0 ∧ HT.sIx xs.length xs.length hi = xs.length) : cutA xs lo hi = xs := by
  unfold cutA
  rw [h.1, h.2]
  simp
theorem s_tup {x : A} {xs : List A} {lo hi : Option Int} (hx : itemsT x = some xs) (q : Q (mkT (cutA xs lo hi)) η) : Sl3 X F x lo hi δ η Q := fun m σ H R v ab r po => by
  obtain ⟨a, vs, rfl, s1, q1⟩ := itemsT_ok hx r
  refine ⟨_, sl_tupA, a, vs, rfl, s1.sq, fun e => ?_, fun _ => po.tupV ab (q1.cut lo hi) q⟩
  rw [q1.length] at e
  rw [cut_all e] at q
  exact po _ m H _ η ab .refl (rep_mkT s1 q1) q
/-- a list as values: a handle, or one that is frozen -/
theorem listA_ok {K : PySem.W.Frag} {m : List Addr} {σ : L2.St} {H : Hp} {x : A} {v : V} {items : List A} (ab : Abs K F m σ H δ η) (h : itemsA η x = some items) (hn : itemsT x = none) (r : RepA K (Lv F.Z m η) m H v x) :
    ∃ a vs, v = .ref a ∧ SqL K H a vs ∧ RepAs K (Lv F.Z m η) m H vs items := by
  cases x with
  | h k =>
    obtain ⟨a, vs, _, e, s, q⟩ := ab.lstH (k := k) (xs := items) (by
      unfold itemsA at h
      unfold Y.lstH
      exact h) r
    exact ⟨a, vs, e, SqL.of s, q⟩
  | t xs => cases hn
  | d y =>
    cases y with
    | lst xs =>
      cases h
      obtain ⟨a, vs, rfl, s, r2⟩ := rep_lst.mp r
      exact ⟨a, vs, rfl, s.sq, reps_d.mpr r2⟩
    | tup xs => cases hn
    | _ => cases h
theorem s_lst {x : A} {xs : List A} {lo hi : Option Int} {n : Nat} {η' : Hs} (hx : itemsA η x = some xs) (hn : itemsT x = none) (hk : pushO η (some (mkL (cutA xs lo hi))) = some (n, η')) (q : Q (.h n) η') : Sl3 X F x lo hi δ η Q := fun m σ H R v ab r po => by
  obtain ⟨a, vs, rfl, s, q1⟩ := listA_ok ab hx hn r
  exact ⟨_, sl_list, a, vs, rfl, s, fun p hp => po.newL ab hp (fun L' m' H' kp pr => rep_mkL (kp.as pr (q1.cut lo hi))) hk q⟩
/-! ### is -/
theorem c_isB {a b : Bool} (q : Q (B (decide (a = b))) η) : Op2 X F (compareOp .Is) (B a) (B b) δ η Q := fun m σ H R v u ab r1 r2 po => ⟨_, op_isBl, a, b, rep_bl.mp r1, rep_bl.mp r2, po _ m H _ η ab .refl (rep_bl.mpr rfl) q⟩
theorem c_notB {a b : Bool} (q : Q (B (!decide (a = b))) η) : Op2 X F (compareOp .IsNot) (B a) (B b) δ η Q := fun m σ H R v u ab r1 r2 po => ⟨_, op_notBl, a, b, rep_bl.mp r1, rep_bl.mp r2, po _ m H _ η ab .refl (rep_bl.mpr rfl) q⟩
end
end Y
set_option Elab.async false
set_option linter.all false
set_option maxRecDepth 100000
set_option maxHeartbeats 2000000
set_option autoImplicit false
/-! methods of lists; in; ==; is; isinstance -/
namespace Y
open PySem PySem.Spec PyProof.Rows L2

/-! ### methods of built-in types -/
class BM (T : String) (name : Str) (id : outParam String) : Prop where
  pa : PlainAttrs T
  slot : Slot T name id
  ty : typeOf (.builtin id) = pure (.type "method_descriptor")
instance : BM "list" "append" "list.append" := ⟨PySem.F.plainAttrs_list, PySem.F.slot_list_append, PySem.F.type_list_append⟩
instance : BM "list" "insert" "list.insert" := ⟨PySem.F.plainAttrs_list, PySem.F.slot_list_insert, PySem.F.type_list_insert⟩
instance : BM "list" "index" "list.index" := ⟨PySem.F.plainAttrs_list, PySem.F.slot_list_index, PySem.F.type_list_index⟩
instance : BM "list" "extend" "list.extend" := ⟨PySem.F.plainAttrs_list, PySem.F.slot_list_extend, PySem.F.type_list_extend⟩
instance : BM "list" "pop" "list.pop" := ⟨PySem.F.plainAttrs_list, PySem.F.slot_list_pop, PySem.F.type_list_pop⟩
section
variable {X : Cx} {F : Fr0} {δ : Sl} {η : Hs} {Q : A → Hs → Prop} {N U S G : List Str}
def tyA (η : Hs) : A → Option String
  | .h k => match atH η k with
    | some (.lst _) => some "list"
    | some (.lsA _) => some "list"
    | some (.dK _) => some "dict"
    | _ => none
  | .d (.lst _) => some "list"
  | .d (.str _) => some "str"
  | .d (.int _) => some "int"
  | _ => none
theorem tyA_ok {K : PySem.W.Frag} {m : List Addr} {σ : L2.St} {H : Hp} {x : A} {v : V} {T : String} (ab : Abs K F m σ H δ η) (h : tyA η x = some T) (r : RepA K (Lv F.Z m η) m H v x) : tyV K T v H := by
  cases x with
  | h k =>
    unfold tyA at h
    dsimp only at h
    cases e : atH η k with
    | none => rw [e] at h; cases h
    | some o =>
      rw [e] at h
      obtain ⟨a, ho, hm, rfl, e2, r2⟩ := ab.at_h e r
      cases o with
      | lst xs =>
        cases h
        unfold RepO at r2
        obtain ⟨vs, rfl, r2⟩ := r2
        exact .inl ⟨rfl, vs, SqL.of e2⟩
      | lsA xs =>
        cases h
        unfold RepO at r2
        obtain ⟨vs, rfl, r2⟩ := r2
        exact .inl ⟨rfl, vs, SqL.of e2⟩
      | dK xs =>
        cases h
        unfold RepO at r2
        obtain ⟨vs, rfl, r2⟩ := r2
        exact .inr (.inr (.inl ⟨rfl, .inl ⟨vs, e2⟩⟩))
      | _ => cases h
  | t xs => cases h
  | d y =>
    cases y with
    | lst xs =>
      cases h
      obtain ⟨a, vs, rfl, s, r2⟩ := rep_lst.mp r
      exact .inl ⟨rfl, vs, s.sq⟩
    | str x =>
      cases h
      obtain rfl := rep_str.mp r
      exact (rfl : ("str" : String) = "str")
    | int x =>
      cases h
      obtain rfl := rep_int.mp r
      exact (rfl : ("int" : String) = "int")
    | _ => cases h
def MtJ (X : Cx) (F : Fr0) (id : String) (x : A) (xs : List A) (δ : Sl) (η : Hs) (Q : A → Hs → Prop) : Prop :=
  ∀ (m : List Addr) (σ : L2.St) (H : Hp) (R : VK) (v : V) (vs : List V), Abs X.K F m σ H δ η → RepA X.K (Lv F.Z m η) m H v x → RepAs X.K (Lv F.Z m η) m H vs xs → Pst X.K F m σ H δ η Q R → ∃ r, MtR X id r ∧ r v vs H R
def rUM (X : Cx) (id : String) : V → List V → Hp → VK → Prop := fun v vs H R => ∃ r, MtR X id r ∧ r v vs H R
theorem mtU {id : String} : MtR X id (rUM X id) := by
  intro pins s σ H x xs v us Q hI rx rxs ⟨r, h1, h2⟩
  exact h1 pins s σ H x xs v us Q hI rx rxs h2
def tMeth (X : Cx) (name : Str) (to : TE) (t : TA) : TE := fun σ H R => to σ H fun x H1 => ∃ T id : String, BM T name id ∧ tyV X.K T x H1 ∧ t σ H1 fun xs H2 => rUM X id x xs H2 R
theorem pe_meths {o e : Expr} {es : List Expr} {name : Str} {apos cpos : Pos} {to : TE} {t : TA} (ho : PE X o to) (ha : PA X (e :: es) t) (hbase : attributeBase o name X.env (eval o X.env) = eval o X.env)
    (hfew : ((backTo cpos (starEach (e :: es) X.env)).all (fun x => !x.1) && (backToKw cpos (keywordEach [] X.env)).all (fun x => x.1.isSome) && decide ((e :: es).length + ([] : List Keyword).length + (if ([] : List Keyword).isEmpty then 0 else 1) < 30)) = true)
    (hline : (apos.endLine == cpos.line) = true) (hs : starEach (e :: es) X.env = (false, eval e X.env) :: starEach es X.env) (hplain : (backTo cpos (starEach es X.env)).any (·.1) = false) : PE X (.Call (.Attribute o name apos) (e :: es) [] cpos) (tMeth X name to t) := by
  refine ⟨fun pins s σ H Q hI h => wpAny_Call_method_late hbase hfew hline rfl (thn (ho.run pins s σ H _ hI h) fun v s1 ⟨x, H1, I1, r1, T, id, bm, ty, q1⟩ => ?_)⟩
  have hT := tyV_is I1 r1 ty
  have hA := ha.run cpos pins s1 σ H1 _ I1 q1
  rw [hs] at hA
  refine ⟨T, id, bm.pa, bm.slot, bm.ty, hT.1, hT.2, ?_⟩
  rw [hs]
  exact Calls.callWith_builtin (show (false || (backTo cpos (starEach es X.env)).any (·.1)) = false by rw [hplain]; rfl) (Calls.evalArgs_plain (thn hA fun us s2 ⟨vs, H2, I2, r2, q2⟩ => mtU pins s2 σ H2 x vs v us Q I2 r1 r2 q2))
theorem w_meth {o e : Expr} {es : List Expr} {name : Str} {apos cpos : Pos} (h : W X F o δ η fun x η1 => ∃ (T id : String), tyA η1 x = some T ∧ BM T name id ∧ WL X F (e :: es) δ η1 fun xs η2 => MtJ X F id x xs δ η2 Q)
    (hbase : attributeBase o name X.env (eval o X.env) = eval o X.env)
    (hfew : ((backTo cpos (starEach (e :: es) X.env)).all (fun x => !x.1) && (backToKw cpos (keywordEach [] X.env)).all (fun x => x.1.isSome) && decide ((e :: es).length + ([] : List Keyword).length + (if ([] : List Keyword).isEmpty then 0 else 1) < 30)) = true)
    (hline : (apos.endLine == cpos.line) = true) (hs : starEach (e :: es) X.env = (false, eval e X.env) :: starEach es X.env) (hplain : (backTo cpos (starEach es X.env)).any (·.1) = false) : W X F (.Call (.Attribute o name apos) (e :: es) [] cpos) δ η Q := fun xt m σ H R ab po =>
  wp_of (pe_meths pe_wp pa_wp hbase hfew hline hs hplain) (h xt m σ H _ ab fun v m1 H1 x η1 ab1 e1 r1 ⟨T, id, ty, bm, q⟩ => ⟨T, id, bm, tyA_ok ab1 ty r1, q.go xt ab1 fun vs m2 H2 xs η2 ab2 e2 r2 q2 => q2 m2 σ H2 R v vs ab2 (e2.a r1) r2 (po.after (e1.trans e2))⟩)
/-- a list is written -/
def appO : O → A → Option O
  | .lst xs, .d x => some (.lst (xs ++ [x]))
  | .lst xs, y => some (.lsA (xs.map .d ++ [y]))
  | .lsA xs, y => some (.lsA (xs ++ [y]))
  | _, _ => none
def lenO : O → Nat
  | .lst xs => xs.length
  | .lsA xs => xs.length
  | _ => 0
theorem RepO.app {K : PySem.W.Frag} {L : Addr → Prop} {m : List Addr} {H : Hp} {ho : HO} {o o' : O} {x : A} {v : V} (r : RepO K L m H ho o) (rx : RepA K L m H v x) (h : appO o x = some o') : ∃ vs, ho = .lst vs ∧ vs.length = lenO o ∧ RepO K L m H (.lst (vs ++ [v])) o' := by
  cases o with
  | lst xs =>
    unfold RepO at r
    obtain ⟨vs, e, r⟩ := r
    refine ⟨vs, e, r.length, ?_⟩
    cases x with
    | d y =>
      cases h
      unfold RepO
      exact ⟨_, rfl, RepDs.snoc (rep_d.mp rx) r⟩
    | h k =>
      cases h
      unfold RepO
      exact ⟨_, rfl, RepAs.snoc rx (reps_d.mpr r)⟩
    | t ys =>
      cases h
      unfold RepO
      exact ⟨_, rfl, RepAs.snoc rx (reps_d.mpr r)⟩
  | lsA xs =>
    unfold RepO at r
    obtain ⟨vs, e, r⟩ := r
    refine ⟨vs, e, r.length, ?_⟩
    cases h
    unfold RepO
    exact ⟨_, rfl, RepAs.snoc rx r⟩
  | _ => cases h
theorem m_app {k : Nat} {x : A} {u u' : O} {η' : Hs} (hu : atH η k = some u) (hu' : appO u x = some u') (hl : lenO u < sizeLine) (hw : wrH η k (some u') = some η') (q : Q (.d .non) η') : MtJ X F "list.append" (.h k) [x] δ η Q := fun m σ H R v vs ab r rr po => by
  obtain ⟨y, rfl, rx⟩ := reps_one rr
  obtain ⟨a, ho, hm, rfl, eH, rO⟩ := ab.at_h hu r
  obtain ⟨ws, rfl, hlen, rO'⟩ := rO.app rx hu'
  obtain ⟨hlt, rfl⟩ := wrH_eq hw
  exact ⟨_, mt_append, a, ws, y, rfl, rfl, eH, by rw [hlen]; exact hl, po _ m _ _ _ (ab.set hm (atH_ok hu) fun L' m' H' kp pr => kp.o pr rO') (ext_set hm (atH_ok hu)) (rep_non.mpr rfl) q⟩
def insO : O → Nat → A → Option O
  | .lst xs, i, .d x => some (.lst (xs.take i ++ [x] ++ xs.drop i))
  | _, _, _ => none
theorem RepDs.app {K : PySem.W.Frag} {L : Addr → Prop} {H : Hp} {us : List V} {ys : List D} (r : RepDs K L H us ys) : ∀ {xs : List D} {vs : List V}, RepDs K L H vs xs → RepDs K L H (vs ++ us) (xs ++ ys)
  | [], vs, h => by
    obtain rfl := repds_nil.mp h
    exact r
  | x :: xs, vs, h => by
    obtain ⟨v, r1, rfl, h1, h2⟩ := repds_cons.mp h
    exact repds_cons.mpr ⟨v, r1 ++ us, rfl, h1, RepDs.app r h2⟩
theorem RepDs.drop {K : PySem.W.Frag} {L : Addr → Prop} {H : Hp} : ∀ (n : Nat) {xs : List D} {vs : List V}, RepDs K L H vs xs → RepDs K L H (vs.drop n) (xs.drop n)
  | 0, xs, vs, h => h
  | n + 1, [], vs, h => by
    obtain rfl := repds_nil.mp h
    exact h
  | n + 1, x :: xs, vs, h => by
    obtain ⟨v, r1, rfl, h1, h2⟩ := repds_cons.mp h
    exact RepDs.drop n h2
theorem RepDs.take {K : PySem.W.Frag} {L : Addr → Prop} {H : Hp} : ∀ (n : Nat) {xs : List D} {vs : List V}, RepDs K L H vs xs → RepDs K L H (vs.take n) (xs.take n)
  | 0, xs, vs, h => repds_nil.mpr rfl
  | n + 1, [], vs, h => by
    obtain rfl := repds_nil.mp h
    exact h
  | n + 1, x :: xs, vs, h => by
    obtain ⟨v, r1, rfl, h1, h2⟩ := repds_cons.mp h
    exact repds_cons.mpr ⟨v, r1.take n, rfl, h1, RepDs.take n h2⟩
theorem m_ins {k : Nat} {i : Int} {x : D} {xs : List D} {η' : Hs} (hu : atH η k = some (.lst xs)) (hi : 0 ≤ i ∧ i < 2 ^ 63) (hl : xs.length < sizeLine) (hw : wrH η k (some (.lst (xs.take i.toNat ++ [x] ++ xs.drop i.toNat))) = some η') (q : Q (.d .non) η') : MtJ X F "list.insert" (.h k) [I i, .d x] δ η Q := fun m σ H R v vs ab r rr po => by
  obtain ⟨y, z, rfl, rx, ry⟩ := reps_two rr
  obtain rfl := rep_int.mp rx
  obtain ⟨a, ho, hm, rfl, eH, rO⟩ := ab.at_h hu r
  unfold RepO at rO
  obtain ⟨ws, rfl, rD⟩ := rO
  obtain ⟨hlt, rfl⟩ := wrH_eq hw
  refine ⟨_, mt_insert, a, ws, i, z, rfl, rfl, eH, by rw [rD.length]; exact hl, hi.1, hi.2, po _ m _ _ _ (ab.set hm (atH_ok hu) fun L' m' H' kp pr => ?_) (ext_set hm (atH_ok hu)) (rep_non.mpr rfl) q⟩
  unfold RepO
  have rD := kp.ds rD
  exact ⟨_, rfl, (rD.drop _).app ((repds_cons.mpr ⟨z, [], rfl, kp.d (rep_d.mp ry), repds_nil.mpr rfl⟩ : RepDs _ _ _ [z] [x]).app (rD.take _))⟩
/-! ### ints in a sequence -/
def dI (ns : List Int) : List D := ns.map .int
theorem reps_I {K : PySem.W.Frag} {L : Addr → Prop} {m : List Addr} {H : Hp} : ∀ {ns : List Int} {vs : List V}, RepAs K L m H vs ((dI ns).map .d) → vs = ns.map .int
  | [], vs, h => reps_nil.mp h
  | n :: ns, vs, h => by
    obtain ⟨v, r, rfl, h1, h2⟩ := reps_cons.mp h
    rw [rep_int.mp h1, reps_I h2]
    rfl
theorem in_I {i : Int} {ns : List Int} : inV (.int i) (ns.map V.int) = decide (i ∈ ns) := by
  induction ns with
  | nil => rfl
  | cons n ns ih =>
    show ((n == i) || inV (.int i) (ns.map V.int)) = _
    rw [ih]
    by_cases h : n = i
    · subst h; simp
    · have : ¬ i = n := fun e => h e.symm
      simp [h, this]
theorem flat_I {ns : List Int} : (ns.map V.int).all flatV = true := by
  induction ns with
  | nil => rfl
  | cons n ns ih => exact ih
theorem c_inI {x : A} {i : Int} {ns : List Int} (h : itemsA η x = some ((dI ns).map .d)) (q : Q (B (decide (i ∈ ns))) η) : Op2 X F (compareOp .In) (I i) x δ η Q := fun m σ H R v u ab r1 r2 po => by
  obtain rfl := rep_int.mp r1
  obtain ⟨a, vs, rfl, s, r⟩ := itemsA_ok ab h r2
  obtain rfl := reps_I r
  refine ⟨_, op_in_seq, a, _, rfl, s.symm, rfl, flat_I, ?_⟩
  rw [if_neg Bool.false_ne_true, in_I]
  exact po _ m H _ η ab .refl (rep_bl.mpr rfl) q
theorem c_notInI {x : A} {i : Int} {ns : List Int} (h : itemsA η x = some ((dI ns).map .d)) (q : Q (B (!decide (i ∈ ns))) η) : Op2 X F (compareOp .NotIn) (I i) x δ η Q := fun m σ H R v u ab r1 r2 po => by
  obtain rfl := rep_int.mp r1
  obtain ⟨a, vs, rfl, s, r⟩ := itemsA_ok ab h r2
  obtain rfl := reps_I r
  refine ⟨_, op_notIn_seq, a, _, rfl, s.symm, rfl, flat_I, ?_⟩
  rw [if_pos rfl, in_I]
  exact po _ m H _ η ab .refl (rep_bl.mpr rfl) q
theorem m_indexI {x : A} {i : Int} {ns : List Int} (h : itemsA η x = some ((dI ns).map .d)) (hn : itemsT x = none) (hi : i ∈ ns) (q : Q (I (ns.idxOf i : Nat)) η) : MtJ X F "list.index" x [I i] δ η Q := fun m σ H R v vs ab r rr po => by
  obtain ⟨y, rfl, rx⟩ := reps_one rr
  obtain rfl := rep_int.mp rx
  obtain ⟨a, ws, rfl, s, rA⟩ := listA_ok ab h hn r
  obtain rfl := reps_I rA
  have hlt := List.idxOf_lt_length_iff.mpr hi
  refine ⟨_, mt_index, a, _, .int i, ns.idxOf i, .int i, rfl, rfl, s, rfl, flat_I, ?_, by show (i == i) = true; simp, fun j z' hj hz => ?_, po _ m H _ η ab .refl (rep_int.mpr rfl) q⟩
  · rw [List.getElem?_map, List.getElem?_eq_getElem hlt, List.getElem_idxOf hlt]
    rfl
  · rw [List.getElem?_map, List.getElem?_eq_getElem (by omega)] at hz
    cases hz
    show (ns[j] == i) = false
    have := List.not_of_lt_findIdx (p := (· == i)) (xs := ns) hj
    simpa using this
/-! ### is -/
theorem is_bl {M : Model} {A : Around} {E Q : Value → Shared → Prop} {s : Shared} {v : Value} {b : Bool} (hv : ∀ id, v ≠ .builtin id) (h : Q (.bool (v == .bool b)) s) : wpAny M A (compareOp .Is v (.bool b)) Q E s := by
  cases v <;> first | exact wpAny_pure h | exact absurd rfl (hv _)
theorem op_isBlG : OpR X (compareOp .Is) (fun x y H Q => ∃ b, y = .bl b ∧ Q (.bl (decide (x = .bl b))) H) := by
  intro pins s σ H x y v u Q hI rx ry ⟨b, e, q⟩
  subst e
  cases (show u = Value.bool b from ry)
  have hv : ∀ id, v ≠ .builtin id := fun id z => by
    subst z
    cases x <;> first | (obtain ⟨t, e⟩ := rx; cases e) | cases rx
  refine is_bl hv ⟨.bl (decide (x = .bl b)), H, hI, ?_, q⟩
  show Value.bool _ = Value.bool _
  congr 1
  cases x with
  | bl c =>
    cases (show v = Value.bool c from rx)
    cases b <;> cases c <;> rfl
  | non => cases (show v = Value.none from rx); rfl
  | int i => obtain ⟨t, rfl⟩ := (show ∃ t, v = Value.int i t from rx); rfl
  | str i => obtain ⟨t, rfl⟩ := (show ∃ t, v = Value.str i t from rx); rfl
  | byt i => obtain ⟨t, rfl⟩ := (show ∃ t, v = Value.bytes i t from rx); rfl
  | flt i => obtain ⟨t, rfl⟩ := (show ∃ t, v = Value.float i t from rx); rfl
  | ref a => cases (show v = Value.ref a from rx); rfl
  | ty n => cases (show v = Value.type n from rx); rfl
/-- is it the truth value b -/
def isBlA (b : Bool) : A → Bool
  | .d (.bl c) => decide (c = b)
  | _ => false
theorem rep_isBl {K : PySem.W.Frag} {L : Addr → Prop} {m : List Addr} {H : Hp} {v : V} {x : A} {b : Bool} (r : RepA K L m H v x) : decide (v = .bl b) = isBlA b x := by
  cases x with
  | h k => obtain ⟨a, _, rfl⟩ := rep_h.mp r; rfl
  | t xs => obtain ⟨a, _, rfl, _⟩ := rep_t.mp r; rfl
  | d y =>
    cases y with
    | non => rw [rep_non.mp r]; rfl
    | bl c =>
      rw [rep_bl.mp r]
      show decide (V.bl c = V.bl b) = decide (c = b)
      by_cases e : c = b
      · subst e; simp
      · have : ¬ V.bl c = V.bl b := fun z => e (V.bl.inj z)
        simp [e, this]
    | int i => rw [rep_int.mp r]; rfl
    | str i => rw [rep_str.mp r]; rfl
    | ref i => rw [rep_ref.mp r]; rfl
    | ty i => rw [rep_ty.mp r]; rfl
    | tup xs => obtain ⟨a, _, rfl, _⟩ := rep_tup.mp r; rfl
    | lst xs => obtain ⟨a, _, rfl, _⟩ := rep_lst.mp r; rfl
    | ins C fs => obtain ⟨a, _, _, rfl, _⟩ := rep_ins.mp r; rfl
    | exc a C dx fs => obtain ⟨rfl, _⟩ := rep_exc.mp r; rfl
theorem c_isBl {x : A} {b : Bool} (q : Q (B (isBlA b x)) η) : Op2 X F (compareOp .Is) x (B b) δ η Q := fun m σ H R v u ab r1 r2 po => by
  obtain rfl := rep_bl.mp r2
  refine ⟨_, op_isBlG, b, rfl, ?_⟩
  rw [rep_isBl r1]
  exact po _ m H _ η ab .refl (rep_bl.mpr rfl) q
end
end Y
set_option Elab.async false
set_option linter.all false
set_option maxRecDepth 100000
set_option maxHeartbeats 2000000
set_option autoImplicit false
/-! == of data; isinstance of built-in types; all, any -/
namespace Y
open PySem PySem.Spec PyProof.Rows L2
mutual
def pyD : D → PyData
  | .bl b => .bool b
  | .int i => .int i
  | .str x => .str x
  | .tup xs => .tuple (pyDs xs)
  | .lst xs => .list (pyDs xs)
  | _ => .none
def pyDs : List D → List PyData
  | [] => []
  | x :: xs => pyD x :: pyDs xs
end
mutual
/-- plain data, nested below n -/
def okD : Nat → D → Bool
  | _, .non => true
  | _, .bl _ => true
  | _, .int _ => true
  | _, .str x => PyData.strOk x
  | n + 1, .tup xs => okDs n xs
  | n + 1, .lst xs => okDs n xs
  | _, _ => false
def okDs : Nat → List D → Bool
  | _, [] => true
  | n, x :: xs => okD n x && okDs n xs
end
mutual
/-- == of it -/
def eqD : D → D → Bool
  | .non, .non => true
  | .bl a, .bl b => a == b
  | .bl a, .int j => (if a then 1 else 0) == j
  | .int i, .bl b => i == (if b then 1 else 0)
  | .int i, .int j => i == j
  | .str x, .str y => x == y
  | .lst xs, .lst ys => eqDs xs ys
  | .tup xs, .tup ys => eqDs xs ys
  | _, _ => false
def eqDs : List D → List D → Bool
  | [], [] => true
  | x :: xs, y :: ys => eqD x y && eqDs xs ys
  | _, _ => false
end
mutual
theorem okD_py : ∀ {n : Nat} {x : D}, okD n x = true → (pyD x).canLay0 = true ∧ (pyD x).depth ≤ n
  | n, .non, _ => ⟨rfl, Nat.zero_le _⟩
  | n, .bl _, _ => ⟨rfl, Nat.zero_le _⟩
  | n, .int _, _ => ⟨rfl, Nat.zero_le _⟩
  | n, .str x, h => by
    have h : PyData.strOk x = true := by
      unfold okD at h
      exact h
    refine ⟨?_, Nat.zero_le _⟩
    show PyData.canLay0 (.str x) = true
    unfold PyData.canLay0
    exact h
  | 0, .tup xs, h => by simp [okD] at h
  | 0, .lst xs, h => by simp [okD] at h
  | n + 1, .tup xs, h => by
    obtain ⟨h1, h2⟩ := okDs_py (n := n) (xs := xs) (by unfold okD at h; exact h)
    refine ⟨?_, ?_⟩
    · show PyData.canLay0 (.tuple (pyDs xs)) = true
      unfold PyData.canLay0
      exact h1
    · show PyData.depth (.tuple (pyDs xs)) ≤ _
      unfold PyData.depth
      omega
  | n + 1, .lst xs, h => by
    obtain ⟨h1, h2⟩ := okDs_py (n := n) (xs := xs) (by unfold okD at h; exact h)
    refine ⟨?_, ?_⟩
    · show PyData.canLay0 (.list (pyDs xs)) = true
      unfold PyData.canLay0
      exact h1
    · show PyData.depth (.list (pyDs xs)) ≤ _
      unfold PyData.depth
      omega
  | n, .ref _, h => by cases n <;> simp [okD] at h
  | n, .ty _, h => by cases n <;> simp [okD] at h
  | n, .ins _ _, h => by cases n <;> simp [okD] at h
  | n, .exc _ _ _ _, h => by cases n <;> simp [okD] at h
theorem okDs_py : ∀ {n : Nat} {xs : List D}, okDs n xs = true → PyData.canLayAll0 (pyDs xs) = true ∧ PyData.depthAll (pyDs xs) ≤ n
  | n, [], _ => ⟨rfl, Nat.zero_le _⟩
  | n, x :: xs, h => by
    unfold okDs at h
    rw [Bool.and_eq_true] at h
    obtain ⟨a, b⟩ := okD_py h.1
    obtain ⟨c, d⟩ := okDs_py h.2
    refine ⟨?_, ?_⟩
    · show PyData.canLayAll0 (pyD x :: pyDs xs) = true
      unfold PyData.canLayAll0
      rw [a, c]
      rfl
    · show PyData.depthAll (pyD x :: pyDs xs) ≤ n
      unfold PyData.depthAll
      omega
end
mutual
theorem eqD_py : ∀ {n m : Nat} {x y : D}, okD n x = true → okD m y = true → PyData.eqv (pyD x) (pyD y) = eqD x y
  | n, m, x, .ref _, _, h => by cases m <;> simp [okD] at h
  | n, m, x, .ty _, _, h => by cases m <;> simp [okD] at h
  | n, m, x, .ins _ _, _, h => by cases m <;> simp [okD] at h
  | n, m, x, .exc _ _ _ _, _, h => by cases m <;> simp [okD] at h
  | n, m, .ref _, y, h, _ => by cases n <;> simp [okD] at h
  | n, m, .ty _, y, h, _ => by cases n <;> simp [okD] at h
  | n, m, .ins _ _, y, h, _ => by cases n <;> simp [okD] at h
  | n, m, .exc _ _ _ _, y, h, _ => by cases n <;> simp [okD] at h
  | 0, m, .tup xs, _, h, _ => by simp [okD] at h
  | 0, m, .lst xs, _, h, _ => by simp [okD] at h
  | n, 0, x, .tup xs, _, h => by simp [okD] at h
  | n, 0, x, .lst xs, _, h => by simp [okD] at h
  | n + 1, m + 1, .tup xs, .tup ys, h, k => by
    have := eqDs_py (n := n) (m := m) (xs := xs) (ys := ys) (by unfold okD at h; exact h) (by unfold okD at k; exact k)
    simpa [pyD, PyData.eqv, eqD] using this
  | n + 1, m + 1, .lst xs, .lst ys, h, k => by
    have := eqDs_py (n := n) (m := m) (xs := xs) (ys := ys) (by unfold okD at h; exact h) (by unfold okD at k; exact k)
    simpa [pyD, PyData.eqv, eqD] using this
  | _, _, .tup _, .lst _, _, _ => by simp [pyD, PyData.eqv, eqD]
  | _, _, .lst _, .tup _, _, _ => by simp [pyD, PyData.eqv, eqD]
  | _, _, .non, .tup _, _, _ => by simp [pyD, PyData.eqv, eqD]
  | _, _, .non, .lst _, _, _ => by simp [pyD, PyData.eqv, eqD]
  | _, _, .bl _, .tup _, _, _ => by simp [pyD, PyData.eqv, eqD]
  | _, _, .bl _, .lst _, _, _ => by simp [pyD, PyData.eqv, eqD]
  | _, _, .int _, .tup _, _, _ => by simp [pyD, PyData.eqv, eqD]
  | _, _, .int _, .lst _, _, _ => by simp [pyD, PyData.eqv, eqD]
  | _, _, .str _, .tup _, _, _ => by simp [pyD, PyData.eqv, eqD]
  | _, _, .str _, .lst _, _, _ => by simp [pyD, PyData.eqv, eqD]
  | _, _, .tup _, .non, _, _ => by simp [pyD, PyData.eqv, eqD]
  | _, _, .tup _, .bl _, _, _ => by simp [pyD, PyData.eqv, eqD]
  | _, _, .tup _, .int _, _, _ => by simp [pyD, PyData.eqv, eqD]
  | _, _, .tup _, .str _, _, _ => by simp [pyD, PyData.eqv, eqD]
  | _, _, .lst _, .non, _, _ => by simp [pyD, PyData.eqv, eqD]
  | _, _, .lst _, .bl _, _, _ => by simp [pyD, PyData.eqv, eqD]
  | _, _, .lst _, .int _, _, _ => by simp [pyD, PyData.eqv, eqD]
  | _, _, .lst _, .str _, _, _ => by simp [pyD, PyData.eqv, eqD]
  | _, _, .non, .non, _, _ => by simp [pyD, PyData.eqv, eqD]
  | _, _, .non, .bl _, _, _ => by simp [pyD, PyData.eqv, eqD]
  | _, _, .non, .int _, _, _ => by simp [pyD, PyData.eqv, eqD]
  | _, _, .non, .str _, _, _ => by simp [pyD, PyData.eqv, eqD]
  | _, _, .bl _, .non, _, _ => by simp [pyD, PyData.eqv, eqD]
  | _, _, .bl _, .bl _, _, _ => by simp [pyD, PyData.eqv, eqD]
  | _, _, .bl _, .int _, _, _ => by simp [pyD, PyData.eqv, eqD]
  | _, _, .bl _, .str _, _, _ => by simp [pyD, PyData.eqv, eqD]
  | _, _, .int _, .non, _, _ => by simp [pyD, PyData.eqv, eqD]
  | _, _, .int _, .bl _, _, _ => by simp [pyD, PyData.eqv, eqD]
  | _, _, .int _, .int _, _, _ => by simp [pyD, PyData.eqv, eqD]
  | _, _, .int _, .str _, _, _ => by simp [pyD, PyData.eqv, eqD]
  | _, _, .str _, .non, _, _ => by simp [pyD, PyData.eqv, eqD]
  | _, _, .str _, .bl _, _, _ => by simp [pyD, PyData.eqv, eqD]
  | _, _, .str _, .int _, _, _ => by simp [pyD, PyData.eqv, eqD]
  | _, _, .str _, .str _, _, _ => by simp [pyD, PyData.eqv, eqD]
theorem eqDs_py : ∀ {n m : Nat} {xs ys : List D}, okDs n xs = true → okDs m ys = true → PyData.eqvAll (pyDs xs) (pyDs ys) = eqDs xs ys
  | _, _, [], [], _, _ => by simp [pyDs, PyData.eqvAll, eqDs]
  | _, _, [], _ :: _, _, _ => by simp [pyDs, PyData.eqvAll, eqDs]
  | _, _, _ :: _, [], _, _ => by simp [pyDs, PyData.eqvAll, eqDs]
  | n, m, x :: xs, y :: ys, h, k => by
    unfold okDs at h k
    rw [Bool.and_eq_true] at h k
    have a := eqD_py h.1 k.1
    have b := eqDs_py h.2 k.2
    simp [pyDs, PyData.eqvAll, eqDs, a, b]
end
mutual
theorem okD_dp {K : PySem.W.Frag} {L : Addr → Prop} {H : Hp} : ∀ {n : Nat} {x : D} {v : V}, okD n x = true → RepD K L H v x → Dp K H v (pyD x)
  | n, .non, v, _, r => by unfold RepD at r; subst r; exact .non
  | n, .bl b, v, _, r => by unfold RepD at r; subst r; exact .bl b
  | n, .int i, v, _, r => by unfold RepD at r; subst r; exact .int i
  | n, .str i, v, _, r => by unfold RepD at r; subst r; exact .str i
  | 0, .tup xs, v, h, _ => by simp [okD] at h
  | 0, .lst xs, v, h, _ => by simp [okD] at h
  | n + 1, .tup xs, v, h, r => by
    unfold RepD at r
    obtain ⟨a, vs, rfl, s, r⟩ := r
    exact .tup s.sq (okDs_dp (n := n) (by unfold okD at h; exact h) r)
  | n + 1, .lst xs, v, h, r => by
    unfold RepD at r
    obtain ⟨a, vs, rfl, s, r⟩ := r
    exact .lst s.sq (okDs_dp (n := n) (by unfold okD at h; exact h) r)
  | n, .ref _, v, h, _ => by cases n <;> simp [okD] at h
  | n, .ty _, v, h, _ => by cases n <;> simp [okD] at h
  | n, .ins _ _, v, h, _ => by cases n <;> simp [okD] at h
  | n, .exc _ _ _ _, v, h, _ => by cases n <;> simp [okD] at h
theorem okDs_dp {K : PySem.W.Frag} {L : Addr → Prop} {H : Hp} : ∀ {n : Nat} {xs : List D} {vs : List V}, okDs n xs = true → RepDs K L H vs xs → DpAll K H vs (pyDs xs)
  | n, [], vs, _, r => by
    obtain rfl := repds_nil.mp r
    exact .nil
  | n, x :: xs, vs, h, r => by
    unfold okDs at h
    rw [Bool.and_eq_true] at h
    obtain ⟨v, vr, rfl, r1, r2⟩ := repds_cons.mp r
    exact .cons (okD_dp h.1 r1) (okDs_dp h.2 r2)
end
theorem okD_sh {n : Nat} {x : D} (h : okD n x = true) (hn : n ≤ 64) : SeqAt.shaped (pyD x) = true := by
  obtain ⟨a, b⟩ := okD_py h
  unfold SeqAt.shaped
  rw [a, decide_eq_true (by omega)]
  rfl
section
variable {X : Cx} {F : Fr0} {δ : Sl} {η : Hs} {Q : A → Hs → Prop} {N U S G : List Str}
/-- the data that a value is, through a handle -/
def valD (η : Hs) : A → Option D
  | .d x => some x
  | .h k => match atH η k with
    | some (.lst xs) => some (.lst xs)
    | _ => none
  | _ => none
theorem valD_dp {K : PySem.W.Frag} {m : List Addr} {σ : L2.St} {H : Hp} {x : A} {v : V} {d : D} {n : Nat} (ab : Abs K F m σ H δ η) (h : valD η x = some d) (ho : okD n d = true) (r : RepA K (Lv F.Z m η) m H v x) : Dp K H v (pyD d) := by
  cases x with
  | d y =>
    cases h
    exact okD_dp ho (rep_d.mp r)
  | t xs => cases h
  | h k =>
    unfold valD at h
    dsimp only at h
    cases e : atH η k with
    | none => rw [e] at h; cases h
    | some o =>
      rw [e] at h
      obtain ⟨a, hob, hm, rfl, e2, r2⟩ := ab.at_h e r
      cases o with
      | lst xs =>
        cases h
        unfold RepO at r2
        obtain ⟨vs, rfl, r2⟩ := r2
        cases n with
        | zero => simp [okD] at ho
        | succ n => exact .lst (SqL.of e2) (okDs_dp (n := n) (by unfold okD at ho; exact ho) r2)
      | _ => cases h
theorem Rm.u64 {j : Nat} [r : Rm X j] : X.A.units + 64 < cLine := by have := r.r.un; omega
theorem c_eqD {j : Nat} [rm : Rm X j] {x y : A} {a b : D} {n m : Nat} (hx : valD η x = some a) (hy : valD η y = some b) (ha : okD n a = true) (hb : okD m b = true) (hn : n ≤ 64) (hm : m ≤ 64) (q : Q (B (eqD a b)) η) : Op2 X F (compareOp .Eq) x y δ η Q := fun m σ H R v u ab r1 r2 po =>
  ⟨_, op_eqD rm.u64, pyD a, pyD b, valD_dp ab hx ha r1, valD_dp ab hy hb r2, okD_sh ha hn, okD_sh hb hm, by
    rw [eqD_py ha hb]
    exact po _ m H _ η ab .refl (rep_bl.mpr rfl) q⟩
theorem c_neD {j : Nat} [rm : Rm X j] {x y : A} {a b : D} {n m : Nat} (hx : valD η x = some a) (hy : valD η y = some b) (ha : okD n a = true) (hb : okD m b = true) (hn : n ≤ 64) (hm : m ≤ 64) (q : Q (B (!eqD a b)) η) : Op2 X F (compareOp .NotEq) x y δ η Q := fun m σ H R v u ab r1 r2 po =>
  ⟨_, op_neD rm.u64, pyD a, pyD b, valD_dp ab hx ha r1, valD_dp ab hy hb r2, okD_sh ha hn, okD_sh hb hm, by
    rw [eqD_py ha hb]
    exact po _ m H _ η ab .refl (rep_bl.mpr rfl) q⟩
/-! ### isinstance, the value of a built-in type -/
def typA (η : Hs) : A → Option String
  | .h k => match atH η k with
    | some (.lst _) => some "list"
    | some (.lsA _) => some "list"
    | some (.dK _) => some "dict"
    | _ => none
  | .t _ => some "tuple"
  | .d .non => some "NoneType"
  | .d (.bl _) => some "bool"
  | .d (.int _) => some "int"
  | .d (.str _) => some "str"
  | .d (.tup _) => some "tuple"
  | .d (.lst _) => some "list"
  | _ => none
theorem tyX_T {K : PySem.W.Frag} {L : Addr → Prop} {H : Hp} {a : Addr} {vs : List V} (s : SqTL K L H a vs) : TyX K H (.ref a) (.type "tuple") := by
  rcases s with ⟨_, h | ⟨o, h⟩⟩ | (h | ⟨o, its, n, h1, h2, _⟩)
  · exact .base (.tup h)
  · exact .fTuple h
  · exact absurd h rd_none
  · exact .kTuple h1 h2
theorem tyX_L {K : PySem.W.Frag} {L : Addr → Prop} {H : Hp} {a : Addr} {vs : List V} (s : SqLL K L H a vs) : TyX K H (.ref a) (.type "list") := by
  rcases s with ⟨_, h | ⟨o, h⟩⟩ | (h | ⟨o, its, n, h1, h2, _⟩)
  · exact .base (.lst h)
  · exact .base (.frz h)
  · exact absurd h rd_none
  · exact .kList h1 h2
theorem typA_ok {K : PySem.W.Frag} {m : List Addr} {σ : L2.St} {H : Hp} {x : A} {v : V} {T : String} (ab : Abs K F m σ H δ η) (h : typA η x = some T) (r : RepA K (Lv F.Z m η) m H v x) : TyX K H v (.type T) := by
  cases x with
  | h k =>
    unfold typA at h
    dsimp only at h
    cases e : atH η k with
    | none => rw [e] at h; cases h
    | some o =>
      rw [e] at h
      obtain ⟨a, ho, hm, rfl, e2, r2⟩ := ab.at_h e r
      cases o with
      | lst xs =>
        cases h
        unfold RepO at r2
        obtain ⟨vs, rfl, r2⟩ := r2
        exact .base (.lst e2)
      | lsA xs =>
        cases h
        unfold RepO at r2
        obtain ⟨vs, rfl, r2⟩ := r2
        exact .base (.lst e2)
      | dK xs =>
        cases h
        unfold RepO at r2
        obtain ⟨vs, rfl, r2⟩ := r2
        exact .base (.dK e2)
      | _ => cases h
  | t xs =>
    cases h
    obtain ⟨a, vs, rfl, s, r2⟩ := rep_t.mp r
    exact tyX_T s
  | d y =>
    cases y with
    | non => cases h; rw [rep_non.mp r]; exact .base .non
    | bl c => cases h; rw [rep_bl.mp r]; exact .base (.bl _)
    | int c => cases h; rw [rep_int.mp r]; exact .base (.int _)
    | str c => cases h; rw [rep_str.mp r]; exact .base (.str _)
    | tup xs =>
      cases h
      obtain ⟨a, vs, rfl, s, r2⟩ := rep_tup.mp r
      exact tyX_T s
    | lst xs =>
      cases h
      obtain ⟨a, vs, rfl, s, r2⟩ := rep_lst.mp r
      exact tyX_L s
    | _ => cases h
theorem f_isi {x : A} {T T' : String} {b : Bool} (h : typA η x = some T') (hk : kitB T' T = some b) (q : Q (B b) η) : CallJ X F (.builtin "isinstance") [x, .d (.ty T)] δ η Q := fun m σ H R vs ab rr po => by
  obtain ⟨v, u, rfl, r1, r2⟩ := reps_two rr
  obtain rfl := rep_ty.mp r2
  exact ⟨_, call_isi, v, .ty T, _, _, b, rfl, .ty T, typA_ok ab h r1, kit_ty hk, po _ m H _ η ab .refl (rep_bl.mpr rfl) q⟩
/-! ### all, any -/
def dB (bs : List Bool) : List D := bs.map .bl
theorem reps_B {K : PySem.W.Frag} {L : Addr → Prop} {m : List Addr} {H : Hp} : ∀ {ns : List Bool} {vs : List V}, RepAs K L m H vs ((dB ns).map .d) → vs = ns.map .bl
  | [], vs, h => reps_nil.mp h
  | n :: ns, vs, h => by
    obtain ⟨v, r, rfl, h1, h2⟩ := reps_cons.mp h
    rw [rep_bl.mp h1, reps_B h2]
    rfl
theorem f_all [cm : Calm X] {x : A} {bs : List Bool} (h : itemsA η x = some ((dB bs).map .d)) (hn : itemsT x = none) (q : Q (B (bs.all id)) η) : CallJ X F (.builtin "all") [x] δ η Q := fun m σ H R vs ab rr po => by
  obtain ⟨v, rfl, r1⟩ := reps_one rr
  obtain ⟨a, ws, rfl, s, r⟩ := listA_ok ab h hn r1
  obtain rfl := reps_B r
  exact ⟨_, cr_all cm.c, a, bs, rfl, s, po _ m H _ η ab .refl (rep_bl.mpr rfl) q⟩
theorem f_any [cm : Calm X] {x : A} {bs : List Bool} (h : itemsA η x = some ((dB bs).map .d)) (hn : itemsT x = none) (q : Q (B (bs.any id)) η) : CallJ X F (.builtin "any") [x] δ η Q := fun m σ H R vs ab rr po => by
  obtain ⟨v, rfl, r1⟩ := reps_one rr
  obtain ⟨a, ws, rfl, s, r⟩ := listA_ok ab h hn r1
  obtain rfl := reps_B r
  exact ⟨_, cr_any cm.c, a, bs, rfl, s, po _ m H _ η ab .refl (rep_bl.mpr rfl) q⟩
end
end Y
set_option Elab.async false
set_option linter.all false
set_option maxRecDepth 100000
set_option maxHeartbeats 2000000
set_option autoImplicit false
/-! dicts -/
namespace Y
open PySem PySem.Spec PyProof.Rows L2
section
variable {κ : Type} [DecidableEq κ]
/-- what it holds at a key; written there -/
def getK (kvs : List (κ × D)) (k : κ) : Option D := (kvs.find? fun kv => decide (kv.1 = k)).map (·.2)
def setK (kvs : List (κ × D)) (k : κ) (v : D) : List (κ × D) := if (kvs.any fun kv => decide (kv.1 = k)) = true then kvs.map (fun kv => if kv.1 = k then (kv.1, v) else kv) else kvs ++ [(k, v)]
variable {K : PySem.W.Frag} {L : Addr → Prop} {H : Hp}
theorem repkd_nil {vs : List (κ × V)} : RepKD K L H vs [] ↔ vs = [] := by unfold RepKD; exact Iff.rfl
theorem repkd_cons {vs : List (κ × V)} {p : κ × D} {xs : List (κ × D)} : RepKD K L H vs (p :: xs) ↔ ∃ v r, vs = (p.1, v) :: r ∧ RepD K L H v p.2 ∧ RepKD K L H r xs := by
  constructor
  · intro h; unfold RepKD at h; exact h
  · intro h; unfold RepKD; exact h
theorem RepKD.length : ∀ {xs : List (κ × D)} {vs : List (κ × V)}, RepKD K L H vs xs → vs.length = xs.length
  | [], vs, h => by rw [repkd_nil.mp h]; rfl
  | p :: xs, vs, h => by
    obtain ⟨v, r, rfl, _, h2⟩ := repkd_cons.mp h
    rw [List.length_cons, List.length_cons, RepKD.length h2]
theorem RepKD.get {k : κ} : ∀ {xs : List (κ × D)} {vs : List (κ × V)}, RepKD K L H vs xs → (∀ x, getK xs k = some x → ∃ v, valV vs k = some v ∧ RepD K L H v x) ∧ (valV vs k).isSome = (getK xs k).isSome
  | [], vs, h => by
    rw [repkd_nil.mp h]
    exact ⟨fun x e => (by cases e), rfl⟩
  | p :: xs, vs, h => by
    obtain ⟨v, r, rfl, h1, h2⟩ := repkd_cons.mp h
    obtain ⟨i1, i2⟩ := RepKD.get (k := k) h2
    by_cases e : p.1 = k
    · have e1 : valV ((p.1, v) :: r) k = some v := valV_pos e
      have e2 : getK (p :: xs) k = some p.2 := by simp [getK, List.find?_cons, e]
      rw [e1, e2]
      exact ⟨fun x ex => ⟨v, rfl, by cases ex; exact h1⟩, rfl⟩
    · have e1 : valV ((p.1, v) :: r) k = valV r k := valV_neg e
      have e2 : getK (p :: xs) k = getK xs k := by simp [getK, List.find?_cons, e]
      rw [e1, e2]
      exact ⟨i1, i2⟩
theorem RepKD.any {k : κ} : ∀ {xs : List (κ × D)} {vs : List (κ × V)}, RepKD K L H vs xs → (vs.any fun kv => decide (kv.1 = k)) = xs.any fun kv => decide (kv.1 = k)
  | [], vs, h => by rw [repkd_nil.mp h]; rfl
  | p :: xs, vs, h => by
    obtain ⟨v, r, rfl, h1, h2⟩ := repkd_cons.mp h
    rw [List.any_cons, List.any_cons, RepKD.any h2]
theorem RepKD.map {k : κ} {v : V} {x : D} (rx : RepD K L H v x) : ∀ {xs : List (κ × D)} {vs : List (κ × V)}, RepKD K L H vs xs → RepKD K L H (vs.map fun kv => if kv.1 = k then (kv.1, v) else kv) (xs.map fun kv => if kv.1 = k then (kv.1, x) else kv)
  | [], vs, h => by rw [repkd_nil.mp h]; exact repkd_nil.mpr rfl
  | p :: xs, vs, h => by
    obtain ⟨u, r, rfl, h1, h2⟩ := repkd_cons.mp h
    rw [List.map_cons, List.map_cons]
    refine repkd_cons.mpr ⟨if p.1 = k then v else u, _, ?_, ?_, RepKD.map rx h2⟩
    · by_cases e : p.1 = k <;> simp [e]
    · by_cases e : p.1 = k
      · rw [if_pos e, if_pos e]; exact rx
      · rw [if_neg e, if_neg e]; exact h1
theorem RepKD.snoc {k : κ} {v : V} {x : D} (rx : RepD K L H v x) : ∀ {xs : List (κ × D)} {vs : List (κ × V)}, RepKD K L H vs xs → RepKD K L H (vs ++ [(k, v)]) (xs ++ [(k, x)])
  | [], vs, h => by rw [repkd_nil.mp h]; exact repkd_cons.mpr ⟨v, [], rfl, rx, repkd_nil.mpr rfl⟩
  | p :: xs, vs, h => by
    obtain ⟨u, r, rfl, h1, h2⟩ := repkd_cons.mp h
    exact repkd_cons.mpr ⟨u, r ++ [(k, v)], rfl, h1, RepKD.snoc rx h2⟩
theorem RepKD.put {k : κ} {v : V} {x : D} (rx : RepD K L H v x) {xs : List (κ × D)} {vs : List (κ × V)} (h : RepKD K L H vs xs) : RepKD K L H (putK vs k v) (setK xs k x) := by
  unfold putK setK
  rw [h.any]
  split
  · exact h.map rx
  · exact h.snoc rx
end
/-- a key as data -/
def kD : Key → D
  | .inl i => .int i
  | .inr x => .str x
theorem rep_kD {K : PySem.W.Frag} {L : Addr → Prop} {H : Hp} {v : V} {k : Key} : RepD K L H v (kD k) ↔ v = kV k := by
  cases k <;> (unfold kD kV RepD; exact Iff.rfl)
/-- a dict, open or locked -/
def dctO : O → Option (List (Key × D))
  | .dK kvs => some kvs
  | .lkd _ _ kvs => some kvs
  | _ => none
theorem RepO.dct {K : PySem.W.Frag} {L : Addr → Prop} {m : List Addr} {H : Hp} {ho : HO} {o : O} {kvs : List (Key × D)} {a : Addr} (r : RepO K L m H ho o) (h : dctO o = some kvs) (e : H a = some ho) : ∃ vs, Rd H a (.dK vs) ∧ RepKD K L H vs kvs := by
  cases o with
  | dK xs =>
    cases h
    unfold RepO at r
    obtain ⟨vs, rfl, r⟩ := r
    exact ⟨vs, .inl e, r⟩
  | lkd ob vs xs =>
    cases h
    unfold RepO at r
    obtain ⟨rfl, r⟩ := r
    exact ⟨vs, .inr ⟨ob, e⟩, r⟩
  | _ => cases h
section
variable {X : Cx}
theorem ix_dk (hu : X.A.units + 1 < cLine) : IxR X (fun x y H Q => ∃ a v, x = .ref a ∧ DGet H a y (some v) ∧ Q v H) := by
  intro value slice pins s σ H x y v u Q hI rx ry ⟨a, z, ex, g, q⟩ hs
  subst ex
  cases (show v = Value.ref a from rx)
  have hT := dict_typeIs hI g
  unfold subscriptTail
  refine wpAny_bind ?_
  rw [getitemInPython_of_ne hT.not_modules]
  refine wpAny_bind (wpAny_specialOf hT PySem.F.slot_dict_getitem.lookup ?_)
  have fin : wpAny (model X.prog X.w) X.A (subscripted slice false (.ref a) u) (fun r s₃ => wpAny (model X.prog X.w) X.A (letTemporaryGo value (.ref a) r >>= fun _ => pure r) (EP X pins σ Q) X.xe s₃) X.xe s := by
    rw [hs]
    exact wpAny_operating (d_getItem hu hI g ry fun w' s' I' rw' => wpAny_bind (wpAny_letTemporaryGo (wpAny_pure ⟨z, H, I', rw', q⟩)))
  first | exact wpAny_pure (wpAny_bind fin) | exact wpAny_bind (wpAny_pure (wpAny_bind fin)) | exact wpAny_bind fin
theorem op_inDk (hu : X.A.units + 1 < cLine) : OpR X (compareOp .In) (fun y x H Q => ∃ a o, x = .ref a ∧ DGet H a y o ∧ Q (.bl o.isSome) H) := by
  intro pins s σ H y x u v Q hI ry rx ⟨a, o, ex, g, q⟩
  subst ex
  cases (show v = Value.ref a from rx)
  exact d_in hu hI g ry fun s' I' => ⟨.bl o.isSome, H, I', rfl, q⟩
theorem op_notInDk (hu : X.A.units + 1 < cLine) : OpR X (compareOp .NotIn) (fun y x H Q => ∃ a o, x = .ref a ∧ DGet H a y o ∧ Q (.bl (!o.isSome)) H) := by
  intro pins s σ H y x u v Q hI ry rx ⟨a, o, ex, g, q⟩
  subst ex
  cases (show v = Value.ref a from rx)
  exact d_notIn hu hI g ry fun s' I' => ⟨.bl (!o.isSome), H, I', rfl, q⟩
theorem call_lenDk : CallR X (.builtin "len") (fun xs H Q => ∃ a kvs, xs = [.ref a] ∧ Rd H a (.dK kvs) ∧ Q (.int kvs.length) H) := by
  intro pins s σ H xs us Q hI r ⟨a, kvs, ex, e, q⟩
  subst ex
  obtain rfl := Vals.ref1 r
  exact d_len hI e fun t s' I' => ⟨.int kvs.length, H, I', ⟨t, rfl⟩, q⟩
end
section
variable {X : Cx} {F : Fr0} {δ : Sl} {η : Hs} {Q : A → Hs → Prop} {N U S G : List Str} {j : Nat}
theorem Rm.u1 [r : Rm X j] : X.A.units + 1 < cLine := by have := r.r.un; omega
/-- the dict at a handle -/
def dctH (η : Hs) (k : Nat) : Option (List (Key × D)) := match atH η k with
  | some o => dctO o
  | none => none
theorem Abs.dct {K : PySem.W.Frag} {m : List Addr} {σ : L2.St} {H : Hp} {k : Nat} {kvs : List (Key × D)} {v : V} (ab : Abs K F m σ H δ η) (h : dctH η k = some kvs) (r : RepA K (Lv F.Z m η) m H v (.h k)) : ∃ a vs, m[k]? = some a ∧ v = .ref a ∧ Rd H a (.dK vs) ∧ RepKD K (Lv F.Z m η) H vs kvs := by
  unfold dctH at h
  cases e : atH η k with
  | none => rw [e] at h; cases h
  | some o =>
    rw [e] at h
    obtain ⟨a, ho, hm, rfl, e2, r2⟩ := ab.at_h e r
    obtain ⟨vs, h1, h2⟩ := r2.dct h e2
    exact ⟨a, vs, hm, rfl, h1, h2⟩
theorem dget_of {H : Hp} {a : Addr} {vs : List (Key × V)} {k : Key} (e : Rd H a (.dK vs)) : DGet H a (kV k) (valV vs k) := .inl ⟨vs, k, e, rfl, rfl⟩
/-- d[k] -/
theorem x_dct [rm : Rm X j] {k : Nat} {kvs : List (Key × D)} {y : D} {x : D} (c : Key) (hk : dctH η k = some kvs) (hy : y = kD c) (h : getK kvs c = some x) (q : Q (.d x) η) : Ix2 X F (.h k) (.d y) δ η Q := fun m σ H R v u ab r1 r2 po => by
  subst hy
  obtain ⟨a, vs, _, rfl, e, rk⟩ := ab.dct hk r1
  obtain rfl := rep_kD.mp (rep_d.mp r2)
  obtain ⟨w, h1, h2⟩ := rk.get.1 x h
  exact ⟨_, ix_dk rm.u1, a, w, rfl, by rw [← h1]; exact dget_of e, po w m H _ η ab .refl (rep_d.mpr h2) q⟩
theorem c_inD [rm : Rm X j] {k : Nat} {kvs : List (Key × D)} {y : D} (c : Key) (hk : dctH η k = some kvs) (hy : y = kD c) (q : Q (B (getK kvs c).isSome) η) : Op2 X F (compareOp .In) (.d y) (.h k) δ η Q := fun m σ H R v u ab r1 r2 po => by
  subst hy
  obtain ⟨a, vs, _, rfl, e, rk⟩ := ab.dct hk r2
  obtain rfl := rep_kD.mp (rep_d.mp r1)
  refine ⟨_, op_inDk rm.u1, a, _, rfl, dget_of e, ?_⟩
  rw [rk.get.2]
  exact po _ m H _ η ab .refl (rep_bl.mpr rfl) q
theorem c_notInD [rm : Rm X j] {k : Nat} {kvs : List (Key × D)} {y : D} (c : Key) (hk : dctH η k = some kvs) (hy : y = kD c) (q : Q (B (!(getK kvs c).isSome)) η) : Op2 X F (compareOp .NotIn) (.d y) (.h k) δ η Q := fun m σ H R v u ab r1 r2 po => by
  subst hy
  obtain ⟨a, vs, _, rfl, e, rk⟩ := ab.dct hk r2
  obtain rfl := rep_kD.mp (rep_d.mp r1)
  refine ⟨_, op_notInDk rm.u1, a, _, rfl, dget_of e, ?_⟩
  rw [rk.get.2]
  exact po _ m H _ η ab .refl (rep_bl.mpr rfl) q
theorem f_lenD {k : Nat} {kvs : List (Key × D)} (hk : dctH η k = some kvs) (q : Q (I kvs.length) η) : CallJ X F (.builtin "len") [.h k] δ η Q := fun m σ H R vs ab r po => by
  obtain ⟨v, rfl, r1⟩ := reps_one r
  obtain ⟨a, vs, _, rfl, e, rk⟩ := ab.dct hk r1
  refine ⟨_, call_lenDk, a, vs, rfl, e, ?_⟩
  rw [rk.length]
  exact po _ m H _ η ab .refl (rep_int.mpr rfl) q
/-- {} -/
theorem w_dnew {pos : Pos} {k : Nat} {η' : Hs} (hk : pushO η (some (.dK [])) = some (k, η')) (q : Q (.h k) η') : W X F (.Dict [] [] pos) δ η Q := fun xt m σ H R ab po => wp_of pe_dnewK fun p hp => po.newL ab hp (fun L' m' H' kp pr => by
  unfold RepO
  exact ⟨[], rfl, repkd_nil.mpr rfl⟩) hk q
/-! ### o[i] = v -/
def SetJ (X : Cx) (F : Fr0) (y z x : A) (δ : Sl) (η : Hs) (q : Hs → Prop) : Prop :=
  ∀ (m : List Addr) (σ : L2.St) (H : Hp) (R : Hp → Prop) (v u w : V), Abs X.K F m σ H δ η → RepA X.K (Lv F.Z m η) m H v y → RepA X.K (Lv F.Z m η) m H u z → RepA X.K (Lv F.Z m η) m H w x → (∀ H' η', Abs X.K F m σ H' δ η' → q η' → R H') → ∃ t, PSet X t ∧ t v u w H R
def rUSet (X : Cx) : TSet := fun v u w H R => ∃ t, PSet X t ∧ t v u w H R
theorem setU : PSet X (rUSet X) := by
  intro pins s σ H o i v ov iv u Q hI ro ri rv ⟨t, h1, h2⟩
  exact h1 pins s σ H o i v ov iv u Q hI ro ri rv h2
theorem ws_setI {nx bk ct : SH} {rt : A → Hs → Prop} {o i e : Expr} {pos pos' : Pos} (h : W X F e δ η fun x η1 => W X F o δ η1 fun y η2 => W X F i δ η2 fun z η3 => SetJ X F y z x δ η3 (nx δ))
    (hs : swapsWithSole [.Subscript o i pos'] e pos.line X.env = pure false) (hw : swappedStores [.Subscript o i pos'] e X.env = pure none)
    (h1 : (assignEach [.Subscript o i pos'] X.env).map (·.2) = [assign (.Subscript o i pos') X.env])
    (ha : ∀ v, assign (.Subscript o i pos') X.env v = (do
      let ov ← holding [v] (eval o X.env)
      let iv ← holding [v, ov] (eval i X.env)
      standAt pos'
      holding [v, ov, iv] (setItem ov iv v)
      release [v, ov, iv] [])) : WS X F (.Assign [.Subscript o i pos'] e pos) δ η nx rt bk ct := fun xt m σ H E ab eo =>
  wps_of (ps_asg pe_wp (pg_sub pe_wp pe_wp setU ha) hs hw h1) (h xt m σ H _ ab fun v m1 H1 x η1 ab1 e1 r1 q1 => q1 xt m1 σ H1 _ ab1 fun w m2 H2 y η2 ab2 e2 r2 q2 => q2 xt m2 σ H2 _ ab2 fun z m3 H3 zz η3 ab3 e3 r3 q3 =>
    q3 m3 σ H3 _ w z v ab3 (e3.a r2) r3 ((e2.trans e3).a r1) fun H' η' a q => eo.nx m3 σ H' δ η' a q)
theorem st_lst {k : Nat} {i : Int} {x : A} {u u' : O} {η' : Hs} {q : Hs → Prop} (hu : atH η k = some u) (hu' : setO u i x = some u') (hw : wrH η k (some u') = some η') (hq : q η') : SetJ X F (.h k) (I i) x δ η q := fun m σ H R v w z ab r1 r2 r3 po => by
  obtain rfl := rep_int.mp r2
  obtain ⟨a, ho, hm, rfl, eH, rO⟩ := ab.at_h hu r1
  obtain ⟨vs, jj, rfl, hj, rO'⟩ := rO.list_set r3 hu'
  obtain ⟨hlt, rfl⟩ := wrH_eq hw
  exact ⟨_, set_list, a, vs, i, jj, rfl, rfl, eH, hj, po _ _ (ab.set hm (atH_ok hu) fun L' m' H' kp pr => kp.o pr rO') hq⟩
theorem st_dct [rm : Rm X j] {k : Nat} {y x : D} {kvs : List (Key × D)} {η' : Hs} {q : Hs → Prop} (c : Key) (hu : atH η k = some (.dK kvs)) (hy : y = kD c) (hl : kvs.length < sizeLine) (hw : wrH η k (some (.dK (setK kvs c x))) = some η') (hq : q η') : SetJ X F (.h k) (.d y) (.d x) δ η q := fun m σ H R v w z ab r1 r2 r3 po => by
  subst hy
  obtain rfl := rep_kD.mp (rep_d.mp r2)
  obtain ⟨a, ho, hm, rfl, eH, rO⟩ := ab.at_h hu r1
  unfold RepO at rO
  obtain ⟨vs, rfl, rk⟩ := rO
  obtain ⟨hlt, rfl⟩ := wrH_eq hw
  refine ⟨_, set_dict rm.u1, a, _, rfl, .inl ⟨vs, c, eH, rfl, by rw [rk.length]; exact hl, rfl⟩, po _ _ (ab.set hm (atH_ok hu) fun L' m' H' kp pr => ?_) hq⟩
  unfold RepO
  exact ⟨_, rfl, RepKD.put (kp.d (rep_d.mp r3)) (kp.kd rk)⟩
end
end Y
set_option Elab.async false
set_option linter.all false
set_option maxRecDepth 100000
set_option maxHeartbeats 2000000
set_option autoImplicit false
/-! dict comprehensions; loops over dicts -/
namespace Y
open PySem PySem.Spec PyProof.Rows L2
section
variable {X : Cx} {F : Fr0} {δ : Sl} {η : Hs} {N U S G U' S' G' : List Str} {scope sc : Scope} {own : List (Str × Nat)}
/-- what a dict comprehension asks -/
def DcJ (X : Cx) (F : Fr0) (N U' S' G' : List Str) (vs : List Nat) (tg kx vx : Expr) (ifs : List Expr) (δ : Sl) (Q : A → Hs → Prop) (items : List A) (ok : Hs → Prop) (η1 : Hs) : Prop :=
  ∃ Pv : Nat → List (Key × D) → Hs → Prop, Pv 0 [] η1 ∧ (∀ i acc η', i ≤ items.length → Pv i acc η' → ok η' ∧ η'.length = η1.length) ∧
    (∀ (F' : Fr0), F'.m.length = η1.length → ∀ (i : Nat) (x : A) (acc : List (Key × D)) (η' : Hs), items[i]? = some x → Pv i acc η' →
      acc.length < sizeLine ∧ ∀ (Y : Cx) [Low X Y] [Cfg Y N U' S' G'] [Calm Y], TgW Y F' vs tg x (wipeSl δ vs) η' fun δ2 => ∀ (Y : Cx) [Low X Y] [Cfg Y N U' S' G'] [Calm Y], WTs Y F' ifs δ2 η' fun b η2 =>
        if b = true then ∀ (Y : Cx) [Low X Y] [Cfg Y N U' S' G'] [Calm Y], W Y F' kx δ2 η2 fun y η3 => ∀ (Y : Cx) [Low X Y] [Cfg Y N U' S' G'] [Calm Y], W Y F' vx δ2 η3 (GcD η1.length fun z η4 => ∃ c, y = .d (kD c) ∧ Pv (i + 1) (setK acc c z) η4) else Pv (i + 1) acc η2) ∧
    ∀ acc η', Pv items.length acc η' → ∃ k η'', pushO η' (some (.dK acc)) = some (k, η'') ∧ Q (.h k) η''
theorem dc_sem {kx vx tg iter : Expr} {ifs : List Expr} {Q : A → Hs → Prop} [C : Cfg X N U S G] [cm : Calm X] (hsc : X.env.scope = sc) (bf : BlkF N sc scope own U' S' G')
    (h : WI X F tg iter δ η fun items ok η1 => DcJ X F N U' S' G' (own.map (·.2)) tg kx vx ifs δ Q items ok η1) :
    ∃ wi, PI X tg iter wi ∧ (XT X F → ∀ (m : List Addr) (σ : L2.St) (H : Hp) (R : VK), Abs X.K F m σ H δ η → Pst X.K F m σ H δ η Q R → tDc wi (gB X scope tg) (tB X scope ifs) (eB X scope kx) (eB X scope vx) (own.map (·.2)) σ H R) := by
  obtain ⟨wi, hwi, h⟩ := h
  refine ⟨wi, hwi, fun xt m σ H R ab po => h xt m σ H _ ab fun J m1 H1 items ok η1 ab1 e1 it hq D hD => ?_⟩
  obtain ⟨Pv, p0, hok, hstep, hend⟩ := hq
  generalize hF1 : accF F m1 H1 η1 D = F1
  have hFm : F1.m = m1 := by rw [← hF1]; rfl
  have hFx : ∀ x δ, ¬ F1.EX x δ := by rw [← hF1]; exact fun _ _ f => f
  have it := it F1 (by rw [← hF1]; rfl) (by rw [← hF1]; rfl) (by rw [← hF1]; rfl) (by
    rw [← hF1]
    rintro b o h (z | z)
    · exact z
    · exact (ne_of_none h hD z).elim)
  refine ⟨fun i n H' => n = items.length - i ∧ i ≤ items.length ∧ ∃ acc η', AccOk X.K F1 D (wipe σ (own.map (·.2))) (wipeSl δ (own.map (·.2))) (.dK acc) η' H' ∧ Pv i acc η', ⟨_, rfl, Nat.zero_le _, [], η1, ?_, p0⟩, ?_⟩
  · rw [← hF1]
    refine acc_start ab1 hD (by rw [wipeSl_len, wipe_length]; exact ab1.sl) (fun i x e => ?_) fun L' H' => ?_
    · obtain ⟨e1, e2⟩ := wipeSl_get e
      exact ⟨e1, wipe_out e2⟩
    · unfold RepO
      exact ⟨[], rfl, repkd_nil.mpr rfl⟩
  rintro i n H' ⟨rfl, hi, acc, η', a2, p⟩
  obtain ⟨ok', hl'⟩ := hok i acc η' hi p
  have a2' := a2.1
  by_cases hlt : i < items.length
  · have hx := List.getElem?_eq_getElem hlt
    obtain ⟨go, yl⟩ := it.2 i _ hx F1.m _ H' _ η' a2' ok'
    refine .inr ⟨go, fun H2 => ∃ acc2 η2, AccOk X.K F1 D (wipe σ (own.map (·.2))) (wipeSl δ (own.map (·.2))) (.dK acc2) η2 H2 ∧ Pv (i + 1) acc2 η2, fun H2 ⟨acc2, η2, q1, q2⟩ => ⟨_, ?_, rfl, hlt, acc2, η2, q1, q2⟩, fun v H2 y => ?_⟩
    · omega
    obtain ⟨a3, r3, k3⟩ := yl v H2 y
    obtain ⟨_, ho, hHD, rO⟩ := a2
    unfold RepO at rO
    obtain ⟨vs, rfl, rD⟩ := rO
    have h2D := k3 D _ hHD
    have rD3 : RepKD X.K (Lv F1.Z F1.m η') H2 vs acc := (⟨fun b o e _ => k3 b o e, fun _ _ _ n => n⟩ : Kp (Lv F1.Z F1.m η') H' (Lv F1.Z F1.m η') H2).kd rD
    obtain ⟨hsz, hstep⟩ := hstep F1 (by rw [hFm]; exact ab1.len) i _ acc η' hx p
    have ins : ∀ {Y : Cx}, Fam X scope Y → Low X Y ∧ Cfg Y N U' S' G' ∧ Calm Y := fun {Y} hY => ⟨hY.low, hY.cfg C hsc bf, hY.calm cm.c⟩
    intro Y hY
    obtain ⟨i1, i2, i3⟩ := ins hY
    have hK : Y.K = X.K := i1.K
    obtain ⟨g, hg, hgo⟩ := hstep Y
    rw [hK] at hgo
    refine ⟨g, hg, hgo F1.m _ H2 v _ a3 r3 fun σ2 δ2 hw a4 hts => ⟨hw.trans wipe_wipe, fun Y' hY' => ?_⟩⟩
    obtain ⟨j1, j2, j3⟩ := ins hY'
    have hK' : Y'.K = X.K := j1.K
    obtain ⟨t, ht, hto⟩ := hts Y'
    rw [hK'] at hto
    refine ⟨t, ht, hto (hY'.xt hFx) F1.m σ2 H2 _ a4 fun b m5 H5 η5 a5 e5 q5 => ?_⟩
    have e0 : Ext F1.m H' η' F1.m H2 η' := ⟨⟨[], by simp⟩, fun b o e _ => k3 b o e, fun _ _ _ n => n⟩
    have nD : ∀ {m' : List Addr} {σ' : L2.St} {H'' : Hp} {δ' : Sl} {η'' : Hs}, Abs X.K F1 m' σ' H'' δ' η'' → ¬ Live m' η'' D := fun {m' σ' H'' δ' η''} a ⟨i, o, h1, _⟩ => a.zd D (List.mem_of_getElem? h1) (by rw [← hF1]; exact .inr rfl)
    have h5D := e5.kp.keep D _ h2D (nD a4)
    have rD5 := (e5.lv F1.Z).kd rD3
    cases b with
    | false =>
      rw [if_neg Bool.false_ne_true] at q5 ⊢
      obtain ⟨_, hl5⟩ := hok (i + 1) acc η5 hlt q5
      have em := a5.same_m (by rw [hl5, hFm, ab1.len])
      subst em
      refine ⟨acc, η5, ⟨a2'.reslot a5 (e0.trans e5), _, h5D, ?_⟩, q5⟩
      unfold RepO
      exact ⟨vs, rfl, rD5⟩
    | true =>
      rw [if_pos rfl] at q5 ⊢
      intro Y2 hY2
      obtain ⟨l1, l2, l3⟩ := ins hY2
      have hK2 : Y2.K = X.K := l1.K
      have q6 := q5 Y2 (hY2.xt hFx) m5 σ2 H5
      rw [hK2] at q6
      refine q6 _ a5 fun u m6 H6 ky η6 a6 e6 r6 q7 => ?_
      intro Y3 hY3
      obtain ⟨n1, n2, n3⟩ := ins hY3
      have hK3 : Y3.K = X.K := n1.K
      have q8 := q7 Y3 (hY3.xt hFx) m6 σ2 H6
      rw [hK3] at q8
      refine q8 _ a6 fun w m7 H7 a η7 a7 e7 r7 ⟨ix, y, η8, nd, pr, hk, ea, c, ec, p8⟩ => ?_
      subst ea ec
      have ek : u = kV c := rep_kD.mp (rep_d.mp r6)
      obtain ⟨_, hl8⟩ := hok (i + 1) _ η8 hlt p8
      obtain ⟨a8, rn, k8⟩ := a7.tidy nd hk pr (by rw [hFm, ab1.len]; exact Nat.le_refl _)
      have r8 := rn r7 (y := .d y) rfl
      have E7 := ((e0.trans e5).trans e6).trans e7
      have E8 : Ext F1.m H' η' (subM ix m7) H7 η8 := ⟨a8.pre, E7.kp.trans k8⟩
      have a9 := a2'.reslot a8 E8
      have em := a9.same_m (by rw [hl8, hFm, ab1.len])
      have h7D := E8.kp.keep D _ hHD (nD a2')
      have rD8 := (E8.lv F1.Z).kd rD
      refine ⟨vs, c, ek, h7D, by rw [rD.length]; exact hsz, setK acc c y, η8, ?_, p8⟩
      subst hF1
      refine acc_write hD a9 (by rw [hl8, ab1.len]) fun L' H'' kp => ?_
      unfold RepO
      exact ⟨_, rfl, RepKD.put (kp.d (rep_d.mp r8)) (kp.kd rD8)⟩
  · have e : i = items.length := by omega
    subst e
    refine .inl ⟨it.1 F1.m _ H' _ η' a2' ok', ?_⟩
    obtain ⟨k, η'', hk, q⟩ := hend acc η' p
    rw [pushO_eq] at hk
    cases hk
    rw [← hF1] at a2
    obtain ⟨b1, b2, b3⟩ := acc_end (σ := σ) (δ := δ) ab1 hD a2
    exact po _ _ _ _ _ b1 (e1.trans b2) b3 q
theorem w_dc {kx vx tg iter : Expr} {ifs : List Expr} {pos : Pos} {Q : A → Hs → Prop} [C : Cfg X N U S G] [cm : Calm X] (hsc : X.env.scope = sc) (bf : BlkF N sc scope own U' S' G')
    (h : WI X F tg iter δ η fun items ok η1 => DcJ X F N U' S' G' (own.map (·.2)) tg kx vx ifs δ Q items ok η1) (hs : ∀ x, foldedSetIterable iter X.env x = pure x) :
    W X F (.DictComp kx vx [⟨tg, iter, ifs, 0⟩] scope pos) δ η Q := by
  obtain ⟨wi, hwi, k⟩ := dc_sem (kx := kx) (vx := vx) (ifs := ifs) hsc bf h
  exact fun xt m σ H R ab po => wp_of (pe_dc cm.c (by rw [C.ns]; exact C.nd) hwi (bf.ok hsc) pg_B pts_B pe_B pe_B hs) (k xt m σ H R ab po)
/-- name = {..}, on one line -/
theorem ps_setDc {i : Nat} {y : Str} {py : Pos} {kx vx tg iter : Expr} {ifs : List Expr} {pos spos : Pos} {wi : TI} {g : TG} {tt : TT} {tk tv : TE} (hc : X.calm = true) (hN : X.N.Nodup) (hy : X.N[i]? = some y) (hyl : X.env.scope.names.lookup y = some .local)
    (hsw : swapsWith (.DictComp kx vx [⟨tg, iter, ifs, 0⟩] scope pos) (some (.Name y py)) spos.line X.env = pure true) (hi : PI X tg iter wi) (ok : BlkOk X.N X.env.scope scope own)
    (hg : ∀ s H C cl fp, PG (X.blk s H scope (compEnvC scope cl C X.env) fp) tg g) (ht : ∀ s H C cl fp, PTs (X.blk s H scope (compEnvC scope cl C X.env) fp) ifs tt)
    (hk : ∀ s H C cl fp, PE (X.blk s H scope (compEnvC scope cl C X.env) fp) kx tk) (he : ∀ s H C cl fp, PE (X.blk s H scope (compEnvC scope cl C X.env) fp) vx tv) (hs : ∀ x, foldedSetIterable iter X.env x = pure x) :
    PS X (.Assign [.Name y py] (.DictComp kx vx [⟨tg, iter, ifs, 0⟩] scope pos) spos) (tAsg (tDc wi g tt tk tv (own.map (·.2))) (gName i)) := by
  refine ⟨fun pins s σ H D hI h => ?_⟩
  rw [exec_Assign_Name_used _ _ _ _ hsw]
  refine wpAny_bind (wpAny_standAt (wpAny_bind ?_))
  show wpAny _ X.A (do let _ ← comprehension (.DictComp kx vx [⟨tg, iter, ifs, 0⟩] scope pos) scope X.env (firstIterPos [⟨tg, iter, ifs, 0⟩] pos) newDict false (eval iter X.env) (some (assign (.Name y py) X.env))) _ _ s
  refine wpAny_bind (thn (dc_core (Q := fun x H1 => gName i x σ H1 D.nx) (Qf := fun _ s' => SP X pins D .next s') hc hN hI hi ok hg ht hk he hs h fun L C s' m H' I' q hn ⟨f0, f1, f2, f3, f4, f5⟩ => ?_) fun _ s' hq => wpAny_pure (wpAny_pure hq))
  show wpAny _ _ (assign (.Name y py) X.env (.ref L)) _ _ _
  refine wpAny_assign_Name (store_ok2 (v := V.ref L) I' hN hy (.inl hyl) rfl (fun s2 I2 ⟨a, sb, ha⟩ => ?_) (.inr hyl))
  have hCa : C ≠ a := ha.elim (fun z => z ▸ f1) fun z e => f4 y a z e.symm
  exact ⟨m, hn.sameBut sb hCa, fun h3 sb3 => ⟨_, H', I2.turned (t' := s2.toks) (fun b o hb e => (sb3.2 b hb).trans e) f0 f1 f3 f4 f5, q⟩⟩
theorem ws_setDc {n : Str} {py : Pos} {kx vx tg iter : Expr} {ifs : List Expr} {pos spos : Pos} {nx bk ct : SH} {rt : A → Hs → Prop} [C : Cfg X N U S G] [cm : Calm X] [hn : Mem n N] [ms : Mem n S] (hsc : X.env.scope = sc) (bf : BlkF N sc scope own U' S' G')
    (h : WI X F tg iter δ η fun items ok η1 => DcJ X F N U' S' G' (own.map (·.2)) tg kx vx ifs δ (fun x η1 => ∃ δ', SlotS N δ n x δ' ∧ nx δ' η1) items ok η1) (hs : ∀ x, foldedSetIterable iter X.env x = pure x)
    (hyl : X.env.scope.names.lookup n = some .local) (hsw : swapsWith (.DictComp kx vx [⟨tg, iter, ifs, 0⟩] scope pos) (some (.Name n py)) spos.line X.env = pure true) :
    WS X F (.Assign [.Name n py] (.DictComp kx vx [⟨tg, iter, ifs, 0⟩] scope pos) spos) δ η nx rt bk ct := by
  obtain ⟨i, hi, e1⟩ := List.getElem_of_mem hn.mem
  have hN : N[i]? = some n := by rw [List.getElem?_eq_getElem hi, e1]
  obtain ⟨wi, hwi, k⟩ := dc_sem (kx := kx) (vx := vx) (ifs := ifs) hsc bf h
  refine fun xt m σ H E ab eo => wps_of (ps_setDc (i := i) cm.c (by rw [C.ns]; exact C.nd) (by rw [C.ns]; exact hN) hyl hsw hwi (bf.ok hsc) pg_B pts_B pe_B pe_B hs) (k xt m σ H _ ab fun v m1 H1 x η1 ab1 _ r ⟨δ', s, q⟩ => ?_)
  obtain ⟨j, h1, h2, h3⟩ := s.ex
  obtain rfl := nodup_ix C.nd h1 hN
  subst h3
  exact eo.nx m1 _ H1 _ η1 (ab1.store h2 r) q

/-! ### for k in d, for k, v in d.items() -/
theorem Itk_rep {K : PySem.W.Frag} {L : Addr → Prop} {H : Hp} : ∀ {xs : List (Key × D)} {vs : List (Key × V)} {i : Nat} {p : Key × D}, RepKD K L H vs xs → xs[i]? = some p → ∃ v, vs[i]? = some (p.1, v) ∧ RepD K L H v p.2
  | [], _, i, _, _, e => by simp at e
  | q :: xs, _, 0, p, h, e => by
    obtain ⟨v, r, rfl, h1, _⟩ := repkd_cons.mp h
    have : q = p := by simpa using e
    subst this
    exact ⟨v, rfl, h1⟩
  | q :: xs, _, i + 1, p, h, e => by
    obtain ⟨v, r, rfl, _, h2⟩ := repkd_cons.mp h
    obtain ⟨w, h3, h4⟩ := Itk_rep (i := i) h2 (by simpa using e)
    exact ⟨w, by simpa using h3, h4⟩
/-- the walk of a locked dict: its items as values -/
def DWalk (X : Cx) (F : Fr0) (J : It) (items : List A) (ok : Hs → Prop) : Prop := ItA X F J items ok
theorem ws_forL {k : Nat} {kvs : List (Key × D)} {tg iter : Expr} {body : List Stmt} {pos : Pos} {nx bk ct : SH} {rt : A → Hs → Prop} [C : CfgC X N U S G] (hk : atH η k = some (.dK kvs))
    (h : ∀ (ob : Obj) (vs : List (Key × V)), ∃ η1, wrH η k (some (.lkd ob vs kvs)) = some η1 ∧ WI X F tg iter δ η1 fun items ok η2 => ∃ Pv : Nat → SH, Pv 0 δ η2 ∧ η2.length = η1.length ∧ (∀ i δ' η', i ≤ items.length → Pv i δ' η' → ok η' ∧ atH η' k = some (.lkd ob vs kvs)) ∧
      (∀ F' i x δ' η', F'.m.length = η2.length → F'.EX = F.EX → items[i]? = some x → Pv i δ' η' → Tg X F' tg x δ' η' fun δ2 => WSs X F' body δ2 η' (Pv (i + 1)) (fun _ _ => False) noSH (Pv (i + 1))) ∧ ∀ δ' η', Pv items.length δ' η' → ∃ η3, wrH η' k (some (.dK kvs)) = some η3 ∧ nx δ' η3)
    (hs : ∀ x, foldedSetIterable iter X.env x = pure x) : WS X F (.For tg iter body [] pos) δ η nx rt bk ct := by
  intro xt m σ H E ab eo
  have hkη := atH_ok hk
  have hlt := (List.getElem?_eq_some_iff.mp hkη).1
  have hmk : m[k]? = some (m[k]'(by rw [ab.len]; exact hlt)) := List.getElem?_eq_getElem _
  generalize hd : m[k]'(by rw [ab.len]; exact hlt) = d at hmk
  obtain ⟨ho, eH, rO⟩ := ab.obj k d _ hmk hkη
  unfold RepO at rO
  obtain ⟨vs, rfl, rk⟩ := rO
  intro pins s hI
  refine (ps_lock (t := wpS X (.For tg iter body [] pos)) ps_wp).run pins s σ H E hI ⟨d, .dK vs, eH, trivial, fun od => ?_⟩
  obtain ⟨η1, hw, wi, hwi, hgo⟩ := h od vs
  obtain ⟨_, rfl⟩ := wrH_eq hw
  have ab1 : Abs X.K F m σ (upd H d (.frz od (.dK vs))) δ (η.set k (some (.lkd od vs kvs))) := ab.set hmk hkη fun L' m' H' kp pr => by
    unfold RepO
    exact ⟨rfl, kp.kd rk⟩
  have unl : ∀ {m' : List Addr} {σ' : L2.St} {H' : Hp} {δ' : Sl} {η' : Hs} {F' : Fr0}, Abs X.K F' m' σ' H' δ' η' → (∃ r, m' = m ++ r) → atH η' k = some (.lkd od vs kvs) → H' d = some (.frz od (.dK vs)) ∧ Abs X.K F' m' σ' (upd H' d (.dK vs)) δ' (η'.set k (some (.dK kvs))) := by
    intro m' σ' H' δ' η' F' a pr e
    have hm' := pre_get pr hmk
    obtain ⟨ho, e1, rO⟩ := a.obj k d _ hm' (atH_ok e)
    unfold RepO at rO
    obtain ⟨rfl, rk'⟩ := rO
    exact ⟨e1, a.set hm' (atH_ok e) fun L' m' H' kp pr => by
      unfold RepO
      exact ⟨vs, rfl, kp.kd rk'⟩⟩
  refine wps_of (ps_for C.po C.calm hwi pg_wp pss_wp hs) (hgo xt m σ _ _ ab1 fun J m1 H1 items ok η2 ab2 e2 it ⟨Pv, p0, hl2, hok, hstep, hend⟩ => ?_)
  have it := it _ rfl rfl rfl fun _ _ _ z => z
  have prm : ∃ r, m1 = m ++ r := e2.pre
  refine ⟨fun i n σ' H' => n = items.length - i ∧ i ≤ items.length ∧ ∃ m' δ' η', Abs X.K (F.at m1 H1 η2) m' σ' H' δ' η' ∧ Pv i δ' η', ⟨_, rfl, Nat.zero_le _, m1, δ, η2, ab2.at, p0⟩, ?_⟩
  rintro i n σ' H' ⟨rfl, hi, m', δ', η', a2, p⟩
  obtain ⟨hok1, hok2⟩ := hok i δ' η' hi p
  by_cases hlt : i < items.length
  · have hx := List.getElem?_eq_getElem hlt
    obtain ⟨go, yl⟩ := it.2 i _ hx m' σ' H' δ' η' a2 hok1
    refine .inr ⟨go, fun σ2 H2 => ∃ m2 δ2 η2', Abs X.K (F.at m1 H1 η2) m2 σ2 H2 δ2 η2' ∧ Pv (i + 1) δ2 η2', fun σ2 H2 ⟨m2, δ2, η2', a3, p3⟩ => ⟨items.length - (i + 1), by omega, rfl, hlt, m2, δ2, η2', a3, p3⟩, fun v H2 y => ?_⟩
    obtain ⟨a3, r3, _⟩ := yl v H2 y
    obtain ⟨g, hg, q⟩ := hstep (F.at m1 H1 η2) i _ δ' η' ab2.len rfl hx p
    refine ⟨g, hg, q m' σ' H2 v _ a3 r3 fun σ4 δ4 a4 q4 => q4 (xt.at ab2) m' σ4 H2 _ a4 ⟨?_, ?_, ?_, ?_⟩⟩
    · exact fun m5 σ5 H5 δ5 η5 a5 p5 => ⟨m5, δ5, η5, a5, p5⟩
    · exact fun v m5 σ5 H5 δ5 η5 a a5 r q => q.elim
    · exact fun m5 σ5 H5 δ5 η5 a5 q => q.elim
    · exact fun m5 σ5 H5 δ5 η5 a5 p5 => ⟨m5, δ5, η5, a5, p5⟩
  · have e : i = items.length := by omega
    subst e
    obtain ⟨η3, hw3, q3⟩ := hend δ' η' p
    obtain ⟨_, rfl⟩ := wrH_eq hw3
    have a5 := (ab2.of_at a2).1
    have pr5 : ∃ r, m' = m ++ r := by
      obtain ⟨r, h1⟩ := prm
      obtain ⟨q, h2⟩ := (ab2.of_at a2).2.pre
      exact ⟨r ++ q, by rw [h2, h1, List.append_assoc]⟩
    obtain ⟨u1, u2⟩ := unl a5 pr5 hok2
    exact .inl ⟨it.1 m' σ' H' δ' η' a2 hok1, u1, eo.nx m' σ' _ δ' _ u2 q3⟩

def keysA (kvs : List (Key × D)) : List A := kvs.map fun p => .d (kD p.1)
def itemsD (kvs : List (Key × D)) : List A := kvs.map fun p => .d (.tup [kD p.1, p.2])
/-- the locked dict, seen from a later state -/
theorem lkd_at {K : PySem.W.Frag} {m m' : List Addr} {σ' : L2.St} {H' : Hp} {δ' : Sl} {η' : Hs} {k : Nat} {ob : Obj} {vs : List (Key × V)} {kvs : List (Key × D)} {d : Addr} {F' : Fr0} (hm : m[k]? = some d) (hF : F'.m = m) (a : Abs K F' m' σ' H' δ' η') (e : atH η' k = some (.lkd ob vs kvs)) : H' d = some (.frz ob (.dK vs)) ∧ RepKD K (Lv F'.Z m' η') H' vs kvs := by
  have pr := a.pre
  rw [hF] at pr
  obtain ⟨ho, e1, rO⟩ := a.obj k d _ (pre_get pr hm) (atH_ok e)
  unfold RepO at rO
  obtain ⟨rfl, rk⟩ := rO
  exact ⟨e1, rk⟩
theorem wi_keys {e : Expr} {Q : List A → (Hs → Prop) → Hs → Prop} {tg : Expr} (h : W X F e δ η fun x η1 => ∃ k ob vs kvs, x = .h k ∧ atH η1 k = some (.lkd ob vs kvs) ∧ Q (keysA kvs) (fun η' => atH η' k = some (.lkd ob vs kvs)) η1) : WI X F tg e δ η Q := by
  refine ⟨_, pi_keys pe_wp, fun xt m σ H R ab kk => h xt m σ H _ ab fun v m1 H1 x η1 ab1 e1 r1 ⟨k, ob, vs, kvs, ex, hk, q⟩ => ?_⟩
  subst ex
  obtain ⟨d, hm, rfl⟩ := rep_h.mp r1
  obtain ⟨f0, k0⟩ := lkd_at (F' := F.at m1 H1 η1) hm rfl ab1.at hk
  refine ⟨d, ob, rfl, .inl ⟨vs, f0, kk _ m1 H1 _ _ η1 ab1 e1 (fun F' hH hL hm' hZ => ⟨fun m σ H δ η a ok => ?_, fun i x hx m σ H δ η a ok => ?_⟩) q⟩⟩
  · obtain ⟨f1, k1⟩ := lkd_at hm hm' a ok
    exact ⟨f1, by unfold keysA; rw [List.length_map, k1.length]; exact Nat.le_refl _⟩
  · obtain ⟨f1, k1⟩ := lkd_at hm hm' a ok
    unfold keysA at hx
    rw [List.getElem?_map] at hx
    cases ep : kvs[i]? with
    | none => rw [ep] at hx; cases hx
    | some p =>
      rw [ep] at hx
      cases hx
      obtain ⟨w, h1, h2⟩ := Itk_rep k1 ep
      refine ⟨⟨f1, (List.getElem?_eq_some_iff.mp h1).1⟩, fun u H' ⟨e1, c, z, e2, e3⟩ => ?_⟩
      subst e1
      rw [h1] at e2
      cases e2
      subst e3
      exact ⟨a, rep_d.mpr (rep_kD.mpr rfl), fun _ _ z => z⟩
theorem wi_items {e : Expr} {apos cpos tpos : Pos} {elts : List Expr} {kk : Nat} {Q : List A → (Hs → Prop) → Hs → Prop} (h : W X F e δ η fun x η1 => ∃ k ob vs kvs, x = .h k ∧ atH η1 k = some (.lkd ob vs kvs) ∧ Q (itemsD kvs) (fun η' => atH η' k = some (.lkd ob vs kvs)) η1)
    (hbase : attributeBase e "items" X.env (eval e X.env) = eval e X.env) (hline : (apos.endLine == cpos.line) = true) : WI X F (.Tuple elts kk tpos) (.Call (.Attribute e "items" apos) [] [] cpos) δ η Q := by
  refine ⟨_, pi_items pe_wp hbase hline, fun xt m σ H R ab kk => h xt m σ H _ ab fun v m1 H1 x η1 ab1 e1 r1 ⟨k, ob, vs, kvs, ex, hk, q⟩ => ?_⟩
  subst ex
  obtain ⟨d, hm, rfl⟩ := rep_h.mp r1
  obtain ⟨f0, k0⟩ := lkd_at (F' := F.at m1 H1 η1) hm rfl ab1.at hk
  refine ⟨d, ob, vs, rfl, f0, kk _ m1 H1 _ _ η1 ab1 e1 (fun F' hH hL hm' hZ => ⟨fun m σ H δ η a ok => ?_, fun i x hx m σ H δ η a ok => ?_⟩) q⟩
  · obtain ⟨f1, k1⟩ := lkd_at hm hm' a ok
    exact ⟨f1, by unfold itemsD; rw [List.length_map, k1.length]; exact Nat.le_refl _⟩
  · obtain ⟨f1, k1⟩ := lkd_at hm hm' a ok
    unfold itemsD at hx
    rw [List.getElem?_map] at hx
    cases ep : kvs[i]? with
    | none => rw [ep] at hx; cases hx
    | some p =>
      rw [ep] at hx
      cases hx
      obtain ⟨w, h1, h2⟩ := Itk_rep k1 ep
      refine ⟨⟨f1, (List.getElem?_eq_some_iff.mp h1).1⟩, fun u H' ⟨T, c, z, e2, e3, hT, e4⟩ => ?_⟩
      rw [h1] at e2
      cases e2
      subst e3 e4
      obtain ⟨b1, b2, b3⟩ := pair_new (x := .d (kD p.1)) (y := .d p.2) a hT (rep_d.mpr (rep_kD.mpr rfl)) (rep_d.mpr h2)
      exact ⟨b1, b2, b3⟩
end
end Y
set_option Elab.async false
set_option linter.all false
set_option maxRecDepth 100000
set_option maxHeartbeats 2000000
set_option autoImplicit false
/-! own classes -/
namespace Y
open PySem PySem.Spec PyProof.Rows L2

/-! ### the facts of a module, handed to each context -/
class ClsI (X : Cx) (C : Addr) : Prop where
  c : Cls X.K C
class FldI (X : Cx) (C : Addr) (f : Str) : Prop where
  n : NoAttr X.K C f
class ConI (X : Cx) (C : Addr) (f : Str) (d : outParam D) : Prop where
  k : ∃ v u, Con X.K C f v u ∧ ∀ (L : Addr → Prop) (H : Hp), RepD X.K L H v d
/-- how n values and the keywords ks become the parameters -/
structure KA (K : PySem.W.Frag) (fd : FuncData) (ps : List Str) (n : Nat) (ks : List Str) (gA : List A → List A → List A) : Prop where
  ex : ∃ g gV, KBn K fd ps n ks g gV ∧ ∀ (L : Addr → Prop) (m : List Addr) (H : Hp) (a b : List V) (c d : List A), RepAs K L m H a c → RepAs K L m H b d → RepAs K L m H (gV a b) (gA c d)
structure GMk (P : Program) (w : World) (K : PySem.W.Frag) (mg : Str → Option Value) (base : Heap) (x : Str) (C : Addr) (n : Nat) (ks : List Str) (k : Nat) (S : Spec) (gA : List A → List A → List A) : Prop where
  ex : ∃ (f : Addr) (fd : FuncData) (ps : List Str), Mk K C f ∧ FnOk P w K mg base (L2.CX P w) k f fd ps (spOf K S) ∧ mg x = some (.ref C) ∧ KA K fd ps (n + 1) ks gA
class MkX (X : Cx) (x : Str) (n : Nat) (ks : List Str) (C : outParam Addr) (k : outParam Nat) (S : outParam Spec) (gA : outParam (List A → List A → List A)) : Prop where
  g : GMk X.prog X.w X.K X.mg X.base x C n ks k S gA
structure GMt (P : Program) (w : World) (K : PySem.W.Frag) (mg : Str → Option Value) (base : Heap) (C : Addr) (m : Str) (n : Nat) (k : Nat) (S : Spec) : Prop where
  ex : ∃ (f : Addr) (fd : FuncData) (ps : List Str), Cls K C ∧ Meth K C m f ∧ FnOk P w K mg base (L2.CX P w) k f fd ps (spOf K S) ∧ Binds K fd ps []
class MtX (X : Cx) (C : Addr) (m : Str) (n : Nat) (k : outParam Nat) (S : outParam Spec) : Prop where
  g : GMt X.prog X.w X.K X.mg X.base C m n k S
instance low_cls {X Y : Cx} {C : Addr} [l : LowS X Y] [r : ClsI X C] : ClsI Y C := ⟨by rw [l.K]; exact r.c⟩
instance low_fld {X Y : Cx} {C : Addr} {f : Str} [l : LowS X Y] [r : FldI X C f] : FldI Y C f := ⟨by rw [l.K]; exact r.n⟩
instance low_con {X Y : Cx} {C : Addr} {f : Str} {d : D} [l : LowS X Y] [r : ConI X C f d] : ConI Y C f d := ⟨by rw [l.K]; exact r.k⟩
instance low_mk {X Y : Cx} {x : Str} {n : Nat} {ks : List Str} {C : Addr} {k : Nat} {S : Spec} {gA : List A → List A → List A} [l : LowS X Y] [r : MkX X x n ks C k S gA] : MkX Y x n ks C k S gA := ⟨by rw [l.prog, l.w, l.K, l.mg, l.base]; exact r.g⟩
instance low_mt {X Y : Cx} {C : Addr} {m : Str} {n k : Nat} {S : Spec} [l : LowS X Y] [r : MtX X C m n k S] : MtX Y C m n k S := ⟨by rw [l.prog, l.w, l.K, l.mg, l.base]; exact r.g⟩

/-! ### fields -/
def lookF {α : Type} (f : Str) : List (Str × α) → Option α
  | [] => none
  | p :: r => if p.1 = f then some p.2 else lookF f r
def putA (f : Str) (x : A) : List (Str × A) → List (Str × A)
  | [] => [(f, x)]
  | p :: r => if p.1 = f then (p.1, x) :: r else p :: putA f x r
/-- the class and the fields of a value -/
def insA (η : Hs) : A → Option (Addr × List (Str × A))
  | .h k => match atH η k with
    | some (.ins C fs) => some (C, fs)
    | _ => none
  | .d (.ins C fs) => some (C, fs.map fun p => (p.1, .d p.2))
  | _ => none
section
variable {K : PySem.W.Frag} {L : Addr → Prop} {m : List Addr} {H : Hp}
theorem repfs_nil {vs : List (Str × V)} : RepFs K L H vs [] ↔ vs = [] := by unfold RepFs; exact Iff.rfl
theorem repfs_cons {vs : List (Str × V)} {p : Str × D} {xs : List (Str × D)} : RepFs K L H vs (p :: xs) ↔ ∃ v r, vs = (p.1, v) :: r ∧ RepD K L H v p.2 ∧ RepFs K L H r xs := by
  constructor
  · intro h; unfold RepFs at h; exact h
  · intro h; unfold RepFs; exact h
theorem repfs_A : ∀ {fs : List (Str × D)} {fv : List (Str × V)}, RepFs K L H fv fs → RepFA K L m H fv (fs.map fun p => (p.1, .d p.2))
  | [], fv, h => repfa_nil.mpr (repfs_nil.mp h)
  | p :: fs, fv, h => by
    obtain ⟨v, r, e, h1, h2⟩ := repfs_cons.mp h
    exact repfa_cons.mpr ⟨v, r, e, rep_d.mpr h1, repfs_A h2⟩
theorem repfa_look {f : Str} : ∀ {fs : List (Str × A)} {fv : List (Str × V)}, RepFA K L m H fv fs → (∀ x, lookF f fs = some x → ∃ v, fv.lookup f = some v ∧ RepA K L m H v x) ∧ (lookF f fs = none → fv.lookup f = none)
  | [], fv, h => by
    rw [repfa_nil.mp h]
    exact ⟨fun x e => (by cases e), fun _ => rfl⟩
  | p :: fs, fv, h => by
    obtain ⟨v, r, rfl, h1, h2⟩ := repfa_cons.mp h
    obtain ⟨i1, i2⟩ := repfa_look (f := f) h2
    unfold lookF
    rw [List.lookup_cons]
    by_cases e : p.1 = f
    · have e' : (f == p.1) = true := by rw [e]; simp
      rw [if_pos e, e']
      exact ⟨fun x ex => ⟨v, rfl, by cases ex; exact h1⟩, fun z => (by cases z)⟩
    · have e' : (f == p.1) = false := by simpa using fun z => e z.symm
      rw [if_neg e, e']
      exact ⟨i1, i2⟩
theorem repfa_put {f : Str} {x : A} {v : V} (rx : RepA K L m H v x) : ∀ {fs : List (Str × A)} {fv : List (Str × V)}, RepFA K L m H fv fs → RepFA K L m H (putF f v fv) (putA f x fs)
  | [], fv, h => by
    rw [repfa_nil.mp h]
    exact repfa_cons.mpr ⟨v, [], rfl, rx, repfa_nil.mpr rfl⟩
  | p :: fs, fv, h => by
    obtain ⟨u, r, rfl, h1, h2⟩ := repfa_cons.mp h
    unfold putA putF
    by_cases e : p.1 = f
    · rw [if_pos e]
      subst e
      rw [if_pos rfl]
      exact repfa_cons.mpr ⟨v, r, rfl, rx, h2⟩
    · rw [if_neg e, if_neg e]
      exact repfa_cons.mpr ⟨u, _, rfl, h1, repfa_put rx h2⟩
theorem repfa_len : ∀ {fs : List (Str × A)} {fv : List (Str × V)}, RepFA K L m H fv fs → fv.length = fs.length
  | [], fv, h => by rw [repfa_nil.mp h]; rfl
  | p :: fs, fv, h => by
    obtain ⟨v, r, rfl, _, h2⟩ := repfa_cons.mp h
    rw [List.length_cons, List.length_cons, repfa_len h2]
theorem insA_ok {F : Fr0} {σ : L2.St} {δ : Sl} {η : Hs} {x : A} {v : V} {C : Addr} {fs : List (Str × A)} (ab : Abs K F m σ H δ η) (h : insA η x = some (C, fs)) (r : RepA K (Lv F.Z m η) m H v x) : ∃ a dx fv, v = .ref a ∧ H a = some (.ins C dx fv) ∧ RepFA K (Lv F.Z m η) m H fv fs := by
  cases x with
  | h k =>
    unfold insA at h
    dsimp only at h
    cases e : atH η k with
    | none => rw [e] at h; cases h
    | some o =>
      rw [e] at h
      obtain ⟨a, ho, hm, rfl, e2, r2⟩ := ab.at_h e r
      cases o with
      | ins C' fs' =>
        cases h
        unfold RepO at r2
        obtain ⟨dx, fv, rfl, r2⟩ := r2
        exact ⟨a, dx, fv, rfl, e2, r2⟩
      | _ => cases h
  | t xs => cases h
  | d y =>
    cases y with
    | ins C' fs' =>
      cases h
      obtain ⟨a, dx, fv, rfl, _, e, r2⟩ := rep_ins.mp r
      exact ⟨a, dx, fv, rfl, e, repfs_A r2⟩
    | _ => cases h
end
section
variable {X : Cx} {F : Fr0} {δ : Sl} {η : Hs} {Q : A → Hs → Prop} {N U S G : List Str}
theorem w_fld {e : Expr} {f : Str} {pos : Pos} (h : W X F e δ η fun x η1 => ∃ C fs y, insA η1 x = some (C, fs) ∧ lookF f fs = some y ∧ ClsI X C ∧ FldI X C f ∧ Q y η1) (hb : attributeBase e f X.env (eval e X.env) = eval e X.env) : W X F (.Attribute e f pos) δ η Q := fun xt m σ H R ab po =>
  wp_of (pe_fld pe_wp hb) (h xt m σ H _ ab fun v m1 H1 x η1 ab1 e1 r1 ⟨C, fs, y, hi, hl, hc, hf, q⟩ => by
    obtain ⟨a, dx, fv, rfl, eH, rf⟩ := insA_ok ab1 hi r1
    obtain ⟨u, h1, h2⟩ := (repfa_look rf).1 y hl
    exact ⟨a, C, dx, fv, u, rfl, eH, hc.c, hf.n, h1, po u m1 H1 y η1 ab1 e1 h2 q⟩)
theorem w_con {e : Expr} {f : Str} {pos : Pos} {d : D} (h : W X F e δ η fun x η1 => ∃ C fs, insA η1 x = some (C, fs) ∧ lookF f fs = none ∧ ClsI X C ∧ ConI X C f d ∧ Q (.d d) η1) (hb : attributeBase e f X.env (eval e X.env) = eval e X.env) : W X F (.Attribute e f pos) δ η Q := fun xt m σ H R ab po =>
  wp_of (pe_con pe_wp hb) (h xt m σ H _ ab fun v m1 H1 x η1 ab1 e1 r1 ⟨C, fs, hi, hl, hc, hf, q⟩ => by
    obtain ⟨a, dx, fv, rfl, eH, rf⟩ := insA_ok ab1 hi r1
    obtain ⟨u, w, hk, hr⟩ := hf.k
    exact ⟨a, C, dx, fv, u, w, rfl, eH, hc.c, hk, (repfa_look rf).2 hl, po u m1 H1 _ η1 ab1 e1 (rep_d.mpr (hr _ _)) q⟩)
/-- o.f = value -/
theorem ws_fld {nx bk ct : SH} {rt : A → Hs → Prop} {o e : Expr} {f : Str} {pos pos' : Pos} (h : W X F e δ η fun x η1 => W X F o δ η1 fun y η2 => ∃ k C fs η3, y = .h k ∧ atH η2 k = some (.ins C fs) ∧ ClsI X C ∧ FldI X C f ∧ fs.length < 1000 ∧ wrH η2 k (some (.ins C (putA f x fs))) = some η3 ∧ nx δ η3)
    (hs : swapsWith e (some (.Attribute o f pos')) pos.line X.env = pure false) : WS X F (.Assign [.Attribute o f pos'] e pos) δ η nx rt bk ct := fun xt m σ H E ab eo =>
  wps_of (ps_fld pe_wp pe_wp hs) (h xt m σ H _ ab fun v m1 H1 x η1 ab1 e1 r1 q1 => q1 xt m1 σ H1 _ ab1 fun w m2 H2 y η2 ab2 e2 r2 ⟨k, C, fs, η3, ey, hk, hc, hf, hl, hw, q⟩ => by
    subst ey
    obtain ⟨a, ho, hm, rfl, eH, rO⟩ := ab2.at_h hk r2
    unfold RepO at rO
    obtain ⟨dx, fv, rfl, rf⟩ := rO
    obtain ⟨hlt, rfl⟩ := wrH_eq hw
    refine ⟨a, C, dx, fv, rfl, eH, hc.c, hf.n, by rw [repfa_len rf]; exact hl, eo.nx m2 σ _ δ _ (ab2.set hm (atH_ok hk) fun L' m' H' kp pr => ?_) q⟩
    unfold RepO
    exact ⟨dx, _, rfl, repfa_put (kp.a pr (e2.a r1)) (kp.fa pr rf)⟩)
/-! ### C(..) -/
theorem made_abs {m : List Addr} {σ : L2.St} {H : Hp} {C x dx : Addr} {K : PySem.W.Frag} (ab : Abs K F m σ H δ η) (nx : H x = none) (nd : H dx = none) (ne : dx ≠ x) :
    Abs K F (m ++ [x]) σ (upd (upd H dx (.own x)) x (.ins C dx [])) δ (η ++ [some (.ins C [])]) ∧ Ext m H η (m ++ [x]) (upd (upd H dx (.own x)) x (.ins C dx [])) (η ++ [some (.ins C [])]) := by
  have a1 := ab.new (ho := .own x) nd
  have e1 := ext_new (ho := .own x) ab.toAbsH nd
  have nx' : upd H dx (.own x) x = none := by rw [upd_ne (Ne.symm ne)]; exact nx
  refine ⟨a1.newH nx' fun L' m' H' kp pr => ?_, e1.trans (ext_newH a1.toAbsH nx')⟩
  unfold RepO
  exact ⟨dx, [], rfl, repfa_nil.mpr rfl⟩
theorem run_mk {C f : Addr} {fd : FuncData} {ps ks : List Str} {k n : Nat} {S : Spec} {g : List Value → List Value → List Value} {gV : List V → List V → List V} {gA : List A → List A → List A} {pins : List (Addr × Obj)} {σ : L2.St} {H : Hp} {s : Shared} {R : VK} {us ws : List Value} {vs zs : List V} {xs ys : List A} {m : List Addr}
    (M : Mk X.K C f) (G0 : FnOk X.prog X.w X.K X.mg X.base (L2.CX X.prog X.w) k f fd ps (spOf X.K S)) (hr : Room (k + 1) X.A) (hb : KBn X.K fd ps (n + 1) ks g gV)
    (kr : ∀ (L : Addr → Prop) (m : List Addr) (H : Hp) (a b : List V) (c d : List A), RepAs X.K L m H a c → RepAs X.K L m H b d → RepAs X.K L m H (gV a b) (gA c d)) (xt : XT X F) (hI : Inv X pins σ H s) (r : Vals vs us) (rz : Vals zs ws)
    (ab : Abs X.K F m σ H δ η) (rx : RepAs X.K (Lv F.Z m η) m H vs xs) (ry : RepAs X.K (Lv F.Z m η) m H zs ys) (l1 : xs.length = n) (l2 : ys.length = ks.length)
    (h : CallA F δ S (gA (.h η.length :: xs) ys) (η ++ [some (.ins C [])]) fun a η' => a = .d .non ∧ Q (.h η.length) η') (po : Pst X.K F m σ H δ η Q R) : wpAny (model X.prog X.w) X.A (call (.ref C) us (ks.zip ws)) (EP X pins σ R) X.xe s := by
  have I2 := Inv.made (C := C) hI
  obtain ⟨a2, e2⟩ := made_abs (C := C) ab (hI.hok.fresh (Nat.le_succ s.heap.objs.size)) (hI.hok.fresh (Nat.le_refl s.heap.objs.size)) (Nat.ne_of_lt (Nat.lt_succ_self _))
  generalize hH2 : upd (upd H s.heap.objs.size (.own (s.heap.objs.size + 1))) (s.heap.objs.size + 1) (.ins C s.heap.objs.size []) = H2 at a2 e2 I2
  have hm : (m ++ [s.heap.objs.size + 1])[η.length]? = some (s.heap.objs.size + 1) := by rw [← ab.len]; simp
  have rs := kr _ _ _ (V.ref (s.heap.objs.size + 1) :: vs) zs _ _ (reps_cons.mpr ⟨_, _, rfl, rep_h.mpr ⟨_, hm, rfl⟩, e2.as rx⟩) (e2.as ry)
  have h3 := sp_A (R := fun v H' => v = .non ∧ R (.ref (s.heap.objs.size + 1)) H') a2 rs h fun v m' H' a η' b1 b2 b3 ⟨q1, q2⟩ => by
    subst q1
    exact ⟨rep_non.mp b3, po _ m' H' _ η' b1 (e2.trans b2) (rep_h.mpr ⟨_, pre_get b2.pre hm, rfl⟩) q2⟩
  have n1 : (Value.ref (s.heap.objs.size + 1) :: us).length = n + 1 := by rw [List.length_cons, ← r.length, rx.length, l1]
  have r2 := hb.rel (vs := V.ref (s.heap.objs.size + 1) :: vs) (us := Value.ref (s.heap.objs.size + 1) :: us) (.cons rfl r) rz
  refine wpAny_call (make_map (f := f) hI.kIn M.makes M.init (beq_iff_eq.mp M.fn) (codeAny_mono (G0.run _ X.stack _ _ ⟨Value.ref (s.heap.objs.size + 1) :: us, ks.zip ws⟩ _ _ _ _ (hr.make C us (ks.zip ws))
    (I2.env0.make C us (ks.zip ws)) (hb.to _ (Value.ref (s.heap.objs.size + 1) :: us) ws I2.kIn n1 (by rw [← rz.length, ry.length, l2])) r2 h3) fun r s' hq' => ?_))
  cases r with
  | error e => exact call_xe xt I2 (fun _ _ _ h => h) hq'
  | ok fl =>
    cases fl with
    | ret u =>
      obtain ⟨v, H', I3, rv, ev, q3⟩ := I2.after hq'
      subst ev
      exact ⟨rv, ⟨V.ref (s.heap.objs.size + 1), H', I3, rfl, q3⟩⟩
    | next => exact False.elim hq'
    | brk => exact False.elim hq'
    | cont => exact False.elim hq'
/-- the keywords' values -/
def WK (X : Cx) (F : Fr0) (kws : List Keyword) (δ : Sl) (η : Hs) (Q : List A → Hs → Prop) : Prop :=
  ∃ t, PK X kws t ∧ (XT X F → ∀ (m : List Addr) (σ : L2.St) (H : Hp) (R : List V → Hp → Prop), Abs X.K F m σ H δ η → PstL X.K F m σ H δ η Q R → t σ H R)
theorem wk_nil {Q : List A → Hs → Prop} (q : Q [] η) : WK X F [] δ η Q := ⟨_, pk_nil, fun xt m σ H R ab po => po [] m H [] η ab .refl (reps_nil.mpr rfl) q⟩
def tK (X : Cx) (kws : List Keyword) : TA := fun σ H R => ∃ t, PK X kws t ∧ t σ H R
theorem pk_wp {kws : List Keyword} : PK X kws (tK X kws) := ⟨fun pos pins s σ H Q hI ⟨t, h, q⟩ => h.run pos pins s σ H Q hI q⟩
theorem WK.go {kws : List Keyword} {Q : List A → Hs → Prop} (h : WK X F kws δ η Q) (xt : XT X F) {m : List Addr} {σ : L2.St} {H : Hp} {R : List V → Hp → Prop} (ab : Abs X.K F m σ H δ η) (po : PstL X.K F m σ H δ η Q R) : tK X kws σ H R := by
  obtain ⟨t, h1, h2⟩ := h
  exact ⟨t, h1, h2 xt m σ H R ab po⟩
theorem wk_cons {e : Expr} {nm : Option Str} {kpos : Pos} {kws : List Keyword} {Q : List A → Hs → Prop} (h : W X F e δ η fun x η1 => WK X F kws δ η1 fun xs η2 => Q (x :: xs) η2) : WK X F (⟨nm, e, kpos⟩ :: kws) δ η Q :=
  ⟨_, pk_cons pe_wp pk_wp, fun xt m σ H R ab po => h xt m σ H _ ab fun v m1 H1 x η1 ab1 e1 r1 q => q.go xt ab1 fun vs m2 H2 xs η2 ab2 e2 r2 q2 => po (v :: vs) m2 H2 (x :: xs) η2 ab2 (e1.trans e2) (reps_cons.mpr ⟨v, vs, rfl, e2.a r1, r2⟩) q2⟩
theorem w_make {x : Str} {p pos : Pos} {e : Expr} {es : List Expr} {kws : List Keyword} {n k j : Nat} {ks : List Str} {C : Addr} {Sp : Spec} {gA : List A → List A → List A} [Cf : Cfg X N U S G] [rm : Rm X j] [mk : MkX X x n ks C k Sp gA] [mg : Mem x G]
    (h : WL X F (e :: es) δ η fun xs η1 => WK X F kws δ η1 fun ys η2 => xs.length = n ∧ ys.length = ks.length ∧ ∃ i η3, pushO η2 (some (.ins C [])) = some (i, η3) ∧ CallA F δ Sp (gA (.h i :: xs) ys) η3 fun a η' => a = .d .non ∧ Q (.h i) η') (hk : k + 1 ≤ j)
    (hall : (backToKw pos (keywordEach kws X.env)).all (·.1.isSome) = true) (hks : (backToKw pos (keywordEach kws X.env)).filterMap (·.1) = ks) (he : starEach (e :: es) X.env = (false, eval e X.env) :: starEach es X.env)
    (hpl : ((backTo pos (starEach (e :: es) X.env)).any (·.1) || (backToKw pos (keywordEach kws X.env)).any (·.1.isNone)) = false) : W X F (.Call (.Name x p) (e :: es) kws pos) δ η Q := by
  intro xt m σ H R ab po pins s hI
  obtain ⟨f, fd, ps, M, G0, hm, ⟨g, gV, hb, kr⟩⟩ := mk.g.ex
  refine wpAny_Call_Name_kw (ld_glob hI (Cf.gl mg.mem) hm ?_ (Cf.dbg x (List.mem_append_right _ mg.mem)).1)
  obtain ⟨t, ht, h⟩ := h
  refine PySem.W.callWith_KW (h₀ := X.base) hI.ok.mod.kin M.kp hall (thn (ht.run pos pins s σ H (fun vs H1 => ∀ (us : List Value) (s1 : Shared), Inv X pins σ H1 s1 → Vals vs us → wpAny (model X.prog X.w) X.A (evalAll ((backToKw pos (keywordEach kws X.env)).map (·.2))) (fun ws s2 => X.K.In s2.heap ∧ wpAny (model X.prog X.w) X.A (call (.ref C) us (((backToKw pos (keywordEach kws X.env)).filterMap (·.1)).zip ws)) (EP X pins σ R) X.xe s2) X.xe s1) hI
    (h xt m σ H _ ab fun vs m1 H1 xs η1 ab1 e1 r1 ⟨tk, hkw, q⟩ us s1 I1 ru => thn (hkw.run pos pins s1 σ H1 (fun zs H2 => ∀ (ws : List Value) (s2 : Shared), Inv X pins σ H2 s2 → Vals zs ws → wpAny (model X.prog X.w) X.A (call (.ref C) us (ks.zip ws)) (EP X pins σ R) X.xe s2) I1
      (q xt m1 σ H1 _ ab1 fun zs m2 H2 ys η2 ab2 e2 r2 ⟨l1, l2, i, η3, hp, hc⟩ ws s2 I2 rw => ?_)) fun ws s2 ⟨zs, H2, I2, rw, q2⟩ => ⟨I2.kIn, by rw [hks]; exact q2 ws s2 I2 rw⟩)) fun us s1 ⟨vs, H1, I1, r, q⟩ => q us s1 I1 r) hpl he
  rw [pushO_eq] at hp
  cases hp
  exact run_mk M G0 (rm.r.mono hk) hb kr xt I2 ru rw ab2 (e2.as r1) r2 l1 l2 hc (po.after (e1.trans e2))
/-! ### o.m(..) -/
theorem w_mcall {o e : Expr} {es : List Expr} {mn : Str} {apos pos : Pos} {pl : Sem Bool} {j : Nat} [rm : Rm X j]
    (h : W X F o δ η fun x η1 => ∃ C fs k Sp, insA η1 x = some (C, fs) ∧ lookF mn fs = none ∧ MtX X C mn (es.length + 1) k Sp ∧ k ≤ j ∧ WL X F (e :: es) δ η1 fun xs η2 => CallA F δ Sp (x :: xs) η2 Q)
    (hst : starEach (e :: es) X.env = (false, eval e X.env) :: starEach es X.env) (hpl : (backTo pos (starEach es X.env)).any (·.1) = false)
    (ht : eval (.Call (.Attribute o mn apos) (e :: es) [] pos) X.env = (do
      let ov ← eval o X.env
      standAt apos.atName
      let (f, first) ← holding [ov] (getMethod ov mn pl)
      callWith pos f first (backTo pos (starEach (e :: es) X.env)) (backToKw pos (keywordEach [] X.env)))) : W X F (.Call (.Attribute o mn apos) (e :: es) [] pos) δ η Q := by
  intro xt m σ H R ab po pins s hI
  refine PySem.W.methodCall_KW (pl := pl) (thn (h xt m σ H (fun v H1 => ∀ (u : Value) (s1 : Shared), Inv X pins σ H1 s1 → RelV v u → wpAny (model X.prog X.w) X.A (getMethod u mn pl) (fun fx s2 => wpAny (model X.prog X.w) X.A (callWith pos fx.1 fx.2 (backTo pos (starEach (e :: es) X.env)) (backToKw pos (keywordEach [] X.env))) (EP X pins σ R) X.xe s2) X.xe s1) ab
    (fun v m1 H1 x η1 ab1 e1 r1 ⟨C, fs, k, Sp, hi, hl, mt, hk, q⟩ u s1 I1 ru => ?_) pins s hI) fun u s1 ⟨v, H1, I1, ru, q⟩ => q u s1 I1 ru) ht
  obtain ⟨f, fd, ps, hc, hm, G0, hb⟩ := mt.g.ex
  obtain ⟨a, dx, fv, rfl, eH, rf⟩ := insA_ok ab1 hi r1
  obtain rfl : u = Value.ref a := ru
  refine getmeth_ok I1 eH hc hm ((repfa_look rf).2 hl) ?_
  obtain ⟨t, ha, q⟩ := q
  refine PySem.W.callWith_K (first := [.ref a]) (h₀ := X.base) I1.ok.mod.kin hm.kp (thn (ha.run pos pins s1 σ H1 (fun vs H2 => ∀ (us : List Value) (s2 : Shared), Inv X pins σ H2 s2 → Vals vs us → wpAny (model X.prog X.w) X.A (PySem.call (.ref f) (.ref a :: us)) (EP X pins σ R) X.xe s2) I1
    (q xt m1 σ H1 _ ab1 fun vs m2 H2 xs η2 ab2 e2 r2 hc us s2 I2 rus => ?_)) fun us s2 ⟨vs, H2, I2, r, q2⟩ => ⟨I2.kIn, q2 us s2 I2 r⟩) hst hpl
  exact run_A (vs := V.ref a :: vs) G0 (rm.r.mono hk) hb .nil xt I2 (.cons rfl rus) ab2 (by rw [List.append_nil]; exact reps_cons.mpr ⟨_, _, rfl, e2.a r1, r2⟩) hc (po.after (e1.trans e2))
theorem w_mcall0 {o : Expr} {mn : Str} {apos pos : Pos} {pl : Sem Bool} {j : Nat} [rm : Rm X j]
    (h : W X F o δ η fun x η1 => ∃ C fs k Sp, insA η1 x = some (C, fs) ∧ lookF mn fs = none ∧ MtX X C mn 0 k Sp ∧ k ≤ j ∧ CallA F δ Sp [x] η1 Q)
    (ht : eval (.Call (.Attribute o mn apos) [] [] pos) X.env = (do
      let ov ← eval o X.env
      standAt apos.atName
      let (f, first) ← holding [ov] (getMethod ov mn pl)
      callWith pos f first (backTo pos (starEach [] X.env)) (backToKw pos (keywordEach [] X.env)))) : W X F (.Call (.Attribute o mn apos) [] [] pos) δ η Q := by
  intro xt m σ H R ab po pins s hI
  refine PySem.W.methodCall_KW (pl := pl) (thn (h xt m σ H (fun v H1 => ∀ (u : Value) (s1 : Shared), Inv X pins σ H1 s1 → RelV v u → wpAny (model X.prog X.w) X.A (getMethod u mn pl) (fun fx s2 => wpAny (model X.prog X.w) X.A (callWith pos fx.1 fx.2 (backTo pos (starEach [] X.env)) (backToKw pos (keywordEach [] X.env))) (EP X pins σ R) X.xe s2) X.xe s1) ab
    (fun v m1 H1 x η1 ab1 e1 r1 ⟨C, fs, k, Sp, hi, hl, mt, hk, q⟩ u s1 I1 ru => ?_) pins s hI) fun u s1 ⟨v, H1, I1, ru, q⟩ => q u s1 I1 ru) ht
  obtain ⟨f, fd, ps, hc, hm, G0, hb⟩ := mt.g.ex
  obtain ⟨a, dx, fv, rfl, eH, rf⟩ := insA_ok ab1 hi r1
  obtain rfl : u = Value.ref a := ru
  refine getmeth_ok I1 eH hc hm ((repfa_look rf).2 hl) ?_
  exact PySem.W.callWith_K0 (first := [.ref a]) I1.kIn hm.kp (run_A (us := [.ref a]) (vs := [V.ref a]) G0 (rm.r.mono hk) hb .nil xt I1 (.cons rfl .nil) ab1 (by rw [List.append_nil]; exact reps_cons.mpr ⟨_, _, rfl, r1, reps_nil.mpr rfl⟩) q (po.after e1))
/-! ### a new object becomes pure data -/
theorem ndN_of : ∀ {ix : List Nat}, ix.Nodup → ndN ix = true
  | [], _ => rfl
  | i :: r, h => by
    obtain ⟨h1, h2⟩ := List.nodup_cons.mp h
    unfold ndN
    rw [ndN_of h2]
    simp [h1]
theorem subM_range {m r : List Addr} : subM (List.range m.length) (m ++ r) = m := by
  unfold subM
  apply List.ext_getElem
  · simp
  · intro i h1 h2
    simp only [List.getElem_map, List.getElem_range]
    rw [List.getD_eq_getElem?_getD, List.getElem?_append_left h2, List.getElem?_eq_getElem h2]
    rfl
theorem w_frzd {e : Expr} (h : W X F e δ η fun x η1 => ∃ k o d η2, x = .h k ∧ atH η1 k = some o ∧ pureO o = some d ∧ frzSl k d δ = δ ∧ keepH (List.range η.length) (frzH k d 0 η1) (List.range η.length) = some η2 ∧ renSl (posN (List.range η.length)) δ = δ ∧ Q (.d d) η2) : W X F e δ η Q := fun xt m σ H R ab po =>
  h xt m σ H R ab fun v m1 H1 x η1 ab1 e1 r1 ⟨k, o, d, η2, ex, hk, hd, hs1, hk2, hs2, q⟩ => by
    subst ex
    have a2 := ab1.frz (atH_ok hk) hd
    obtain ⟨_, e2, r2⟩ := ab1.toAbsH.frz (atH_ok hk) hd
    have r3 := r2 r1
    unfold frzA at r3
    rw [if_pos rfl] at r3
    rw [hs1] at a2
    have hpre : preN η.length (List.range η.length) = true := by
      unfold preN
      rw [List.take_of_length_le (by simp)]
      simp
    have hnd : ndN (List.range η.length) = true := ndN_of List.nodup_range
    have hF : F.m.length ≤ η.length := by
      obtain ⟨r, e⟩ := ab.pre
      rw [← ab.len, e, List.length_append]
      omega
    obtain ⟨a3, rn, k3⟩ := a2.tidy hnd hk2 hpre hF
    rw [hs2] at a3
    refine po v _ H1 (.d d) η2 a3 ⟨?_, (e1.trans e2).kp.trans k3⟩ (rn r3 rfl) q
    have hl : m.length = η.length := ab.len
    obtain ⟨r, er⟩ := (e1.trans e2).pre
    exact ⟨[], by rw [List.append_nil, er, ← hl]; exact subM_range⟩
/-! ### own == -/
structure GEq (P : Program) (w : World) (K : PySem.W.Frag) (mg : Str → Option Value) (base : Heap) (C : Addr) (k : Nat) (S : Spec) : Prop where
  ex : ∃ (f : Addr) (fd : FuncData) (ps : List Str), PySem.W.findIn K (.ref C) "__eq__" = some (some (.ref f)) ∧ PySem.W.isFn K (.ref f) = true ∧ FnOk P w K mg base (L2.CX P w) k f fd ps (spOf K S) ∧ Binds K fd ps []
class EqX (X : Cx) (C : Addr) (k : outParam Nat) (S : outParam Spec) : Prop where
  g : GEq X.prog X.w X.K X.mg X.base C k S
instance low_eq {X Y : Cx} {C : Addr} {k : Nat} {S : Spec} [l : LowS X Y] [r : EqX X C k S] : EqX Y C k S := ⟨by rw [l.prog, l.w, l.K, l.mg, l.base]; exact r.g⟩
theorem spOf_mono {K : PySem.W.Frag} {S : Spec} {vs : List V} {H : Hp} {R R' : VK} {E E' : XK} (h : spOf K S vs H R E) (h1 : ∀ v H', R v H' → R' v H') (h2 : ∀ c d H', E c d H' → E' c d H') : spOf K S vs H R' E' := by
  obtain ⟨Z, m, η, xs, Q, EQ, a, r, q, q1, q2⟩ := h
  exact ⟨Z, m, η, xs, Q, EQ, a, r, q, fun a η' z v m' H' b1 b2 b3 => h1 _ _ (q1 a η' z v m' H' b1 b2 b3), fun x z m' H' dx fv b1 b2 b3 b4 b5 => h2 _ _ _ (q2 x z m' H' dx fv b1 b2 b3 b4 b5)⟩
def Fr0.mute (F : Fr0) : Fr0 := { F with EX := fun _ _ => False }
theorem Abs.mute {K : PySem.W.Frag} {m : List Addr} {σ : L2.St} {H : Hp} (ab : Abs K F m σ H δ η) : Abs K F.mute m σ H δ η := ⟨ab.toAbsH, ab.sl, ab.slot, ab.fr, ab.pre⟩
theorem Abs.unmute {K : PySem.W.Frag} {m : List Addr} {σ : L2.St} {H : Hp} (ab : Abs K F.mute m σ H δ η) : Abs K F m σ H δ η := ⟨ab.toAbsH, ab.sl, ab.slot, ab.fr, ab.pre⟩
/-- it lets nothing out -/
theorem sp_quiet {S : Spec} {σ : L2.St} {H : Hp} {R : VK} {vs : List V} {xs : List A} {m : List Addr} (ab : Abs X.K F m σ H δ η) (rx : RepAs X.K (Lv F.Z m η) m H vs xs) (h : CallA F.mute δ S xs η Q) (po : Pst X.K F m σ H δ η Q R) : spOf X.K S vs H R (fun _ _ _ => False) :=
  spOf_mono (sp_A (F := F.mute) ab.mute rx h fun v m' H' a η' b1 b2 b3 q => po v m' H' a η' b1.unmute b2 b3 q) (fun _ _ q => q) fun c d H' ⟨_, _, _, _, _, f⟩ => f
def rEqO (X : Cx) (C : Addr) (S : Spec) : R2 := fun x y H R => ∃ a dx fv t, x = .ref a ∧ H a = some (.ins C dx fv) ∧ TyX X.K H y t ∧ PySem.W.notFirst X.K C t = true ∧ spOf X.K S [x, y] H (fun v H' => (∃ b, v = .bl b) ∧ R v H') fun _ _ _ => False
theorem cx_false {P : Program} {w : World} {outer : List Env} {H : Hp} {s : Shared} {u : Value} {s' : Shared} (h : L2.CX P w outer H s (fun _ _ _ => False) u s') : False := by
  obtain ⟨_, _, _, _, _, _, _, _, _, _, _, _, f⟩ := h
  exact f
theorem op_eqO {C : Addr} {k : Nat} {S : Spec} (g : GEq X.prog X.w X.K X.mg X.base C k S) (hr : Room k X.A) : OpR X (compareOp .Eq) (rEqO X C S) := by
  obtain ⟨f, fd, ps, hs, hf, G0, hb⟩ := g.ex
  intro pins s σ H x y v u Q hI rx ry ⟨a, dx, fv, t, ex, ea, ty, nf, hsp⟩
  subst ex
  obtain rfl : v = Value.ref a := rx
  show wpAny (model X.prog X.w) X.A (richCompare .Eq (.ref a) u) (EP X pins σ Q) X.xe s
  obtain ⟨mA, J, _⟩ := ins_get hI.hok ea
  obtain ⟨od, J, _⟩ := J.look
  obtain ⟨m, hF⟩ := hI.fr
  obtain ⟨P, Z, p, _⟩ := kit_of hI ry ty
  refine PySem.W.cmp_K (op := .Eq) (tb := t) hr.units0 hF hI.ok.mod.kin J (Z.ty _ _ hI.kIn p) nf hs hf ?_
  have hl := G0.len _ _ _ _ hsp
  refine wpAny_call (codeAny_mono (G0.run X.A X.stack s H ⟨[.ref a, u], []⟩ [.ref a, u] [.ref a, y] _ _ hr hI.env0 (by
    have := hb s [.ref a, u] hI.kIn (by simpa using hl)
    simpa using this) (.cons rfl (.cons ry .nil)) hsp) fun r s' hq => ?_)
  cases r with
  | error e => exact (cx_false hq).elim
  | ok fl =>
    cases fl with
    | ret w =>
      obtain ⟨z, H', I', rz, ⟨b, ez⟩, q⟩ := hI.after hq
      subst ez
      cases rz
      exact ⟨.bl b, H', I', rfl, q⟩
    | next => exact False.elim hq
    | brk => exact False.elim hq
    | cont => exact False.elim hq
/-- an instance of the class: its type -/
class InsK (X : Cx) (C : Addr) : Prop where
  cl : Cls X.K C
  ha : PySem.W.findIn X.K (.ref C) "__class__" = some (some (.builtin "object.__class__"))
  hn : PySem.W.specialIn X.K (.builtin "object.__class__") "__get__" = some (some (.builtin "getset_descriptor.__get__"))
  ht : PySem.W.takesIn X.K (.builtin "object.__class__") = some true
  hm : PySem.W.mroIn X.K C (.type "object") = some true
instance low_insK {X Y : Cx} {C : Addr} [l : LowS X Y] [r : InsK X C] : InsK Y C := ⟨by rw [l.K]; exact r.cl, by rw [l.K]; exact r.ha, by rw [l.K]; exact r.hn, by rw [l.K]; exact r.ht, by rw [l.K]; exact r.hm⟩
instance cls_insK {X : Cx} {C : Addr} [r : InsK X C] : ClsI X C := ⟨r.cl⟩
/-- the type of a value, as a value of the model -/
def typV (η : Hs) (x : A) : Option Value := match insA η x with
  | some (C, _) => some (.ref C)
  | none => match typA η x with
    | some T => some (.type T)
    | none => none
/-- its class is known -/
def clsOk (X : Cx) (η : Hs) (x : A) : Prop := match insA η x with
  | some (C, _) => InsK X C
  | none => True
theorem typV_ok {m : List Addr} {σ : L2.St} {H : Hp} {x : A} {v : V} {t : Value} (ab : Abs X.K F m σ H δ η) (h : typV η x = some t) (hc : clsOk X η x) (r : RepA X.K (Lv F.Z m η) m H v x) : TyX X.K H v t := by
  unfold typV at h
  unfold clsOk at hc
  cases e : insA η x with
  | some p =>
    obtain ⟨C, fs⟩ := p
    rw [e] at h hc
    cases h
    obtain ⟨a, dx, fv, rfl, eH, _⟩ := insA_ok ab e r
    exact .base (.ins eH hc.cl hc.ha hc.hn hc.ht hc.hm)
  | none =>
    rw [e] at h
    cases e2 : typA η x with
    | none => rw [e2] at h; cases h
    | some T =>
      rw [e2] at h
      cases h
      exact typA_ok ab e2 r
/-- isinstance(x, C) -/
class KitI (X : Cx) (t c : Value) (b : outParam Bool) : Prop where
  k : PySem.W.kitOne X.K t c = some b
instance low_kit {X Y : Cx} {t c : Value} {b : Bool} [l : LowS X Y] [r : KitI X t c b] : KitI Y t c b := ⟨by rw [l.K]; exact r.k⟩
instance kit_self {X : Cx} {t : Value} : KitI X t t true := ⟨by
  unfold PySem.W.kitOne
  rw [if_pos (by cases t <;> simp)]⟩
theorem f_isiC {x : A} {C : Addr} {t : Value} {b : Bool} (h : typV η x = some t) (hc : clsOk X η x) (hk : KitI X t (.ref C) b) (q : Q (B b) η) : CallJ X F (.builtin "isinstance") [x, .d (.ref C)] δ η Q := fun m σ H R vs ab rr po => by
  obtain ⟨v, u, rfl, r1, r2⟩ := reps_two rr
  obtain rfl := rep_ref.mp r2
  exact ⟨_, call_isi, v, .ref C, _, _, b, rfl, .own C, typV_ok ab h hc r1, hk.k, po _ m H _ η ab .refl (rep_bl.mpr rfl) q⟩
class NfI (X : Cx) (C : Addr) (t : Value) : Prop where
  n : PySem.W.notFirst X.K C t = true
instance low_nf {X Y : Cx} {C : Addr} {t : Value} [l : LowS X Y] [r : NfI X C t] : NfI Y C t := ⟨by rw [l.K]; exact r.n⟩
instance nf_self {X : Cx} {C : Addr} : NfI X C (.ref C) := ⟨by simp [PySem.W.notFirst]⟩
theorem c_eqO {x y : A} {C : Addr} {fs : List (Str × A)} {t : Value} {k j : Nat} {S : Spec} [rm : Rm X j] [g : EqX X C k S] (hk : k ≤ j) (hx : insA η x = some (C, fs)) (hy : typV η y = some t) (hc : clsOk X η y) (hn : NfI X C t)
    (h : CallA F.mute δ S [x, y] η fun a η' => (∃ b, a = B b) ∧ Q a η') : Op2 X F (compareOp .Eq) x y δ η Q := fun m σ H R v u ab r1 r2 po => by
  obtain ⟨a, dx, fv, rfl, eH, rf⟩ := insA_ok ab hx r1
  refine ⟨_, op_eqO g.g (rm.r.mono hk), a, dx, fv, t, rfl, eH, typV_ok ab hy hc r2, hn.n, ?_⟩
  refine sp_quiet (R := fun v H' => (∃ b, v = .bl b) ∧ R v H') ab (reps_cons.mpr ⟨_, _, rfl, r1, reps_cons.mpr ⟨_, _, rfl, r2, reps_nil.mpr rfl⟩⟩) h fun z m' H' a η' b1 b2 b3 ⟨⟨b, eb⟩, q⟩ => ?_
  subst eb
  exact ⟨⟨b, rep_bl.mp b3⟩, po _ m' H' _ η' b1 b2 b3 q⟩
end
end Y
set_option Elab.async false
set_option linter.all false
set_option maxRecDepth 100000
set_option maxHeartbeats 2000000
set_option autoImplicit false
/-! super().__init__(..) in the __init__ of an exception class over ValueError -/
namespace Y
open PySem PySem.Spec PyProof.Rows L2 PySem.W
/-- the facts of such an __init__, at f -/
structure SupF (P : Program) (K : Frag) (mg : Str → Option Value) (C f : Addr) (fd : FuncData) (qual : Str) (params : Arguments) (body : List Stmt) (scope : Scope) : Prop where
  fn : ∃ oc od dV kV doc pm an cda ct cc osl vs ccl cdd ccs file tf cl cld csl cdD, fd = ksFn "__init__" qual params body scope dV kV doc pm an (.ref cda) ct cc ∧ K.lookup f = some ⟨oc, od, .func fd, osl⟩ ∧ codeIn K (.ref cda) qual = true ∧
    K.lookup cda = some ⟨ccl, cdd, .fields vs, ccs⟩ ∧ vs[2]? = some (.str file tf) ∧ ((P.main.file : Str) == file) = true ∧ K.lookup cc = some ⟨cl, cld, .cell (some (.ref C)), csl⟩ ∧ clsIn K C = some cdD
  hd : (params.posonlyargs ++ params.args).head?.map (·.arg) = some ("self" : Str)
  mro : mroIn K C (.ref C) = some true
  any : nsIn K cStatics "thirdparty.any" = some none
  sup : ks_superIn K C C "__init__" = some (some (.builtin "ValueError.__init__"))
  sub : subIn K (.ref C) (.type "ValueError") = some true
  cls : OexC K C
  mgs : mg "super" = none
  top : (P.main.scope.names.lookup ("super" : Str)).isSome = false
  sks : scope.names.lookup ("super" : Str) = some .globalImplicit
  skc : scope.names.lookup ("__class__" : Str) = some .free
  ska : scope.names.lookup ("self" : Str) = some .local
  kind : scope.kind = .function
section
variable {P : Program} {w : World} {K : Frag} {mg : Str → Option Value} {base : Heap}
/-- the statement super().__init__("..") -/
theorem sup_stmt {C f a L t0 : Addr} {fd : FuncData} {qual : Str} {params : Arguments} {body : List Stmt} {scope : Scope} {A : Around} {E : Value → Shared → Prop} {hp : Heap} {g : Array GenState} {d : Drawn} {t : Nat} {os : OsState} {m : Str → Option Value} {p0 p1 p2 p3 p4 p5 : Pos} {msg : Str} {j : Nat} {Q : Flow → Shared → Prop}
    {pl : Env → Sem Bool} (he : ∀ env, eval (.Call (.Attribute (.Call (.Name "super" p0) [] [] p1) "__init__" p2) [.Constant (.str msg) j p3] [] p4) env = (do
      let ov ← attributeBase (.Call (.Name "super" p0) [] [] p1) "__init__" env (eval (.Call (.Name "super" p0) [] [] p1) env)
      standAt p2.atName
      let (f, first) ← holding [ov] (getMethod ov "__init__" (pl env))
      callWith p4 f first (backTo p4 (starEach [.Constant (.str msg) j p3] env)) []))
    (S : SupF P K mg C f fd qual params body scope) (M : L2.Mod K mg base) (bk : ∀ b o, base.get? b = some o → hp.get? b = some o) (hns : hp.Ns L m) (hm : m "self" = some (.ref a)) (hx : hp.get? a = some (PySem.HandSPX.excO C t0))
    (hq : ∀ hp' t1 t', (∀ b o, b ≠ a → hp.get? b = some o → hp'.get? b = some o) → hp'.get? a = some (PySem.HandSPX.excO C t1) → Q .next ⟨hp', g, d, t', os⟩) :
    _root_.PySem.wpAt (model P w) A (.func body (callEnv fd L f)) (exec (.Expr (.Call (.Attribute (.Call (.Name "super" p0) [] [] p1) "__init__" p2) [.Constant (.str msg) j p3] [] p4) p5) (callEnv fd L f)) Q E ⟨hp, g, d, t, os⟩ := by
  obtain ⟨oc, od, dV, kV, doc, pm, an, cda, ct, cc, osl, vs, ccl, cdd, ccs, file, tf, cl, cld, csl, cdD, rfl, lk, hcd, lc, hvs, hfile, lcc, hcls⟩ := S.fn
  have kX : K.In hp := fun b o e => bk b o (M.kin b o e)
  obtain ⟨ar, har, hav⟩ : ∃ ar : Arg, (params.posonlyargs ++ params.args).head? = some ar ∧ ar.arg = ("self" : Str) := by
    have := S.hd
    cases e : (params.posonlyargs ++ params.args).head? with
    | none => rw [e] at this; cases this
    | some ar => rw [e] at this; exact ⟨ar, rfl, Option.some.inj this⟩
  obtain ⟨oD, hD1, hD2⟩ : ∃ oD, hp.get? C = some oD ∧ oD.data = .cls cdD := by
    unfold clsIn at hcls
    split at hcls
    · rename_i c d cd' sl ho
      cases hcls
      exact ⟨_, kX _ _ ho, rfl⟩
    · cases hcls
  have hint : interactive (callEnv (ksFn "__init__" qual params body scope dV kV doc pm an (.ref cda) ct cc) L f) = false := by
    have : (callEnv (ksFn "__init__" qual params body scope dV kV doc pm an (.ref cda) ct cc) L f).scope.kind = .function := S.kind
    unfold interactive
    rw [this]
    rfl
  refine ks_wpAt_Expr_any (ks_wpAt_MethodCall ?_ (he _)) hint rfl
  refine ks_wpAt_super_base (env := callEnv (ksFn "__init__" qual params body scope dV kV doc pm an (.ref cda) ct cc) L f) S.sks S.skc (by decide) rfl (kX _ _ lk) rfl har rfl (kX _ _ lc) rfl hvs hfile S.top ?_
  obtain ⟨mb, hb1, hb2⟩ := M.blt
  refine ks_loadName_global S.kind S.sks (Calls.loadGlobal_builtin (M.glob.keeps bk) S.mgs (hb1.keeps bk) ((hb2 _ (by decide)).trans (by decide +kernel : bootBuiltins "super" = some (.type "super"))) ⟨rfl, ?_⟩)
  refine wpAny_loadName_free S.kind S.skc rfl ⟨_, kX _ _ lcc, rfl⟩ ?_
  rw [hav]
  refine wpAny_loadName_local S.kind S.ska hns hm ?_
  refine ks_wpAny_isType_cls hD1 hD2 ⟨rfl, ?_⟩
  have hin : ∀ c, (PySem.HandSPX.excO C t0).data ≠ .cls c := fun c e => by cases e
  refine ks_wpAny_call_super hD1 hD2 hx rfl hin (looks_mroIn kX S.mro) fun h1 e1 k1 => ?_
  -- its method
  have kX1 : K.In h1 := fun b o e => k1 b o (kX b o e)
  have hx1 := k1 _ _ hx
  have I1 : InstAt h1 a (PySem.HandSPX.excO C t0) C none := ⟨hx1, rfl, rfl, trivial⟩
  have hI : Looks (model P w) h1 (isInstance (.ref a) (.type "ValueError")) true := I1.type.andThen (looks_subIn kX1 S.sub)
  have hsup := S.sup
  unfold ks_superIn at hsup
  rw [hcls] at hsup
  refine kxs_getMethod kxs_ValueError e1 (looks_opaque kX1 S.any) (l₀ := cdD.mro) ?_ rfl kX1 hsup hI (ks_ne kX1 I1 hcls) (by decide) ?_
  · exact fun A Q E s k q => wpAny_bind ((looks_clsIn kX1 hcls) A _ E s k (wpAny_pure q))
  have e2 : (h1.push (kxs_mw "ValueError.__init__" a)).get? h1.objs.size = some (kxs_mw "ValueError.__init__" a) := Heap.get?_push_size _ rfl
  have hx2 : (h1.push (kxs_mw "ValueError.__init__" a)).get? a = some (PySem.HandSPX.excO C t0) := Heap.get?_push_of_some _ hx1
  refine kxs_callWith (i := "ValueError.__init__") (x := a) rfl (Calls.evalArgs_plain ?_)
  show wpAny _ _ (spliced (backTo p4 (starEach [.Constant (.str msg) j p3] _))) _ _ _
  refine PyProof.Rows.spliced_more (wpAny_Constant_str ?_) rfl
  refine PyProof.Rows.spliced_none ⟨e2, ?_⟩
  -- the call
  obtain ⟨nm, q, N, bs, bm, sn, sub, ab, col, dd, k0, k1', k2, k3, k5, hC, hbm⟩ := S.cls.cls
  have hC2 : (h1.push (kxs_mw "ValueError.__init__" a)).get? C = _ := Heap.get?_push_of_some _ (kX1 _ _ hC)
  refine wpAny_call (codeAny_of_tree ?_)
  show wpAny _ A.in1 (callAny (.ref h1.objs.size) ⟨[_], []⟩) _ _ _
  simp only [callAny]
  refine wpAny_bind (wpAny_load e2 ?_)
  simp only [kxs_mw, show (Value.type "method-wrapper" == Value.type "method" || Value.type "method-wrapper" == Value.type "builtin_function_or_method" || Value.type "method-wrapper" == Value.type "method-wrapper") = true by decide, if_true]
  refine KFB.if_so (by decide) ?_
  refine wpAny_bind (check_bound_init F.excBase_ValueError.toExcCallFacts hC2 hx2 rfl ?_)
  refine wpAny_bind (wpAny_pure (wpAny_pure ?_))
  refine ⟨plainId_quiet F.excBase_ValueError.init.plain _, codeAny_builtin F.excBase_ValueError.initEntry ?_⟩
  refine exc_init_tree (cls := .ref C) (t0 := t0) (dv := none) (c2 := .none) (c3 := .none) (b4 := .bool false) hx2 (by rw [sizeLine_eq]; show 1 ≤ 16777216; decide) fun h3 k3' e3 _ => ?_
  exact hq h3 _ _ (fun b o hb e => k3' b o hb (Heap.get?_push_of_some _ (k1 b o e))) e3
/-- what it promises -/
def spSup (C : Addr) (fld : Str) : Sp := fun vs H Q _ => ∃ a y, vs = [.ref a, y] ∧ H a = some (exo a C none) ∧ ∀ d, H d = none → d ≠ a → Q .non (upd (upd H d (exd d [(fld, y)])) a (exo a C (some d)))
/-- the heap behind: the exception has a dict -/
theorem sup_end {H : Hp} {h hp h' : Heap} {a C dx t1 : Addr} {fs : List Addr} {fld : Str} {y : V} {u : Value} (hok : HOk P w H h) (ea : H a = some (exo a C none)) (k : ∀ b o, b ≠ a → h.get? b = some o → hp.get? b = some o) (hx : hp.get? a = some (PySem.HandSPX.excO C t1))
    (k' : ∀ b o, b ≠ a → hp.get? b = some o → h'.get? b = some o) (dn : hp.objs.size ≤ dx) (hx' : h'.get? a = some ({ cls := .ref C, dict := some dx, data := .fields #[.ref t1, .none, .none, .none, .bool false, .none] } : Obj)) (hn : h'.Ns1 dx (fun z => if z = fld then some u else none)) (ry : RelV y u) :
    H dx = none ∧ dx ≠ a ∧ Un fs [] H (upd (upd H dx (exd dx [(fld, y)])) a (exo a C (some dx))) h h' ∧ HOk P w (upd (upd H dx (exd dx [(fld, y)])) a (exo a C (some dx))) h' := by
  have hne : dx ≠ a := fun z => by
    have := Heap.lt_size hx
    rw [← z] at this
    exact absurd this (Nat.not_lt.mpr dn)
  have ltA : ∀ {b : Addr} {o : Obj}, h.get? b = some o → b ≠ dx := fun {b o} q z => by
    by_cases hb : b = a
    · exact hne (z ▸ hb)
    · have := Heap.lt_size (k b o hb q)
      rw [z] at this
      exact absurd this (Nat.not_lt.mpr dn)
  have hnd : H dx = none := hok.gone (by
    cases e : h.get? dx with
    | none => rfl
    | some o => exact absurd rfl (ltA e))
  have na : ∀ {b : Addr}, H b = none → b ≠ a := fun {b} n z => by
    rw [z, ea] at n
    cases n
  refine ⟨hnd, hne, ⟨fun b o q n _ _ => k' b o (na n) (k b o (na n) q), fun b o q n _ _ => ⟨o.slots, k' b o (na n) (k b o (na n) q)⟩, fun b o q n _ => ?_, fun b o q _ => ?_, fun b xs q => ?_, fun b o v q => ?_, fun b ps q => ?_⟩, fun b o q => ?_⟩
  · rw [upd_ne (na n), upd_ne (ltA q)]; exact n
  · by_cases hb : b = a
    · exact ⟨_, by rw [hb]; exact hx'⟩
    · exact ⟨o, k' b o hb (k b o hb q)⟩
  · rw [upd_ne (at_ne ea q exo_tup), upd_ne (ne_of_none q hnd)]; exact q
  · rw [upd_ne (at_ne ea q exo_frz), upd_ne (ne_of_none q hnd)]; exact q
  · exact ⟨#[], by rw [upd_ne (at_ne ea q exo_tbl), upd_ne (ne_of_none q hnd), q]; simp⟩
  · by_cases hb : b = a
    · subst hb
      rw [upd_same] at q
      cases q
      exact exo_ok hx'
    · rw [upd_ne hb] at q
      by_cases hd : b = dx
      · subst hd
        rw [upd_same] at q
        cases q
        exact exd_ok hn (relO_put (fs := []) ry fun g => True.intro)
      · rw [upd_ne hd] at q
        refine (hok b o q).stay (fun c v hc z => ?_) (fun c hc => ?_) fun c xs hc => ?_
        · have hca : c ≠ a := hc.elim (fun e => e ▸ hb) fun e => at_ne ea e exo_own
          exact k' c v hca (k c v hca z)
        · rw [upd_ne (at_ne ea hc exo_own), upd_ne (ne_of_none hc hnd)]; exact hc
        · rw [upd_ne (at_ne ea hc exo_tup), upd_ne (ne_of_none hc hnd)]; exact hc
theorem sup_ok {C f : Addr} {fd : FuncData} {qual : Str} {params : Arguments} {body : List Stmt} {scope : Scope} {x fld : Str} {p0 p1 p2 p3 p4 p5 q0 q1 q2 q3 : Pos} {msg : Str} {j : Nat}
    {pl : Env → Sem Bool} (he : ∀ env, eval (.Call (.Attribute (.Call (.Name "super" p0) [] [] p1) "__init__" p2) [.Constant (.str msg) j p3] [] p4) env = (do
      let ov ← attributeBase (.Call (.Name "super" p0) [] [] p1) "__init__" env (eval (.Call (.Name "super" p0) [] [] p1) env)
      standAt p2.atName
      let (f, first) ← holding [ov] (getMethod ov "__init__" (pl env))
      callWith p4 f first (backTo p4 (starEach [.Constant (.str msg) j p3] env)) []))
    (hb : body = [.Expr (.Call (.Attribute (.Call (.Name "super" p0) [] [] p1) "__init__" p2) [.Constant (.str msg) j p3] [] p4) p5, .Assign [.Attribute (.Name "self" q0) fld q1] (.Name x q2) q3])
    (S : SupF P K mg C f fd qual params body scope) (hx : scope.names.lookup x = some .local) (hxs : x ≠ "self") (hcell : ∀ y ∈ scope.names, y.2 ≠ .cell) (hco : scope.isCoroutine = false) (hgen : scope.isGenerator = false) (hdb : (x == ("__debug__" : Str)) = false)
    (hfl : PySem.W.findIn K (.ref C) fld = some none) : FnOk P w K mg base (L2.CX P w) 1 f fd ["self", x] (spSup C fld) := by
  refine ⟨fun vs H Q E ⟨a, y, e, _⟩ => by subst e; rfl, fun A outer s H args us vs Q E hr e0 hbind r hsp => ?_⟩
  obtain ⟨a, y, rfl, ea, q⟩ := hsp
  obtain ⟨u0, u, rfl, r0, ru⟩ := vals2 r
  obtain rfl : u0 = Value.ref a := r0
  have hS := S
  obtain ⟨oc, od, dV, kV, doc, pm, an, cda, ct, cc, osl, vs, ccl, cdd, ccs, file, tf, cl, cld, csl, cdD, rfl, lk, hcd, _⟩ := S.fn
  have KX : K.In s.heap := e0.mod.kin.keeps fun b o e => (e0.bs b o e).1
  have lim : s.heap.NoLimit := e0.mod.nolimit.keeps fun b o e => (e0.bs b o e).1
  have hla : H a = some (exo a C none) := ea
  obtain ⟨t0, hxa⟩ := exo_at e0.hok ea
  refine ks_codeAny_call_defAt hr.depth (KX _ _ lk) rfl lim (PySem.W.codeRec_of KX hcd) rfl hbind hcell (fun z hz => ?_) (fun h₀ hns hk => ?_) hco hgen S.kind
  · rcases (show z = (("self" : Str), Value.ref a) ∨ z = (x, u) by simpa using hz) with rfl | rfl
    · exact S.ska
    · exact hx
  · generalize henv : callEnv (ksFn "__init__" qual params body scope dV kV doc pm an (.ref cda) ct cc) s.heap.objs.size f = env
    have bk : ∀ b o, base.get? b = some o → h₀.get? b = some o := fun b o e => hk b o (e0.bs b o e).1
    have m1 : ((([("self" : Str), x]).zip [Value.ref a, u]).reverse).lookup ("self" : Str) = some (Value.ref a) := by
      show [(x, u), (("self" : Str), Value.ref a)].lookup ("self" : Str) = _
      have : (("self" : Str) == x) = false := by simpa using fun z => hxs z.symm
      simp [List.lookup, this]
    have m2 : ((([("self" : Str), x]).zip [Value.ref a, u]).reverse).lookup x = some u := by
      show [(x, u), (("self" : Str), Value.ref a)].lookup x = _
      simp [List.lookup]
    subst hb
    refine ks_wpAt_execs_cons ?_
    subst henv
    refine sup_stmt he hS e0.mod bk hns m1 (hk _ _ hxa) fun hp t1 t' k1 hx1 => ?_
    have kX1 : K.In hp := fun b o e => by
      have := bk b o (e0.mod.kin b o e)
      refine k1 b o (fun z => ?_) this
      subst z
      have := (e0.bs _ _ (e0.mod.kin _ _ e)).2
      rw [ea] at this
      cases this
    have hLa : s.heap.objs.size ≠ a := fun z => absurd (Heap.lt_size hxa) (by rw [← z]; exact Nat.lt_irrefl _)
    have hns1 : hp.Ns s.heap.objs.size _ := hns.at fun o e => k1 _ o hLa e
    refine wpAt_of_wpAny (wpAny_execs_cons (plainObj_wpAny_Assign_Attribute (ESX.ldL hns1 m2 (ESX.ldL hns1 m1 ?_ S.kind S.ska) S.kind hx hdb) rfl))
    obtain ⟨nm, qn, N, bs, bm, sn, sub, ab, col, dd, k0, k1', k2, k3, k5, hC, hbm⟩ := S.cls.cls
    have hcl : PySem.W.clsIn K C = some { name := nm, bases := bs, mro := .ref C :: bm, ns := N, qualname := qn, hasDict := true, slotNames := sn, subclasses := sub, abstract := ab, collection := col, hasDel := false } := by unfold PySem.W.clsIn; rw [hC]
    refine PySem.W.set_plain kX1 (ox := PySem.HandSPX.excO C t1) (od := none) ⟨hx1, rfl, rfl, trivial⟩ S.cls.sa ?_
    refine PySem.HandSPX.exc_osa kX1 hx1 hcl (show PySem.HandSPX.refsVE (.ref C :: bm) = true from hbm) rfl hfl fun h' tk' dx k' dn dne hx' hn => ?_
    obtain ⟨z1, z2, z3, z4⟩ := sup_end (fs := frs outer) (fld := fld) e0.hok ea (fun b o hb e => k1 b o hb (hk b o e)) hx1 k' dn hx' hn ru
    exact wpAny_execs_nil ⟨.non, _, rfl, e0.bare, z3, z4, rfl, q dx z1 z2⟩
end
end Y
set_option Elab.async false
set_option linter.all false
set_option maxRecDepth 100000
set_option maxHeartbeats 2000000
set_option autoImplicit false
/-! raise, try .. except C as e -/
namespace Y
open PySem PySem.Spec PyProof.Rows L2

/-! ### raise E(x) -/
structure GExc (P : Program) (w : World) (K : PySem.W.Frag) (mg : Str → Option Value) (base : Heap) (n : Str) (C : Addr) (fld : Str) : Prop where
  ex : ∃ (fI : Addr) (fd : FuncData) (ps : List Str), OexC K C ∧ PySem.W.findIn K (.ref C) "__init__" = some (some (.ref fI)) ∧ PySem.W.typeIn K (.ref fI) = some (.type "function") ∧ FnOk P w K mg base (L2.CX P w) 1 fI fd ps (spSup C fld) ∧ Binds K fd ps [] ∧ mg n = some (.ref C)
class ExcX (X : Cx) (n : Str) (C : outParam Addr) (fld : outParam Str) : Prop where
  g : GExc X.prog X.w X.K X.mg X.base n C fld
section
variable {X : Cx} {F : Fr0} {δ : Sl} {η : Hs} {nx bk ct : SH} {rt : A → Hs → Prop} {N U S G : List Str}
theorem ws_raise {n : Str} {p p' pos : Pos} {e : Expr} {C : Addr} {fld : Str} {j : Nat} [Cf : CfgC X N U S G] [rm : Rm X j] [g : ExcX X n C fld] [mg : Mem n G] (h : W X F e δ η fun x η1 => ∃ y, x = .d y ∧ F.EX ⟨C, [(fld, y)], η1⟩ δ) (hj : 2 ≤ j)
    (he : starEach [e] X.env = (false, eval e X.env) :: starEach [] X.env) (hpl : (backTo p' (starEach [] X.env)).any (·.1) = false) : WS X F (.Raise (some (.Call (.Name n p) [e] [] p')) none pos) δ η nx rt bk ct := by
  intro xt m σ H E ab eo
  obtain ⟨fI, fd, ps, T, iC, tI, F1, hb, hm⟩ := g.g.ex
  have hw : WL X F [e] δ η fun xs η1 => ∃ y, xs = [.d y] ∧ F.EX ⟨C, [(fld, y)], η1⟩ δ := wl_cons (h.mono fun x η1 ⟨y, ex, q⟩ => wl_nil ⟨y, by rw [ex], q⟩) he
  refine wps_of (ps_raise Cf.calm xt (pmk_oex (dvs := []) T iC tI F1 (rm.r.mono hj) hb .nil (fun _ _ _ _ _ _ _ c => (cx_false c).elim) (Cf.gl mg.mem) hm pa_wp (Cf.dbg n (List.mem_append_right _ mg.mem)).1 he hpl)) ?_
  refine hw.go xt ab fun vs m1 H1 xs η1 ab1 e1 r1 ⟨y, ex, q⟩ => ?_
  subst ex
  obtain ⟨v, rfl, rv⟩ := reps_one r1
  refine ⟨show 1 ≤ 1000 by decide, fun a ha => ⟨a, v, rfl, upd_same, fun d hd hda => ⟨rfl, d, [(fld, v)], upd_same, ?_, ?_, ?_⟩⟩⟩
  · rw [upd_ne hda, upd_same]
  · rw [upd_ne hda] at hd; exact hd
  · have hd1 : H1 d = none := by rw [upd_ne hda] at hd; exact hd
    have eq : upd (del (upd (upd (upd H1 a (exo a C none)) d (exd d [(fld, v)])) a (exo a C (some d))) a) d (.xd [(fld, v)]) = upd H1 d (.xd [(fld, v)]) := by
      funext b
      by_cases hb : b = d
      · subst hb; rw [upd_same, upd_same]
      · rw [upd_ne hb, upd_ne hb]
        by_cases hba : b = a
        · subst hba; rw [del_same, ha]
        · rw [del_ne hba, upd_ne hba, upd_ne hb, upd_ne hba]
    rw [eq]
    have e2 := ext_new (ho := .xd [(fld, v)]) ab1.toAbsH hd1
    refine ⟨m1, δ, ⟨C, [(fld, y)], η1⟩, ab1.new hd1, ⟨rfl, d, _, rfl, ab1.off hd1, upd_same, ?_⟩, q⟩
    exact repfs_cons.mpr ⟨v, [], rfl, rep_d.mp (e2.a rv), repfs_nil.mpr rfl⟩
/-! ### try -/
/-- the exception a that is held, of the class C, its dict at dx -/
class ExV (X : Cx) (a C dx : Addr) : Prop where
  ex : ∃ oe : Obj, Zc (.ref C) (some dx) oe ∧ (∃ vs, oe.data = .fields vs) ∧ ∃ (Y : Cx) (pn : List (Addr × Obj)), X = Y.suite a ((a, oe) :: pn)
theorem EndsOk.mute {K : PySem.W.Frag} {E : Ends} (h : EndsOk K F nx rt bk ct E) : EndsOk K F.mute nx rt bk ct E :=
  ⟨fun m σ H δ η a q => h.nx m σ H δ η a.unmute q, fun v m σ H δ η x a r q => h.rt v m σ H δ η x a.unmute r q, fun m σ H δ η a q => h.bk m σ H δ η a.unmute q, fun m σ H δ η a q => h.ct m σ H δ η a.unmute q⟩
/-- the frame of the body of a try -/
def Fr0.try (F : Fr0) (EX : XA → Sl → Prop) : Fr0 := { F with EX := EX }
theorem Abs.ex {K : PySem.W.Frag} {m : List Addr} {σ : L2.St} {H : Hp} {EX : XA → Sl → Prop} (ab : Abs K F m σ H δ η) : Abs K (F.try EX) m σ H δ η := ⟨ab.toAbsH, ab.sl, ab.slot, ab.fr, ab.pre⟩
theorem Abs.unex {K : PySem.W.Frag} {m : List Addr} {σ : L2.St} {H : Hp} {EX : XA → Sl → Prop} (ab : Abs K (F.try EX) m σ H δ η) : Abs K F m σ H δ η := ⟨ab.toAbsH, ab.sl, ab.slot, ab.fr, ab.pre⟩
theorem Abs.gone {K : PySem.W.Frag} {m : List Addr} {σ : L2.St} {H : Hp} {i : Nat} (ab : Abs K F m σ H δ η) : Abs K F m (σ.set i none) H (δ.set i none) η := by
  refine ⟨ab.toAbsH, by simp [ab.sl], fun k y e => ?_, ab.fr, ab.pre⟩
  by_cases hk : i = k
  · subst hk
    rw [List.getElem?_set] at e
    split at e
    · split at e <;> cases e
    · exact absurd rfl (by assumption)
  · rw [List.getElem?_set_ne hk] at e
    obtain ⟨u, h1, h2⟩ := ab.slot k y e
    exact ⟨u, by rw [List.getElem?_set_ne hk]; exact h1, h2⟩
/-- the class that an exception clause takes -/
class ExmI (X : Cx) (C c : Addr) (b : outParam Bool) : Prop where
  m : PySem.W.exmOne X.K (.ref C) (.ref c) = some b
instance low_exm {X Y : Cx} {C c : Addr} {b : Bool} [l : LowS X Y] [r : ExmI X C c b] : ExmI Y C c b := ⟨by rw [l.K]; exact r.m⟩
/-- the wish of the body: an exception that the clause takes -/
def TryE (X : Cx) (F : Fr0) (N U S G : List Str) (c : Addr) (i : Nat) (suite : List Stmt) (nx : SH) (rt : A → Hs → Prop) (bk ct : SH) : XA → Sl → Prop := fun x δ' =>
  ∃ b, ExmI X x.C c b ∧ if b = true then ∀ (Y : Cx) (a dx : Addr) [LowS X Y] [Cfg Y N U S G] [ExV Y a x.C dx], WSs Y F.mute suite (δ'.set i (some (.d (.exc a x.C dx x.fs)))) x.η (fun δ η => nx (δ.set i none) η) rt (fun δ η => bk (δ.set i none) η) (fun δ η => ct (δ.set i none) η) else F.EX x δ'
theorem ws_try {n x : Str} {np pos pos' : Pos} {body suite : List Stmt} {b₀ : Stmt} {c : Addr} {i : Nat} [C : CfgC X N U S G] [gr : GRef X x c] [mx : Mem x G] (hs : X.stack = X.env :: X.outer) (hf : X.env.frame = some X.env.locals) (hi : N[i]? = some n) (hln : X.env.kindOf n = some .local)
    (h : ∀ (Y : Cx) (F' : Fr0) [Low X Y] [CfgC Y N U S G], F'.m = F.m → F'.EX = TryE X F N U S G c i (b₀ :: suite) nx rt bk ct → WSs Y F' body δ η nx rt bk ct) : WS X F (.Try body [.ExceptHandler (some (.Name x np)) (some n) (b₀ :: suite) pos'] [] [] pos) δ η nx rt bk ct := by
  intro xt m σ H E ab eo
  refine wps_of (ps_try_as (i := i) (c := .ref c) (tb := fun W D σ H => ∀ (pn : List (Addr × Obj)) (xe : Value → Shared → Prop), Takes (X.tr pn xe) W → PassesOwn (model X.prog X.w) X.A X.env xe → wpSs (X.tr pn xe) body D σ H)
    (ts := fun a cls d D σ H => ∀ (oe : Obj) (pn : List (Addr × Obj)), Zc cls d oe → (∃ vs, oe.data = .fields vs) → wpSs (X.suite a ((a, oe) :: pn)) (b₀ :: suite) D σ H) hs hf (by rw [C.ns]; exact C.nd) (by rw [C.ns]; exact hi) hln ⟨C.gl mx.mem, (C.dbg x (List.mem_append_right _ mx.mem)).1, .inl gr.eq⟩ xt
    (fun W pn xe tk po => ⟨fun pins s σ H D hI q => pss_wp.run pins s σ H D hI (q pn xe tk po)⟩) (fun a oe cls d pn hz hv => ⟨fun pins s σ H D hI q => pss_wp.run pins s σ H D hI (q oe pn hz hv)⟩)) ?_
  intro pn xe tk po
  have low : Low X (X.tr pn xe) := { prog := rfl, w := rfl, K := rfl, mg := rfl, base := rfl, rm := fun _ r => r }
  have cfg : CfgC (X.tr pn xe) N U S G := { toCfg := ⟨C.ns, C.nd, C.vi, C.st, C.glo, C.dbg⟩, calm := C.calm, po := po }
  refine h (X.tr pn xe) (F.try (TryE X F N U S G c i (b₀ :: suite) nx rt bk ct)) rfl rfl (tk.imp ?_) m σ H E ab.ex ⟨fun m σ H δ η a q => eo.nx m σ H δ η a.unex q, fun v m σ H δ η x a r q => eo.rt v m σ H δ η x a.unex r q, fun m σ H δ η a q => eo.bk m σ H δ η a.unex q, fun m σ H δ η a q => eo.ct m σ H δ η a.unex q⟩
  rintro cls d σ' H' ⟨m', δ', y, a2, ⟨rfl, dx, fv, rfl, nl, hd, rf⟩, b, hm, hb⟩
  refine ⟨b, hm.m, fun eb a na => ?_, fun eb => ?_⟩
  · subst eb
    rw [if_pos rfl] at hb
    intro oe pn' hz hv
    have lowS : LowS X (X.suite a ((a, oe) :: pn')) := ⟨rfl, rfl, rfl, rfl, rfl⟩
    have cfgS : Cfg (X.suite a ((a, oe) :: pn')) N U S G := ⟨C.ns, C.nd, C.vi, C.st, C.glo, C.dbg⟩
    have exv : ExV (X.suite a ((a, oe) :: pn')) a y.C dx := ⟨oe, hz, hv, X, pn', rfl⟩
    have a3 : Abs X.K F.mute m' σ' H' δ' y.η := a2.unex.mute
    have re : RepA X.K (Lv F.mute.Z m' y.η) m' H' (.ref a) (.d (.exc a y.C dx y.fs)) := rep_exc.mpr ⟨rfl, nl, fv, hd, rf⟩
    have a4 : Abs X.K F.mute m' (σ'.set i (some (.ref a))) H' (δ'.set i (some (.d (.exc a y.C dx y.fs)))) y.η := by
      by_cases hl : i < δ'.length
      · exact a3.store hl re
      · have e1 : δ'.set i (some (.d (.exc a y.C dx y.fs))) = δ' := List.set_eq_of_length_le (by omega)
        have e2 : σ'.set i (some (.ref a)) = σ' := List.set_eq_of_length_le (by rw [← a3.sl]; omega)
        rw [e1, e2]
        exact a3
    refine hb (X.suite a ((a, oe) :: pn')) a dx (fun u s' ⟨_, _, _, _, _, _, _, _, _, _, _, _, _, _, _, _, _, _, _, _, _, f⟩ => f.elim) m' _ H' _ a4 ⟨?_, ?_, ?_, ?_⟩
    · exact fun m σ H δ η a q => eo.nx m _ H _ η a.gone.unmute q
    · exact fun v m σ H δ η x a r q => eo.rt v m σ H δ η x a.unmute r q
    · exact fun m σ H δ η a q => eo.bk m _ H _ η a.gone.unmute q
    · exact fun m σ H δ η a q => eo.ct m _ H _ η a.gone.unmute q
  · subst eb
    rw [if_neg Bool.false_ne_true] at hb
    exact ⟨m', δ', y, a2.unex, ⟨rfl, dx, fv, rfl, nl, hd, rf⟩, hb⟩
/-! ### the exception that is held -/
class ExK (X : Cx) (C : Addr) : Prop where
  xf : XfC X.K C
  is : ExcC X.K C
instance low_exk {X Y : Cx} {C : Addr} [l : LowS X Y] [r : ExK X C] : ExK Y C := ⟨by rw [l.K]; exact r.xf, by rw [l.K]; exact r.is⟩
theorem exv_at {a C dx : Addr} [x : ExV X a C dx] {pins : List (Addr × Obj)} {σ : L2.St} {H : Hp} {s : Shared} {fv : List (Str × V)} (hI : Inv X pins σ H s) (hd : H dx = some (.xd fv)) : ∃ oe od, PySem.W.InstAt s.heap a oe C (some od) := by
  obtain ⟨oe, hz, ⟨vs, hv⟩, Y, pn, rfl⟩ := x.ex
  obtain ⟨ha, _⟩ := hI.pin (a, oe) (List.mem_append_left _ List.mem_cons_self)
  have hx : ObjOk Y.prog Y.w H s.heap dx (.xd fv) := hI.hok dx _ hd
  obtain ⟨mA, ⟨od, es, ep, e1, e2⟩, _⟩ := hx
  exact ⟨oe, od, ha, hz.1, by unfold PySem.W.notCls; rw [hv], by rw [hz.2]; exact e1⟩
/-- isinstance(e, c) -/
theorem op_isE {a C dx : Addr} [x : ExV X a C dx] (k : ExcC X.K C) : CallR X (.builtin "isinstance") (fun vs H R => ∃ (c : V) (cv : Value) (b : Bool) (fv : List (Str × V)), vs = [.ref a, c] ∧ H dx = some (.xd fv) ∧ ClsV c cv ∧ PySem.W.kitOne X.K (.ref C) cv = some b ∧ R (.bl b) H) := by
  intro pins s σ H vs us Q hI r ⟨c, cv, b, fv, ev, hd, hc, hk, q⟩
  subst ev
  obtain ⟨u1, u2, rfl, r1, r2⟩ := vals2 r
  obtain rfl : u1 = Value.ref a := r1
  have e2 := hc.eq r2
  subst e2
  obtain ⟨oe, od, J⟩ := exv_at (a := a) (C := C) (dx := dx) hI hd
  obtain ⟨cd, hcd, _⟩ := PySem.W.any_some k.hd
  exact PySem.W.kia_one (PySem.W.kitx_exc (by rw [hcd]; rfl) k.hg k.hk k.hs k.ha k.hn k.ht k.hm) hI.kIn J hk (fun z => nomatch z) fun tk => ⟨.bl b, H, hI.tok tk, rfl, q⟩
def clsD : D → Option Value
  | .ty n => some (.type n)
  | .ref C => some (.ref C)
  | _ => none
theorem clsD_ok {K : PySem.W.Frag} {L : Addr → Prop} {H : Hp} {v : V} {d : D} {cv : Value} (h : clsD d = some cv) (r : RepD K L H v d) : ClsV v cv := by
  cases d with
  | ty n => cases h; unfold RepD at r; subst r; exact .ty n
  | ref C => cases h; unfold RepD at r; subst r; exact .own C
  | _ => cases h
theorem f_isE {Q : A → Hs → Prop} {a C dx : Addr} {fs : List (Str × D)} {d : D} {cv : Value} {b : Bool} [x : ExV X a C dx] [k : ExK X C] (hc : clsD d = some cv) (hk : KitI X (.ref C) cv b) (q : Q (B b) η) : CallJ X F (.builtin "isinstance") [.d (.exc a C dx fs), .d d] δ η Q := fun m σ H R vs ab rr po => by
  obtain ⟨v, u, rfl, r1, r2⟩ := reps_two rr
  obtain ⟨rfl, _, fv, hd, _⟩ := rep_exc.mp r1
  exact ⟨_, op_isE (a := a) (C := C) (dx := dx) k.is, u, cv, b, fv, rfl, hd, clsD_ok hc (rep_d.mp r2), hk.k, po _ m H _ η ab .refl (rep_bl.mpr rfl) q⟩
/-- .. of several classes -/
theorem op_isET {a C dx : Addr} [x : ExV X a C dx] (k : ExcC X.K C) : CallR X (.builtin "isinstance") (fun vs H R => ∃ (tp : Addr) (cs : List V) (us : List Value) (b : Bool) (fv : List (Str × V)), vs = [.ref a, .ref tp] ∧ SqT X.K H tp cs ∧ H dx = some (.xd fv) ∧ Paired ClsV cs us ∧ PySem.W.kitAny X.K (.ref C) us = some b ∧ R (.bl b) H) := by
  intro pins s σ H vs us Q hI r ⟨tp, cs, ws, b, fv, ev, hT, hd, hc, hk, q⟩
  subst ev
  obtain ⟨u1, u2, rfl, r1, r2⟩ := vals2 r
  obtain rfl : u1 = Value.ref a := r1
  obtain rfl : u2 = Value.ref tp := r2
  obtain ⟨oe, od, J⟩ := exv_at (a := a) (C := C) (dx := dx) hI hd
  obtain ⟨cd, hcd, _⟩ := PySem.W.any_some k.hd
  obtain ⟨its, rv, ⟨⟨oc, odd, oda, osl⟩, e1, e2, n, e3⟩, _⟩ := hI.tuple hT
  dsimp only at e2 e3
  subst e2 e3
  have ew := ClsV.all hc rv
  subst ew
  exact PySem.W.kia_tup (PySem.W.kitx_exc (by rw [hcd]; rfl) k.hg k.hk k.hs k.ha k.hn k.ht k.hm) hI.kIn J e1 hk (fun z => nomatch z) fun tk => ⟨.bl b, H, hI.tok tk, rfl, q⟩
def clsDs : List D → Option (List Value)
  | [] => some []
  | d :: r => match clsD d, clsDs r with
    | some v, some vs => some (v :: vs)
    | _, _ => none
theorem clsDs_ok {K : PySem.W.Frag} {L : Addr → Prop} {H : Hp} : ∀ {ds : List D} {us : List V} {vs : List Value}, clsDs ds = some vs → RepDs K L H us ds → Paired ClsV us vs
  | [], us, vs, h, r => by
    cases h
    rw [repds_nil.mp r]
    exact .nil
  | d :: ds, us, vs, h, r => by
    obtain ⟨u, ur, rfl, r1, r2⟩ := repds_cons.mp r
    unfold clsDs at h
    cases e1 : clsD d with
    | none => rw [e1] at h; cases h
    | some v =>
      cases e2 : clsDs ds with
      | none => rw [e1, e2] at h; cases h
      | some ws =>
        rw [e1, e2] at h
        cases h
        exact .cons (clsD_ok e1 r1) (clsDs_ok e2 r2)
class KitAI (X : Cx) (C : Addr) (cs : List Value) (b : outParam Bool) : Prop where
  k : PySem.W.kitAny X.K (.ref C) cs = some b
instance kita_nil {X : Cx} {C : Addr} : KitAI X C [] false := ⟨rfl⟩
instance kita_cons {X : Cx} {C : Addr} {c : Value} {cs : List Value} {b b' : Bool} [k : KitI X (.ref C) c b] [r : KitAI X C cs b'] : KitAI X C (c :: cs) (b || b') := ⟨by
  unfold PySem.W.kitAny
  rw [k.k]
  cases b
  · exact r.k
  · rfl⟩
theorem f_isET {Q : A → Hs → Prop} {a C dx : Addr} {fs : List (Str × D)} {ds : List D} {cvs : List Value} {b : Bool} [x : ExV X a C dx] [k : ExK X C] (hc : clsDs ds = some cvs) (hk : KitAI X C cvs b) (q : Q (B b) η) : CallJ X F (.builtin "isinstance") [.d (.exc a C dx fs), .d (.tup ds)] δ η Q := fun m σ H R vs ab rr po => by
  obtain ⟨v, u, rfl, r1, r2⟩ := reps_two rr
  obtain ⟨rfl, _, fv, hd, _⟩ := rep_exc.mp r1
  obtain ⟨tp, ws, rfl, s, rd⟩ := rep_tup.mp r2
  exact ⟨_, op_isET (a := a) (C := C) (dx := dx) k.is, tp, ws, cvs, b, fv, rfl, s.sq, hd, clsDs_ok hc rd, hk.k, po _ m H _ η ab .refl (rep_bl.mpr rfl) q⟩
/-- e.f -/
theorem wpE_mono {e : Expr} {σ : L2.St} {H : Hp} {R R' : VK} (h : wpE X e σ H R) (k : ∀ v H', R v H' → R' v H') : wpE X e σ H R' := fun pins s hI => wpAny_mono (h pins s hI) (fun u s' ⟨v, H', I', r, q⟩ => ⟨v, H', I', r, k v H' q⟩) fun _ _ z => z
theorem pe_exf {a C dx : Addr} {f : Str} {e : Expr} {pos : Pos} [x : ExV X a C dx] (k : XfC X.K C) (hno : PySem.W.findIn X.K (.ref C) f = some none) (hb : attributeBase e f X.env (eval e X.env) = eval e X.env) :
    PE X (.Attribute e f pos) (fun σ H R => wpE X e σ H fun v H1 => v = .ref a ∧ ∃ (fs : List (Str × V)) (w : V), H1 dx = some (.xd fs) ∧ fs.lookup f = some w ∧ R w H1) := by
  obtain ⟨oe, hz, hv, Y, pn, rfl⟩ := x.ex
  exact ⟨fun pins s σ H R hI h => (pe_xf k hno hz hv pe_wp hb).run pins s σ H R hI (wpE_mono h fun v H1 ⟨e, fs, w, h1, h2, h3⟩ => ⟨e, rfl, dx, fs, w, rfl, h1, h2, h3⟩)⟩
theorem repfs_look {K : PySem.W.Frag} {L : Addr → Prop} {H : Hp} {f : Str} {x : D} {fs : List (Str × D)} {fv : List (Str × V)} (h : RepFs K L H fv fs) (e : lookF f fs = some x) : ∃ v, fv.lookup f = some v ∧ RepD K L H v x := by
  have r := repfs_A (m := []) h
  have e' : lookF f (fs.map fun p => (p.1, A.d p.2)) = some (.d x) := by
    clear r h
    induction fs with
    | nil => cases e
    | cons p fs ih =>
      rw [List.map_cons]
      unfold lookF at e ⊢
      dsimp only
      split at e
      · rename_i hp
        cases e
        rw [if_pos hp]
      · rename_i hp
        rw [if_neg hp]
        exact ih e
  obtain ⟨v, h1, h2⟩ := (repfa_look r).1 _ e'
  exact ⟨v, h1, rep_d.mp h2⟩
theorem w_exf {Q : A → Hs → Prop} {a C dx : Addr} {f : Str} {e : Expr} {pos : Pos} [x : ExV X a C dx] [k : ExK X C] [hf : FldI X C f] (h : W X F e δ η fun y η1 => ∃ fs d, y = .d (.exc a C dx fs) ∧ lookF f fs = some d ∧ Q (.d d) η1) (hb : attributeBase e f X.env (eval e X.env) = eval e X.env) : W X F (.Attribute e f pos) δ η Q := fun xt m σ H R ab po =>
  wp_of (pe_exf (a := a) (C := C) (dx := dx) k.xf hf.n hb) (h xt m σ H _ ab fun v m1 H1 y η1 ab1 e1 r1 ⟨fs, d, ey, hl, q⟩ => by
    subst ey
    obtain ⟨rfl, _, fv, hd, rf⟩ := rep_exc.mp r1
    obtain ⟨w, h1, h2⟩ := repfs_look rf hl
    exact ⟨rfl, fv, w, hd, h1, po w m1 H1 _ η1 ab1 e1 (rep_d.mpr h2) q⟩)
end
end Y
set_option Elab.async false
set_option linter.all false
set_option maxRecDepth 100000
set_option autoImplicit false
/-! small forms for the walk -/
namespace Y
open PySem PySem.Spec PyProof.Rows L2
theorem dsp_l {xs : List A} {P : Prop} (h : Nat.ble xs.length 1000 = true) (p : P) : xs.length ≤ sizeLine ∧ P := ⟨by have := Nat.le_of_ble_eq_true h; rw [sizeLine_eq]; omega, p⟩
theorem push_i {η η' : Hs} {o : Option O} {k : Nat} {Q : Nat → Hs → Prop} (h : pushO η o = some (k, η')) (q : Q k η') : ∃ k η', pushO η o = some (k, η') ∧ Q k η' := ⟨k, η', h, q⟩
theorem items_i {η : Hs} {x : A} {ys : List A} {Q : List A → Prop} (h : itemsA η x = some ys) (q : Q ys) : ∃ items, itemsA η x = some items ∧ Q items := ⟨ys, h, q⟩
theorem meth_i {η : Hs} {x : A} {name : Str} {T id : String} {Q : String → Prop} [b : BM T name id] (h : tyA η x = some T) (q : Q id) : ∃ (T id : String), tyA η x = some T ∧ BM T name id ∧ Q id := ⟨T, id, h, b, q⟩
theorem fld_i {X : Cx} {η : Hs} {x : A} {f : Str} {C : Addr} {fs : List (Str × A)} {y : A} {Q : A → Prop} [c : ClsI X C] [n : FldI X C f] (h : insA η x = some (C, fs)) (hl : lookF f fs = some y) (q : Q y) : ∃ C fs y, insA η x = some (C, fs) ∧ lookF f fs = some y ∧ ClsI X C ∧ FldI X C f ∧ Q y := ⟨C, fs, y, h, hl, c, n, q⟩
theorem mcall_i {X : Cx} {F : Fr0} {δ : Sl} {η : Hs} {x : A} {mn : Str} {n k j : Nat} {S : Spec} {C : Addr} {fs : List (Str × A)} {Q : Spec → Prop} [m : MtX X C mn n k S] (h : insA η x = some (C, fs)) (hl : lookF mn fs = none) (hk : k ≤ j) (q : Q S) : ∃ C fs k Sp, insA η x = some (C, fs) ∧ lookF mn fs = none ∧ MtX X C mn n k Sp ∧ k ≤ j ∧ Q Sp := ⟨C, fs, k, S, h, hl, m, hk, q⟩
/-- a call: the handles that go along -/
theorem call_i {F : Fr0} {δ : Sl} {S : Spec} {xs xs₀ : List A} {η η₀ : Hs} {Q : A → Hs → Prop} (ix : List Nat) (hs : subS ix xs η = some (xs₀, η₀)) (q : S xs₀ η₀ (fun a₀ η₁ => ∃ a η', backS ix η a₀ η₁ = some (a, η') ∧ Q a η') (fun x => ∃ η', backH (mapN ix η.length) ix η x.η = some η' ∧ F.EX ⟨x.C, x.fs, η'⟩ δ)) : CallA F δ S xs η Q := ⟨ix, xs₀, η₀, hs, q⟩
theorem dI_ix {ns : List Int} {i : Int} (h0 : 0 ≤ i) (h1 : i < (ns.length : Int)) : ixA (dI ns) i = some (.int (ns.getD i.toNat 0)) := by
  unfold ixA
  rw [if_pos h0]
  unfold dI
  have hl : i.toNat < ns.length := by omega
  rw [List.getElem?_map, List.getElem?_eq_getElem hl, List.getD_eq_getElem?_getD, List.getElem?_eq_getElem hl]
  rfl
theorem dI_len {ns : List Int} : (dI ns).length = ns.length := by unfold dI; rw [List.length_map]
/-! ### values through handles -/
def typD : D → Option String
  | .non => some "NoneType"
  | .bl _ => some "bool"
  | .int _ => some "int"
  | .str _ => some "str"
  | .tup _ => some "tuple"
  | .lst _ => some "list"
  | _ => none
theorem valD_typ {η : Hs} {a : A} {d : D} {T : String} (h : valD η a = some d) (t : typD d = some T) : typA η a = some T := by
  cases a with
  | d x => cases h; cases d <;> first | exact t | cases t
  | t xs => cases h
  | h k =>
    unfold valD at h
    unfold typA
    dsimp only at h ⊢
    cases e : atH η k with
    | none => rw [e] at h; cases h
    | some o =>
      rw [e] at h
      cases o <;> first | (cases h; exact t) | cases h
theorem valD_non {η : Hs} {a : A} {d : D} (h : valD η a = some d) : isNone a = isNone (.d d) := by
  cases a with
  | d x => cases h; rfl
  | t xs => cases h
  | h k =>
    unfold valD at h
    dsimp only at h
    cases e : atH η k with
    | none => rw [e] at h; cases h
    | some o =>
      rw [e] at h
      cases o <;> first | (cases h; rfl) | cases h
theorem valD_isBl {η : Hs} {a : A} {d : D} {b : Bool} (h : valD η a = some d) : isBlA b a = isBlA b (.d d) := by
  cases a with
  | d x => cases h; rfl
  | t xs => cases h
  | h k =>
    unfold valD at h
    dsimp only at h
    cases e : atH η k with
    | none => rw [e] at h; cases h
    | some o =>
      rw [e] at h
      cases o <;> first | (cases h; rfl) | cases h
def seqD : D → Option (List D)
  | .tup xs => some xs
  | .lst xs => some xs
  | _ => none
theorem valD_len {η : Hs} {a : A} {d : D} {xs : List D} (h : valD η a = some d) (s : seqD d = some xs) : lenA η a = some xs.length := by
  cases a with
  | d x => cases h; cases d <;> first | (cases s; rfl) | cases s
  | t xs => cases h
  | h k =>
    unfold valD at h
    unfold lenA
    dsimp only at h ⊢
    cases e : atH η k with
    | none => rw [e] at h; cases h
    | some o =>
      rw [e] at h
      cases o <;> first | (cases h; cases s; rfl) | cases h
theorem x_val {X : Cx} {F : Fr0} {δ : Sl} {η : Hs} {Q : A → Hs → Prop} {a : A} {d : D} {xs : List D} {i : Int} {x : D} (h : valD η a = some d) (s : seqD d = some xs) (hx : ixA xs i = some x) (q : Q (.d x) η) : Ix2 X F a (I i) δ η Q := by
  cases a with
  | d y => cases h; cases d <;> first | (cases s; exact x_tup hx q) | (cases s; exact x_frz hx q) | cases s
  | t xs => cases h
  | h k =>
    unfold valD at h
    dsimp only at h
    cases e : atH η k with
    | none => rw [e] at h; cases h
    | some o =>
      rw [e] at h
      cases o <;> first | (cases h; cases s; exact x_lst e hx q) | cases h
theorem wt_valB {X : Cx} {F : Fr0} {δ : Sl} {η : Hs} {e : Expr} {Q : Bool → Hs → Prop} (b : Bool) (h : WT X F e δ η fun x η1 => x = b ∧ η1 = η) (q : Q b η) : WT X F e δ η Q := h.mono fun x η1 ⟨e1, e2⟩ => by subst e1 e2; exact q
mutual
/-- told and due are the same, of the same types -/
def sameD : D → D → Bool
  | .non, .non => true
  | .bl a, .bl b => a == b
  | .int i, .int j => i == j
  | .str x, .str y => x == y
  | .lst xs, .lst ys => sameDs xs ys
  | .tup xs, .tup ys => sameDs xs ys
  | _, _ => false
def sameDs : List D → List D → Bool
  | [], [] => true
  | x :: xs, y :: ys => sameD x y && sameDs xs ys
  | _, _ => false
end
theorem sameDs_len : ∀ {xs ys : List D}, sameDs xs ys = true → xs.length = ys.length
  | [], [], _ => rfl
  | x :: xs, y :: ys, h => by
    unfold sameDs at h
    rw [Bool.and_eq_true] at h
    rw [List.length_cons, List.length_cons, sameDs_len h.2]
  | [], _ :: _, h => by simp [sameDs] at h
  | _ :: _, [], h => by simp [sameDs] at h
theorem sameDs_take {xs ys : List D} : ∀ (i : Nat) {x y : D}, xs[i]? = some x → ys[i]? = some y → sameDs (xs.take (i + 1)) (ys.take (i + 1)) = (sameDs (xs.take i) (ys.take i) && sameD x y) := by
  induction xs generalizing ys with
  | nil => intro i x y h; simp at h
  | cons a xs ih =>
    intro i x y hx hy
    cases ys with
    | nil => simp at hy
    | cons b ys =>
      cases i with
      | zero =>
        have : a = x := by simpa using hx
        have : b = y := by simpa using hy
        subst_vars
        simp [sameDs]
      | succ i =>
        have := ih (ys := ys) i (by simpa using hx) (by simpa using hy)
        simp only [List.take_succ_cons, sameDs, this, Bool.and_assoc]
theorem appH_self {f : Nat → Option Nat} : ∀ {η : Hs}, appH f η [] = some η
  | [] => rfl
  | x :: l => by
    unfold appH
    rw [appH_self]
theorem backS_nil {η : Hs} {x : D} : backS [] η (.d x) [] = some (.d x, η) := by
  unfold backS renA
  dsimp only
  unfold backH
  rw [appH_self]
/-- only lists of pure data -/
def simpH (η : Hs) : Prop := ∀ o ∈ η, o = none ∨ ∃ xs, o = some (.lst xs)
theorem keepH_simp {f : List Nat} : ∀ {suf pre : Hs}, simpH (pre ++ suf) → keepH f (pre ++ suf) (List.range' pre.length suf.length) = some suf
  | [], pre, _ => rfl
  | o :: r, pre, h => by
    have ih := keepH_simp (f := f) (suf := r) (pre := pre ++ [o]) (by rw [List.append_assoc]; exact h)
    rw [List.append_assoc, List.length_append] at ih
    have ih : keepH f (pre ++ o :: r) (List.range' (pre.length + 1) r.length) = some r := ih
    show keepH f (pre ++ o :: r) (pre.length :: List.range' (pre.length + 1) r.length) = _
    unfold keepH
    rw [List.getElem?_append_right (Nat.le_refl _), Nat.sub_self, ih]
    rcases h o (by simp) with rfl | ⟨xs, rfl⟩
    · rfl
    · rfl
theorem gcr_simp {η : Hs} {x : D} {Q : A → Hs → Prop} (h : simpH η) (q : Q (.d x) η) : GcR η.length Q (.d x) η := by
  have hk := keepH_simp (f := List.range η.length) (suf := η) (pre := []) h
  rw [List.nil_append] at hk
  refine ⟨List.range η.length, .d x, η, ndN_of List.nodup_range, ?_, ?_, rfl, q⟩
  · unfold preN
    rw [List.take_of_length_le (by simp)]
    simp
  · rw [List.range_eq_range']
    rw [List.range_eq_range'] at hk
    exact hk
theorem ixA_nat {α : Type} {xs : List α} {i : Nat} {x : α} (h : xs[i]? = some x) : ixA xs ((i : Nat) : Int) = some x := by
  unfold ixA
  rw [if_pos (by omega)]
  exact h
theorem intsA_len' {n : Nat} : (intsA 0 n).length = n := intsA_len
theorem valD_d {η : Hs} {a : A} {d : D} (h : valD η a = some d) (hn : ∀ xs, d ≠ .lst xs) : a = .d d := by
  cases a with
  | d x => cases h; rfl
  | t xs => cases h
  | h k =>
    unfold valD at h
    dsimp only at h
    cases e : atH η k with
    | none => rw [e] at h; cases h
    | some o =>
      rw [e] at h
      cases o <;> first | (cases h; exact absurd rfl (hn _)) | cases h
/-- isinstance of data against a built-in type -/
theorem f_isiV {X : Cx} {F : Fr0} {δ : Sl} {η : Hs} {Q : A → Hs → Prop} {x : A} {d : D} {T T' : String} {b : Bool} (h : valD η x = some d) (ht : typD d = some T') (hk : kitB T' T = some b) (q : Q (B b) η) : CallJ X F (.builtin "isinstance") [x, .d (.ty T)] δ η Q := f_isi (valD_typ h ht) hk q
/-- isinstance among built-in types -/
class KitP (T' T : String) (b : outParam Bool) : Prop where
  k : kitB T' T = some b
instance : KitP "NoneType" "int" false := ⟨by decide +kernel⟩
instance : KitP "NoneType" "bool" false := ⟨by decide +kernel⟩
instance : KitP "NoneType" "str" false := ⟨by decide +kernel⟩
instance : KitP "NoneType" "dict" false := ⟨by decide +kernel⟩
instance : KitP "NoneType" "list" false := ⟨by decide +kernel⟩
instance : KitP "NoneType" "tuple" false := ⟨by decide +kernel⟩
instance : KitP "bool" "int" true := ⟨by decide +kernel⟩
instance : KitP "bool" "bool" true := ⟨by decide +kernel⟩
instance : KitP "bool" "str" false := ⟨by decide +kernel⟩
instance : KitP "bool" "dict" false := ⟨by decide +kernel⟩
instance : KitP "bool" "list" false := ⟨by decide +kernel⟩
instance : KitP "bool" "tuple" false := ⟨by decide +kernel⟩
instance : KitP "int" "int" true := ⟨by decide +kernel⟩
instance : KitP "int" "bool" false := ⟨by decide +kernel⟩
instance : KitP "int" "str" false := ⟨by decide +kernel⟩
instance : KitP "int" "dict" false := ⟨by decide +kernel⟩
instance : KitP "int" "list" false := ⟨by decide +kernel⟩
instance : KitP "int" "tuple" false := ⟨by decide +kernel⟩
instance : KitP "str" "int" false := ⟨by decide +kernel⟩
instance : KitP "str" "bool" false := ⟨by decide +kernel⟩
instance : KitP "str" "str" true := ⟨by decide +kernel⟩
instance : KitP "str" "dict" false := ⟨by decide +kernel⟩
instance : KitP "str" "list" false := ⟨by decide +kernel⟩
instance : KitP "str" "tuple" false := ⟨by decide +kernel⟩
instance : KitP "tuple" "int" false := ⟨by decide +kernel⟩
instance : KitP "tuple" "bool" false := ⟨by decide +kernel⟩
instance : KitP "tuple" "str" false := ⟨by decide +kernel⟩
instance : KitP "tuple" "dict" false := ⟨by decide +kernel⟩
instance : KitP "tuple" "list" false := ⟨by decide +kernel⟩
instance : KitP "tuple" "tuple" true := ⟨by decide +kernel⟩
instance : KitP "list" "int" false := ⟨by decide +kernel⟩
instance : KitP "list" "bool" false := ⟨by decide +kernel⟩
instance : KitP "list" "str" false := ⟨by decide +kernel⟩
instance : KitP "list" "dict" false := ⟨by decide +kernel⟩
instance : KitP "list" "list" true := ⟨by decide +kernel⟩
instance : KitP "list" "tuple" false := ⟨by decide +kernel⟩
instance : KitP "dict" "int" false := ⟨by decide +kernel⟩
instance : KitP "dict" "bool" false := ⟨by decide +kernel⟩
instance : KitP "dict" "str" false := ⟨by decide +kernel⟩
instance : KitP "dict" "dict" true := ⟨by decide +kernel⟩
instance : KitP "dict" "list" false := ⟨by decide +kernel⟩
instance : KitP "dict" "tuple" false := ⟨by decide +kernel⟩
theorem f_isiW {X : Cx} {F : Fr0} {δ : Sl} {η : Hs} {Q : A → Hs → Prop} {x : A} {d : D} {T T' : String} {b : Bool} (h : valD η x = some d) (ht : typD d = some T') [k : KitP T' T b] (q : Q (B b) η) : CallJ X F (.builtin "isinstance") [x, .d (.ty T)] δ η Q := f_isi (valD_typ h ht) k.k q
theorem brnf {A B : Prop} (h : A) : if (!false) = true then A else B := h
theorem brnt {A B : Prop} (h : B) : if (!true) = true then A else B := h
/-! ### len, with the bound that every list keeps -/
theorem call_lenB {X : Cx} : CallR X (.builtin "len") (fun vs H R => ∃ p ys, vs = [.ref p] ∧ (SqL X.K H p ys ∨ SqT X.K H p ys) ∧ (ys.length ≤ sizeLine → R (.int ys.length) H)) := by
  intro pins s σ H vs us Q hI r ⟨p, ys, e, hs, q⟩
  have hl : ys.length ≤ sizeLine := by
    rcases hs with h | h
    · obtain ⟨_, _, _, hz⟩ := hI.list h; exact hz
    · obtain ⟨_, _, _, hz⟩ := hI.tuple h; exact hz
  exact call_len_seq pins s σ H vs us Q hI r ⟨p, ys, e, hs, q hl⟩
theorem f_lenV {X : Cx} {F : Fr0} {δ : Sl} {η : Hs} {Q : A → Hs → Prop} {x : A} {d : D} {xs : List D} (h : valD η x = some d) (s : seqD d = some xs) (q : xs.length ≤ sizeLine → Q (I xs.length) η) : CallJ X F (.builtin "len") [x] δ η Q := fun m σ H R vs ab r po => by
  obtain ⟨v, rfl, r1⟩ := reps_one r
  have key : ∃ p ys, v = .ref p ∧ ys.length = xs.length ∧ (SqL X.K H p ys ∨ SqT X.K H p ys) := by
    cases x with
    | d y =>
      cases h
      cases d with
      | tup zs => cases s; obtain ⟨a, vs, rfl, s, r2⟩ := rep_tup.mp r1; exact ⟨a, vs, rfl, r2.length, .inr s.sq⟩
      | lst zs => cases s; obtain ⟨a, vs, rfl, s, r2⟩ := rep_lst.mp r1; exact ⟨a, vs, rfl, r2.length, .inl s.sq⟩
      | _ => cases s
    | t ys => cases h
    | h k =>
      unfold valD at h
      dsimp only at h
      cases e : atH η k with
      | none => rw [e] at h; cases h
      | some o =>
        rw [e] at h
        obtain ⟨a, ho, hm, rfl, e2, r2⟩ := ab.at_h e r1
        cases o with
        | lst zs =>
          cases h; cases s
          unfold RepO at r2
          obtain ⟨vs, rfl, r2⟩ := r2
          exact ⟨a, vs, rfl, r2.length, .inl (SqL.of e2)⟩
        | _ => cases h
  obtain ⟨p, ys, rfl, hl, hs⟩ := key
  refine ⟨_, call_lenB, p, ys, rfl, hs, fun hb => ?_⟩
  rw [hl] at hb ⊢
  exact po _ m H _ η ab .refl (rep_int.mpr rfl) (q hb)
theorem okDs_get : ∀ {n : Nat} {xs : List D} {i : Nat} {x : D}, okDs n xs = true → xs[i]? = some x → okD n x = true
  | n, [], i, x, _, e => by simp at e
  | n, y :: ys, 0, x, h, e => by
    unfold okDs at h
    rw [Bool.and_eq_true] at h
    have : y = x := by simpa using e
    subst this
    exact h.1
  | n, y :: ys, i + 1, x, h, e => by
    unfold okDs at h
    rw [Bool.and_eq_true] at h
    exact okDs_get h.2 (by simpa using e)
theorem okD_seq {n : Nat} {d : D} {xs : List D} (h : okD n d = true) (s : seqD d = some xs) : ∃ k, n = k + 1 ∧ okDs k xs = true := by
  cases d with
  | tup ys =>
    cases s
    cases n with
    | zero => simp [okD] at h
    | succ k => exact ⟨k, rfl, by unfold okD at h; exact h⟩
  | lst ys =>
    cases s
    cases n with
    | zero => simp [okD] at h
    | succ k => exact ⟨k, rfl, by unfold okD at h; exact h⟩
  | _ => cases s
/-! ### the slots ls told no more -/
def fgtN (ls : List Nat) : Nat → Sl → Sl
  | _, [] => []
  | i, x :: r => (if ls.contains i then none else x) :: fgtN ls (i + 1) r
theorem fgtN_len {ls : List Nat} : ∀ {i : Nat} {δ : Sl}, (fgtN ls i δ).length = δ.length
  | _, [] => rfl
  | i, x :: r => by unfold fgtN; rw [List.length_cons, List.length_cons, fgtN_len]
theorem fgtN_get {ls : List Nat} : ∀ {i : Nat} {δ : Sl} (j : Nat) (x : A), (fgtN ls i δ)[j]? = some (some x) → δ[j]? = some (some x)
  | _, [], j, x, h => by simp [fgtN] at h
  | i, y :: r, 0, x, h => by
    unfold fgtN at h
    rw [List.getElem?_cons_zero] at h ⊢
    split at h
    · simp at h
    · exact h
  | i, y :: r, j + 1, x, h => by
    unfold fgtN at h
    rw [List.getElem?_cons_succ] at h ⊢
    exact fgtN_get j x h
theorem ws_fgt {X : Cx} {F : Fr0} {δ : Sl} {η : Hs} {nx bk ct : SH} {rt : A → Hs → Prop} {sts : List Stmt} (ls : List Nat) (q : WSs X F sts (fgtN ls 0 δ) η nx rt bk ct) : WSs X F sts δ η nx rt bk ct := ws_forget fgtN_len fgtN_get q
theorem lg {n : Int} (h : n.natAbs < 18446744073709551616) : n.natAbs.log2 < 9000 := by
  by_cases z : n.natAbs = 0
  · rw [z]; decide
  · exact Nat.lt_of_lt_of_le ((Nat.log2_lt z).mpr (show n.natAbs < 2 ^ 64 from h)) (by decide)
theorem lgm {a b : Int} (h : a.natAbs ≤ 1000000) (h' : b.natAbs ≤ 1000000) : (a * b).natAbs.log2 < 9000 := lg (by
  rw [Int.natAbs_mul]
  exact Nat.lt_of_le_of_lt (Nat.mul_le_mul h h') (by decide))
/-- append to a list of data, told as a map -/
theorem m_appM {X : Cx} {F : Fr0} {δ : Sl} {η η' : Hs} {Q : A → Hs → Prop} {α : Type} {f : α → D} {l : List α} {k : Nat} {x : A} (y : α) (hx : x = .d (f y)) (hu : atH η k = some (.lst (l.map f))) (hl : l.length < 16777216)
    (hw : wrH η k (some (.lst ((l ++ [y]).map f))) = some η') (q : Q (.d .non) η') : MtJ X F "list.append" (.h k) [x] δ η Q := by
  subst hx
  refine m_app hu (u' := .lst ((l ++ [y]).map f)) ?_ ?_ hw q
  · show some (O.lst (l.map f ++ [f y])) = _
    rw [List.map_append]
    rfl
  · show (l.map f).length < _
    rw [List.length_map]
    exact hl
theorem mkL_repM {α : Type} {f : α → D} {y : α} {n : Nat} : mkL (List.replicate n [A.d (f y)]).flatten = .lst ((List.replicate n y).map f) := by
  rw [show (List.replicate n [A.d (f y)]).flatten = ((List.replicate n y).map f).map A.d from ?_, mkL_map]
  induction n with
  | zero => rfl
  | succ n ih => rw [List.replicate_succ, List.replicate_succ, List.flatten_cons, ih]; rfl
/-- [y] * n, told as a map -/
theorem b_repM {X : Cx} {F : Fr0} {δ : Sl} {η η' : Hs} {Q : A → Hs → Prop} {α : Type} {f : α → D} (y : α) (n : Nat) {j k : Nat} (hx : lstH η j = some [A.d (f y)]) (hn : n ≤ 16777216) (hk : pushO η (some (.lst ((List.replicate n y).map f))) = some (k, η')) (q : Q (.h k) η') : Op2 X F (binaryOp .Mult) (.h j) (I n) δ η Q := by
  refine b_rep hx ⟨by omega, by omega⟩ ?_ ?_ q
  · rw [Int.toNat_natCast, List.length_singleton, Nat.one_mul]
    exact hn
  · rw [Int.toNat_natCast, mkL_repM]
    exact hk
/-- keep the handles at ix; the slots behind told -/
theorem ws_gcE {X : Cx} {F : Fr0} {δ : Sl} {η η' : Hs} {nx bk ct : SH} {rt : A → Hs → Prop} {k : Nat} {sts : List Stmt} (ix : List Nat) (δ' : Sl) (hk : F.m.length ≤ k) (hp : preN k ix = true) (nd : ndN ix = true) (h : keepH ix η ix = some η') (hd : renSl (posN ix) δ = δ') (q : WSs X F sts δ' η' nx rt bk ct) : WSs X F sts δ η nx rt bk ct := by
  subst hd
  exact ws_gc ix hk hp nd h q
/-! ### subscripts of lists told as maps -/
theorem ixA_map {α : Type} {f : α → D} {l : List α} {y : α} {n : Nat} (h : l[n]? = some y) : ixA (l.map f) (n : Int) = some (f y) := ixA_nat (by rw [List.getElem?_map, h]; rfl)
theorem x_lstM {X : Cx} {F : Fr0} {δ : Sl} {η : Hs} {Q : A → Hs → Prop} {α : Type} {f : α → D} {l : List α} {y : α} {i : Int} {k : Nat} (n : Nat) (hi : i = n) (hk : atH η k = some (.lst (l.map f))) (h : l[n]? = some y) (q : Q (.d (f y)) η) : Ix2 X F (.h k) (I i) δ η Q := by
  subst hi
  exact x_lst hk (ixA_map h) q
theorem x_frzM {X : Cx} {F : Fr0} {δ : Sl} {η : Hs} {Q : A → Hs → Prop} {α : Type} {f : α → D} {l : List α} {y : α} {i : Int} (n : Nat) (hi : i = n) (h : l[n]? = some y) (q : Q (.d (f y)) η) : Ix2 X F (.d (.lst (l.map f))) (I i) δ η Q := by
  subst hi
  exact x_frz (ixA_map h) q
theorem x_tupM {X : Cx} {F : Fr0} {δ : Sl} {η : Hs} {Q : A → Hs → Prop} {α : Type} {f : α → D} {l : List α} {y : α} {i : Int} (n : Nat) (hi : i = n) (h : l[n]? = some y) (q : Q (.d (f y)) η) : Ix2 X F (.d (.tup (l.map f))) (I i) δ η Q := by
  subst hi
  exact x_tup (ixA_map h) q
theorem cutA_map {α : Type} {f : α → D} {xs : List α} {a b : Nat} : cutA ((xs.map f).map A.d) (some (a : Int)) (some (b : Int)) = (((xs.drop a).take (b - a)).map f).map A.d := by
  unfold cutA
  rw [HT.sIx_nat, HT.sIx_nat, List.length_map, List.length_map, ← List.map_drop, ← List.map_drop, ← List.map_take, ← List.map_take]
  congr 2
  by_cases h : a ≤ xs.length
  · rw [Nat.min_eq_left h]
    by_cases h2 : b ≤ xs.length
    · rw [Nat.min_eq_left h2]
    · rw [Nat.min_eq_right (show xs.length ≤ b by omega), List.take_of_length_le (by rw [List.length_drop]; omega), List.take_of_length_le (by rw [List.length_drop]; omega)]
  · rw [Nat.min_eq_right (show xs.length ≤ a by omega), List.drop_of_length_le (Nat.le_refl _), List.drop_of_length_le (by omega), List.take_nil, List.take_nil]
theorem setO_map {α : Type} {f : α → D} {l : List α} {y : α} {n : Nat} (h : n < l.length) : setO (.lst (l.map f)) (n : Int) (.d (f y)) = some (.lst ((l.set n y).map f)) := by
  unfold setO ixN
  dsimp only
  rw [if_pos (by omega), List.length_map, if_pos (by omega), Int.toNat_natCast, List.map_set]
/-- xs[n] = v, told as a map -/
theorem st_lstM {X : Cx} {F : Fr0} {δ : Sl} {η η' : Hs} {q : Hs → Prop} {α : Type} {f : α → D} {l : List α} {k : Nat} {i : Int} {x : A} (n : Nat) (y : α) (hi : i = n) (hx : x = .d (f y)) (hu : atH η k = some (.lst (l.map f))) (hl : n < l.length)
    (hw : wrH η k (some (.lst ((l.set n y).map f))) = some η') (hq : q η') : SetJ X F (.h k) (I i) x δ η q := by
  subst hi hx
  exact st_lst hu (setO_map hl) hw hq
end Y
set_option Elab.async false
set_option linter.all false
set_option maxRecDepth 100000
set_option maxHeartbeats 2000000
set_option autoImplicit false
/-! J: the programs as small trees without places; what they ask, as propositions that unfold -/
namespace Y
open PySem PySem.Spec PyProof.Rows L2

/-- the built-in functions, classes and methods that are spoken of -/
inductive Bi where
  | len | abs | max | min | isi | all | any
inductive Bt where
  | int | tuple | list
inductive Bm where
  | append | insert | index
def Bi.id : Bi → String
  | .len => "len" | .abs => "abs" | .max => "max" | .min => "min" | .isi => "isinstance" | .all => "all" | .any => "any"
def Bt.id : Bt → String
  | .int => "int" | .tuple => "tuple" | .list => "list"
def Bm.id : Bm → Str
  | .append => "append" | .insert => "insert" | .index => "index"
def Bm.ty : Bm → String
  | _ => "list"
mutual
inductive JE where
  | nm (i : Nat) | k (d : D) | cls (c : Nat)
  | bin (op : Operator) (a b : JE) | neg (a : JE)
  | cmp (op : CmpOp) (a b : JE) | chn (op op' : CmpOp) (a b c : JE)
  | and (a b : JE) | or (a b : JE) | not (a : JE) | ife (c : JC) (a b : JE)
  | tup (es : JL) | lst (es : JL) | ix (a b : JE) | sli (a : JE) (lo hi : JO)
  | fld (a : JE) (c : Nat) (f : Str) | con (a : JE) (c : Nat) (f : Str) (d : D) | exf (a : JE) (f : Str)
  | callB (id : Bi) (es : JL) | callT (T : Bt) (es : JL)
  | fn (f : Nat) (es : JL) | mth (a : JE) (m : Bm) (es : JL) | own (a : JE) (c : Nat) (m : Str) (f : Nat) (es : JL)
  | mk (c f : Nat) (g : List (Nat ⊕ D)) (es ks : JL)
  | lc (tg : JT) (it : JI) (ifs : JO') (e : JE) (vs : List Nat)
  | dc (tg : JT) (it : JI) (ifs : JO') (kx vx : JE) (vs : List Nat)
  | dnew | frz (a : JE)
inductive JL where
  | nil | cons (e : JE) (r : JL)
inductive JO where
  | none | some (e : JE)
inductive JO' where
  | none | some (c : JC)
/-- what is walked -/
inductive JI where
  | rng1 (a : JE) | rng2 (a b : JE) | seq (a : JE) | en (a : JE) | keys (a : JE) | items (a : JE)
/-- tests -/
inductive JC where
  | val (a : JE) | cmp (op : CmpOp) (a b : JE) | chn (op op' : CmpOp) (a b c : JE)
  | and (a b : JC) | or (a b : JC) | not (a : JC)
inductive JT where
  | nm (i : Nat) | tup (ts : JTs)
inductive JTs where
  | nil | cons (t : JT) (r : JTs)
end
mutual
inductive JS where
  | asg (t : JT) (e : JE) | aug (i : Nat) (op : Operator) (e : JE) | fldS (o : JE) (c : Nat) (f : Str) (e : JE) | ixS (o i e : JE)
  | ex (e : JE) | ret (e : JE) | retN | ife (c : JC) (a b : JB)
  | for (t : JT) (it : JI) (b : JB) | forL (t : JT) (it : JI) (b : JB) | while (c : JC) (b : JB)
  | brk | cont | pass | raise (c : Nat) (fld : Str) (e : JE) | try (b : JB) (c : Nat) (i : Nat) (s : JB)
inductive JB where
  | nil | cons (s : JS) (r : JB)
end

/-- the classes of a program -/
structure CM where
  cls : Nat → Addr
  cix : Addr → Option Nat
  eqf : Addr → Option Nat
/-- where a J text is read -/
structure Jx where
  cm : CM
  lv : Nat
  fn : Nat → Spec
  fm : Nat → Spec
  on : Bool
  n0 : Nat
  ex : Option (Addr × Addr × Addr)
def Jx.at (J : Jx) (n : Nat) : Jx := ⟨J.cm, J.lv, J.fn, J.fm, J.on, n, J.ex⟩
def Jx.in (J : Jx) : Jx := ⟨J.cm, J.lv, J.fn, J.fm, J.on, J.n0, none⟩
def Jx.su (J : Jx) (a C dx : Addr) : Jx := ⟨J.cm, J.lv, J.fn, J.fm, false, J.n0, some (a, C, dx)⟩

/-- the error classes: 0 is the base -/
def subC (i c : Nat) : Bool := i == c || (c == 0 && decide (i < 32))

def ob {α : Type} (o : Option α) (P : α → Prop) : Prop := match o with
  | some a => P a
  | none => False
theorem ob_some {α : Type} {a : α} {P : α → Prop} : ob (some a) P = P a := rfl
theorem ob_none {α : Type} {P : α → Prop} : ob none P = False := rfl
theorem ob_i {α : Type} {o : Option α} {P : α → Prop} (a : α) (h : o = some a) (p : P a) : ob o P := by subst h; exact p
theorem ob_e {α : Type} {o : Option α} {P : α → Prop} (h : ob o P) : ∃ a, o = some a ∧ P a := by
  cases o with
  | none => exact h.elim
  | some a => exact ⟨a, rfl, h⟩
/-- a condition, kept closed -/
structure If (b : Bool) (P Q : Prop) : Prop where
  t : b = true → P
  f : b = false → Q
theorem if_t {b : Bool} {P Q : Prop} (e : b = true) (p : P) : If b P Q := ⟨fun _ => p, fun h => by rw [e] at h; cases h⟩
theorem if_f {b : Bool} {P Q : Prop} (e : b = false) (q : Q) : If b P Q := ⟨fun h => (by rw [e] at h; cases h), fun _ => q⟩
/-- a block, kept closed -/
structure Bk (P : Prop) : Prop where
  p : P

def sget : Sl → Nat → Option A
  | [], _ => none
  | x :: _, 0 => x
  | _ :: r, i + 1 => sget r i
theorem sget_eq : ∀ {δ : Sl} {i : Nat} {a : A}, sget δ i = some a → δ[i]? = some (some a)
  | x :: _, 0, a, h => by
    have h : x = some a := h
    rw [h]; rfl
  | _ :: r, i + 1, a, h => by
    have := sget_eq (δ := r) (i := i) h
    simpa using this
def sset : Sl → Nat → A → Option Sl
  | [], _, _ => none
  | _ :: r, 0, a => some (some a :: r)
  | x :: r, i + 1, a => match sset r i a with
    | some r' => some (x :: r')
    | none => none
theorem sset_eq : ∀ {δ δ' : Sl} {i : Nat} {a : A}, sset δ i a = some δ' → i < δ.length ∧ δ' = δ.set i (some a)
  | _ :: r, δ', 0, a, h => by cases h; exact ⟨by simp, rfl⟩
  | x :: r, δ', i + 1, a, h => by
    unfold sset at h
    cases e : sset r i a with
    | none => rw [e] at h; cases h
    | some r' =>
      rw [e] at h
      cases h
      obtain ⟨h1, h2⟩ := sset_eq e
      exact ⟨by simpa using h1, by rw [h2]; rfl⟩

abbrev QA := A → Hs → Prop
abbrev EX := XA → Sl → Prop
/-- a promise may be asked for less -/
def upS (S : Spec) : Spec := fun xs η Q E => ∃ (Q0 : QA) (E0 : XA → Prop), S xs η Q0 E0 ∧ (∀ a η', Q0 a η' → Q a η') ∧ ∀ x, E0 x → E x
theorem upS_i {S : Spec} {xs : List A} {η : Hs} {Q : QA} {E : XA → Prop} (h : S xs η Q E) : upS S xs η Q E := ⟨Q, E, h, fun _ _ q => q, fun _ q => q⟩
theorem upS_mono {S : Spec} {xs : List A} {η : Hs} {Q Q' : QA} {E E' : XA → Prop} (h : upS S xs η Q E) (hq : ∀ a η', Q a η' → Q' a η') (he : ∀ x, E x → E' x) : upS S xs η Q' E' := by
  obtain ⟨Q0, E0, h0, h1, h2⟩ := h
  exact ⟨Q0, E0, h0, fun a η' q => hq _ _ (h1 _ _ q), fun x q => he _ (h2 _ q)⟩

/-! ### operations -/
def jPush (η : Hs) (o : O) (Q : QA) : Prop := Q (.h η.length) (η ++ [some o])
theorem pushO_i {η : Hs} {o : O} {Q : QA} (h : jPush η o Q) : ∃ k η', pushO η (some o) = some (k, η') ∧ Q (.h k) η' := ⟨_, _, pushO_eq η (some o), h⟩
/-- a call: the handles ix go along -/
structure jCall (E : EX) (δ : Sl) (S : Spec) (xs : List A) (η : Hs) (Q : QA) : Prop where
  ex : ∃ (ix : List Nat) (xs₀ : List A) (η₀ : Hs), subS ix xs η = some (xs₀, η₀) ∧ S xs₀ η₀ (fun a₀ η₁ => ∃ a η', backS ix η a₀ η₁ = some (a, η') ∧ Q a η') (fun x => ∃ η', backH (mapN ix η.length) ix η x.η = some η' ∧ E ⟨x.C, x.fs, η'⟩ δ)
theorem jCall_i {E : EX} {δ : Sl} {S : Spec} {xs xs₀ : List A} {η η₀ : Hs} {Q : QA} (ix : List Nat) (hs : subS ix xs η = some (xs₀, η₀)) (h : S xs₀ η₀ (fun a₀ η₁ => ∃ a η', backS ix η a₀ η₁ = some (a, η') ∧ Q a η') (fun x => ∃ η', backH (mapN ix η.length) ix η x.η = some η' ∧ E ⟨x.C, x.fs, η'⟩ δ)) : jCall E δ S xs η Q := ⟨⟨ix, xs₀, η₀, hs, h⟩⟩
def noE : EX := fun _ _ => False

def jAdd (η : Hs) (Q : QA) (x y : A) : Prop := match x, y with
  | .d (.int i), .d (.int j) => Q (I (i + j)) η
  | .d (.int i), .d (.bl k) => Q (I (i + b2i k)) η
  | .h j, .h k => ob (lstH η j) fun xs => ob (lstH η k) fun ys => xs.length + ys.length ≤ sizeLine ∧ jPush η (mkL (xs ++ ys)) Q
  | x, y => ob (itemsT x) fun xs => ob (itemsT y) fun ys => xs.length + ys.length ≤ sizeLine ∧ Q (mkT (xs ++ ys)) η
def jMul (η : Hs) (Q : QA) (x y : A) : Prop := match x, y with
  | .d (.int i), .d (.int j) => ((-(2 ^ 64) < i ∧ i < 2 ^ 64) ∨ (-(2 ^ 64) < j ∧ j < 2 ^ 64)) ∧ Q (I (i * j)) η
  | .h j, .d (.int i) => ob (lstH η j) fun xs => (-(2 ^ 63) ≤ i ∧ i < 2 ^ 63) ∧ xs.length * i.toNat ≤ sizeLine ∧ jPush η (mkL (List.replicate i.toNat xs).flatten) Q
  | x, .d (.int i) => ob (itemsT x) fun xs => xs.isEmpty = false ∧ (1 ≤ i ∧ i ≤ 1000) ∧ xs.length ≤ 1000 ∧ Q (mkT (List.replicate i.toNat xs).flatten) η
  | _, _ => False
def jBin (op : Operator) (η : Hs) (Q : QA) (x y : A) : Prop := match op with
  | .Add => jAdd η Q x y
  | .Mult => jMul η Q x y
  | .Sub => match x, y with
    | .d (.int i), .d (.int j) => Q (I (i - j)) η
    | _, _ => False
  | .Mod => match x, y with
    | .d (.int i), .d (.int j) => 0 < j ∧ Q (I (i % j)) η
    | _, _ => False
  | .FloorDiv => match x, y with
    | .d (.int i), .d (.int j) => 0 < j ∧ j.natAbs.log2 < 9000 ∧ Q (I (i / j)) η
    | _, _ => False
  | .Pow => match x, y with
    | .d (.int i), .d (.int j) => (0 ≤ j ∧ j ≤ 1000000 ∧ i.natAbs < 2 ^ 64) ∧ Q (I (i ^ j.toNat)) η
    | _, _ => False
  | .LShift => match x, y with
    | .d (.int i), .d (.int j) => (0 ≤ j ∧ j ≤ 1000000 ∧ i.natAbs < 2 ^ 64) ∧ Q (I (i * 2 ^ j.toNat)) η
    | _, _ => False
  | .RShift => match x, y with
    | .d (.int i), .d (.int j) => 0 ≤ j ∧ Q (I (i / 2 ^ j.toNat)) η
    | _, _ => False
  | .BitAnd => match x, y with
    | .d (.int i), .d (.int j) => Q (I (Builtin.bitAnd i j)) η
    | _, _ => False
  | .BitXor => match x, y with
    | .d (.int i), .d (.int j) => Q (I (Builtin.bitXor i j)) η
    | _, _ => False
  | _ => False
/-- the class of a value of the program -/
def insC (J : Jx) (η : Hs) (x : A) : Option Nat := match insA η x with
  | some (C, _) => J.cm.cix C
  | none => none
def isInsA (η : Hs) (x : A) : Bool := (insA η x).isSome
/-- own ==: the method of each class -/
def eqT : Nat → Option Nat := fun _ => none
def jEqD (J : Jx) (η : Hs) (Q : Bool → Hs → Prop) (x y : A) : Prop :=
  J.on = true ∧ ob (valD η x) fun a => ob (valD η y) fun b => okD 64 a = true ∧ okD 64 b = true ∧ Q (eqD a b) η
/-- a truth value is wanted -/
def asB (Q : Bool → Hs → Prop) (x : A) (η : Hs) : Prop := match x with
  | .d (.bl b) => Q b η
  | _ => False
theorem asB_e {Q : Bool → Hs → Prop} {x : A} {η : Hs} (h : asB Q x η) : isB Q x η := by
  unfold asB at h
  split at h
  · exact ⟨_, rfl, h⟩
  · exact h.elim
def eqTy (η : Hs) (C : Addr) (y : A) : Prop := match insA η y with
  | some (D, _) => D = C
  | none => (typA η y).isSome = true
def jEqO (J : Jx) (η : Hs) (Q : Bool → Hs → Prop) (C : Addr) (x y : A) : Prop :=
  ob (J.cm.cix C) fun i => ¬ i < 32 ∧ ob (J.cm.eqf C) fun f => J.on = true ∧ eqTy η C y ∧ jCall noE [] (J.fn f) [x, y] η (asB Q)
def jEqX (J : Jx) (η : Hs) (Q : Bool → Hs → Prop) (x y : A) : Prop := match insA η x with
  | some p => jEqO J η Q p.1 x y
  | none => jEqD J η Q x y
def jEq (J : Jx) (η : Hs) (Q : Bool → Hs → Prop) (x y : A) : Prop := match x, y with
  | .d (.int i), .d (.int j) => Q (decide (i = j)) η
  | .d (.str i), .d (.str j) => Q (decide (i = j)) η
  | x, y => jEqX J η Q x y
def jNe (J : Jx) (η : Hs) (Q : Bool → Hs → Prop) (x y : A) : Prop := match x, y with
  | .d (.int i), .d (.int j) => Q (!decide (i = j)) η
  | .d (.str i), .d (.str j) => Q (!decide (i = j)) η
  | x, y => jEqD J η (fun b η' => Q (!b) η') x y
def jIs (η : Hs) (Q : Bool → Hs → Prop) (x y : A) : Prop := match y with
  | .d .non => Q (isNone x) η
  | .d (.bl b) => Q (isBlA b x) η
  | _ => False
/-- ints of a sequence -/
def intsD : List D → Option (List Int)
  | [] => some []
  | .int i :: r => match intsD r with
    | some ns => some (i :: ns)
    | none => none
  | _ :: _ => none
def keyD : D → Option Key
  | .int i => some (.inl i)
  | .str s => some (.inr s)
  | _ => none
def jIn (J : Jx) (η : Hs) (Q : Bool → Hs → Prop) (x y : A) : Prop :=
  (∃ (i : Int) (ns : List Int), x = I i ∧ itemsA η y = some ((dI ns).map .d) ∧ Q (decide (i ∈ ns)) η) ∨
  (J.on = true ∧ ∃ (k : Nat) (d : D) (c : Key) (kvs : List (Key × D)), y = .h k ∧ x = .d d ∧ keyD d = some c ∧ dctH η k = some kvs ∧ Q (getK kvs c).isSome η)
def jCmp (J : Jx) (op : CmpOp) (η : Hs) (Q : Bool → Hs → Prop) (x y : A) : Prop := match op with
  | .Eq => jEq J η Q x y
  | .NotEq => jNe J η Q x y
  | .Lt => match x, y with
    | .d (.int i), .d (.int j) => Q (decide (i < j)) η
    | _, _ => False
  | .LtE => match x, y with
    | .d (.int i), .d (.int j) => Q (decide (i ≤ j)) η
    | _, _ => False
  | .Gt => match x, y with
    | .d (.int i), .d (.int j) => Q (decide (j < i)) η
    | _, _ => False
  | .GtE => match x, y with
    | .d (.int i), .d (.int j) => Q (decide (j ≤ i)) η
    | _, _ => False
  | .Is => jIs η Q x y
  | .IsNot => match y with
    | .d .non => Q (!isNone x) η
    | .d (.bl b) => match x with
      | .d (.bl a) => Q (!decide (a = b)) η
      | _ => False
    | _ => False
  | .In => jIn J η Q x y
  | .NotIn => jIn J η (fun b η' => Q (!b) η') x y
def jIx (J : Jx) (η : Hs) (Q : QA) (x y : A) : Prop := match x with
  | .d (.tup xs) => match y with
    | .d (.int i) => ob (ixA xs i) fun z => Q (.d z) η
    | _ => False
  | .d (.lst xs) => match y with
    | .d (.int i) => ob (ixA xs i) fun z => Q (.d z) η
    | _ => False
  | .t xs => match y with
    | .d (.int i) => ob (ixA xs i) fun z => Q z η
    | _ => False
  | .h k => ob (atH η k) fun o => match o with
    | .lst xs => match y with
      | .d (.int i) => ob (ixA xs i) fun z => Q (.d z) η
      | _ => False
    | .lsA xs => match y with
      | .d (.int i) => ob (ixA xs i) fun z => Q z η
      | _ => False
    | .dK kvs => match y with
      | .d y => J.on = true ∧ ob (keyD y) fun c => ob (getK kvs c) fun z => Q (.d z) η
      | _ => False
    | .lkd _ _ kvs => match y with
      | .d y => J.on = true ∧ ob (keyD y) fun c => ob (getK kvs c) fun z => Q (.d z) η
      | _ => False
    | _ => False
  | _ => False
def jSli (η : Hs) (Q : QA) (x : A) (lo hi : Option Int) : Prop := match itemsT x with
  | some xs => Q (mkT (cutA xs lo hi)) η
  | none => ob (itemsA η x) fun xs => jPush η (mkL (cutA xs lo hi)) Q
def boolsA : List A → Option (List Bool)
  | [] => some []
  | .d (.bl b) :: r => match boolsA r with
    | some bs => some (b :: bs)
    | none => none
  | _ :: _ => none
/-- the built-in types that isinstance is asked for -/
def kitQ (T' T : String) : Option Bool := if T' = T then some true else if T' = "bool" ∧ T = "int" then some true else if T = "int" ∨ T = "bool" ∨ T = "str" ∨ T = "tuple" ∨ T = "list" ∨ T = "dict" then some false else none
def clsQ (J : Jx) (η : Hs) (x : A) (c : Nat) (Q : Bool → Hs → Prop) : Prop := match insA η x with
  | some (C, _) => ob (J.cm.cix C) fun i => ¬ i < 32 ∧ Q (subC i c) η
  | none => ob (typA η x) fun _ => Q false η
def excQ (J : Jx) (C : Addr) : D → Option Bool
  | .ref c => match J.cm.cix C, J.cm.cix c with
    | some i, some j => if i < 32 ∧ j < 32 then some (subC i j) else none
    | _, _ => none
  | .ty T => match J.cm.cix C with
    | some i => if i < 32 ∧ T = "ValueError" then some true else none
    | none => none
  | _ => none
def excQs (J : Jx) (C : Addr) : List D → Option Bool
  | [] => some false
  | d :: r => match excQ J C d, excQs J C r with
    | some a, some b => some (a || b)
    | _, _ => none
def jIsi (J : Jx) (η : Hs) (Q : QA) (x y : A) : Prop := match x with
  | .d (.exc a C dx _) => J.ex = some (a, C, dx) ∧ match y with
    | .d (.tup ds) => ob (J.cm.cix C) fun i => i < 32 ∧ ob (excQs J C ds) fun b => Q (B b) η
    | .d d => ob (excQ J C d) fun b => Q (B b) η
    | _ => False
  | x => match y with
    | .d (.ty T) => ob (typA η x) fun T' => ob (kitQ T' T) fun b => Q (B b) η
    | .d (.ref c) => ob (J.cm.cix c) fun i => clsQ J η x i fun b η' => Q (B b) η'
    | _ => False
def jCallB (J : Jx) (bi : Bi) (η : Hs) (Q : QA) (xs : List A) : Prop := match bi with
  | .len => match xs with
    | [x] => (∃ n, lenA η x = some n ∧ (n ≤ sizeLine → Q (I n) η)) ∨ (∃ k kvs, x = .h k ∧ dctH η k = some kvs ∧ Q (I kvs.length) η)
    | _ => False
  | .abs => match xs with
    | [.d (.int i)] => Q (I (if i < 0 then -i else i)) η
    | _ => False
  | .max => match xs with
    | [.d (.int i), .d (.int j)] => Q (I (max i j)) η
    | _ => False
  | .min => match xs with
    | [.d (.int i), .d (.int j)] => Q (I (min i j)) η
    | _ => False
  | .isi => match xs with
    | [x, y] => jIsi J η Q x y
    | _ => False
  | .all => match xs with
    | [x] => ∃ bs, itemsA η x = some ((dB bs).map .d) ∧ itemsT x = none ∧ Q (B (bs.all id)) η
    | _ => False
  | .any => match xs with
    | [x] => ∃ bs, itemsA η x = some ((dB bs).map .d) ∧ itemsT x = none ∧ Q (B (bs.any id)) η
    | _ => False
def jCallT (T : Bt) (η : Hs) (Q : QA) (xs : List A) : Prop := match T with
  | .int => match xs with
    | [.d (.int i)] => Q (I i) η
    | [.d (.bl k)] => Q (I (if k then 1 else 0)) η
    | _ => False
  | .tuple => match xs with
    | [x] => ob (itemsA η x) fun ys => Q (mkT ys) η
    | _ => False
  | .list => match xs with
    | [x] => ob (itemsA η x) fun ys => jPush η (mkL ys) Q
    | _ => False
def jMth (m : Bm) (x : A) (η : Hs) (Q : QA) (xs : List A) : Prop := match m with
  | .append => match x with
    | .h k => ob (atH η k) fun u => match xs with
      | [y] => ob (appO u y) fun u' => lenO u < sizeLine ∧ ob (wrH η k (some u')) fun η' => Q (.d .non) η'
      | _ => False
    | _ => False
  | .insert => match x with
    | .h k => ob (atH η k) fun u => match xs with
      | [.d (.int i), .d y] => (match u with
        | .lst ys => (0 ≤ i ∧ i < 2 ^ 63) ∧ ys.length < sizeLine ∧ ob (wrH η k (some (.lst (ys.take i.toNat ++ [y] ++ ys.drop i.toNat)))) fun η' => Q (.d .non) η'
        | _ => False)
      | _ => False
    | _ => False
  | .index => match xs with
    | [.d (.int i)] => itemsT x = none ∧ ∃ ns, itemsA η x = some ((dI ns).map .d) ∧ i ∈ ns ∧ Q (I (ns.idxOf i : Nat)) η
    | _ => False
def jSet (J : Jx) (η : Hs) (q : Hs → Prop) (y z x : A) : Prop := match y with
  | .h k => ob (atH η k) fun u => match u with
    | .dK kvs => J.on = true ∧ match z, x with
      | .d z, .d x => ob (keyD z) fun c => kvs.length < sizeLine ∧ ob (wrH η k (some (.dK (setK kvs c x)))) q
      | _, _ => False
    | u => match z with
      | .d (.int i) => ob (setO u i x) fun u' => ob (wrH η k (some u')) q
      | _ => False
  | _ => False
def jFld (J : Jx) (η : Hs) (Q : QA) (c : Nat) (f : Str) (x : A) : Prop := ob (insA η x) fun p => p.1 = J.cm.cls c ∧ ob (lookF f p.2) fun y => Q y η
def jFldS (J : Jx) (η : Hs) (q : Hs → Prop) (c : Nat) (f : Str) (x y : A) : Prop := match y with
  | .h k => ob (atH η k) fun u => match u with
    | .ins C fs => C = J.cm.cls c ∧ fs.length < 1000 ∧ ob (wrH η k (some (.ins C (putA f x fs)))) q
    | _ => False
  | _ => False
def gaK (g : List (Nat ⊕ D)) (xs ys : List A) : List A := xs ++ g.map fun
  | .inl i => ys.getD i (.d .non)
  | .inr d => .d d
def jTru (J : Jx) (η : Hs) (Q : Bool → Hs → Prop) (x : A) : Prop := match x with
  | .d (.bl b) => Q b η
  | _ => False

def jlLen : JL → Nat
  | .nil => 0
  | .cons _ r => jlLen r + 1
/-! ### expressions -/
mutual
def wTg : JT → A → Sl → (Sl → Prop) → Prop
  | .nm i, x, δ, Q => ob (sset δ i x) Q
  | .tup ts, x, δ, Q => ob (itemsT x) fun xs => wTgs ts xs δ Q
def wTgs : JTs → List A → Sl → (Sl → Prop) → Prop
  | .nil, [], δ, Q => Q δ
  | .cons t r, x :: xs, δ, Q => wTg t x δ fun δ1 => wTgs r xs δ1 Q
  | _, _, _, _ => False
end
/-- a comprehension -/
structure jLc (tg : JT) (tst : Sl → Hs → (Bool → Hs → Prop) → Prop) (elt : Sl → Hs → QA → Prop) (vs : List Nat) (items : List A) (ok : Hs → Prop) (δ : Sl) (η1 : Hs) (Q : QA) : Prop where
  ex : ∃ Pv : Nat → List D → Hs → Prop, Pv 0 [] η1 ∧ (∀ i acc η', i ≤ items.length → Pv i acc η' → ok η' ∧ η'.length = η1.length) ∧
    (∀ (i : Nat) (x : A) (acc : List D) (η' : Hs), items[i]? = some x → Pv i acc η' → acc.length < sizeLine ∧ wTg tg x (wipeSl δ vs) fun δ2 => tst δ2 η' fun b η2 =>
      If b (elt δ2 η2 (GcD η1.length fun y η3 => Pv (i + 1) (acc ++ [y]) η3)) (Pv (i + 1) acc η2)) ∧ ∀ acc η', Pv items.length acc η' → jPush η' (.lst acc) Q
structure jDc (tg : JT) (tst : Sl → Hs → (Bool → Hs → Prop) → Prop) (kx vx : Sl → Hs → QA → Prop) (vs : List Nat) (items : List A) (ok : Hs → Prop) (δ : Sl) (η1 : Hs) (Q : QA) : Prop where
  ex : ∃ Pv : Nat → List (Key × D) → Hs → Prop, Pv 0 [] η1 ∧ (∀ i acc η', i ≤ items.length → Pv i acc η' → ok η' ∧ η'.length = η1.length) ∧
    (∀ (i : Nat) (x : A) (acc : List (Key × D)) (η' : Hs), items[i]? = some x → Pv i acc η' → acc.length < sizeLine ∧ wTg tg x (wipeSl δ vs) fun δ2 => tst δ2 η' fun b η2 =>
      If b (kx δ2 η2 fun y η3 => vx δ2 η3 (GcD η1.length fun z η4 => ∃ c, y = .d (kD c) ∧ Pv (i + 1) (setK acc c z) η4)) (Pv (i + 1) acc η2)) ∧ ∀ acc η', Pv items.length acc η' → jPush η' (.dK acc) Q
mutual
def wE (J : Jx) (E : EX) : JE → Sl → Hs → QA → Prop
  | .nm i, δ, η, Q => ob (sget δ i) fun a => Q a η
  | .k d, δ, η, Q => Q (.d d) η
  | .cls c, δ, η, Q => Q (.d (.ref (J.cm.cls c))) η
  | .bin op a b, δ, η, Q => wE J E a δ η fun x η1 => wE J E b δ η1 fun y η2 => jBin op η2 Q x y
  | .neg a, δ, η, Q => wE J E a δ η fun x η1 => match x with
    | .d (.int i) => Q (I (-i)) η1
    | _ => False
  | .cmp op a b, δ, η, Q => wE J E a δ η fun x η1 => wE J E b δ η1 fun y η2 => jCmp J op η2 (fun b η3 => Q (B b) η3) x y
  | .chn op op' a b c, δ, η, Q => wE J E a δ η fun x η1 => wE J E b δ η1 fun y η2 => jCmp J op η2 (fun k η3 => If k (wE J E c δ η3 fun z η4 => jCmp J op' η4 (fun b η5 => Q (B b) η5) y z) (Q (B false) η3)) x y
  | .and a b, δ, η, Q => wE J E a δ η (asB fun k η1 => If k (wE J E b δ η1 Q) (Q (B false) η1))
  | .or a b, δ, η, Q => wE J E a δ η (asB fun k η1 => If k (Q (B true) η1) (wE J E b δ η1 Q))
  | .not a, δ, η, Q => wE J E a δ η (asB fun k η1 => Q (B (!k)) η1)
  | .ife c a b, δ, η, Q => wC J E c δ η fun k η1 => If k (wE J E a δ η1 Q) (wE J E b δ η1 Q)
  | .tup es, δ, η, Q => wL J E es δ η fun xs η1 => xs.length ≤ sizeLine ∧ Q (mkT xs) η1
  | .lst es, δ, η, Q => wL J E es δ η fun xs η1 => xs.length ≤ sizeLine ∧ jPush η1 (mkL xs) Q
  | .ix a b, δ, η, Q => wE J E a δ η fun x η1 => wE J E b δ η1 fun y η2 => jIx J η2 Q x y
  | .sli a lo hi, δ, η, Q => wE J E a δ η fun x η1 => wO J E lo δ η1 fun l η2 => wO J E hi δ η2 fun u η3 => jSli η3 Q x l u
  | .fld a c f, δ, η, Q => wE J E a δ η fun x η1 => jFld J η1 Q c f x
  | .con a c f d, δ, η, Q => wE J E a δ η fun x η1 => ob (insA η1 x) fun p => p.1 = J.cm.cls c ∧ lookF f p.2 = none ∧ Q (.d d) η1
  | .exf a f, δ, η, Q => wE J E a δ η fun x η1 => match x with
    | .d (.exc a C dx fs) => J.ex = some (a, C, dx) ∧ ob (J.cm.cix C) fun i => i < 32 ∧ ob (lookF f fs) fun d => Q (.d d) η1
    | _ => False
  | .callB id es, δ, η, Q => wL J E es δ η fun xs η1 => jCallB J id η1 Q xs
  | .callT T es, δ, η, Q => wL J E es δ η fun xs η1 => jCallT T η1 Q xs
  | .fn f es, δ, η, Q => J.on = true ∧ wL J E es δ η fun xs η1 => jCall E δ (J.fn f) xs η1 Q
  | .mth a m es, δ, η, Q => wE J E a δ η fun x η1 => tyA η1 x = some m.ty ∧ wL J E es δ η1 fun xs η2 => jMth m x η2 Q xs
  | .own a c m f es, δ, η, Q => J.on = true ∧ wE J E a δ η fun x η1 => ob (insA η1 x) fun p => p.1 = J.cm.cls c ∧ lookF m p.2 = none ∧ wL J E es δ η1 fun xs η2 => jCall E δ (J.fn f) (x :: xs) η2 Q
  | .mk c f g es ks, δ, η, Q => J.on = true ∧ 1 ≤ J.lv ∧ wL J E es δ η fun xs η1 => wL J E ks δ η1 fun ys η2 => xs.length = jlLen es ∧ ys.length = jlLen ks ∧ jPush η2 (.ins (J.cm.cls c) []) fun h η3 => jCall E δ (J.fm f) (gaK g (h :: xs) ys) η3 fun a η4 => a = .d .non ∧ Q h η4
  | .lc tg it ifs e vs, δ, η, Q => wI J E it δ η fun items ok η1 => jLc tg (fun δ2 η' P => wO' J.in noE ifs δ2 η' P) (fun δ2 η' P => wE J.in noE e δ2 η' P) vs items ok δ η1 Q
  | .dc tg it ifs kx vx vs, δ, η, Q => wI J E it δ η fun items ok η1 => jDc tg (fun δ2 η' P => wO' J.in noE ifs δ2 η' P) (fun δ2 η' P => wE J.in noE kx δ2 η' P) (fun δ2 η' P => wE J.in noE vx δ2 η' P) vs items ok δ η1 Q
  | .dnew, δ, η, Q => jPush η (.dK []) Q
  | .frz a, δ, η, Q => wE J E a δ η fun x η1 => ∃ k o d η2, x = .h k ∧ atH η1 k = some o ∧ pureO o = some d ∧ frzSl k d δ = δ ∧ keepH (List.range η.length) (frzH k d 0 η1) (List.range η.length) = some η2 ∧ renSl (posN (List.range η.length)) δ = δ ∧ Q (.d d) η2
def wL (J : Jx) (E : EX) : JL → Sl → Hs → (List A → Hs → Prop) → Prop
  | .nil, δ, η, Q => Q [] η
  | .cons e r, δ, η, Q => wE J E e δ η fun x η1 => wL J E r δ η1 fun xs η2 => Q (x :: xs) η2
def wO (J : Jx) (E : EX) : JO → Sl → Hs → (Option Int → Hs → Prop) → Prop
  | .none, δ, η, Q => Q none η
  | .some e, δ, η, Q => wE J E e δ η fun x η1 => match x with
    | .d (.int i) => Q (some i) η1
    | _ => False
def wO' (J : Jx) (E : EX) : JO' → Sl → Hs → (Bool → Hs → Prop) → Prop
  | .none, δ, η, Q => Q true η
  | .some c, δ, η, Q => wC J E c δ η Q
def wI (J : Jx) (E : EX) : JI → Sl → Hs → (List A → (Hs → Prop) → Hs → Prop) → Prop
  | .rng1 a, δ, η, Q => wE J E a δ η fun x η1 => match x with
    | .d (.int j) => (-(2 ^ 62) ≤ j ∧ j < 2 ^ 62) ∧ Q (intsA 0 j.toNat) (fun _ => True) η1
    | _ => False
  | .rng2 a b, δ, η, Q => wE J E a δ η fun x η1 => wE J E b δ η1 fun y η2 => match x, y with
    | .d (.int i), .d (.int j) => (-(2 ^ 62) ≤ i ∧ i < 2 ^ 62 ∧ -(2 ^ 62) ≤ j ∧ j < 2 ^ 62) ∧ Q (intsA i (j - i).toNat) (fun _ => True) η2
    | _, _ => False
  | .seq a, δ, η, Q => wE J E a δ η fun x η1 => ob (itemsA η1 x) fun items => Q items (okSeq η1 x) η1
  | .en a, δ, η, Q => wE J E a δ η fun x η1 => ob (itemsA η1 x) fun items => Q (enumA items) (okSeq η1 x) η1
  | .keys a, δ, η, Q => wE J E a δ η fun x η1 => ∃ k ob vs kvs, x = .h k ∧ atH η1 k = some (.lkd ob vs kvs) ∧ Q (keysA kvs) (fun η' => atH η' k = some (.lkd ob vs kvs)) η1
  | .items a, δ, η, Q => wE J E a δ η fun x η1 => ∃ k ob vs kvs, x = .h k ∧ atH η1 k = some (.lkd ob vs kvs) ∧ Q (itemsD kvs) (fun η' => atH η' k = some (.lkd ob vs kvs)) η1
def wC (J : Jx) (E : EX) : JC → Sl → Hs → (Bool → Hs → Prop) → Prop
  | .val a, δ, η, Q => wE J E a δ η fun x η1 => jTru J η1 Q x
  | .cmp op a b, δ, η, Q => wE J E a δ η fun x η1 => wE J E b δ η1 fun y η2 => jCmp J op η2 Q x y
  | .chn op op' a b c, δ, η, Q => wE J E a δ η fun x η1 => wE J E b δ η1 fun y η2 => jCmp J op η2 (fun k η3 => If k (wE J E c δ η3 fun z η4 => jCmp J op' η4 Q y z) (Q false η3)) x y
  | .and a b, δ, η, Q => wC J E a δ η fun k η1 => If k (wC J E b δ η1 Q) (Q false η1)
  | .or a b, δ, η, Q => wC J E a δ η fun k η1 => If k (Q true η1) (wC J E b δ η1 Q)
  | .not a, δ, η, Q => wC J E a δ η fun k η1 => Q (!k) η1
end

/-! ### statements -/
/-- what is told of a state may be told otherwise: slots forgotten, handles dropped, objects frozen -/
inductive Gh (n0 : Nat) : Sl → Hs → Sl → Hs → Prop where
  | refl {δ : Sl} {η : Hs} : Gh n0 δ η δ η
  | fgt {δ : Sl} {η : Hs} {δ' : Sl} {η' : Hs} (ls : List Nat) (h : Gh n0 (fgtN ls 0 δ) η δ' η') : Gh n0 δ η δ' η'
  | gc {δ : Sl} {η η1 : Hs} {δ' : Sl} {η' : Hs} (ix : List Nat) (hp : preN n0 ix = true) (nd : ndN ix = true) (hk : keepH ix η ix = some η1) (h : Gh n0 (renSl (posN ix) δ) η1 δ' η') : Gh n0 δ η δ' η'
  | frz {δ : Sl} {η : Hs} {δ' : Sl} {η' : Hs} (i : Nat) (o : O) (d : D) (ho : η[i]? = some (some o)) (hd : pureO o = some d) (h : Gh n0 (frzSl i d δ) (frzH i d 0 η) δ' η') : Gh n0 δ η δ' η'
def gh (n0 : Nat) (δ : Sl) (η : Hs) (P : SH) : Prop := ∃ δ' η', Gh n0 δ η δ' η' ∧ P δ' η'
theorem gh_i {n0 : Nat} {δ : Sl} {η : Hs} {P : SH} (p : P δ η) : gh n0 δ η P := ⟨δ, η, .refl, p⟩
theorem gh_fgt {n0 : Nat} {δ : Sl} {η : Hs} {P : SH} (ls : List Nat) (p : gh n0 (fgtN ls 0 δ) η P) : gh n0 δ η P := by
  obtain ⟨δ', η', h, q⟩ := p
  exact ⟨δ', η', .fgt ls h, q⟩
theorem gh_gc {n0 : Nat} {δ : Sl} {η η1 : Hs} {P : SH} (ix : List Nat) (hp : preN n0 ix = true) (nd : ndN ix = true) (hk : keepH ix η ix = some η1) (p : gh n0 (renSl (posN ix) δ) η1 P) : gh n0 δ η P := by
  obtain ⟨δ', η', h, q⟩ := p
  exact ⟨δ', η', .gc ix hp nd hk h, q⟩
theorem gh_frz {n0 : Nat} {δ : Sl} {η : Hs} {P : SH} (i : Nat) {o : O} {d : D} (ho : η[i]? = some (some o)) (hd : pureO o = some d) (p : gh n0 (frzSl i d δ) (frzH i d 0 η) P) : gh n0 δ η P := by
  obtain ⟨δ', η', h, q⟩ := p
  exact ⟨δ', η', .frz i o d ho hd h, q⟩

abbrev RT := A → Hs → Prop
/-- the loop -/
structure jFor (tg : JT) (body : Sl → Hs → SH → SH → SH → Prop) (items : List A) (ok : Hs → Prop) (δ : Sl) (η : Hs) (nx : SH) : Prop where
  ex : ∃ Pv : Nat → SH, Pv 0 δ η ∧ (∀ i δ' η', i ≤ items.length → Pv i δ' η' → ok η') ∧
    (∀ (i : Nat) (x : A) δ' η', items[i]? = some x → Pv i δ' η' → wTg tg x δ' fun δ2 => body δ2 η' (Pv (i + 1)) nx (Pv (i + 1))) ∧ ∀ δ' η', Pv items.length δ' η' → nx δ' η'
/-- the loop over a dict: it is locked meanwhile -/
structure jForL (tg : JT) (it : Hs → (List A → (Hs → Prop) → Hs → Prop) → Prop) (body : Nat → Sl → Hs → SH → Prop) (δ : Sl) (η : Hs) (nx : SH) : Prop where
  ex : ∃ k kvs, atH η k = some (.dK kvs) ∧ ∀ (o : Obj) (vs : List (Key × V)), ∃ η1, wrH η k (some (.lkd o vs kvs)) = some η1 ∧ it η1 fun items ok η2 =>
    ∃ Pv : Nat → SH, Pv 0 δ η2 ∧ η2.length = η1.length ∧ (∀ i δ' η', i ≤ items.length → Pv i δ' η' → ok η' ∧ atH η' k = some (.lkd o vs kvs)) ∧
      (∀ (i : Nat) (x : A) δ' η', items[i]? = some x → Pv i δ' η' → wTg tg x δ' fun δ2 => body η2.length δ2 η' (Pv (i + 1))) ∧ ∀ δ' η', Pv items.length δ' η' → ∃ η3, wrH η' k (some (.dK kvs)) = some η3 ∧ nx δ' η3
structure jWhile (tst : Sl → Hs → (Bool → Hs → Prop) → Prop) (body : Sl → Hs → SH → SH → Prop) (δ : Sl) (η : Hs) (nx : SH) : Prop where
  ex : ∃ Pv : Nat → SH, (∃ n, Pv n δ η) ∧ ∀ n δ' η', Pv n δ' η' → tst δ' η' fun k η1 => If k (body δ' η1 (fun δ2 η2 => ∃ n', n' < n ∧ Pv n' δ2 η2) nx) (nx δ' η1)
mutual
def wS (J : Jx) (E : EX) : JS → Sl → Hs → SH → RT → SH → SH → Prop
  | .asg t e, δ, η, nx, rt, bk, ct => wE J E e δ η fun x η1 => wTg t x δ fun δ' => nx δ' η1
  | .aug i op e, δ, η, nx, rt, bk, ct => ob (sget δ i) fun a => wE J E e δ η fun y η1 => (match a, y with
    | .d (.int m), .d (.int n) => jBin op η1 (fun z η2 => ob (sset δ i z) fun δ' => nx δ' η2) (.d (.int m)) (.d (.int n))
    | _, _ => False)
  | .fldS o c f e, δ, η, nx, rt, bk, ct => wE J E e δ η fun x η1 => wE J E o δ η1 fun y η2 => jFldS J η2 (nx δ) c f x y
  | .ixS o i e, δ, η, nx, rt, bk, ct => wE J E e δ η fun x η1 => wE J E o δ η1 fun y η2 => wE J E i δ η2 fun z η3 => jSet J η3 (nx δ) y z x
  | .ex e, δ, η, nx, rt, bk, ct => wE J E e δ η fun _ η1 => nx δ η1
  | .ret e, δ, η, nx, rt, bk, ct => wE J E e δ η rt
  | .retN, δ, η, nx, rt, bk, ct => rt (.d .non) η
  | .ife c a b, δ, η, nx, rt, bk, ct => wC J E c δ η fun k η1 => If k (Bk (wB J E a δ η1 nx rt bk ct)) (Bk (wB J E b δ η1 nx rt bk ct))
  | .for tg it b, δ, η, nx, rt, bk, ct => wI J E it δ η fun items ok η1 => jFor tg (fun δ' η' n b' c => Bk (wB (J.at η1.length) E b δ' η' n rt b' c)) items ok δ η1 nx
  | .forL tg it b, δ, η, nx, rt, bk, ct => jForL tg (fun η1 P => wI J E it δ η1 P) (fun n δ' η' n' => Bk (wB (J.at n) E b δ' η' n' (fun _ _ => False) noSH n')) δ η nx
  | .while c b, δ, η, nx, rt, bk, ct => jWhile (fun δ' η' P => wC J E c δ' η' P) (fun δ' η' n' b' => Bk (wB J E b δ' η' n' rt b' n')) δ η nx
  | .brk, δ, η, nx, rt, bk, ct => bk δ η
  | .cont, δ, η, nx, rt, bk, ct => gh J.n0 δ η ct
  | .pass, δ, η, nx, rt, bk, ct => nx δ η
  | .raise c f e, δ, η, nx, rt, bk, ct => J.on = true ∧ 2 ≤ J.lv ∧ wE J E e δ η fun x η1 => (match x with
    | .d y => E ⟨J.cm.cls c, [(f, y)], η1⟩ δ
    | _ => False)
  | .try b c i s, δ, η, nx, rt, bk, ct => wB J.in (fun x δ' => ∃ b', excQ J x.C (.ref (J.cm.cls c)) = some b' ∧ If b' (∀ (a dx : Addr), Bk (wB (J.su a x.C dx) noE s (δ'.set i (some (.d (.exc a x.C dx x.fs)))) x.η (fun δ η => nx (δ.set i none) η) rt (fun δ η => bk (δ.set i none) η) (fun δ η => ct (δ.set i none) η))) (E x δ')) b δ η nx rt bk ct
def wB (J : Jx) (E : EX) : JB → Sl → Hs → SH → RT → SH → SH → Prop
  | .nil, δ, η, nx, rt, bk, ct => gh J.n0 δ η nx
  | .cons s r, δ, η, nx, rt, bk, ct => gh J.n0 δ η fun δ η => wS J E s δ η (fun δ1 η1 => Bk (wB J E r δ1 η1 nx rt bk ct)) rt bk ct
end
/-- a def -/
structure JD where
  n : Nat
  ps : Nat
  body : JB
def start0 : Nat → List A → Option Sl
  | 0, [] => some []
  | 0, _ :: _ => none
  | n + 1, x :: xs => match start0 n xs with
    | some r => some (some x :: r)
    | none => none
  | n + 1, [] => match start0 n [] with
    | some r => some (none :: r)
    | none => none
def jDef (J : Jx) (d : JD) : Spec := fun xs η Q E => xs.length = d.ps ∧ ob (start0 d.n xs) fun δ =>
  wB (J.at η.length) (GcX η.length E) d.body δ η (fun _ η' => GcR η.length Q (.d .non) η') (GcR η.length Q) noSH noSH
/-- the defs of a program at a depth, and at the one before -/
def jF2 (cm : CM) (tab : Nat → Option JD) : Nat → (Nat → Spec) × (Nat → Spec)
  | 0 => (fun _ _ _ _ _ => False, fun _ _ _ _ _ => False)
  | k + 1 => (fun f => upS fun xs η Q E => ob (tab f) fun d => jDef ⟨cm, k, (jF2 cm tab k).1, (jF2 cm tab k).2, true, 0, none⟩ d xs η Q E, (jF2 cm tab k).1)
def jFn (cm : CM) (tab : Nat → Option JD) (k : Nat) : Nat → Spec := (jF2 cm tab k).1
def jFm (cm : CM) (tab : Nat → Option JD) (k : Nat) : Nat → Spec := (jF2 cm tab k).2
theorem jFm_succ {cm : CM} {tab : Nat → Option JD} {k : Nat} : jFm cm tab (k + 1) = jFn cm tab k := rfl
def jAt (cm : CM) (tab : Nat → Option JD) (k : Nat) : Jx := ⟨cm, k, jFn cm tab k, jFm cm tab k, true, 0, none⟩
theorem jFn_i {cm : CM} {tab : Nat → Option JD} {k f : Nat} {d : JD} {xs : List A} {η : Hs} {Q : QA} {E : XA → Prop} (h : tab f = some d) (q : jDef (jAt cm tab k) d xs η Q E) : jFn cm tab (k + 1) f xs η Q E := by
  show upS (fun xs η Q E => ob (tab f) fun d => jDef (jAt cm tab k) d xs η Q E) xs η Q E
  exact upS_i (ob_i (P := fun d => jDef (jAt cm tab k) d xs η Q E) d h q)
end Y
set_option Elab.async false
set_option linter.all false
set_option maxRecDepth 100000
set_option maxHeartbeats 4000000
/-! tuple * 1, tuple * n -/
namespace L2
open PySem PySem.Spec PyProof.Rows
theorem tuple_mul1 (l : Addr) (items : Array Value) (n : Nat) (dd : Option Addr) (sl : Array (Option Value)) (u : Tok) :
    Meets (Builtin.«tuple.__mul__» ⟨[.ref l, .int 1 u], []⟩) (fun _ R s => s.heap.get? l = some { cls := .type "tuple", dict := dd, data := .seq items n, slots := sl } ∧ R (.ok (.ret (Value.ref l))) s) :=
  .of_wp fun prog w A R s h => by
    obtain ⟨hp, g, d, tk, os⟩ := s
    obtain ⟨hl, h⟩ := h
    have f1 := AutoSeq1.idx_int
    have c0 : (decide ((1 : Int) < -(2 ^ 63)) || decide ((1 : Int) ≥ 2 ^ 63)) = false := by decide
    have c1 : (items.isEmpty || (1 : Int) == 1) = true := by simp
    wp_walk using wpAny_loadPart' hl
    repeat (first
      | (refine wpAny_ite_false (decide_eq_false (by rw [c0]; exact Bool.false_ne_true)) ?_; wp_walk using wpAny_loadPart' hl)
      | (refine wpAny_ite_true (decide_eq_true (by rw [c1])) ?_; wp_walk using wpAny_loadPart' hl))
    exact ⟨_, rfl, h⟩
def rRepT1 (K : PySem.W.Frag) : R2 := fun x y H Q => ∃ l xs, x = .ref l ∧ y = .int 1 ∧ SqT K H l xs ∧ Q (.ref l) H
section
variable {X : Cx}
theorem op_repT1 : OpR X (binaryOp .Mult) (rRepT1 X.K) := by
  intro pins s σ H x y v u Q I rx ry h
  obtain ⟨l, xs, rfl, rfl, hT, q⟩ := h
  cases rx
  obtain ⟨t, rfl⟩ := ry
  obtain ⟨its, r, ⟨⟨cls, dd, data, sl⟩, ho, hc, n, hd⟩, hs⟩ := I.tuple hT
  simp only at hc hd
  subst hc hd
  refine wpAny_binaryOp_repeat_ref (T := "tuple") (U := "int") (by decide) ⟨_, ho, rfl⟩ (fun s' => typeIs_int s' 1 t) noFill_tuple_mul F.fills_int_mul F.slot_int_rmul repeat_tuple F.slot_int_index.lookup
    (call_meets F.slot_int_rmul (typeIs_int s 1 t) F.entry_int_rmul (F.args_int_rmul_2 _ _) (int_rmul_tuple 1 t l its.toArray n dd sl)
      ⟨ho, rfl, ⟨_, ho, rfl⟩, call_meets F.slot_tuple_mul ⟨_, ho, rfl⟩ F.entry_tuple_mul (F.args_tuple_mul_2 _ _) (tuple_mul1 l its.toArray n dd sl t) ⟨ho, ?_⟩⟩)
  exact ⟨.ref l, _, I, rfl, q⟩
end
end L2
set_option Elab.async false
set_option linter.all false
set_option maxRecDepth 100000
set_option maxHeartbeats 2000000
set_option autoImplicit false
/-! a J text tells what its Python text does -/
namespace Y
open PySem PySem.Spec PyProof.Rows L2

/-- the names of a program -/
structure Tb where
  fns : List (Str × Nat)
  mts : List (Nat × Str × Nat × Nat)
  mks : List (Str × Nat × Nat × List Str × Nat × List (Nat ⊕ D))
  cls : List (Str × Nat)
  exs : List (Str × Nat × Str)
  flds : List (Nat × Str)
  cons : List (Nat × Str × D)
  exf : List Str
  glb : List (Str × D)
  blt : List Str
/-- the built-in classes' names -/
def tys : List String := ["NoneType", "bool", "int", "str", "tuple", "list", "dict"]
/-- a constant of the module -/
def GlbD (K : PySem.W.Frag) (mg : Str → Option Value) (n : Str) (d : D) : Prop := ∃ v u, mg n = some u ∧ RelV v u ∧ ∀ (L : Addr → Prop) (H : Hp), RepD K L H v d
/-- what a program's top leaves -/
structure LkB (P : Program) (w : World) (K : PySem.W.Frag) (mg : Str → Option Value) (base : Heap) (T : Tb) (cm : CM) (lv : Nat) (fn₀ fm₀ : Nat → Spec) : Prop where
  fns : ∀ (i : Nat) n f, T.fns[i]? = some (n, f) → GFn P w K mg base n lv (fn₀ f)
  mts : ∀ (i : Nat) c m n f, T.mts[i]? = some (c, m, n, f) → GMt P w K mg base (cm.cls c) m n lv (fn₀ f)
  mks : ∀ (i : Nat) x c n ks f g, T.mks[i]? = some (x, c, n, ks, f, g) → 1 ≤ lv → ∃ k, k + 1 ≤ lv ∧ GMk P w K mg base x (cm.cls c) n ks k (fm₀ f) (gaK g)
  cls : ∀ (i : Nat) n c, T.cls[i]? = some (n, c) → mg n = some (.ref (cm.cls c))
  exs : ∀ (i : Nat) n c f, T.exs[i]? = some (n, c, f) → GExc P w K mg base n (cm.cls c) f
  flds : ∀ (i : Nat) c f, T.flds[i]? = some (c, f) → Cls K (cm.cls c) ∧ NoAttr K (cm.cls c) f
  con : ∀ (i : Nat) c f d, T.cons[i]? = some (c, f, d) → Cls K (cm.cls c) ∧ ∀ X : Cx, X.K = K → ConI X (cm.cls c) f d
  glb : ∀ (i : Nat) n d, T.glb[i]? = some (n, d) → GlbD K mg n d
  exf : ∀ (i : Nat) f, T.exf[i]? = some f → ∀ A j, cm.cix A = some j → j < 32 → NoAttr K A f
  blt : ∀ x ∈ T.blt, mg x = none
  ins : ∀ A i, cm.cix A = some i → ¬ i < 32 → ∀ X : Cx, X.K = K → InsK X A
  kit : ∀ A i B j, cm.cix A = some i → cm.cix B = some j → PySem.W.kitOne K (.ref A) (.ref B) = some (subC i j)
  kitT : ∀ T' B j, T' ∈ tys → cm.cix B = some j → PySem.W.kitOne K (.type T') (.ref B) = some false
  kitV : ∀ A i, cm.cix A = some i → i < 32 → PySem.W.kitOne K (.ref A) (.type "ValueError") = some true
  exk : ∀ A i, cm.cix A = some i → i < 32 → XfC K A ∧ ExcC K A
  eqs : ∀ C i f, cm.cix C = some i → cm.eqf C = some f → GEq P w K mg base C lv (fn₀ f)
  nf : ∀ A i T', cm.cix A = some i → ¬ i < 32 → T' ∈ tys → PySem.W.notFirst K A (.type T') = true
  exm : ∀ A i B j, cm.cix A = some i → i < 32 → cm.cix B = some j → j < 32 → PySem.W.exmOne K (.ref A) (.ref B) = some (subC i j)
class Lk (X : Cx) (T : outParam Tb) (J : Jx) : Prop where
  b : LkB X.prog X.w X.K X.mg X.base T J.cm J.lv J.fn J.fm
  rm : J.on = true → Rm X J.lv
  calm : J.on = true → Calm X
  ex : ∀ a C dx, J.ex = some (a, C, dx) → ExV X a C dx
theorem Lk.low {X Y : Cx} {T : Tb} {J : Jx} [l : Low X Y] [c : Calm Y] [k : Lk X T J] : Lk Y T J.in :=
  ⟨by rw [l.prog, l.w, l.K, l.mg, l.base]; exact k.b, fun h => ⟨l.rm _ (k.rm h).r⟩, fun _ => c, fun _ _ _ h => by cases h⟩
theorem Lk.lowS {X Y : Cx} {T : Tb} {J : Jx} {a C dx : Addr} [l : LowS X Y] [e : ExV Y a C dx] [k : Lk X T J] : Lk Y T (J.su a C dx) :=
  ⟨by rw [l.prog, l.w, l.K, l.mg, l.base]; exact k.b, fun h => (by cases h), fun h => (by cases h), fun _ _ _ h => by cases h; exact e⟩
theorem Lk.at {X : Cx} {T : Tb} {J : Jx} [k : Lk X T J] {n : Nat} : Lk X T (J.at n) := ⟨k.b, k.rm, k.calm, k.ex⟩

abbrev Imp (E : EX) (F : Fr0) : Prop := ∀ x δ, E x δ → F.EX x δ
def SndE (X : Cx) (J : Jx) (e : Expr) (j : JE) : Prop := ∀ (n0 : Nat) (F : Fr0) (E : EX) (δ : Sl) (η : Hs) (Q : QA), Imp E F → wE (J.at n0) E j δ η Q → W X F e δ η Q
def SndC (X : Cx) (J : Jx) (e : Expr) (j : JC) : Prop := ∀ (n0 : Nat) (F : Fr0) (E : EX) (δ : Sl) (η : Hs) (Q : Bool → Hs → Prop), Imp E F → wC (J.at n0) E j δ η Q → WT X F e δ η Q
def SndW (X : Cx) (J : Jx) (e : Expr) (j : JC) : Prop := ∀ (n0 : Nat) (F : Fr0) (E : EX) (δ : Sl) (η : Hs) (Q : Bool → Hs → Prop), Imp E F → wC (J.at n0) E j δ η Q → WW X F e δ η Q
def SndL (X : Cx) (J : Jx) (e : List Expr) (j : JL) : Prop := ∀ (n0 : Nat) (F : Fr0) (E : EX) (δ : Sl) (η : Hs) (Q : List A → Hs → Prop), Imp E F → wL (J.at n0) E j δ η Q → WL X F e δ η Q
def SndK (X : Cx) (J : Jx) (e : List Keyword) (j : JL) : Prop := ∀ (n0 : Nat) (F : Fr0) (E : EX) (δ : Sl) (η : Hs) (Q : List A → Hs → Prop), Imp E F → wL (J.at n0) E j δ η Q → WK X F e δ η Q
def SndO (X : Cx) (J : Jx) (e : Option Expr) (j : JO) : Prop := ∀ (n0 : Nat) (F : Fr0) (E : EX) (δ : Sl) (η : Hs) (Q : Option Int → Hs → Prop), Imp E F → wO (J.at n0) E j δ η Q → WP X F e δ η Q
def SndO' (X : Cx) (J : Jx) (e : List Expr) (j : JO') : Prop := ∀ (n0 : Nat) (F : Fr0) (E : EX) (δ : Sl) (η : Hs) (Q : Bool → Hs → Prop), Imp E F → wO' (J.at n0) E j δ η Q → WTs X F e δ η Q
def SndI (X : Cx) (J : Jx) (tg e : Expr) (j : JI) : Prop := ∀ (n0 : Nat) (F : Fr0) (E : EX) (δ : Sl) (η : Hs) (Q : List A → (Hs → Prop) → Hs → Prop), Imp E F → wI (J.at n0) E j δ η Q → WI X F tg e δ η Q
def SndT (X : Cx) (t : Expr) (j : JT) : Prop := ∀ (F : Fr0) (x : A) (δ : Sl) (η : Hs) (Q : Sl → Prop), wTg j x δ Q → Tg X F t x δ η Q
def SndTs (X : Cx) (t : List Expr) (j : JTs) : Prop := ∀ (F : Fr0) (x : List A) (δ : Sl) (η : Hs) (Q : Sl → Prop), wTgs j x δ Q → Tgs X F t x δ η Q
def SndTW (X : Cx) (vs : List Nat) (t : Expr) (j : JT) : Prop := ∀ (F : Fr0) (x : A) (δ : Sl) (η : Hs) (Q : Sl → Prop), wTg j x δ Q → TgW X F vs t x δ η Q
def SndTsW (X : Cx) (vs : List Nat) (t : List Expr) (j : JTs) : Prop := ∀ (F : Fr0) (x : List A) (δ : Sl) (η : Hs) (Q : Sl → Prop), wTgs j x δ Q → TgsW X F vs t x δ η Q
def SndS (X : Cx) (J : Jx) (s : Stmt) (j : JS) : Prop := ∀ (n0 : Nat) (F : Fr0) (E : EX) (δ : Sl) (η : Hs) (nx : SH) (rt : RT) (bk ct : SH), Imp E F → F.m.length ≤ n0 → wS (J.at n0) E j δ η nx rt bk ct → WS X F s δ η nx rt bk ct
def SndB (X : Cx) (J : Jx) (s : List Stmt) (j : JB) : Prop := ∀ (n0 : Nat) (F : Fr0) (E : EX) (δ : Sl) (η : Hs) (nx : SH) (rt : RT) (bk ct : SH), Imp E F → F.m.length ≤ n0 → wB (J.at n0) E j δ η nx rt bk ct → WSs X F s δ η nx rt bk ct

section
variable {X : Cx} {J : Jx} {N U S G : List Str} {T : Tb}
/-! ### names, constants -/
theorem e_nm {n : Str} {pos : Pos} {i : Nat} [C : Cfg X N U S G] [mv : Mem n U] (h : N[i]? = some n) : SndE X J (.Name n pos) (.nm i) := by
  intro n0 F E δ η Q hE h2
  unfold wE at h2
  obtain ⟨a, e, q⟩ := ob_e h2
  have : SlotG N δ n a := ⟨i, h, sget_eq e⟩
  exact w_name q
theorem e_int {i : Int} {j : Nat} {pos : Pos} : SndE X J (.Constant (.int i) j pos) (.k (.int i)) := fun n0 F E δ η Q hE h => w_int (by unfold wE at h; exact h)
theorem e_bl {i : Bool} {j : Nat} {pos : Pos} : SndE X J (.Constant (.bool i) j pos) (.k (.bl i)) := fun n0 F E δ η Q hE h => w_bl (by unfold wE at h; exact h)
theorem e_str {i : Str} {j : Nat} {pos : Pos} : SndE X J (.Constant (.str i) j pos) (.k (.str i)) := fun n0 F E δ η Q hE h => w_str (by unfold wE at h; exact h)
theorem e_non {j : Nat} {pos : Pos} : SndE X J (.Constant .none j pos) (.k .non) := fun n0 F E δ η Q hE h => w_non (by unfold wE at h; exact h)
theorem e_bty {n : Str} {pos : Pos} {t : String} (i : Nat) [C : Cfg X N U S G] [k : Lk X T J] [hv : BootT n t] [g : Mem n G] (hb : T.blt[i]? = some n) : SndE X J (.Name n pos) (.k (.ty t)) := fun n0 F E δ η Q hE h => by
  have : Blt X T.blt := ⟨k.b.blt⟩
  have : Mem n T.blt := ⟨List.mem_of_getElem? hb⟩
  exact w_bty (by unfold wE at h; exact h)
theorem e_cls {n : Str} {pos : Pos} {c : Nat} (i : Nat) [C : Cfg X N U S G] [k : Lk X T J] [g : Mem n G] (hb : T.cls[i]? = some (n, c)) : SndE X J (.Name n pos) (.cls c) := fun n0 F E δ η Q hE h => by
  have : GRef X n (J.cm.cls c) := ⟨k.b.cls i n c hb⟩
  exact w_glob (by unfold wE at h; exact h)
theorem e_glb {n : Str} {pos : Pos} {d : D} (i : Nat) [C : Cfg X N U S G] [k : Lk X T J] [g : Mem n G] (hb : T.glb[i]? = some (n, d)) : SndE X J (.Name n pos) (.k d) := fun n0 F E δ η Q hE h => by
  obtain ⟨v, u, hm, hv, hd⟩ := k.b.glb i n d hb
  unfold wE at h
  exact fun xt m σ H R ab po => wp_of (pe_glob (C.gl g.mem) hm (v := v) hv (C.dbg n (List.mem_append_right _ g.mem)).1) (po _ m H _ η ab .refl (rep_d.mpr (hd _ _)) h)
/-! ### operators -/
theorem b_repT {F : Fr0} {δ : Sl} {η : Hs} {Q : QA} {x : A} {xs : List A} {i : Int} (hx : itemsT x = some xs) (hne : xs.isEmpty = false) (hi : 1 ≤ i ∧ i ≤ 1000) (hl : xs.length ≤ 1000) (q : Q (mkT (List.replicate i.toNat xs).flatten) η) : Op2 X F (binaryOp .Mult) x (I i) δ η Q := fun m σ H R v u ab r1 r2 po => by
  obtain ⟨a, vs, rfl, s, r⟩ := itemsT_ok hx r1
  obtain rfl := rep_int.mp r2
  by_cases h1 : i = 1
  · subst h1
    refine ⟨_, op_repT1, a, vs, rfl, rfl, s.sq, po _ m H _ η ab .refl (rep_mkT s r) ?_⟩
    have : (List.replicate (1 : Int).toNat xs).flatten = xs := by simp
    rw [this] at q
    exact q
  · refine ⟨_, op_repT, a, i, vs, rfl, rfl, s.sq, fun e => ?_, by omega, hi.2, by rw [r.length]; exact hl, fun p hp => ?_⟩
    · have := r.length
      rw [e] at this
      cases xs with
      | nil => cases hne
      | cons a b => cases this
    · obtain ⟨a2, e2, r3⟩ := ab.tup hp (r.rep i.toNat)
      exact po _ m _ _ η a2 e2 r3 q
theorem o_bin {op : Operator} {F : Fr0} {δ : Sl} {η : Hs} {Q : QA} {x y : A} (h : jBin op η Q x y) : Op2 X F (binaryOp op) x y δ η Q := by
  unfold jBin at h
  split at h
  · unfold jAdd at h
    split at h
    · exact b_add h
    · exact b_addB h
    · obtain ⟨xs, e1, h⟩ := ob_e h
      obtain ⟨ys, e2, hl, h⟩ := ob_e h
      exact b_cat e1 e2 hl (pushO_eq _ _) h
    · obtain ⟨xs, e1, h⟩ := ob_e h
      obtain ⟨ys, e2, hl, h⟩ := ob_e h
      exact b_catT e1 e2 hl h
  · unfold jMul at h
    split at h
    · exact b_mul h.1 h.2
    · obtain ⟨xs, e1, hi, hl, h⟩ := ob_e h
      exact b_rep e1 hi hl (pushO_eq _ _) h
    · obtain ⟨xs, e1, he, hi, hl, h⟩ := ob_e h
      exact b_repT e1 he hi hl h
    · exact h.elim
  · split at h
    · exact b_sub h
    · exact h.elim
  · split at h
    · exact b_mod h.1 h.2
    · exact h.elim
  · split at h
    · exact b_div h.1 h.2.1 h.2.2
    · exact h.elim
  · split at h
    · exact b_pow h.1 h.2
    · exact h.elim
  · split at h
    · exact b_shl h.1 h.2
    · exact h.elim
  · split at h
    · exact b_shr h.1 h.2
    · exact h.elim
  · split at h
    · exact b_and h
    · exact h.elim
  · split at h
    · exact b_xor h
    · exact h.elim
  · exact h.elim
theorem e_bin {a b : Expr} {ja jb : JE} {op : Operator} {pos : Pos} (h1 : SndE X J a ja) (h2 : SndE X J b jb) : SndE X J (.BinOp a op b pos) (.bin op ja jb) := fun n0 F E δ η Q hE h => by
  unfold wE at h
  exact w_bin ((h1 n0 F E δ η _ hE h).mono fun x η1 q => (h2 n0 F E δ η1 _ hE q).mono fun y η2 q2 => o_bin q2)
theorem e_neg {a : Expr} {ja : JE} {pos : Pos} (h1 : SndE X J a ja) : SndE X J (.UnaryOp .USub a pos) (.neg ja) := fun n0 F E δ η Q hE h => by
  unfold wE at h
  exact w_un ((h1 n0 F E δ η _ hE h).mono fun x η1 q => by
    split at q
    · exact u_neg q
    · exact q.elim)
theorem o_call {F : Fr0} {E : EX} {δ : Sl} {η : Hs} {Q : QA} {S : Spec} {xs : List A} (hS : ∀ xs η Q E, S xs η Q E → ∀ E', (∀ x, E x → E' x) → S xs η Q E') (hE : Imp E F) (h : jCall E δ S xs η Q) : CallA F δ S xs η Q := by
  obtain ⟨ix, xs₀, η₀, h1, h2⟩ := h.ex
  exact ⟨ix, xs₀, η₀, h1, hS _ _ _ _ h2 _ fun x ⟨η', e, q⟩ => ⟨η', e, hE _ _ q⟩⟩
def MonE (S : Spec) : Prop := ∀ xs η Q E, S xs η Q E → ∀ E', (∀ x, E x → E' x) → S xs η Q E'
class JMon (J : Jx) : Prop where
  fu : ∀ f xs η Q E, J.fn f xs η Q E → upS (J.fn f) xs η Q E
  fi : ∀ f xs η Q E, upS (J.fn f) xs η Q E → J.fn f xs η Q E
  mi : ∀ f xs η Q E, upS (J.fm f) xs η Q E → J.fm f xs η Q E
theorem JMon.fn [m : JMon J] (f : Nat) : MonE (J.fn f) := fun xs η Q E h E' hE => m.fi f xs η Q E' (upS_mono (upS_i h) (fun _ _ q => q) hE)
theorem JMon.fm [m : JMon J] (f : Nat) : MonE (J.fm f) := fun xs η Q E h E' hE => m.mi f xs η Q E' (upS_mono (upS_i h) (fun _ _ q => q) hE)
instance jmon_in [m : JMon J] : JMon J.in := ⟨m.fu, m.fi, m.mi⟩
instance jmon_su {a C dx : Addr} [m : JMon J] : JMon (J.su a C dx) := ⟨m.fu, m.fi, m.mi⟩
instance jmon_at {n : Nat} [m : JMon J] : JMon (J.at n) := ⟨m.fu, m.fi, m.mi⟩
theorem typA_tys {η : Hs} {x : A} {t : String} (h : typA η x = some t) : t ∈ tys := by
  unfold typA at h
  split at h
  · split at h <;> first | (cases h; decide) | cases h
  all_goals first | (cases h; decide) | cases h
theorem keyD_eq {d : D} {c : Key} (h : keyD d = some c) : d = kD c := by
  cases d <;> first | (cases h; rfl) | cases h
theorem o_cmp {op : CmpOp} [k : Lk X T J] [mo : JMon J] {n0 : Nat} {F : Fr0} {δ : Sl} {η : Hs} {P : Bool → Hs → Prop} {Q : QA} {x y : A} (h : jCmp (J.at n0) op η P x y) (hP : ∀ b η', P b η' → Q (B b) η') : Op2 X F (compareOp op) x y δ η Q := by
  unfold jCmp at h
  split at h
  · unfold jEq at h
    split at h
    · exact c_eqI (hP _ _ h)
    · exact c_eqS (hP _ _ h)
    · unfold jEqX at h
      split at h
      · rename_i p e0
        unfold jEqO at h
        obtain ⟨i, ei, hi, h⟩ := ob_e h
        obtain ⟨f, ef, on, ht, h⟩ := ob_e h
        have := k.rm on
        have : EqX X p.1 J.lv (J.fn f) := ⟨k.b.eqs _ i f ei ef⟩
        have fin : ∀ t, typV η y = some t → clsOk X η y → NfI X p.1 t → Op2 X F (compareOp .Eq) x y δ η Q := fun t h1 h2 h3 => c_eqO (Nat.le_refl _) e0 h1 h2 h3 (by
          obtain ⟨ix, xs₀, η₀, h4, h5⟩ := h.ex
          refine ⟨ix, xs₀, η₀, h4, ?_⟩
          obtain ⟨Q0, E0, h6, h7, h8⟩ := mo.fu f _ _ _ _ h5
          refine mo.fi f _ _ _ _ ⟨Q0, E0, h6, fun a₀ η₁ q => ?_, fun x q => ?_⟩
          · obtain ⟨a, η', e, q⟩ := h7 _ _ q
            obtain ⟨b, e2, q⟩ := asB_e q
            exact ⟨a, η', e, ⟨b, e2⟩, by rw [e2]; exact hP _ _ q⟩
          · obtain ⟨_, _, z⟩ := h8 _ q
            exact z.elim)
        unfold eqTy at ht
        split at ht
        · rename_i D fs e2
          subst ht
          exact fin (.ref p.1) (by unfold typV; rw [e2]) (by unfold clsOk; rw [e2]; exact k.b.ins _ _ ei hi X rfl) inferInstance
        · rename_i e2
          obtain ⟨t, et⟩ := Option.isSome_iff_exists.mp ht
          exact fin (.type t) (by unfold typV; rw [e2, et]) (by unfold clsOk; rw [e2]; trivial) ⟨k.b.nf _ i t ei hi (typA_tys et)⟩
      · unfold jEqD at h
        obtain ⟨on, h⟩ := h
        obtain ⟨a, e1, h⟩ := ob_e h
        obtain ⟨b, e2, o1, o2, h⟩ := ob_e h
        have := k.rm on
        exact c_eqD e1 e2 o1 o2 (Nat.le_refl _) (Nat.le_refl _) (hP _ _ h)
  · unfold jNe at h
    split at h
    · exact c_neI (hP _ _ h)
    · exact c_neS (hP _ _ h)
    · unfold jEqD at h
      obtain ⟨on, h⟩ := h
      obtain ⟨a, e1, h⟩ := ob_e h
      obtain ⟨b, e2, o1, o2, h⟩ := ob_e h
      have := k.rm on
      exact c_neD e1 e2 o1 o2 (Nat.le_refl _) (Nat.le_refl _) (hP _ _ h)
  · split at h
    · exact c_lt (hP _ _ h)
    · exact h.elim
  · split at h
    · exact c_le (hP _ _ h)
    · exact h.elim
  · split at h
    · exact c_gt (hP _ _ h)
    · exact h.elim
  · split at h
    · exact c_ge (hP _ _ h)
    · exact h.elim
  · unfold jIs at h
    split at h
    · exact c_isN (hP _ _ h)
    · exact c_isBl (hP _ _ h)
    · exact h.elim
  · split at h
    · exact c_notN (hP _ _ h)
    · split at h
      · exact c_notB (hP _ _ h)
      · exact h.elim
    · exact h.elim
  · unfold jIn at h
    rcases h with ⟨i, ns, rfl, e, q⟩ | ⟨on, j, d, c, kvs, rfl, rfl, ek, e, q⟩
    · exact c_inI e (hP _ _ q)
    · have := k.rm on
      exact c_inD c e (keyD_eq ek) (hP _ _ q)
  · unfold jIn at h
    rcases h with ⟨i, ns, rfl, e, q⟩ | ⟨on, j, d, c, kvs, rfl, rfl, ek, e, q⟩
    · exact c_notInI e (hP _ _ q)
    · have := k.rm on
      exact c_notInD c e (keyD_eq ek) (hP _ _ q)
theorem If_m {b : Bool} {P Q P' Q' : Prop} (h : If b P Q) (h1 : P → P') (h2 : Q → Q') : if b = true then P' else Q' := by
  cases b
  · rw [if_neg Bool.false_ne_true]; exact h2 (h.f rfl)
  · rw [if_pos rfl]; exact h1 (h.t rfl)
theorem isB_q {Q : Bool → Hs → Prop} {b : Bool} {η : Hs} (q : Q b η) : isB Q (B b) η := ⟨b, rfl, q⟩
theorem e_cmp {a b : Expr} {ja jb : JE} {op : CmpOp} {pos : Pos} [k : Lk X T J] [mo : JMon J] (h1 : SndE X J a ja) (h2 : SndE X J b jb) (hm : behindInMarks op b = false) : SndE X J (.Compare a [op] [b] pos) (.cmp op ja jb) := fun n0 F E δ η Q hE h => by
  unfold wE at h
  exact w_cmp ((h1 n0 F E δ η _ hE h).mono fun x η1 q => (h2 n0 F E δ η1 _ hE q).mono fun y η2 q2 => o_cmp q2 fun _ _ q => q) hm
theorem c_cmp {a b : Expr} {ja jb : JE} {op : CmpOp} {pos : Pos} [k : Lk X T J] [mo : JMon J] (h1 : SndE X J a ja) (h2 : SndE X J b jb) (hm : behindInMarks op b = false) : SndC X J (.Compare a [op] [b] pos) (.cmp op ja jb) := fun n0 F E δ η Q hE h => by
  unfold wC at h
  exact wt_cmp ((h1 n0 F E δ η _ hE h).mono fun x η1 q => (h2 n0 F E δ η1 _ hE q).mono fun y η2 q2 => o_cmp q2 fun _ _ q => isB_q q) hm
theorem e_chn {a b c : Expr} {ja jb jc : JE} {op op' : CmpOp} {pos : Pos} [k : Lk X T J] [mo : JMon J] (h1 : SndE X J a ja) (h2 : SndE X J b jb) (h3 : SndE X J c jc) (hm : lastMarks [op, op'] [b, c] = false) : SndE X J (.Compare a [op, op'] [b, c] pos) (.chn op op' ja jb jc) := fun n0 F E δ η Q hE h => by
  unfold wE at h
  exact w_chain ((h1 n0 F E δ η _ hE h).mono fun x η1 q => (h2 n0 F E δ η1 _ hE q).mono fun y η2 q2 => o_cmp q2 fun _ _ q => isB_q (If_m q (fun q => (h3 n0 F E δ _ _ hE q).mono fun z η4 q4 => o_cmp q4 fun _ _ q => q) fun q => q)) hm
theorem c_chn {a b c : Expr} {ja jb jc : JE} {op op' : CmpOp} {pos : Pos} [k : Lk X T J] [mo : JMon J] (h1 : SndE X J a ja) (h2 : SndE X J b jb) (h3 : SndE X J c jc) (hm : lastMarks [op, op'] [b, c] = false) : SndC X J (.Compare a [op, op'] [b, c] pos) (.chn op op' ja jb jc) := fun n0 F E δ η Q hE h => by
  unfold wC at h
  exact wt_chain ((h1 n0 F E δ η _ hE h).mono fun x η1 q => (h2 n0 F E δ η1 _ hE q).mono fun y η2 q2 => o_cmp q2 fun _ _ q => isB_q (If_m q (fun q => (h3 n0 F E δ _ _ hE q).mono fun z η4 q4 => o_cmp q4 fun _ _ q => isB_q q) fun q => q)) hm
theorem e_one {a : Expr} {ja : JE} {op : BoolOp} {pos : Pos} (h1 : SndE X J a ja) : SndE X J (.BoolOp op [a] pos) ja := fun n0 F E δ η Q hE h => w_one (h1 n0 F E δ η Q hE h)
theorem e_and {a b : Expr} {r : List Expr} {ja jb : JE} {pos : Pos} (h1 : SndE X J a ja) (h2 : SndE X J (.BoolOp .And (b :: r) pos) jb) : SndE X J (.BoolOp .And (a :: b :: r) pos) (.and ja jb) := fun n0 F E δ η Q hE h => by
  unfold wE at h
  exact w_and ((h1 n0 F E δ η _ hE h).mono fun x η1 q => by
    obtain ⟨b', e, q⟩ := asB_e q
    exact ⟨b', e, If_m q (fun q => h2 n0 F E δ _ _ hE q) fun q => q⟩)
theorem e_or {a b : Expr} {r : List Expr} {ja jb : JE} {pos : Pos} (h1 : SndE X J a ja) (h2 : SndE X J (.BoolOp .Or (b :: r) pos) jb) : SndE X J (.BoolOp .Or (a :: b :: r) pos) (.or ja jb) := fun n0 F E δ η Q hE h => by
  unfold wE at h
  exact w_or ((h1 n0 F E δ η _ hE h).mono fun x η1 q => by
    obtain ⟨b', e, q⟩ := asB_e q
    exact ⟨b', e, If_m q (fun q => q) fun q => h2 n0 F E δ _ _ hE q⟩)
theorem e_not {a : Expr} {ja : JE} {pos : Pos} (h1 : SndE X J a ja) : SndE X J (.UnaryOp .Not a pos) (.not ja) := fun n0 F E δ η Q hE h => by
  unfold wE at h
  exact w_not ((h1 n0 F E δ η _ hE h).mono fun x η1 q => asB_e q)
theorem e_ife {c a b : Expr} {jc : JC} {ja jb : JE} {pos : Pos} (h1 : SndC X J c jc) (h2 : SndE X J a ja) (h3 : SndE X J b jb) : SndE X J (.IfExp c a b pos) (.ife jc ja jb) := fun n0 F E δ η Q hE h => by
  unfold wE at h
  exact w_if ((h1 n0 F E δ η _ hE h).mono fun x η1 q => If_m q (fun q => h2 n0 F E δ _ _ hE q) fun q => h3 n0 F E δ _ _ hE q)
/-! ### tests -/
theorem c_val {e : Expr} {j : JE} (h1 : SndE X J e j) (he : ∀ whole, isTrue e X.env whole = (do let v ← whole; standAt e.pos; holding [v] (truthy v))) : SndC X J e (.val j) := fun n0 F E δ η Q hE h => by
  unfold wC at h
  exact wt_val ((h1 n0 F E δ η _ hE h).mono fun x η1 q => by
    unfold jTru at q
    split at q
    · exact isB_q q
    · exact q.elim) he
theorem c_not {e : Expr} {j : JC} {pos : Pos} (h1 : SndC X J e j) : SndC X J (.UnaryOp .Not e pos) (.not j) := fun n0 F E δ η Q hE h => by
  unfold wC at h
  exact wt_not (h1 n0 F E δ η _ hE h)
theorem c_of {e : Expr} {j : JC} (h1 : SndW X J e j) : SndC X J e j := fun n0 F E δ η Q hE h => wt_of (h1 n0 F E δ η Q hE h)
theorem v_and1 {a : Expr} {j : JC} {pos : Pos} (h1 : SndC X J a j) : SndW X J (.BoolOp .And [a] pos) j := fun n0 F E δ η Q hE h => ww_and1 (h1 n0 F E δ η Q hE h)
theorem v_or1 {a : Expr} {j : JC} {pos : Pos} (h1 : SndC X J a j) : SndW X J (.BoolOp .Or [a] pos) j := fun n0 F E δ η Q hE h => ww_or1 (h1 n0 F E δ η Q hE h)
theorem v_and {a b : Expr} {r : List Expr} {ja jb : JC} {pos : Pos} (h1 : SndC X J a ja) (h2 : SndW X J (.BoolOp .And (b :: r) pos) jb) : SndW X J (.BoolOp .And (a :: b :: r) pos) (.and ja jb) := fun n0 F E δ η Q hE h => by
  unfold wC at h
  exact ww_and ((h1 n0 F E δ η _ hE h).mono fun x η1 q => If_m q (fun q => h2 n0 F E δ _ _ hE q) fun q => q)
theorem v_or {a b : Expr} {r : List Expr} {ja jb : JC} {pos : Pos} (h1 : SndC X J a ja) (h2 : SndW X J (.BoolOp .Or (b :: r) pos) jb) : SndW X J (.BoolOp .Or (a :: b :: r) pos) (.or ja jb) := fun n0 F E δ η Q hE h => by
  unfold wC at h
  exact ww_or ((h1 n0 F E δ η _ hE h).mono fun x η1 q => If_m q (fun q => q) fun q => h2 n0 F E δ _ _ hE q)
/-! ### displays, arguments -/
theorem l_nil : SndL X J [] .nil := fun n0 F E δ η Q hE h => wl_nil (by unfold wL at h; exact h)
theorem WL.mono {F : Fr0} {δ : Sl} {η : Hs} {es : List Expr} {Q Q' : List A → Hs → Prop} (h : WL X F es δ η Q) (k : ∀ x η', Q x η' → Q' x η') : WL X F es δ η Q' := by
  obtain ⟨t, h1, h2⟩ := h
  exact ⟨t, h1, fun xt m σ H R ab po => h2 xt m σ H R ab fun v m' H' x η' a b c q => po v m' H' x η' a b c (k _ _ q)⟩
theorem l_cons {e : Expr} {r : List Expr} {j : JE} {js : JL} (h1 : SndE X J e j) (h2 : SndL X J r js) (hs : starEach (e :: r) X.env = (false, eval e X.env) :: starEach r X.env) : SndL X J (e :: r) (.cons j js) := fun n0 F E δ η Q hE h => by
  unfold wL at h
  exact wl_cons ((h1 n0 F E δ η _ hE h).mono fun x η1 q => h2 n0 F E δ _ _ hE q) hs
theorem k_nil : SndK X J [] .nil := fun n0 F E δ η Q hE h => wk_nil (by unfold wL at h; exact h)
theorem k_cons {e : Expr} {nm : Option Str} {kpos : Pos} {r : List Keyword} {j : JE} {js : JL} (h1 : SndE X J e j) (h2 : SndK X J r js) : SndK X J (⟨nm, e, kpos⟩ :: r) (.cons j js) := fun n0 F E δ η Q hE h => by
  unfold wL at h
  exact wk_cons ((h1 n0 F E δ η _ hE h).mono fun x η1 q => h2 n0 F E δ _ _ hE q)
theorem e_tup {es : List Expr} {js : JL} {k : Nat} {pos : Pos} (h1 : SndL X J es js) : SndE X J (.Tuple es k pos) (.tup js) := fun n0 F E δ η Q hE h => by
  unfold wE at h
  exact w_tup (h1 n0 F E δ η _ hE h)
theorem e_lst {es : List Expr} {js : JL} {pos : Pos} (h1 : SndL X J es js) : SndE X J (.List es pos) (.lst js) := fun n0 F E δ η Q hE h => by
  unfold wE at h
  exact w_lst ((h1 n0 F E δ η _ hE h).mono fun x η1 ⟨q1, q2⟩ => ⟨q1, pushO_i q2⟩)
/-! ### subscripts -/
theorem dctH_k {η : Hs} {k : Nat} {o : O} {kvs : List (Key × D)} (h : atH η k = some o) (e : dctO o = some kvs) : dctH η k = some kvs := by
  unfold dctH
  rw [h]
  exact e
theorem o_ix [k : Lk X T J] {n0 : Nat} {F : Fr0} {δ : Sl} {η : Hs} {Q : QA} {x y : A} (h : jIx (J.at n0) η Q x y) : Ix2 X F x y δ η Q := by
  unfold jIx at h
  split at h
  · split at h
    · obtain ⟨z, e, q⟩ := ob_e h
      exact x_tup e q
    · exact h.elim
  · split at h
    · obtain ⟨z, e, q⟩ := ob_e h
      exact x_frz e q
    · exact h.elim
  · split at h
    · obtain ⟨z, e, q⟩ := ob_e h
      exact x_tupA e q
    · exact h.elim
  · obtain ⟨o, ho, h⟩ := ob_e h
    split at h
    · split at h
      · obtain ⟨z, e, q⟩ := ob_e h
        exact x_lst ho e q
      · exact h.elim
    · split at h
      · obtain ⟨z, e, q⟩ := ob_e h
        exact x_lsA ho e q
      · exact h.elim
    · split at h
      · obtain ⟨on, h⟩ := h
        obtain ⟨c, ec, h⟩ := ob_e h
        obtain ⟨z, e, q⟩ := ob_e h
        have := k.rm on
        exact x_dct c (dctH_k ho rfl) (keyD_eq ec) e q
      · exact h.elim
    · split at h
      · obtain ⟨on, h⟩ := h
        obtain ⟨c, ec, h⟩ := ob_e h
        obtain ⟨z, e, q⟩ := ob_e h
        have := k.rm on
        exact x_dct c (dctH_k ho rfl) (keyD_eq ec) e q
      · exact h.elim
    · exact h.elim
  · exact h.elim
theorem e_ix {a b : Expr} {ja jb : JE} {pos : Pos} [k : Lk X T J] (h1 : SndE X J a ja) (h2 : SndE X J b jb) (hs : PlainIx b) : SndE X J (.Subscript a b pos) (.ix ja jb) := fun n0 F E δ η Q hE h => by
  unfold wE at h
  exact w_ix ((h1 n0 F E δ η _ hE h).mono fun x η1 q => (h2 n0 F E δ η1 _ hE q).mono fun y η2 q2 => o_ix q2) hs
theorem WP.mono {F : Fr0} {δ : Sl} {η : Hs} {e : Option Expr} {Q Q' : Option Int → Hs → Prop} (h : WP X F e δ η Q) (k : ∀ x η', Q x η' → Q' x η') : WP X F e δ η Q' := by
  obtain ⟨t, h1, h2⟩ := h
  exact ⟨t, h1, fun xt m σ H R ab po => h2 xt m σ H R ab fun v m' H' η' a b q => po v m' H' η' a b (k _ _ q)⟩
theorem o_none : SndO X J none .none := fun n0 F E δ η Q hE h => wp_none (by unfold wO at h; exact h)
theorem o_some {e : Expr} {j : JE} (h1 : SndE X J e j) : SndO X J (some e) (.some j) := fun n0 F E δ η Q hE h => by
  unfold wO at h
  exact wp_some ((h1 n0 F E δ η _ hE h).mono fun x η1 q => by
    split at q
    · exact ⟨_, rfl, q⟩
    · exact q.elim)
theorem e_sli {a : Expr} {lo hi : Option Expr} {ja : JE} {jl jh : JO} {p2 pos : Pos} (h1 : SndE X J a ja) (h2 : SndO X J lo jl) (h3 : SndO X J hi jh) : SndE X J (.Subscript a (.Slice lo hi none p2) pos) (.sli ja jl jh) := fun n0 F E δ η Q hE h => by
  unfold wE at h
  exact w_slice ((h1 n0 F E δ η _ hE h).mono fun x η1 q => (h2 n0 F E δ _ _ hE q).mono fun l η2 q => (h3 n0 F E δ _ _ hE q).mono fun u η3 q => by
    unfold jSli at q
    split at q
    · rename_i xs e
      exact s_tup e q
    · rename_i e
      obtain ⟨xs, e2, q⟩ := ob_e q
      exact s_lst e2 e (pushO_eq _ _) q)
/-! ### fields -/
theorem e_fld {a : Expr} {ja : JE} {c : Nat} {f : Str} {pos : Pos} (i : Nat) [k : Lk X T J] (hf : T.flds[i]? = some (c, f)) (h1 : SndE X J a ja) (hb : attributeBase a f X.env (eval a X.env) = eval a X.env) : SndE X J (.Attribute a f pos) (.fld ja c f) := fun n0 F E δ η Q hE h => by
  unfold wE at h
  obtain ⟨q1, q2⟩ := k.b.flds i c f hf
  exact w_fld ((h1 n0 F E δ η _ hE h).mono fun x η1 q => by
    obtain ⟨p, e1, e2, q⟩ := ob_e q
    obtain ⟨y, e3, q⟩ := ob_e q
    exact ⟨p.1, p.2, y, e1, e3, by rw [e2]; exact ⟨q1⟩, by rw [e2]; exact ⟨q2⟩, q⟩) hb
theorem e_con {a : Expr} {ja : JE} {c : Nat} {f : Str} {d : D} {pos : Pos} (i : Nat) [k : Lk X T J] (hf : T.cons[i]? = some (c, f, d)) (h1 : SndE X J a ja) (hb : attributeBase a f X.env (eval a X.env) = eval a X.env) : SndE X J (.Attribute a f pos) (.con ja c f d) := fun n0 F E δ η Q hE h => by
  unfold wE at h
  obtain ⟨q1, q2⟩ := k.b.con i c f d hf
  exact w_con ((h1 n0 F E δ η _ hE h).mono fun x η1 q => by
    obtain ⟨p, e1, e2, e3, q⟩ := ob_e q
    exact ⟨p.1, p.2, e1, e3, by rw [e2]; exact ⟨q1⟩, by rw [e2]; exact q2 X rfl, q⟩) hb
theorem e_exf {a : Expr} {ja : JE} {f : Str} {pos : Pos} (i : Nat) [k : Lk X T J] (hf : T.exf[i]? = some f) (h1 : SndE X J a ja) (hb : attributeBase a f X.env (eval a X.env) = eval a X.env) : SndE X J (.Attribute a f pos) (.exf ja f) := fun n0 F E δ η Q hE h => by
  unfold wE at h
  cases ex : J.ex with
  | none =>
    have := h1 n0 F E δ η _ hE h
    refine w_fld (this.mono fun x η1 q => ?_) hb
    split at q
    · rw [show (J.at n0).ex = J.ex from rfl, ex] at q
      exact absurd q.1 (by simp)
    · exact q.elim
  | some t =>
    obtain ⟨a', C, dx⟩ := t
    have hv := k.ex a' C dx ex
    by_cases hc : ∃ i, J.cm.cix C = some i ∧ i < 32
    · obtain ⟨j, hj, hl⟩ := hc
      have hk : ExK X C := ⟨(k.b.exk C j hj hl).1, (k.b.exk C j hj hl).2⟩
      have hF : FldI X C f := ⟨k.b.exf i f hf C j hj hl⟩
      refine w_exf (a := a') (C := C) (dx := dx) ((h1 n0 F E δ η _ hE h).mono fun x η1 q => ?_) hb
      split at q
      · rw [show (J.at n0).ex = J.ex from rfl, ex] at q
        obtain ⟨e, q⟩ := q
        cases e
        obtain ⟨_, _, _, q⟩ := ob_e q
        obtain ⟨d, e2, q⟩ := ob_e q
        exact ⟨_, d, rfl, e2, q⟩
      · exact q.elim
    · have := h1 n0 F E δ η _ hE h
      refine w_fld (this.mono fun x η1 q => ?_) hb
      split at q
      · rw [show (J.at n0).ex = J.ex from rfl, ex] at q
        obtain ⟨e, q⟩ := q
        cases e
        obtain ⟨j, e2, e3, q⟩ := ob_e q
        exact (hc ⟨j, e2, e3⟩).elim
      · exact q.elim
/-! ### calls of built-ins -/
theorem f_lenB {F : Fr0} {δ : Sl} {η : Hs} {Q : QA} {x : A} {n : Nat} (h : lenA η x = some n) (q : n ≤ sizeLine → Q (I n) η) : CallJ X F (.builtin "len") [x] δ η Q := fun m σ H R vs ab r po => by
  obtain ⟨v, rfl, r1⟩ := reps_one r
  have fin : ∀ (p : Addr) (ys : List V), v = .ref p → ys.length = n → (SqL X.K H p ys ∨ SqT X.K H p ys) → ∃ r, CallR X (.builtin "len") r ∧ r [v] H R := by
    rintro p ys rfl hl hs
    refine ⟨_, call_lenB, p, ys, rfl, hs, fun hb => ?_⟩
    rw [hl] at hb ⊢
    exact po _ m H _ η ab .refl (rep_int.mpr rfl) (q hb)
  cases x with
  | h k =>
    unfold lenA at h
    dsimp only at h
    cases e : atH η k with
    | none => rw [e] at h; cases h
    | some o =>
      rw [e] at h
      obtain ⟨a, ho, hm, rfl, e2, r2⟩ := ab.at_h e r1
      cases o with
      | lst xs =>
        cases h
        unfold RepO at r2
        obtain ⟨vs, rfl, r2⟩ := r2
        exact fin a vs rfl r2.length (.inl (SqL.of e2))
      | lsA xs =>
        cases h
        unfold RepO at r2
        obtain ⟨vs, rfl, r2⟩ := r2
        exact fin a vs rfl r2.length (.inl (SqL.of e2))
      | _ => cases h
  | t xs =>
    cases h
    obtain ⟨a, vs, rfl, s, r2⟩ := rep_t.mp r1
    exact fin a vs rfl r2.length (.inr s.sq)
  | d y =>
    cases y with
    | tup xs =>
      cases h
      obtain ⟨a, vs, rfl, s, r2⟩ := rep_tup.mp r1
      exact fin a vs rfl r2.length (.inr s.sq)
    | lst xs =>
      cases h
      obtain ⟨a, vs, rfl, s, r2⟩ := rep_lst.mp r1
      exact fin a vs rfl r2.length (.inl s.sq)
    | _ => cases h
theorem excQ_ok [k : Lk X T J] {n0 : Nat} {C : Addr} {d : D} {b : Bool} (h : excQ (J.at n0) C d = some b) : ∃ cv i, clsD d = some cv ∧ KitI X (.ref C) cv b ∧ J.cm.cix C = some i ∧ i < 32 := by
  unfold excQ at h
  split at h
  · rename_i c
    split at h
    · rename_i i j e1 e2
      split at h
      · cases h
        rename_i hlt
        exact ⟨.ref c, i, rfl, ⟨k.b.kit _ _ _ _ e1 e2⟩, e1, hlt.1⟩
      · cases h
    · cases h
  · rename_i T'
    split at h
    · rename_i i e1
      split at h
      · rename_i hc
        cases h
        obtain ⟨h1, rfl⟩ := hc
        exact ⟨.type "ValueError", i, rfl, ⟨k.b.kitV _ _ e1 h1⟩, e1, h1⟩
      · cases h
    · cases h
  · cases h
theorem excQs_ok [k : Lk X T J] {n0 : Nat} {C : Addr} : ∀ {ds : List D} {b : Bool}, excQs (J.at n0) C ds = some b → ∃ cvs, clsDs ds = some cvs ∧ KitAI X C cvs b
  | [], b, h => by cases h; exact ⟨[], rfl, kita_nil⟩
  | d :: ds, b, h => by
    unfold excQs at h
    cases e1 : excQ (J.at n0) C d with
    | none => rw [e1] at h; cases h
    | some b1 =>
      cases e2 : excQs (J.at n0) C ds with
      | none => rw [e1, e2] at h; cases h
      | some b2 =>
        rw [e1, e2] at h
        cases h
        obtain ⟨cv, i, h1, h2, _, _⟩ := excQ_ok (X := X) e1
        obtain ⟨cvs, h3, h4⟩ := excQs_ok e2
        refine ⟨cv :: cvs, ?_, kita_cons⟩
        unfold clsDs
        rw [h1, h3]
theorem kitQ_all : ∀ T' ∈ tys, ∀ t ∈ tys, ∀ b, kitQ T' t = some b → kitB T' t = some b := by decide +kernel
theorem kitQ_ok {T' t : String} {b : Bool} (h : T' ∈ tys) (e : kitQ T' t = some b) : kitB T' t = some b := by
  refine kitQ_all T' h t ?_ b e
  unfold kitQ at e
  split at e
  · rename_i h1
    rw [← h1]
    exact h
  · split at e
    · rename_i h1
      rw [h1.2]
      decide
    · split at e
      · rename_i h1
        rcases h1 with h1 | h1 | h1 | h1 | h1 | h1 <;> (rw [h1]; decide)
      · cases e
def jIsi2 (J : Jx) (η : Hs) (Q : QA) (x y : A) : Prop := match y with
    | .d (.ty T) => ob (typA η x) fun T' => ob (kitQ T' T) fun b => Q (B b) η
    | .d (.ref c) => ob (J.cm.cix c) fun i => clsQ J η x i fun b η' => Q (B b) η'
    | _ => False
theorem o_isi2 [k : Lk X T J] {n0 : Nat} {F : Fr0} {δ : Sl} {η : Hs} {Q : QA} {x y : A} (h : jIsi2 (J.at n0) η Q x y) : CallJ X F (.builtin "isinstance") [x, y] δ η Q := by
  unfold jIsi2 at h
  split at h
  · obtain ⟨T', e, h⟩ := ob_e h
    obtain ⟨b, e2, q⟩ := ob_e h
    exact f_isi e (kitQ_ok (typA_tys e) e2) q
  · rename_i c
    obtain ⟨i, e, h⟩ := ob_e h
    unfold clsQ at h
    split at h
    · rename_i C fs e2
      obtain ⟨j, e3, hj, q⟩ := ob_e h
      have ht : typV η x = some (.ref C) := by unfold typV; rw [e2]
      exact f_isiC ht (by unfold clsOk; rw [e2]; exact k.b.ins _ _ e3 hj X rfl) ⟨k.b.kit _ _ _ _ e3 e⟩ q
    · rename_i e2
      obtain ⟨t, e3, q⟩ := ob_e h
      have ht : typV η x = some (.type t) := by unfold typV; rw [e2, e3]
      exact f_isiC ht (by unfold clsOk; rw [e2]; trivial) ⟨k.b.kitT _ _ _ (typA_tys e3) e⟩ q
  · exact h.elim
theorem o_isi [k : Lk X T J] {n0 : Nat} {F : Fr0} {δ : Sl} {η : Hs} {Q : QA} {x y : A} (h : jIsi (J.at n0) η Q x y) : CallJ X F (.builtin "isinstance") [x, y] δ η Q := by
  unfold jIsi at h
  split at h
  · rename_i a C dx fs
    obtain ⟨hx, h⟩ := h
    have hv := k.ex a C dx hx
    split at h
    · rename_i ds
      obtain ⟨j, hj, hl, h⟩ := ob_e h
      obtain ⟨b, e, q⟩ := ob_e h
      have hk : ExK X C := ⟨(k.b.exk C j hj hl).1, (k.b.exk C j hj hl).2⟩
      obtain ⟨cvs, h3, h4⟩ := excQs_ok (X := X) e
      exact f_isET h3 h4 q
    · obtain ⟨b, e, q⟩ := ob_e h
      obtain ⟨cv, i, h1, h2, h3, h4⟩ := excQ_ok (X := X) e
      have hk : ExK X C := ⟨(k.b.exk C i h3 h4).1, (k.b.exk C i h3 h4).2⟩
      exact f_isE h1 h2 q
    · exact h.elim
  · exact o_isi2 h
theorem o_callB [k : Lk X T J] {n0 : Nat} {F : Fr0} {δ : Sl} {η : Hs} {Q : QA} {b : Bi} {xs : List A} (hc : X.calm = true) (h : jCallB (J.at n0) b η Q xs) : CallJ X F (.builtin b.id) xs δ η Q := by
  have : Calm X := ⟨hc⟩
  unfold jCallB at h
  split at h
  · split at h
    · rcases h with ⟨n, e, q⟩ | ⟨k, kvs, rfl, e, q⟩
      · exact f_lenB e q
      · exact f_lenD e q
    · exact h.elim
  · split at h
    · exact f_abs h
    · exact h.elim
  · split at h
    · exact f_max hc h
    · exact h.elim
  · split at h
    · exact f_min hc h
    · exact h.elim
  · split at h
    · exact o_isi h
    · exact h.elim
  · split at h
    · obtain ⟨bs, e1, e2, q⟩ := h
      exact f_all e1 e2 q
    · exact h.elim
  · split at h
    · obtain ⟨bs, e1, e2, q⟩ := h
      exact f_any e1 e2 q
    · exact h.elim
/-- isinstance alone, where no more is known of the context -/
theorem e_isi {n : Str} {p pos : Pos} {e : Expr} {es : List Expr} {js : JL} (i : Nat) [C : Cfg X N U S G] [k : Lk X T J] [hv : BootB n "isinstance"] [g : Mem n G] (hb : T.blt[i]? = some n) (h1 : SndL X J (e :: es) js)
    (he : starEach (e :: es) X.env = (false, eval e X.env) :: starEach es X.env) (hpl : (backTo pos (starEach es X.env)).any (·.1) = false) : SndE X J (.Call (.Name n p) (e :: es) [] pos) (.callB .isi js) := fun n0 F E δ η Q hE h => by
  unfold wE at h
  have : Blt X T.blt := ⟨k.b.blt⟩
  have : Mem n T.blt := ⟨List.mem_of_getElem? hb⟩
  exact w_callB ((h1 n0 F E δ η _ hE h).mono fun xs η1 q => by
    simp only [jCallB] at q
    split at q
    · exact o_isi q
    · exact q.elim) he hpl
theorem e_callB {n : Str} {p pos : Pos} {e : Expr} {es : List Expr} {js : JL} {b : Bi} (i : Nat) [C : Cfg X N U S G] [cm : Calm X] [k : Lk X T J] [hv : BootB n b.id] [g : Mem n G] (hb : T.blt[i]? = some n) (h1 : SndL X J (e :: es) js)
    (he : starEach (e :: es) X.env = (false, eval e X.env) :: starEach es X.env) (hpl : (backTo pos (starEach es X.env)).any (·.1) = false) : SndE X J (.Call (.Name n p) (e :: es) [] pos) (.callB b js) := fun n0 F E δ η Q hE h => by
  unfold wE at h
  have : Blt X T.blt := ⟨k.b.blt⟩
  have : Mem n T.blt := ⟨List.mem_of_getElem? hb⟩
  exact w_callB ((h1 n0 F E δ η _ hE h).mono fun xs η1 q => o_callB cm.c q) he hpl
theorem o_callT {F : Fr0} {δ : Sl} {η : Hs} {Q : QA} {b : Bt} {xs : List A} (h : jCallT b η Q xs) : CallJ X F (.type b.id) xs δ η Q := by
  unfold jCallT at h
  split at h
  · split at h
    · exact f_int h
    · exact f_intB h
    · exact h.elim
  · split at h
    · obtain ⟨ys, e, q⟩ := ob_e h
      exact f_tuple e q
    · exact h.elim
  · split at h
    · obtain ⟨ys, e, q⟩ := ob_e h
      exact f_list e (pushO_eq _ _) q
    · exact h.elim
theorem e_callT {n : Str} {p pos : Pos} {e : Expr} {es : List Expr} {js : JL} {b : Bt} (i : Nat) [C : Cfg X N U S G] [k : Lk X T J] [hv : BootT n b.id] [g : Mem n G] (hb : T.blt[i]? = some n) (h1 : SndL X J (e :: es) js)
    (he : starEach (e :: es) X.env = (false, eval e X.env) :: starEach es X.env) (hpl : (backTo pos (starEach es X.env)).any (·.1) = false) : SndE X J (.Call (.Name n p) (e :: es) [] pos) (.callT b js) := fun n0 F E δ η Q hE h => by
  unfold wE at h
  have : Blt X T.blt := ⟨k.b.blt⟩
  have : Mem n T.blt := ⟨List.mem_of_getElem? hb⟩
  exact w_callTy ((h1 n0 F E δ η _ hE h).mono fun xs η1 q => o_callT q) he hpl
/-! ### built-in methods -/
def Bm.full : Bm → String
  | .append => "list.append" | .insert => "list.insert" | .index => "list.index"
instance bm_list {m : Bm} : BM "list" m.id m.full := by
  cases m
  · exact (inferInstance : BM "list" "append" "list.append")
  · exact (inferInstance : BM "list" "insert" "list.insert")
  · exact (inferInstance : BM "list" "index" "list.index")
theorem o_mth {F : Fr0} {δ : Sl} {η : Hs} {Q : QA} {m : Bm} {x : A} {xs : List A} (h : jMth m x η Q xs) : MtJ X F m.full x xs δ η Q := by
  cases m
  · simp only [jMth] at h
    split at h
    · obtain ⟨u, hu, h⟩ := ob_e h
      split at h
      · obtain ⟨u', hu', hl, h⟩ := ob_e h
        obtain ⟨η', hw, q⟩ := ob_e h
        exact m_app hu hu' hl hw q
      · exact h.elim
    · exact h.elim
  · simp only [jMth] at h
    split at h
    · obtain ⟨u, hu, h⟩ := ob_e h
      split at h
      · split at h
        · obtain ⟨hi, hl, h⟩ := h
          obtain ⟨η', hw, q⟩ := ob_e h
          exact m_ins hu hi hl hw q
        · exact h.elim
      · exact h.elim
    · exact h.elim
  · simp only [jMth] at h
    split at h
    · obtain ⟨hn, ns, e, hi, q⟩ := h
      exact m_indexI e hn hi q
    · exact h.elim
theorem e_mth {o e : Expr} {es : List Expr} {name : Str} {apos cpos : Pos} {jo : JE} {js : JL} {m : Bm} (hm : name = m.id) (h0 : SndE X J o jo) (h1 : SndL X J (e :: es) js)
    (hbase : attributeBase o name X.env (eval o X.env) = eval o X.env)
    (hfew : ((backTo cpos (starEach (e :: es) X.env)).all (fun x => !x.1) && (backToKw cpos (keywordEach [] X.env)).all (fun x => x.1.isSome) && decide ((e :: es).length + ([] : List Keyword).length + (if ([] : List Keyword).isEmpty then 0 else 1) < 30)) = true)
    (hline : (apos.endLine == cpos.line) = true) (hs : starEach (e :: es) X.env = (false, eval e X.env) :: starEach es X.env) (hplain : (backTo cpos (starEach es X.env)).any (·.1) = false) : SndE X J (.Call (.Attribute o name apos) (e :: es) [] cpos) (.mth jo m js) := fun n0 F E δ η Q hE h => by
  unfold wE at h
  subst hm
  refine w_meth ((h0 n0 F E δ η _ hE h).mono fun x η1 ⟨ty, q⟩ => ?_) hbase hfew hline hs hplain
  refine ⟨"list", _, by rw [ty]; rfl, bm_list (m := m), (h1 n0 F E δ _ _ hE q).mono fun xs η2 q => o_mth q⟩
/-! ### calls of own functions -/
theorem W.absurd {F : Fr0} {e : Expr} {δ : Sl} {η : Hs} {Q : QA} (h : W X F e δ η fun _ _ => False) : W X F e δ η Q := h.mono fun _ _ q => q.elim
theorem e_fn {n : Str} {p pos : Pos} {e : Expr} {es : List Expr} {js : JL} {f : Nat} (i : Nat) [C : Cfg X N U S G] [k : Lk X T J] [m : JMon J] [mg : Mem n G] (hf : T.fns[i]? = some (n, f)) (h1 : SndL X J (e :: es) js)
    (he : starEach (e :: es) X.env = (false, eval e X.env) :: starEach es X.env) (hpl : (backTo pos (starEach es X.env)).any (·.1) = false) : SndE X J (.Call (.Name n p) (e :: es) [] pos) (.fn f js) := fun n0 F E δ η Q hE h => by
  unfold wE at h
  obtain ⟨hon, h⟩ := h
  have : Rm X J.lv := k.rm hon
  have : GFx X n J.lv (J.fn f) := ⟨k.b.fns i n f hf⟩
  exact w_call ((h1 n0 F E δ η _ hE h).mono fun xs η1 q => o_call (JMon.fn f) hE q) (Nat.le_refl _) he hpl
theorem e_own {o e : Expr} {es : List Expr} {mn : Str} {apos pos : Pos} {pl : Sem Bool} {jo : JE} {js : JL} {c f n : Nat} (i : Nat) [k : Lk X T J] [m : JMon J] (hf : T.mts[i]? = some (c, mn, n, f)) (hn : n = es.length + 1) (h0 : SndE X J o jo) (h1 : SndL X J (e :: es) js)
    (hst : starEach (e :: es) X.env = (false, eval e X.env) :: starEach es X.env) (hpl : (backTo pos (starEach es X.env)).any (·.1) = false)
    (ht : eval (.Call (.Attribute o mn apos) (e :: es) [] pos) X.env = (do
      let ov ← eval o X.env
      standAt apos.atName
      let (f, first) ← holding [ov] (getMethod ov mn pl)
      callWith pos f first (backTo pos (starEach (e :: es) X.env)) (backToKw pos (keywordEach [] X.env)))) : SndE X J (.Call (.Attribute o mn apos) (e :: es) [] pos) (.own jo c mn f js) := fun n0 F E δ η Q hE h => by
  unfold wE at h
  subst hn
  obtain ⟨hon, h⟩ := h
  have : Rm X J.lv := k.rm hon
  refine w_mcall ((h0 n0 F E δ η _ hE h).mono fun x η1 q => ?_) hst hpl ht
  obtain ⟨p, e1, e2, e3, q⟩ := ob_e q
  exact ⟨p.1, p.2, J.lv, J.fn f, e1, e3, by rw [e2]; exact ⟨k.b.mts i c mn _ f hf⟩, Nat.le_refl _, (h1 n0 F E δ _ _ hE q).mono fun xs η2 q => o_call (JMon.fn f) hE q⟩
theorem e_own0 {o : Expr} {mn : Str} {apos pos : Pos} {pl : Sem Bool} {jo : JE} {c f : Nat} (i : Nat) [k : Lk X T J] [m : JMon J] (hf : T.mts[i]? = some (c, mn, 0, f)) (h0 : SndE X J o jo)
    (ht : eval (.Call (.Attribute o mn apos) [] [] pos) X.env = (do
      let ov ← eval o X.env
      standAt apos.atName
      let (f, first) ← holding [ov] (getMethod ov mn pl)
      callWith pos f first (backTo pos (starEach [] X.env)) (backToKw pos (keywordEach [] X.env)))) : SndE X J (.Call (.Attribute o mn apos) [] [] pos) (.own jo c mn f .nil) := fun n0 F E δ η Q hE h => by
  unfold wE at h
  obtain ⟨hon, h⟩ := h
  have : Rm X J.lv := k.rm hon
  refine w_mcall0 ((h0 n0 F E δ η _ hE h).mono fun x η1 q => ?_) ht
  obtain ⟨p, e1, e2, e3, q⟩ := ob_e q
  unfold wL at q
  exact ⟨p.1, p.2, J.lv, J.fn f, e1, e3, by rw [e2]; exact ⟨k.b.mts i c mn _ f hf⟩, Nat.le_refl _, o_call (JMon.fn f) hE q⟩
theorem WK.mono {F : Fr0} {δ : Sl} {η : Hs} {es : List Keyword} {Q Q' : List A → Hs → Prop} (h : WK X F es δ η Q) (k : ∀ x η', Q x η' → Q' x η') : WK X F es δ η Q' := by
  obtain ⟨t, h1, h2⟩ := h
  exact ⟨t, h1, fun xt m σ H R ab po => h2 xt m σ H R ab fun v m' H' x η' a b c q => po v m' H' x η' a b c (k _ _ q)⟩
theorem e_mk {x : Str} {p pos : Pos} {e : Expr} {es : List Expr} {kws : List Keyword} {js jks : JL} {n c f : Nat} {ks : List Str} {g : List (Nat ⊕ D)} (i : Nat) [Cf : Cfg X N U S G] [k : Lk X T J] [m : JMon J] [mg : Mem x G] (hf : T.mks[i]? = some (x, c, n, ks, f, g))
    (hn1 : jlLen js = n) (hn2 : jlLen jks = ks.length)
    (h1 : SndL X J (e :: es) js) (h2 : SndK X J kws jks)
    (hall : (backToKw pos (keywordEach kws X.env)).all (·.1.isSome) = true) (hks : (backToKw pos (keywordEach kws X.env)).filterMap (·.1) = ks) (he : starEach (e :: es) X.env = (false, eval e X.env) :: starEach es X.env)
    (hpl : ((backTo pos (starEach (e :: es) X.env)).any (·.1) || (backToKw pos (keywordEach kws X.env)).any (·.1.isNone)) = false) : SndE X J (.Call (.Name x p) (e :: es) kws pos) (.mk c f g js jks) := fun n0 F E δ η Q hE h => by
  unfold wE at h
  obtain ⟨hon, hlv, h⟩ := h
  have : Rm X J.lv := k.rm hon
  obtain ⟨kk, hkk, hg⟩ := k.b.mks i x c n ks f g hf hlv
  have : MkX X x n ks (J.cm.cls c) kk (J.fm f) (gaK g) := ⟨hg⟩
  exact w_make ((h1 n0 F E δ η _ hE h).mono fun xs η1 q => (h2 n0 F E δ η1 _ hE q).mono fun ys η2 ⟨l1, l2, q⟩ => ⟨l1.trans hn1, l2.trans hn2, _, _, pushO_eq _ _, o_call (JMon.fm f) hE q⟩) hkk hall hks he hpl
/-! ### targets -/
def tgsLen : JTs → Nat
  | .nil => 0
  | .cons _ r => tgsLen r + 1
mutual
theorem wTg_mono : ∀ (t : JT) {x : A} {δ : Sl} {Q Q' : Sl → Prop}, wTg t x δ Q → (∀ δ', Q δ' → Q' δ') → wTg t x δ Q'
  | .nm i, x, δ, Q, Q', h, k => by
    unfold wTg at h ⊢
    obtain ⟨δ', e, q⟩ := ob_e h
    exact ob_i δ' e (k _ q)
  | .tup ts, x, δ, Q, Q', h, k => by
    unfold wTg at h ⊢
    obtain ⟨xs, e, q⟩ := ob_e h
    exact ob_i xs e (wTgs_mono ts q k)
theorem wTgs_mono : ∀ (t : JTs) {xs : List A} {δ : Sl} {Q Q' : Sl → Prop}, wTgs t xs δ Q → (∀ δ', Q δ' → Q' δ') → wTgs t xs δ Q'
  | .nil, [], δ, Q, Q', h, k => by unfold wTgs at h ⊢; exact k _ h
  | .nil, _ :: _, _, _, _, h, _ => by unfold wTgs at h; exact h.elim
  | .cons t r, [], _, _, _, h, _ => by unfold wTgs at h; exact h.elim
  | .cons t r, x :: xs, δ, Q, Q', h, k => by
    unfold wTgs at h ⊢
    exact wTg_mono t h fun δ' q => wTgs_mono r q k
end
mutual
theorem tg_ex : ∀ (t : JT) {x : A} {δ : Sl} {Q : Sl → Prop}, wTg t x δ Q → ∃ δ', Q δ'
  | .nm i, x, δ, Q, h => by
    unfold wTg at h
    obtain ⟨δ', _, q⟩ := ob_e h
    exact ⟨δ', q⟩
  | .tup ts, x, δ, Q, h => by
    unfold wTg at h
    obtain ⟨xs, _, q⟩ := ob_e h
    exact (tgs_ex ts q).2
theorem tgs_ex : ∀ (t : JTs) {xs : List A} {δ : Sl} {Q : Sl → Prop}, wTgs t xs δ Q → xs.length = tgsLen t ∧ ∃ δ', Q δ'
  | .nil, [], δ, Q, h => by unfold wTgs at h; exact ⟨rfl, δ, h⟩
  | .nil, _ :: _, _, _, h => by unfold wTgs at h; exact h.elim
  | .cons t r, [], _, _, h => by unfold wTgs at h; exact h.elim
  | .cons t r, x :: xs, δ, Q, h => by
    unfold wTgs at h
    obtain ⟨δ', q⟩ := tg_ex t h
    obtain ⟨e, q⟩ := tgs_ex r q
    exact ⟨congrArg (· + 1) e, q⟩
end
theorem t_nm {n : Str} {pos : Pos} {i : Nat} [C : Cfg X N U S G] [ms : Mem n S] (h : N[i]? = some n) : SndT X (.Name n pos) (.nm i) := fun F x δ η Q h1 => by
  unfold wTg at h1
  obtain ⟨δ', e, q⟩ := ob_e h1
  obtain ⟨e1, e2⟩ := sset_eq e
  have : SlotS N δ n x δ' := ⟨i, h, e1, e2⟩
  exact tg_name q
theorem ts_nil : SndTs X [] .nil := fun F x δ η Q h => by
  cases x with
  | nil => unfold wTgs at h; exact tgs_nil h
  | cons x xs => unfold wTgs at h; exact h.elim
theorem ts_cons {e : Expr} {es : List Expr} {j : JT} {js : JTs} (h1 : SndT X e j) (h2 : SndTs X es js) (hs : (assignEach (e :: es) X.env).map (·.2) = assign e X.env :: (assignEach es X.env).map (·.2)) : SndTs X (e :: es) (.cons j js) := fun F x δ η Q h => by
  cases x with
  | nil => unfold wTgs at h; exact h.elim
  | cons x xs =>
    unfold wTgs at h
    exact tgs_cons (h1 F x δ η _ (wTg_mono j h fun δ' q => h2 F xs δ' η Q q)) hs
theorem t_tup {es : List Expr} {js : JTs} {k : Nat} {pos : Pos} [hc : Calm X] (h1 : SndTs X es js) (hl : tgsLen js = es.length) (hn : (assignEach es X.env).length = es.length) (hst : (assignEach es X.env).findIdx? (·.1) = none) : SndT X (.Tuple es k pos) (.tup js) := fun F x δ η Q h => by
  unfold wTg at h
  obtain ⟨xs, e, q⟩ := ob_e h
  exact tg_tup hc.c e (h1 F xs δ η Q q) ((tgs_ex js q).1.trans hl) hn hst
variable {vs : List Nat}
theorem tw_nm {n : Str} {pos : Pos} {i : Nat} [C : Cfg X N U S G] [ms : Mem n S] (h : N[i]? = some n) (hv : i ∈ vs) : SndTW X vs (.Name n pos) (.nm i) := fun F x δ η Q h1 => by
  unfold wTg at h1
  obtain ⟨δ', e, q⟩ := ob_e h1
  obtain ⟨e1, e2⟩ := sset_eq e
  have : SlotS N δ n x δ' := ⟨i, h, e1, e2⟩
  exact tgw_name q h hv
theorem tsw_nil : SndTsW X vs [] .nil := fun F x δ η Q h => by
  cases x with
  | nil => unfold wTgs at h; exact tgsw_nil h
  | cons x xs => unfold wTgs at h; exact h.elim
theorem tsw_cons {e : Expr} {es : List Expr} {j : JT} {js : JTs} (h1 : SndTW X vs e j) (h2 : SndTsW X vs es js) (hs : (assignEach (e :: es) X.env).map (·.2) = assign e X.env :: (assignEach es X.env).map (·.2)) : SndTsW X vs (e :: es) (.cons j js) := fun F x δ η Q h => by
  cases x with
  | nil => unfold wTgs at h; exact h.elim
  | cons x xs =>
    unfold wTgs at h
    exact tgsw_cons (h1 F x δ η _ (wTg_mono j h fun δ' q => h2 F xs δ' η Q q)) hs
theorem tw_tup {es : List Expr} {js : JTs} {k : Nat} {pos : Pos} [hc : Calm X] (h1 : SndTsW X vs es js) (hl : tgsLen js = es.length) (hn : (assignEach es X.env).length = es.length) (hst : (assignEach es X.env).findIdx? (·.1) = none) : SndTW X vs (.Tuple es k pos) (.tup js) := fun F x δ η Q h => by
  unfold wTg at h
  obtain ⟨xs, e, q⟩ := ob_e h
  exact tgw_tup e (h1 F xs δ η Q q) ((tgs_ex js q).1.trans hl) hn hst
/-! ### what is walked -/
variable {tg : Expr}
theorem i_rng1 {a : Expr} {ja : JE} {p pos : Pos} (i : Nat) [C : Cfg X N U S G] [k : Lk X T J] [g : Mem "range" G] (hb : T.blt[i]? = some "range") (h1 : SndE X J a ja) (hs : starEach [a] X.env = [(false, eval a X.env)]) (hs0 : starEach [a] X.env = (false, eval a X.env) :: starEach [] X.env) : SndI X J tg (.Call (.Name "range" p) [a] [] pos) (.rng1 ja) := fun n0 F E δ η Q hE h => by
  have : Blt X T.blt := ⟨k.b.blt⟩
  have : Mem "range" T.blt := ⟨List.mem_of_getElem? hb⟩
  unfold wI at h
  refine wi_range1 (wl_cons ((h1 n0 F E δ η _ hE h).mono fun x η1 q => wl_nil ?_) hs0) hs
  split at q
  · exact ⟨_, rfl, q⟩
  · exact q.elim
theorem i_rng2 {a b : Expr} {ja jb : JE} {p pos : Pos} (i : Nat) [C : Cfg X N U S G] [k : Lk X T J] [g : Mem "range" G] (hb : T.blt[i]? = some "range") (h1 : SndE X J a ja) (h2 : SndE X J b jb) (hs : starEach [a, b] X.env = [(false, eval a X.env), (false, eval b X.env)]) (hs2 : starEach [b] X.env = [(false, eval b X.env)])
    (hs0 : starEach [a, b] X.env = (false, eval a X.env) :: starEach [b] X.env) (hs1 : starEach [b] X.env = (false, eval b X.env) :: starEach [] X.env) : SndI X J tg (.Call (.Name "range" p) [a, b] [] pos) (.rng2 ja jb) := fun n0 F E δ η Q hE h => by
  have : Blt X T.blt := ⟨k.b.blt⟩
  have : Mem "range" T.blt := ⟨List.mem_of_getElem? hb⟩
  unfold wI at h
  refine wi_range2 (wl_cons ((h1 n0 F E δ η _ hE h).mono fun x η1 q => wl_cons ((h2 n0 F E δ η1 _ hE q).mono fun y η2 q => wl_nil ?_) hs1) hs0) hs hs2
  split at q
  · exact ⟨_, _, rfl, q⟩
  · exact q.elim
theorem i_seq {a : Expr} {ja : JE} (h1 : SndE X J a ja) : SndI X J tg a (.seq ja) := fun n0 F E δ η Q hE h => by
  unfold wI at h
  exact wi_seq ((h1 n0 F E δ η _ hE h).mono fun x η1 q => by
    obtain ⟨items, e, q⟩ := ob_e q
    exact ⟨items, e, q⟩)
theorem i_en {a : Expr} {ja : JE} {p pos tpos : Pos} {elts : List Expr} {kk : Nat} (i : Nat) [C : Cfg X N U S G] [k : Lk X T J] [g : Mem "enumerate" G] (hb : T.blt[i]? = some "enumerate") (h1 : SndE X J a ja) (hs : starEach [a] X.env = [(false, eval a X.env)]) : SndI X J (.Tuple elts kk tpos) (.Call (.Name "enumerate" p) [a] [] pos) (.en ja) := fun n0 F E δ η Q hE h => by
  have : Blt X T.blt := ⟨k.b.blt⟩
  have : Mem "enumerate" T.blt := ⟨List.mem_of_getElem? hb⟩
  unfold wI at h
  exact wi_enum ((h1 n0 F E δ η _ hE h).mono fun x η1 q => by
    obtain ⟨items, e, q⟩ := ob_e q
    exact ⟨items, e, q⟩) hs
theorem i_keys {a : Expr} {ja : JE} (h1 : SndE X J a ja) : SndI X J tg a (.keys ja) := fun n0 F E δ η Q hE h => by
  unfold wI at h
  exact wi_keys (h1 n0 F E δ η _ hE h)
theorem i_items {a : Expr} {ja : JE} {apos cpos tpos : Pos} {elts : List Expr} {kk : Nat} (h1 : SndE X J a ja) (hbase : attributeBase a "items" X.env (eval a X.env) = eval a X.env) (hline : (apos.endLine == cpos.line) = true) : SndI X J (.Tuple elts kk tpos) (.Call (.Attribute a "items" apos) [] [] cpos) (.items ja) := fun n0 F E δ η Q hE h => by
  unfold wI at h
  exact wi_items (h1 n0 F E δ η _ hE h) hbase hline
theorem WI.mono {F : Fr0} {δ : Sl} {η : Hs} {e : Expr} {Q Q' : List A → (Hs → Prop) → Hs → Prop} (h : WI X F tg e δ η Q) (k : ∀ x ok η', Q x ok η' → Q' x ok η') : WI X F tg e δ η Q' := by
  obtain ⟨t, h1, h2⟩ := h
  exact ⟨t, h1, fun xt m σ H R ab po => h2 xt m σ H R ab fun J' m' H' items ok η' a b c q => po J' m' H' items ok η' a b c (k _ _ _ q)⟩
/-! ### comprehensions -/
theorem oo_none : SndO' X J [] .none := fun n0 F E δ η Q hE h => wts_nil (by unfold wO' at h; exact h)
theorem oo_some {e : Expr} {j : JC} (h1 : SndC X J e j) : SndO' X J [e] (.some j) := fun n0 F E δ η Q hE h => wts_one (h1 n0 F E δ η Q hE (by unfold wO' at h; exact h))
section
variable {scope sc : Scope} {own : List (Str × Nat)} {U' S' G' : List Str} {elt kx vx iter : Expr} {ifs : List Expr} {ji : JI} {jt : JT} {jif : JO'} {je jk jv : JE}
/-- what a block's derivations are told in -/
abbrev Blk (X : Cx) (J : Jx) (T : Tb) (N U' S' G' : List Str) (P : Cx → Prop) : Prop := ∀ (Y : Cx) [Low X Y] [Cfg Y N U' S' G'] [Calm Y] [Lk Y T J.in], P Y
theorem lc_j [k : Lk X T J] {F : Fr0} {δ : Sl} {Q : QA} {items : List A} {ok : Hs → Prop} {η1 : Hs} {n0 : Nat} (ht : Blk X J T N U' S' G' fun Y => SndTW Y (own.map (·.2)) tg jt) (hi : Blk X J T N U' S' G' fun Y => SndO' Y J.in ifs jif) (he : Blk X J T N U' S' G' fun Y => SndE Y J.in elt je)
    (h : jLc jt (fun δ2 η' P => wO' (J.at n0).in noE jif δ2 η' P) (fun δ2 η' P => wE (J.at n0).in noE je δ2 η' P) (own.map (·.2)) items ok δ η1 Q) : LcJ X F N U' S' G' (own.map (·.2)) tg elt ifs δ Q items ok η1 := by
  obtain ⟨Pv, p0, hok, hst, hen⟩ := h.ex
  refine ⟨Pv, p0, hok, fun F' hF i x acc η' hx hp => ?_, fun acc η' hp => pushO_i (hen acc η' hp)⟩
  obtain ⟨h1, h2⟩ := hst i x acc η' hx hp
  refine ⟨h1, fun Y _ _ _ => ?_⟩
  have : Lk Y T J.in := Lk.low (X := X)
  refine ht Y F' x _ η' _ (wTg_mono jt h2 fun δ2 q => ?_)
  intro Y _ _ _
  have : Lk Y T J.in := Lk.low (X := X)
  have q2 := hi Y n0 F' noE δ2 η' _ (fun _ _ z => z.elim) q
  obtain ⟨t, ht2, hq2⟩ := q2
  refine ⟨t, ht2, fun xt m σ H R ab po => hq2 xt m σ H R ab fun b m1 H1 η2 ab1 e1 q3 => po b m1 H1 η2 ab1 e1 ?_⟩
  cases b with
  | false =>
    rw [if_neg Bool.false_ne_true]
    exact q3.f rfl
  | true =>
    rw [if_pos rfl]
    have q3 := q3.t rfl
    intro Y _ _ _
    have : Lk Y T J.in := Lk.low (X := X)
    exact he Y n0 F' noE δ2 η2 _ (fun _ _ z => z.elim) q3
theorem e_lc {pos : Pos} [C : Cfg X N U S G] [cm : Calm X] [k : Lk X T J] (hsc : X.env.scope = sc) (bf : BlkF N sc scope own U' S' G') (h1 : SndI X J tg iter ji)
    (ht : Blk X J T N U' S' G' fun Y => SndTW Y (own.map (·.2)) tg jt) (hi : Blk X J T N U' S' G' fun Y => SndO' Y J.in ifs jif) (he : Blk X J T N U' S' G' fun Y => SndE Y J.in elt je) (hs : ∀ x, foldedSetIterable iter X.env x = pure x) :
    SndE X J (.ListComp elt [⟨tg, iter, ifs, 0⟩] scope pos) (.lc jt ji jif je (own.map (·.2))) := fun n0 F E δ η Q hE h => by
  unfold wE at h
  exact w_lc hsc bf ((h1 n0 F E δ η _ hE h).mono fun items ok η1 q => lc_j ht hi he q) hs
theorem s_setLc {n : Str} {py : Pos} {pos spos : Pos} {y : Nat} [C : Cfg X N U S G] [cm : Calm X] [k : Lk X T J] [hn : Mem n N] [ms : Mem n S] (hy : N[y]? = some n) (hsc : X.env.scope = sc) (bf : BlkF N sc scope own U' S' G') (h1 : SndI X J tg iter ji)
    (ht : Blk X J T N U' S' G' fun Y => SndTW Y (own.map (·.2)) tg jt) (hi : Blk X J T N U' S' G' fun Y => SndO' Y J.in ifs jif) (he : Blk X J T N U' S' G' fun Y => SndE Y J.in elt je) (hs : ∀ x, foldedSetIterable iter X.env x = pure x)
    (hyl : X.env.scope.names.lookup n = some .local) (hsw : swapsWith (.ListComp elt [⟨tg, iter, ifs, 0⟩] scope pos) (some (.Name n py)) spos.line X.env = pure true) :
    SndS X J (.Assign [.Name n py] (.ListComp elt [⟨tg, iter, ifs, 0⟩] scope pos) spos) (.asg (.nm y) (.lc jt ji jif je (own.map (·.2)))) := fun n0 F E δ η nx rt bk ct hE hF h => by
  unfold wS wE at h
  refine ws_setLc hsc bf ((h1 n0 F E δ η _ hE h).mono fun items ok η1 q => lc_j (n0 := n0) ht hi he ?_) hs hyl hsw
  obtain ⟨Pv, p0, p1, p2, p3⟩ := q.ex
  refine ⟨⟨Pv, p0, p1, p2, fun acc η' p => ?_⟩⟩
  have := p3 acc η' p
  unfold jPush at this
  simp only [wTg] at this
  obtain ⟨δ', e, q⟩ := ob_e this
  obtain ⟨e1, e2⟩ := sset_eq e
  exact ⟨δ', ⟨y, hy, e1, e2⟩, q⟩
theorem dc_j [k : Lk X T J] {F : Fr0} {δ : Sl} {Q : QA} {items : List A} {ok : Hs → Prop} {η1 : Hs} {n0 : Nat} (ht : Blk X J T N U' S' G' fun Y => SndTW Y (own.map (·.2)) tg jt) (hi : Blk X J T N U' S' G' fun Y => SndO' Y J.in ifs jif) (hk : Blk X J T N U' S' G' fun Y => SndE Y J.in kx jk) (he : Blk X J T N U' S' G' fun Y => SndE Y J.in vx jv)
    (h : jDc jt (fun δ2 η' P => wO' (J.at n0).in noE jif δ2 η' P) (fun δ2 η' P => wE (J.at n0).in noE jk δ2 η' P) (fun δ2 η' P => wE (J.at n0).in noE jv δ2 η' P) (own.map (·.2)) items ok δ η1 Q) : DcJ X F N U' S' G' (own.map (·.2)) tg kx vx ifs δ Q items ok η1 := by
  obtain ⟨Pv, p0, hok, hst, hen⟩ := h.ex
  refine ⟨Pv, p0, hok, fun F' hF i x acc η' hx hp => ?_, fun acc η' hp => pushO_i (hen acc η' hp)⟩
  obtain ⟨h1, h2⟩ := hst i x acc η' hx hp
  refine ⟨h1, fun Y _ _ _ => ?_⟩
  have : Lk Y T J.in := Lk.low (X := X)
  refine ht Y F' x _ η' _ (wTg_mono jt h2 fun δ2 q => ?_)
  intro Y _ _ _
  have : Lk Y T J.in := Lk.low (X := X)
  have q2 := hi Y n0 F' noE δ2 η' _ (fun _ _ z => z.elim) q
  obtain ⟨t, ht2, hq2⟩ := q2
  refine ⟨t, ht2, fun xt m σ H R ab po => hq2 xt m σ H R ab fun b m1 H1 η2 ab1 e1 q3 => po b m1 H1 η2 ab1 e1 ?_⟩
  cases b with
  | false =>
    rw [if_neg Bool.false_ne_true]
    exact q3.f rfl
  | true =>
    rw [if_pos rfl]
    have q3 := q3.t rfl
    intro Y _ _ _
    have : Lk Y T J.in := Lk.low (X := X)
    refine (hk Y n0 F' noE δ2 η2 _ (fun _ _ z => z.elim) q3).mono fun y η3 q4 => ?_
    intro Y _ _ _
    have : Lk Y T J.in := Lk.low (X := X)
    exact he Y n0 F' noE δ2 η3 _ (fun _ _ z => z.elim) q4
theorem e_dc {pos : Pos} [C : Cfg X N U S G] [cm : Calm X] [k : Lk X T J] (hsc : X.env.scope = sc) (bf : BlkF N sc scope own U' S' G') (h1 : SndI X J tg iter ji)
    (ht : Blk X J T N U' S' G' fun Y => SndTW Y (own.map (·.2)) tg jt) (hi : Blk X J T N U' S' G' fun Y => SndO' Y J.in ifs jif) (hk : Blk X J T N U' S' G' fun Y => SndE Y J.in kx jk) (he : Blk X J T N U' S' G' fun Y => SndE Y J.in vx jv) (hs : ∀ x, foldedSetIterable iter X.env x = pure x) :
    SndE X J (.DictComp kx vx [⟨tg, iter, ifs, 0⟩] scope pos) (.dc jt ji jif jk jv (own.map (·.2))) := fun n0 F E δ η Q hE h => by
  unfold wE at h
  exact w_dc hsc bf ((h1 n0 F E δ η _ hE h).mono fun items ok η1 q => dc_j ht hi hk he q) hs
theorem s_setDc {n : Str} {py : Pos} {pos spos : Pos} {y : Nat} [C : Cfg X N U S G] [cm : Calm X] [k : Lk X T J] [hn : Mem n N] [ms : Mem n S] (hy : N[y]? = some n) (hsc : X.env.scope = sc) (bf : BlkF N sc scope own U' S' G') (h1 : SndI X J tg iter ji)
    (ht : Blk X J T N U' S' G' fun Y => SndTW Y (own.map (·.2)) tg jt) (hi : Blk X J T N U' S' G' fun Y => SndO' Y J.in ifs jif) (hk : Blk X J T N U' S' G' fun Y => SndE Y J.in kx jk) (he : Blk X J T N U' S' G' fun Y => SndE Y J.in vx jv) (hs : ∀ x, foldedSetIterable iter X.env x = pure x)
    (hyl : X.env.scope.names.lookup n = some .local) (hsw : swapsWith (.DictComp kx vx [⟨tg, iter, ifs, 0⟩] scope pos) (some (.Name n py)) spos.line X.env = pure true) :
    SndS X J (.Assign [.Name n py] (.DictComp kx vx [⟨tg, iter, ifs, 0⟩] scope pos) spos) (.asg (.nm y) (.dc jt ji jif jk jv (own.map (·.2)))) := fun n0 F E δ η nx rt bk ct hE hF h => by
  unfold wS wE at h
  refine ws_setDc hsc bf ((h1 n0 F E δ η _ hE h).mono fun items ok η1 q => dc_j (n0 := n0) ht hi hk he ?_) hs hyl hsw
  obtain ⟨Pv, p0, p1, p2, p3⟩ := q.ex
  refine ⟨⟨Pv, p0, p1, p2, fun acc η' p => ?_⟩⟩
  have := p3 acc η' p
  unfold jPush at this
  simp only [wTg] at this
  obtain ⟨δ', e, q⟩ := ob_e this
  obtain ⟨e1, e2⟩ := sset_eq e
  exact ⟨δ', ⟨y, hy, e1, e2⟩, q⟩
end
theorem e_dnew {pos : Pos} : SndE X J (.Dict [] [] pos) .dnew := fun n0 F E δ η Q hE h => by
  unfold wE at h
  exact w_dnew (pushO_eq _ _) h
theorem e_frz {e : Expr} {j : JE} (h1 : SndE X J e j) : SndE X J e (.frz j) := fun n0 F E δ η Q hE h => by
  unfold wE at h
  exact w_frzd (h1 n0 F E δ η _ hE h)
/-! ### ghost steps -/
theorem gh_abs {K : PySem.W.Frag} {F : Fr0} {n0 : Nat} {m : List Addr} {σ : L2.St} {H : Hp} {δ δ' : Sl} {η η' : Hs} (hF : F.m.length ≤ n0) (g : Gh n0 δ η δ' η') : ∀ {m : List Addr}, Abs K F m σ H δ η → ∃ m', Abs K F m' σ H δ' η' := by
  induction g with
  | refl => exact fun {m} a => ⟨m, a⟩
  | fgt ls h ih => exact fun {m} a => ih (a.forget fgtN_len fgtN_get)
  | gc ix hp nd hk h ih => exact fun {m} a => ih (a.keep nd hk hp hF).1
  | frz i o d ho hd h ih => exact fun {m} a => ih (a.frz ho hd)
theorem b_gh {F : Fr0} {n0 : Nat} {δ δ' : Sl} {η η' : Hs} {sts : List Stmt} {nx : SH} {rt : RT} {bk ct : SH} (hF : F.m.length ≤ n0) (g : Gh n0 δ η δ' η') (h : WSs X F sts δ' η' nx rt bk ct) : WSs X F sts δ η nx rt bk ct := fun xt m σ H E ab eo => by
  obtain ⟨m', a⟩ := gh_abs (m := m) hF g ab
  exact h xt m' σ H E a eo
theorem b_nil : SndB X J [] .nil := fun n0 F E δ η nx rt bk ct hE hF h => by
  unfold wB at h
  obtain ⟨δ', η', g, q⟩ := h
  exact b_gh hF g (ws_nil q)
theorem b_cons {s : Stmt} {r : List Stmt} {j : JS} {jr : JB} (h1 : SndS X J s j) (h2 : SndB X J r jr) : SndB X J (s :: r) (.cons j jr) := fun n0 F E δ η nx rt bk ct hE hF h => by
  unfold wB at h
  obtain ⟨δ', η', g, q⟩ := h
  refine b_gh hF g (ws_cons ((h1 n0 F E δ' η' _ _ _ _ hE hF q).mono (fun δ η q => h2 n0 F E δ η _ _ _ _ hE hF q.p) (fun _ _ q => q) (fun _ _ q => q) (fun _ _ q => q)))
/-! ### statements -/
theorem s_set {n : Str} {pos pos' : Pos} {e : Expr} {j : JE} {i : Nat} [C : Cfg X N U S G] [hn : Mem n N] [ms : Mem n S] (hN : N[i]? = some n) (h1 : SndE X J e j) (hs : swapsWith e (some (.Name n pos')) pos.line X.env = pure false) : SndS X J (.Assign [.Name n pos'] e pos) (.asg (.nm i) j) := fun n0 F E δ η nx rt bk ct hE hF h => by
  unfold wS at h
  exact ws_set ((h1 n0 F E δ η _ hE h).mono fun x η1 q => by
    simp only [wTg] at q
    obtain ⟨δ', e, q⟩ := ob_e q
    obtain ⟨e1, e2⟩ := sset_eq e
    exact ⟨δ', ⟨i, hN, e1, e2⟩, q⟩) hs
theorem s_asg {tg e : Expr} {pos : Pos} {j : JE} {jt : JT} (h1 : SndE X J e j) (h2 : SndT X tg jt) (hs : swapsWithSole [tg] e pos.line X.env = pure false) (hw : swappedStores [tg] e X.env = pure none)
    (h3 : (assignEach [tg] X.env).map (·.2) = [assign tg X.env]) : SndS X J (.Assign [tg] e pos) (.asg jt j) := fun n0 F E δ η nx rt bk ct hE hF h => by
  unfold wS at h
  exact ws_asg ((h1 n0 F E δ η _ hE h).mono fun x η1 q => h2 F x δ η1 _ q) hs hw h3
theorem s_fld {o e : Expr} {f : Str} {pos pos' : Pos} {jo je : JE} {c : Nat} (i : Nat) [k : Lk X T J] (hf : T.flds[i]? = some (c, f)) (h1 : SndE X J e je) (h2 : SndE X J o jo) (hs : swapsWith e (some (.Attribute o f pos')) pos.line X.env = pure false) : SndS X J (.Assign [.Attribute o f pos'] e pos) (.fldS jo c f je) := fun n0 F E δ η nx rt bk ct hE hF h => by
  unfold wS at h
  obtain ⟨q1, q2⟩ := k.b.flds i c f hf
  refine ws_fld ((h1 n0 F E δ η _ hE h).mono fun x η1 q => (h2 n0 F E δ η1 _ hE q).mono fun y η2 q => ?_) hs
  unfold jFldS at q
  split at q
  · obtain ⟨u, e1, q⟩ := ob_e q
    split at q
    · obtain ⟨e2, hl, q⟩ := q
      obtain ⟨η', hw, q⟩ := ob_e q
      exact ⟨_, _, _, η', rfl, e1, by rw [e2]; exact ⟨q1⟩, by rw [e2]; exact ⟨q2⟩, hl, hw, q⟩
    · exact q.elim
  · exact q.elim
theorem o_set [k : Lk X T J] {n0 : Nat} {F : Fr0} {δ : Sl} {η : Hs} {q : Hs → Prop} {y z x : A} (h : jSet (J.at n0) η q y z x) : SetJ X F y z x δ η q := by
  unfold jSet at h
  split at h
  · obtain ⟨u, hu, h⟩ := ob_e h
    split at h
    · obtain ⟨on, h⟩ := h
      split at h
      · obtain ⟨c, ec, hl, h⟩ := ob_e h
        obtain ⟨η', hw, q⟩ := ob_e h
        have := k.rm on
        exact st_dct c hu (keyD_eq ec) hl hw q
      · exact h.elim
    · split at h
      · obtain ⟨u', eu, h⟩ := ob_e h
        obtain ⟨η', hw, q⟩ := ob_e h
        exact st_lst hu eu hw q
      · exact h.elim
  · exact h.elim
theorem s_ixS {o i e : Expr} {pos pos' : Pos} {jo ji je : JE} [k : Lk X T J] (h1 : SndE X J e je) (h2 : SndE X J o jo) (h3 : SndE X J i ji) (hs : swapsWithSole [.Subscript o i pos'] e pos.line X.env = pure false) (hw : swappedStores [.Subscript o i pos'] e X.env = pure none)
    (h4 : (assignEach [.Subscript o i pos'] X.env).map (·.2) = [assign (.Subscript o i pos') X.env])
    (ha : ∀ v, assign (.Subscript o i pos') X.env v = (do
      let ov ← holding [v] (eval o X.env)
      let iv ← holding [v, ov] (eval i X.env)
      standAt pos'
      holding [v, ov, iv] (setItem ov iv v)
      release [v, ov, iv] [])) : SndS X J (.Assign [.Subscript o i pos'] e pos) (.ixS jo ji je) := fun n0 F E δ η nx rt bk ct hE hF h => by
  unfold wS at h
  exact ws_setI ((h1 n0 F E δ η _ hE h).mono fun x η1 q => (h2 n0 F E δ η1 _ hE q).mono fun y η2 q => (h3 n0 F E δ η2 _ hE q).mono fun z η3 q => o_set q) hs hw h4 ha
theorem s_ex {e : Expr} {pos : Pos} {j : JE} (h1 : SndE X J e j) (hs : swapsWith e none pos.line X.env = pure false) : SndS X J (.Expr e pos) (.ex j) := fun n0 F E δ η nx rt bk ct hE hF h => by
  unfold wS at h
  exact ws_expr (h1 n0 F E δ η _ hE h) hs
theorem s_ret {e : Expr} {pos : Pos} {j : JE} (h1 : SndE X J e j) : SndS X J (.Return (some e) pos) (.ret j) := fun n0 F E δ η nx rt bk ct hE hF h => by
  unfold wS at h
  exact ws_ret (h1 n0 F E δ η _ hE h)
theorem s_retN {pos : Pos} : SndS X J (.Return none pos) .retN := fun n0 F E δ η nx rt bk ct hE hF h => by
  unfold wS at h
  exact ws_retN h
theorem s_if {c : Expr} {a b : List Stmt} {pos : Pos} {jc : JC} {ja jb : JB} (h1 : SndC X J c jc) (h2 : SndB X J a ja) (h3 : SndB X J b jb) : SndS X J (.If c a b pos) (.ife jc ja jb) := fun n0 F E δ η nx rt bk ct hE hF h => by
  unfold wS at h
  exact ws_if ((h1 n0 F E δ η _ hE h).mono fun k η1 q => If_m q (fun q => h2 n0 F E δ _ _ _ _ _ hE hF q.p) fun q => h3 n0 F E δ _ _ _ _ _ hE hF q.p)
theorem s_for {tg iter : Expr} {body : List Stmt} {pos : Pos} {jt : JT} {ji : JI} {jb : JB} [C : CfgC X N U S G] (h1 : SndI X J tg iter ji) (h2 : SndT X tg jt) (h3 : SndB X J body jb) (hs : ∀ x, foldedSetIterable iter X.env x = pure x) : SndS X J (.For tg iter body [] pos) (.for jt ji jb) := fun n0 F E δ η nx rt bk ct hE hF h => by
  unfold wS at h
  refine ws_for ((h1 n0 F E δ η _ hE h).mono fun items ok η1 q => ?_) hs
  obtain ⟨Pv, p0, p1, p2, p3⟩ := q.ex
  refine ⟨Pv, p0, p1, fun F' i x δ' η' hl hEX hx hp => ?_, p3⟩
  exact h2 F' x δ' η' _ (wTg_mono jt (p2 i x δ' η' hx hp) fun δ2 q => h3 η1.length F' E δ2 η' _ _ _ _ (by rw [Imp, hEX]; exact hE) (Nat.le_of_eq hl) q.p)
theorem s_forL {tg iter : Expr} {body : List Stmt} {pos : Pos} {jt : JT} {ji : JI} {jb : JB} [C : CfgC X N U S G] (h1 : SndI X J tg iter ji) (h2 : SndT X tg jt) (h3 : SndB X J body jb) (hs : ∀ x, foldedSetIterable iter X.env x = pure x) : SndS X J (.For tg iter body [] pos) (.forL jt ji jb) := fun n0 F E δ η nx rt bk ct hE hF h => by
  unfold wS at h
  obtain ⟨k, kvs, hk, h⟩ := h.ex
  refine ws_forL hk (fun o vs => ?_) hs
  obtain ⟨η1, hw, h⟩ := h o vs
  refine ⟨η1, hw, (h1 n0 F E δ η1 _ hE h).mono fun items ok η2 q => ?_⟩
  obtain ⟨Pv, p0, hl, p1, p2, p3⟩ := q
  refine ⟨Pv, p0, hl, p1, fun F' i x δ' η' hl hEX hx hp => ?_, p3⟩
  exact h2 F' x δ' η' _ (wTg_mono jt (p2 i x δ' η' hx hp) fun δ2 q => h3 η2.length F' E δ2 η' _ _ _ _ (by rw [Imp, hEX]; exact hE) (Nat.le_of_eq hl) q.p)
/-- while, in the same frame -/
theorem ws_whileF {F : Fr0} {δ : Sl} {η : Hs} {nx : SH} {rt : RT} {bk ct : SH} {c : Expr} {body : List Stmt} {pos : Pos} [C : CfgC X N U S G] (Pv : Nat → SH) (h0 : ∃ n, Pv n δ η)
    (hs : ∀ n δ' η', Pv n δ' η' → WT X F c δ' η' fun k η1 => if k = true then WSs X F body δ' η1 (fun δ2 η2 => ∃ n', n' < n ∧ Pv n' δ2 η2) rt nx (fun δ2 η2 => ∃ n', n' < n ∧ Pv n' δ2 η2) else nx δ' η1) : WS X F (.While c body [] pos) δ η nx rt bk ct := fun xt m σ H E ab eo => by
  obtain ⟨n0, p0⟩ := h0
  refine wps_of (ps_while C.po pt_wp pss_wp) ⟨fun n σ' H' => ∃ m' δ' η', Abs X.K F m' σ' H' δ' η' ∧ Pv n δ' η', ⟨n0, m, δ, η, ab, p0⟩, ?_⟩
  rintro n σ' H' ⟨m', δ', η', a2, p⟩
  refine hs n δ' η' p xt m' σ' H' _ a2 fun k m2 H2 η2 a3 _ q => ?_
  cases k with
  | true =>
    rw [if_pos rfl] at q ⊢
    refine ⟨fun σ4 H4 => ∃ n', n' < n ∧ ∃ m' δ' η', Abs X.K F m' σ4 H4 δ' η' ∧ Pv n' δ' η', fun σ4 H4 q => q, q xt m2 σ' H2 _ a3 ⟨?_, ?_, ?_, ?_⟩⟩
    · exact fun m5 σ5 H5 δ5 η5 a5 ⟨n', hn, p5⟩ => ⟨n', hn, m5, δ5, η5, a5, p5⟩
    · exact fun v m5 σ5 H5 δ5 η5 a a5 r q => eo.rt v m5 σ5 H5 δ5 η5 a a5 r q
    · exact fun m5 σ5 H5 δ5 η5 a5 q => eo.nx m5 σ5 H5 δ5 η5 a5 q
    · exact fun m5 σ5 H5 δ5 η5 a5 ⟨n', hn, p5⟩ => ⟨n', hn, m5, δ5, η5, a5, p5⟩
  | false =>
    rw [if_neg Bool.false_ne_true] at q ⊢
    exact eo.nx m2 σ' H2 δ' η2 a3 q
theorem s_while {c : Expr} {body : List Stmt} {pos : Pos} {jc : JC} {jb : JB} [C : CfgC X N U S G] (h1 : SndC X J c jc) (h3 : SndB X J body jb) : SndS X J (.While c body [] pos) (.while jc jb) := fun n0 F E δ η nx rt bk ct hE hF h => by
  unfold wS at h
  obtain ⟨Pv, p0, p2⟩ := h.ex
  refine ws_whileF Pv p0 fun n δ' η' hp => ?_
  exact (h1 n0 F E δ' η' _ hE (p2 n δ' η' hp)).mono fun k η1 q => If_m q (fun q => h3 n0 F E δ' η1 _ _ _ _ hE hF q.p) fun q => q
theorem s_brk {pos : Pos} : SndS X J (.Break pos) .brk := fun n0 F E δ η nx rt bk ct hE hF h => ws_break (by unfold wS at h; exact h)
theorem s_pass {pos : Pos} : SndS X J (.Pass pos) .pass := fun n0 F E δ η nx rt bk ct hE hF h => ws_pass (by unfold wS at h; exact h)
theorem s_cont {pos : Pos} : SndS X J (.Continue pos) .cont := fun n0 F E δ η nx rt bk ct hE hF h => by
  unfold wS at h
  obtain ⟨δ', η', g, q⟩ := h
  intro xt m σ H E' ab eo
  obtain ⟨m', a⟩ := gh_abs (m := m) hF g ab
  exact wps_of ps_continue (eo.ct m' σ H δ' η' a q)
theorem s_raise {n : Str} {p p' pos : Pos} {e : Expr} {je : JE} {c : Nat} {fld : Str} (i : Nat) [Cf : CfgC X N U S G] [k : Lk X T J] [mg : Mem n G] (hf : T.exs[i]? = some (n, c, fld)) (h1 : SndE X J e je) (he : starEach [e] X.env = (false, eval e X.env) :: starEach [] X.env) (hpl : (backTo p' (starEach [] X.env)).any (·.1) = false) : SndS X J (.Raise (some (.Call (.Name n p) [e] [] p')) none pos) (.raise c fld je) := fun n0 F E δ η nx rt bk ct hE hF h => by
  unfold wS at h
  obtain ⟨hon, hlv, h⟩ := h
  have : Rm X J.lv := k.rm hon
  have : ExcX X n (J.cm.cls c) fld := ⟨k.b.exs i n c fld hf⟩
  refine ws_raise ((h1 n0 F E δ η _ hE h).mono fun x η1 q => ?_) hlv he hpl
  split at q
  · exact ⟨_, rfl, hE _ _ q⟩
  · exact q.elim
theorem s_try {n x : Str} {np pos pos' : Pos} {body suite : List Stmt} {b₀ : Stmt} {c i : Nat} {jb js : JB} (ci : Nat) [C : CfgC X N U S G] [k : Lk X T J] [mx : Mem x G] (hc : T.cls[ci]? = some (x, c)) (hs : X.stack = X.env :: X.outer) (hf : X.env.frame = some X.env.locals) (hi : N[i]? = some n) (hln : X.env.kindOf n = some .local)
    (h1 : ∀ (Y : Cx) [Low X Y] [CfgC Y N U S G] [Lk Y T J.in], SndB Y J.in body jb) (h2 : ∀ (Y : Cx) (a C dx : Addr) [LowS X Y] [Cfg Y N U S G] [ExV Y a C dx] [Lk Y T (J.su a C dx)], SndB Y (J.su a C dx) (b₀ :: suite) js) : SndS X J (.Try body [.ExceptHandler (some (.Name x np)) (some n) (b₀ :: suite) pos'] [] [] pos) (.try jb c i js) := fun n0 F E δ η nx rt bk ct hE hF h => by
  unfold wS at h
  have : GRef X x (J.cm.cls c) := ⟨k.b.cls ci x c hc⟩
  refine ws_try hs hf hi hln fun Y F' _ _ hm hEX => ?_
  have : Lk Y T J.in := Lk.low (X := X)
  refine h1 Y n0 F' _ δ η _ _ _ _ (fun y δ' q => ?_) (by rw [hm]; exact hF) h
  rw [hEX]
  obtain ⟨b', e, q⟩ := q
  have hx : ∃ i j, J.cm.cix y.C = some i ∧ J.cm.cix (J.cm.cls c) = some j ∧ (i < 32 ∧ j < 32) ∧ b' = subC i j := by
    unfold excQ at e
    dsimp only at e
    split at e
    · rename_i i j e1 e2
      split at e
      · cases e
        exact ⟨i, j, e1, e2, by assumption, rfl⟩
      · cases e
    · cases e
  obtain ⟨i', j', e1, e2, hl, rfl⟩ := hx
  refine ⟨_, ⟨k.b.exm _ _ _ _ e1 hl.1 e2 hl.2⟩, If_m q (fun q => ?_) fun q => hE _ _ q⟩
  intro Z a dx _ _ _
  have : Lk Z T (J.su a y.C dx) := Lk.lowS (X := X)
  exact h2 Z a y.C dx n0 F.mute noE _ _ _ _ _ _ (fun _ _ z => z.elim) hF (q a dx).p
end
/-! ### defs -/
theorem start0_eq : ∀ {N : List Str} {xs : List A}, start0 N.length xs = startO N xs
  | [], [] => rfl
  | [], _ :: _ => rfl
  | _ :: N, x :: xs => by
    show (match start0 N.length xs with | some r => some (some x :: r) | none => none) = _
    rw [start0_eq]
    rfl
  | _ :: N, [] => by
    show (match start0 N.length [] with | some r => some (none :: r) | none => none) = _
    rw [start0_eq]
    rfl
section
variable {P : Program} {w : World} {K : PySem.W.Frag} {mg : Str → Option Value} {base : Heap} {T : Tb}
/-- the derivation of a def's text -/
def Der (P : Program) (w : World) (K : PySem.W.Frag) (mg : Str → Option Value) (base : Heap) (T : Tb) (N U G : List Str) (st : Stmt) (qual : Str) (f : Addr) (d : JD) : Prop :=
  ∀ (J : Jx) [JMon J] (cdv : Value) (A₀ : Around) (outer : List Env) (s : Shared) (H : Hp) (E : XK) [CfgC (cxOf (L2.CX P w) P w K mg base N qual (defScope st) f cdv A₀ outer s H E) N U U G] [Lk (cxOf (L2.CX P w) P w K mg base N qual (defScope st) f cdv A₀ outer s H E) T J],
    SndB (cxOf (L2.CX P w) P w K mg base N qual (defScope st) f cdv A₀ outer s H E) J (defBody st) d.body
theorem jdef_ok {x qual : Str} {st : Stmt} {f : Addr} {fd : FuncData} {N ps U G : List Str} {J : Jx} [JMon J] {d : JD} (F : Fun K x qual st f fd) (Sc : ScA N ps U G st) (hn : d.n = N.length) (hp : d.ps = ps.length) (hx : J.ex = none) (L : LkB P w K mg base T J.cm J.lv J.fn J.fm)
    (hd : Der P w K mg base T N U G st qual f d) : FnOk P w K mg base (L2.CX P w) (J.lv + 1) f fd ps (spOf K (jDef J d)) := by
  refine okA F Sc (fun xs η Q E h => h.1.trans hp) ?_ fun xs η Q E h => ?_
  · intro cdv A₀ outer s H E hL C xs η Q EQ hS F₀ δ hm hE hδ
    obtain ⟨_, hS⟩ := hS
    obtain ⟨δ', e, q⟩ := ob_e hS
    rw [hn, start0_eq, hδ] at e
    cases e
    have : Lk (cxOf (L2.CX P w) P w K mg base N qual (defScope st) f cdv A₀ outer s H E) T J := ⟨L, fun _ => hL.rm, fun _ => ⟨C.calm⟩, fun a C dx h => by rw [hx] at h; cases h⟩
    exact hd J cdv A₀ outer s H E η.length F₀ _ δ η _ _ _ _ (fun y δ' q => by rw [hE]; exact q) (Nat.le_of_eq hm) q
  · obtain ⟨_, h⟩ := h
    obtain ⟨δ', e, q⟩ := ob_e h
    rw [hn, start0_eq] at e
    exact ⟨δ', e⟩
theorem spOf_up {S : Spec} {vs : List V} {H : Hp} {R : VK} {E : XK} (h : spOf K (upS S) vs H R E) : spOf K S vs H R E := by
  obtain ⟨Z, m, η, xs, Q, EQ, a, r, ⟨Q0, E0, h0, h1, h2⟩, q1, q2⟩ := h
  exact ⟨Z, m, η, xs, Q0, E0, a, r, h0, fun a η' q => q1 a η' (h1 _ _ q), fun x q => q2 x (h2 _ q)⟩
theorem fnok_up {CXt : CXT} {k : Nat} {f : Addr} {fd : FuncData} {ps : List Str} {S : Spec} (h : FnOk P w K mg base CXt k f fd ps (spOf K S)) : FnOk P w K mg base CXt k f fd ps (spOf K (upS S)) :=
  ⟨fun vs H Q E q => h.len vs H Q E (spOf_up q), fun A outer s H args us vs Q E hr e0 hb r q => h.run A outer s H args us vs Q E hr e0 hb r (spOf_up q)⟩
theorem spOf_no {vs : List V} {H : Hp} {R : VK} {E : XK} (h : spOf K (fun _ _ _ _ => False) vs H R E) : False := by
  obtain ⟨Z, m, η, xs, Q, EQ, a, r, f, _⟩ := h
  exact f
theorem fnok_0 {CXt : CXT} {k : Nat} {f : Addr} {fd : FuncData} {ps : List Str} : FnOk P w K mg base CXt k f fd ps (spOf K fun _ _ _ _ => False) :=
  ⟨fun vs H Q E q => (spOf_no q).elim, fun A outer s H args us vs Q E hr e0 hb r q => (spOf_no q).elim⟩
theorem upS_up {S : Spec} {xs : List A} {η : Hs} {Q : QA} {E : XA → Prop} (h : upS (upS S) xs η Q E) : upS S xs η Q E := by
  obtain ⟨Q0, E0, h0, h1, h2⟩ := h
  exact upS_mono h0 h1 h2
theorem up_fn {cm : CM} {tab : Nat → Option JD} : ∀ (k f : Nat) xs η Q E, upS (jFn cm tab k f) xs η Q E → jFn cm tab k f xs η Q E
  | 0, f, xs, η, Q, E, h => by
    obtain ⟨_, _, h0, _⟩ := h
    exact (show False from h0).elim
  | k + 1, f, xs, η, Q, E, h => upS_up h
theorem up_fm {cm : CM} {tab : Nat → Option JD} : ∀ (k f : Nat) xs η Q E, upS (jFm cm tab k f) xs η Q E → jFm cm tab k f xs η Q E
  | 0, f, xs, η, Q, E, h => by
    obtain ⟨_, _, h0, _⟩ := h
    exact (show False from h0).elim
  | k + 1, f, xs, η, Q, E, h => up_fn k f xs η Q E h
/-- the defs of a program, at each depth -/
theorem jfn_ok {cm : CM} {tab : Nat → Option JD} {x qual : Str} {st : Stmt} {f : Addr} {fd : FuncData} {N ps U G : List Str} {k id : Nat} {d : JD} (ht : tab id = some d) (F : Fun K x qual st f fd) (Sc : ScA N ps U G st) (hn : d.n = N.length) (hp : d.ps = ps.length)
    (L : LkB P w K mg base T cm k (jFn cm tab k) (jFm cm tab k)) (hd : Der P w K mg base T N U G st qual f d) : FnOk P w K mg base (L2.CX P w) (k + 1) f fd ps (spOf K (jFn cm tab (k + 1) id)) := by
  have : JMon (jAt cm tab k) := ⟨fun f xs η Q E h => upS_i h, fun f => up_fn k f, fun f => up_fm k f⟩
  have h := jdef_ok (J := jAt cm tab k) F Sc hn hp rfl L hd
  show FnOk P w K mg base (L2.CX P w) (k + 1) f fd ps (spOf K (upS fun xs η Q E => ob (tab id) fun d => jDef (jAt cm tab k) d xs η Q E))
  rw [ht]
  exact fnok_up h
end
end Y
set_option Elab.async false
set_option linter.all false
set_option maxRecDepth 100000
set_option maxHeartbeats 2000000
set_option autoImplicit false
/-! J: steps -/
namespace Y
open PySem PySem.Spec PyProof.Rows L2
section
variable {J : Jx} {E : EX} {δ δ' : Sl} {η η' : Hs} {nx : SH} {rt : RT} {bk ct : SH} {Q : QA} {x x' y y' : A} {xs xs' : List A}
theorem bk_step {s : JS} {r : JB} (h : wS J E s δ η (fun δ1 η1 => Bk (wB J E r δ1 η1 nx rt bk ct)) rt bk ct) : Bk (wB J E (.cons s r) δ η nx rt bk ct) := by
  refine ⟨?_⟩
  unfold wB
  exact gh_i h
theorem bk_end (h : nx δ η) : Bk (wB J E .nil δ η nx rt bk ct) := by
  refine ⟨?_⟩
  unfold wB
  exact gh_i h
theorem b_step {s : JS} {r : JB} (h : wS J E s δ η (fun δ1 η1 => Bk (wB J E r δ1 η1 nx rt bk ct)) rt bk ct) : wB J E (.cons s r) δ η nx rt bk ct := by
  unfold wB
  exact gh_i h
theorem b_end (h : nx δ η) : wB J E .nil δ η nx rt bk ct := by
  unfold wB
  exact gh_i h
/-- ghost steps ahead of a block -/
theorem b_fgt {b : JB} (ls : List Nat) (h : Bk (wB J E b (fgtN ls 0 δ) η nx rt bk ct)) : Bk (wB J E b δ η nx rt bk ct) := by
  refine ⟨?_⟩
  have h := h.p
  cases b with
  | nil => unfold wB at h ⊢; exact gh_fgt ls h
  | cons s r => unfold wB at h ⊢; exact gh_fgt ls h
theorem b_gc {b : JB} {η1 : Hs} (ix : List Nat) (hp : preN J.n0 ix = true) (nd : ndN ix = true) (hk : keepH ix η ix = some η1) (h : Bk (wB J E b (renSl (posN ix) δ) η1 nx rt bk ct)) : Bk (wB J E b δ η nx rt bk ct) := by
  refine ⟨?_⟩
  have h := h.p
  cases b with
  | nil => unfold wB at h ⊢; exact gh_gc ix hp nd hk h
  | cons s r => unfold wB at h ⊢; exact gh_gc ix hp nd hk h
theorem b_frz {b : JB} (i : Nat) {o : O} {d : D} (ho : η[i]? = some (some o)) (hd : pureO o = some d) (h : Bk (wB J E b (frzSl i d δ) (frzH i d 0 η) nx rt bk ct)) : Bk (wB J E b δ η nx rt bk ct) := by
  refine ⟨?_⟩
  have h := h.p
  cases b with
  | nil => unfold wB at h ⊢; exact gh_frz i ho hd h
  | cons s r => unfold wB at h ⊢; exact gh_frz i ho hd h
end
theorem if_i {p P Q : Prop} {d : Decidable p} (h1 : p → P) (h2 : ¬ p → Q) : If (@decide p d) P Q := ⟨fun h => h1 (of_decide_eq_true h), fun h => h2 (of_decide_eq_false h)⟩
theorem if_n {p P Q : Prop} {d : Decidable p} (h1 : ¬ p → P) (h2 : p → Q) : If (!@decide p d) P Q := ⟨fun h => h1 (by simpa using h), fun h => h2 (by simpa using h)⟩
theorem if_T {p P Q : Prop} {d : Decidable p} (h : p) (h1 : P) : If (@decide p d) P Q := if_i (fun _ => h1) fun n => absurd h n
theorem if_F {p P Q : Prop} {d : Decidable p} (h : ¬ p) (h1 : Q) : If (@decide p d) P Q := if_i (fun n => absurd n h) fun _ => h1
/-- a statement, told to a word that the rest may lean on -/
theorem bk_cut {J : Jx} {E : EX} {δ : Sl} {η : Hs} {nx : SH} {rt : RT} {bk ct : SH} {s : JS} {r : JB} (M : SH) (h : ∀ nx' : SH, (∀ δ1 η1, M δ1 η1 → nx' δ1 η1) → wS J E s δ η nx' rt bk ct) (k : ∀ δ1 η1, M δ1 η1 → Bk (wB J E r δ1 η1 nx rt bk ct)) : Bk (wB J E (.cons s r) δ η nx rt bk ct) := bk_step (h _ k)
/-- a test whose outcome is v, whatever the way to it -/
theorem s_ifv {J : Jx} {E : EX} {δ : Sl} {η : Hs} {nx : SH} {rt : RT} {bk ct : SH} {c : JC} {a b : JB} (v : Bool) (hc : ∀ K : Bool → Hs → Prop, K v η → wC J E c δ η K) (h : If v (Bk (wB J E a δ η nx rt bk ct)) (Bk (wB J E b δ η nx rt bk ct))) : wS J E (.ife c a b) δ η nx rt bk ct := by
  unfold wS
  exact hc _ h
theorem leaf {K : Bool → Hs → Prop} {η : Hs} {v b : Bool} (hK : K v η) (e : v = b) : K b η := e ▸ hK
theorem szl {n : Nat} (h : Nat.ble n 1000 = true) : n ≤ sizeLine := by
  have := Nat.le_of_ble_eq_true h
  rw [sizeLine_eq]
  omega
theorem lt1000 {n : Nat} (h : Nat.ble (n + 1) 1000 = true) : n < 1000 := Nat.le_of_ble_eq_true h
theorem and_i {p q : Prop} (a : p) (b : q) : p ∧ q := ⟨a, b⟩
theorem if_nT {p P Q : Prop} {d : Decidable p} (h : ¬ p) (h1 : P) : If (!@decide p d) P Q := if_n (fun _ => h1) fun n => absurd n h
theorem if_nF {p P Q : Prop} {d : Decidable p} (h : p) (h1 : Q) : If (!@decide p d) P Q := if_n (fun n => absurd h n) fun _ => h1
theorem if_b {b : Bool} {P Q : Prop} (h1 : b = true → P) (h2 : b = false → Q) : If b P Q := ⟨h1, h2⟩
theorem if_eq {b c : Bool} {P Q : Prop} (e : b = c) (h : If c P Q) : If b P Q := by rw [e]; exact h
/-! ### loops -/
section
variable {tg : JT} {body : Sl → Hs → SH → SH → SH → Prop} {items : List A} {ok : Hs → Prop} {δ : Sl} {η : Hs} {nx : SH}
theorem for_i (Pv : Nat → SH) (h0 : Pv 0 δ η) (hok : ∀ i δ' η', i ≤ items.length → Pv i δ' η' → ok η') (hst : ∀ (i : Nat) (x : A) δ' η', items[i]? = some x → Pv i δ' η' → wTg tg x δ' fun δ2 => body δ2 η' (Pv (i + 1)) nx (Pv (i + 1))) (hend : ∀ δ' η', Pv items.length δ' η' → nx δ' η') : jFor tg body items ok δ η nx := ⟨⟨Pv, h0, hok, hst, hend⟩⟩
/-- for i in range(n) -/
theorem for_r {j : Int} (n : Nat) (hn : j = n) (Pv : Nat → SH) (h0 : Pv 0 δ η) (hst : ∀ (i : Nat) δ' η', i < n → Pv i δ' η' → wTg tg (I (i : Nat)) δ' fun δ2 => body δ2 η' (Pv (i + 1)) nx (Pv (i + 1))) (hend : ∀ δ' η', Pv n δ' η' → nx δ' η') : jFor tg body (intsA 0 j.toNat) (fun _ => True) δ η nx := by
  subst hn
  rw [Int.toNat_natCast]
  refine for_i Pv h0 (fun _ _ _ _ _ => trivial) (fun i x δ' η' hx hp => ?_) fun δ' η' hp => hend δ' η' (by rw [intsA_len] at hp; exact hp)
  obtain ⟨h1, rfl⟩ := intsA_get hx
  rw [Int.zero_add]
  exact hst i δ' η' h1 hp
/-- for i in range(a, b) -/
theorem for_r2 {a b : Int} (n : Nat) (hn : (b - a).toNat = n) (Pv : Nat → SH) (h0 : Pv 0 δ η) (hst : ∀ (i : Nat) δ' η', i < n → Pv i δ' η' → wTg tg (I (a + (i : Nat))) δ' fun δ2 => body δ2 η' (Pv (i + 1)) nx (Pv (i + 1))) (hend : ∀ δ' η', Pv n δ' η' → nx δ' η') : jFor tg body (intsA a (b - a).toNat) (fun _ => True) δ η nx := by
  subst hn
  refine for_i Pv h0 (fun _ _ _ _ _ => trivial) (fun i x δ' η' hx hp => ?_) fun δ' η' hp => hend δ' η' (by rw [intsA_len] at hp; exact hp)
  obtain ⟨h1, rfl⟩ := intsA_get hx
  exact hst i δ' η' h1 hp
/-- for x in a sequence told as a map -/
theorem for_m {α : Type} {f : α → A} {l : List α} (hi : items = l.map f) (Pv : Nat → SH) (h0 : Pv 0 δ η) (hok : ∀ i δ' η', i ≤ l.length → Pv i δ' η' → ok η') (hst : ∀ (i : Nat) (y : α) δ' η', l[i]? = some y → Pv i δ' η' → wTg tg (f y) δ' fun δ2 => body δ2 η' (Pv (i + 1)) nx (Pv (i + 1))) (hend : ∀ δ' η', Pv l.length δ' η' → nx δ' η') : jFor tg body items ok δ η nx := by
  subst hi
  refine for_i Pv h0 (fun i δ' η' h p => hok i δ' η' (by rw [List.length_map] at h; exact h) p) (fun i x δ' η' hx hp => ?_) fun δ' η' hp => hend δ' η' (by rw [List.length_map] at hp; exact hp)
  rw [List.getElem?_map] at hx
  cases e : l[i]? with
  | none => rw [e] at hx; cases hx
  | some y =>
    rw [e] at hx
    cases hx
    exact hst i y δ' η' e hp
/-- for i, x in enumerate(a sequence told as a map) -/
theorem for_en {α : Type} {f : α → A} {l : List α} (hi : items = l.map f) (Pv : Nat → SH) (h0 : Pv 0 δ η) (hok : ∀ i δ' η', i ≤ l.length → Pv i δ' η' → ok η') (hst : ∀ (i : Nat) (y : α) δ' η', l[i]? = some y → Pv i δ' η' → wTg tg (mkT [I (i : Nat), f y]) δ' fun δ2 => body δ2 η' (Pv (i + 1)) nx (Pv (i + 1))) (hend : ∀ δ' η', Pv l.length δ' η' → nx δ' η') : jFor tg body (enumA items) ok δ η nx := by
  subst hi
  refine for_i Pv h0 (fun i δ' η' h p => hok i δ' η' (by rw [enumA_len, List.length_map] at h; exact h) p) (fun i x δ' η' hx hp => ?_) fun δ' η' hp => hend δ' η' (by rw [enumA_len, List.length_map] at hp; exact hp)
  obtain ⟨z, hz, rfl⟩ := enumA_get hx
  rw [List.getElem?_map] at hz
  cases e : l[i]? with
  | none => rw [e] at hz; cases hz
  | some y =>
    rw [e] at hz
    cases hz
    exact hst i y δ' η' e hp
/-- a loop over few items, turn by turn -/
def forU (tg : JT) (body : Sl → Hs → SH → SH → SH → Prop) (ok : Hs → Prop) (nx : SH) : List A → SH
  | [], δ, η => ok η ∧ nx δ η
  | x :: r, δ, η => ok η ∧ wTg tg x δ fun δ2 => body δ2 η (forU tg body ok nx r) nx (forU tg body ok nx r)
theorem for_u (h : forU tg body ok nx items δ η) : jFor tg body items ok δ η nx := by
  refine for_i (fun i => forU tg body ok nx (items.drop i)) h (fun i δ' η' hi hp => ?_) (fun i x δ' η' hx hp => ?_) fun δ' η' hp => ?_
  · cases e : items.drop i with
    | nil => rw [e] at hp; exact hp.1
    | cons y r => rw [e] at hp; exact hp.1
  · have hl := (List.getElem?_eq_some_iff.mp hx)
    obtain ⟨hl, hx⟩ := hl
    rw [List.drop_eq_getElem_cons hl, hx] at hp
    exact hp.2
  · rw [List.drop_length] at hp
    exact hp.2
end
theorem intsA0 {n : Nat} {j : Int} (hj : j = n) : intsA 0 j.toNat = (List.range n).map fun i => I (i : Nat) := by
  subst hj
  unfold intsA
  rw [Int.toNat_natCast]
  simp
theorem range_get {n i y : Nat} (h : (List.range n)[i]? = some y) : y = i ∧ i < n := by
  obtain ⟨h1, h2⟩ := List.getElem?_eq_some_iff.mp h
  simp at h1 h2
  exact ⟨h2.symm, h1⟩
theorem range_map {α : Type} {l : List α} {n : Nat} {f : α → D} {d : α} (h : l.length = n) : (List.range n).map (fun i => f (l.getD i d)) = l.map f := by
  subst h
  apply List.ext_getElem
  · simp
  · intro i h1 h2
    simp at h1
    simp [List.getD_eq_getElem?_getD, List.getElem?_eq_getElem h1]
theorem mm {α : Type} {f : α → D} {l : List α} : (l.map f).map A.d = l.map fun r => A.d (f r) := by rw [List.map_map]; rfl
theorem ixs_nat {α : Type} {xs : List α} {i : Nat} {x : α} (h : xs[i]? = some x) : ixA xs ((i : Nat) : Int) = some x := ixA_nat h
theorem ixs_map {α : Type} {f : α → D} {l : List α} {y : α} {i : Int} (n : Nat) (hi : i = n) (h : l[n]? = some y) : ixA (l.map f) i = some (f y) := by subst hi; exact ixA_map h
/-- xs[i] of a list told as a map -/
theorem ix_m {α : Type} {f : α → D} {l : List α} {i : Int} {P : D → Prop} {y : α} (n : Nat) (hi : i = n) (h : l[n]? = some y) (p : P (f y)) : ob (ixA (l.map f) i) P := ob_i _ (ixs_map n hi h) p
/-! ### comprehensions -/
section
variable {tg : JT} {tst : Sl → Hs → (Bool → Hs → Prop) → Prop} {elt : Sl → Hs → QA → Prop} {vs : List Nat} {items : List A} {ok : Hs → Prop} {δ : Sl} {η : Hs} {Q : QA}
theorem pre_self {n : Nat} : preN n (List.range n) = true := by
  unfold preN
  rw [List.take_of_length_le (by simp)]
  simp
theorem take_succ_get {α : Type} {l : List α} {i : Nat} {y : α} (h : l[i]? = some y) : l.take (i + 1) = l.take i ++ [y] := by rw [List.take_succ, h]; rfl
/-- [g(y) for y in l if p(y)]: the heap stays -/
theorem lc_f {α : Type} {f : α → A} {l : List α} (p : α → Bool) (g : α → D) (hi : items = l.map f) (hk : keepH (List.range η.length) η (List.range η.length) = some η) (hok : ok η) (hl : l.length ≤ sizeLine)
    (hst : ∀ (i : Nat) (y : α), l[i]? = some y → ∀ (R : QA) (N : Hs → Prop), (p y = true → R (.d (g y)) η) → (p y = false → N η) → wTg tg (f y) (wipeSl δ vs) fun δ2 => tst δ2 η fun b η2 => If b (elt δ2 η2 R) (N η2)) (q : Q (.h η.length) (η ++ [some (.lst ((l.filter p).map g))])) : jLc tg tst elt vs items ok δ η Q := by
  subst hi
  refine ⟨⟨fun i acc η' => η' = η ∧ acc = ((l.take i).filter p).map g, ⟨rfl, rfl⟩, fun i acc η' _ h => by rw [h.1]; exact ⟨hok, rfl⟩, fun i x acc η' hx h => ?_, fun acc η' h => ?_⟩⟩
  · obtain ⟨rfl, rfl⟩ := h
    rw [List.getElem?_map] at hx
    cases e : l[i]? with
    | none => rw [e] at hx; cases hx
    | some y =>
      rw [e] at hx
      cases hx
      have hlt := (List.getElem?_eq_some_iff.mp e).1
      refine ⟨?_, hst i y e _ _ (fun hp => ⟨List.range η'.length, _, η', ndN_of List.nodup_range, pre_self, hk, rfl, rfl, ?_⟩) fun hp => ⟨rfl, ?_⟩⟩
      · rw [List.length_map]
        have h1 := List.length_filter_le p (l.take i)
        have h2 := List.length_take_le i l
        omega
      · rw [take_succ_get e, List.filter_append, List.map_append]
        simp [List.filter, hp]
      · rw [take_succ_get e, List.filter_append, List.map_append]
        simp [List.filter, hp]
  · obtain ⟨rfl, rfl⟩ := h
    rw [List.length_map, List.take_length]
    exact q
/-- [g(y) for y in l]: the heap stays -/
theorem lc_m {α : Type} {f : α → A} {l : List α} (g : α → D) (hi : items = l.map f) (hk : keepH (List.range η.length) η (List.range η.length) = some η) (hok : ok η) (hl : l.length ≤ sizeLine)
    (hst : ∀ (i : Nat) (y : α), l[i]? = some y → ∀ (R : QA) (N : Hs → Prop), R (.d (g y)) η → wTg tg (f y) (wipeSl δ vs) fun δ2 => tst δ2 η fun b η2 => If b (elt δ2 η2 R) (N η2)) (q : Q (.h η.length) (η ++ [some (.lst (l.map g))])) : jLc tg tst elt vs items ok δ η Q := by
  refine lc_f (fun _ => true) g hi hk hok hl (fun i y e R N hR _ => hst i y e R N (hR rfl)) ?_
  rw [List.filter_eq_self.mpr fun _ _ => rfl]
  exact q
theorem dc_m {α : Type} {kx vx : Sl → Hs → QA → Prop} {f : α → A} {l : List α} (g : α → Key × D) (hi : items = l.map f) (hk : keepH (List.range η.length) η (List.range η.length) = some η) (hok : ok η) (hl : l.length ≤ sizeLine)
    (hst : ∀ (i : Nat) (y : α), l[i]? = some y → ∀ (R : QA) (N : Hs → Prop), R (.d (g y).2) η → wTg tg (f y) (wipeSl δ vs) fun δ2 => tst δ2 η fun b η2 => If b (kx δ2 η2 fun z η3 => vx δ2 η3 fun u η4 => z = .d (kD (g y).1) ∧ R u η4) (N η2)) : True := trivial
end
theorem jdef_i {J : Jx} {d : JD} {xs : List A} {η : Hs} {Q : QA} {E : XA → Prop} (δ : Sl) (h1 : xs.length = d.ps) (h2 : start0 d.n xs = some δ) (h : Bk (wB (J.at η.length) (GcX η.length E) d.body δ η (fun _ η' => GcR η.length Q (.d .non) η') (GcR η.length Q) noSH noSH)) : jDef J d xs η Q E := ⟨h1, ob_i δ h2 h.p⟩
theorem gcr_i {k : Nat} {Q : QA} {a a' : A} {η η' : Hs} (ix : List Nat) (h1 : ndN ix = true) (h2 : preN k ix = true) (h3 : keepH ix η ix = some η') (h4 : renA (posN ix) a = some a') (q : Q a' η') : GcR k Q a η := ⟨ix, a', η', h1, h2, h3, h4, q⟩
theorem ixA_lit {α : Type} {xs : List α} {n : Nat} : ixA xs (no_index (OfNat.ofNat n : Int)) = xs[n]? := by
  show ixA xs ((n : Nat) : Int) = _
  unfold ixA
  rw [if_pos (by omega)]
  rfl
theorem ixN_lit {l n : Nat} : ixN l (no_index (OfNat.ofNat n : Int)) = if n < l then some n else none := by
  show ixN l ((n : Nat) : Int) = _
  unfold ixN
  rw [if_pos (by omega)]
  by_cases h : n < l
  · rw [if_pos h, if_pos (by omega)]
    rfl
  · rw [if_neg h, if_neg (by omega)]
theorem getq0 {α : Type} {x : α} {r : List α} : (x :: r)[0]? = some x := rfl
theorem getqS {α : Type} {x : α} {r : List α} {n : Nat} : (x :: r)[n + 1]? = r[n]? := by simp
end Y
set_option Elab.async false
set_option linter.all false
set_option maxRecDepth 100000
set_option maxHeartbeats 4000000
set_option autoImplicit false
/-! what a program's top leaves, looked at by one Bool -/
namespace Y
open PySem PySem.Spec PyProof.Rows L2 He
/-- the data of a law: its classes, its names, those with an own == -/
structure LawD where
  cl : List (Nat × Str)
  eqs : List (Nat × Nat)
  T : Tb
  file : Str
section
variable (K : PySem.W.Frag) (W : LawD)
def clsK (c : Nat) : Addr := match W.cl.find? fun p => p.1 == c with
  | some p => ga K p.2
  | none => 0
def cixK (A : Addr) : Option Nat := (W.cl.find? fun p => ga K p.2 == A).map (·.1)
def eqfK (A : Addr) : Option Nat := (W.eqs.find? fun p => clsK K W p.1 == A).map (·.2)
def cmK : CM := ⟨clsK K W, cixK K W, eqfK K W⟩
/-! ### the checks -/
def clsB (C : Addr) : Bool := PySem.W.plainGet K C Str.empty && (PySem.W.hasDictIn K C && (PySem.W.plainOver K C && eqO (PySem.W.findIn K (.ref C) "__setattr__") (some (some (.builtin "object.__setattr__")))))
theorem clsB_ok {K : PySem.W.Frag} {C : Addr} (c : clsB K C = true) : Cls K C := by
  obtain ⟨c1, c⟩ := ba c
  obtain ⟨c2, c⟩ := ba c
  obtain ⟨c3, c4⟩ := ba c
  exact ⟨c1, c2, c3, eqO_ok c4⟩
def methB (C : Addr) (m : Str) : Bool := eqO (PySem.W.findIn K (.ref C) m) (some (some (.ref (ma K C m)))) && (PySem.W.isFn K (.ref (ma K C m)) && PySem.W.keepIn K (.ref (ma K C m)))
theorem methB_ok {K : PySem.W.Frag} {C : Addr} {m : Str} (c : methB K C m = true) : Meth K C m (ma K C m) := by
  obtain ⟨c1, c⟩ := ba c
  obtain ⟨c2, c3⟩ := ba c
  exact ⟨eqO_ok c1, c2, c3⟩
def mkrB (C : Addr) : Bool := PySem.W.makesIn K C && (eqO (PySem.W.findIn K (.ref C) "__init__") (some (some (.ref (ma K C "__init__")))) && (PySem.W.isFn K (.ref (ma K C "__init__")) && PySem.W.keepIn K (.ref C)))
theorem mkrB_ok {K : PySem.W.Frag} {C : Addr} (c : mkrB K C = true) : Mk K C (ma K C "__init__") := by
  obtain ⟨c1, c⟩ := ba c
  obtain ⟨c2, c⟩ := ba c
  obtain ⟨c3, c4⟩ := ba c
  exact ⟨c1, eqO_ok c2, c3, c4⟩
def oexB (C : Addr) : Bool := (match K.lookup C with
  | some ⟨.type "type", _, .cls cd, sl⟩ => (match cd.mro, sl.toList with
    | .ref C' :: bm, [_, _, _, _, some (.builtin n), _] => C' == C && (n == "ValueError.__new__" && (!cd.hasDel && (cd.hasDict && PySem.HandSPX.refsVE bm)))
    | _, _ => false)
  | _ => false) && (eqO (PySem.W.findIn K (.ref C) "__setattr__") (some (some (.builtin "object.__setattr__"))) && (decide (PySem.W.subIn K (.ref C) (.type "BaseException") = some true) && (decide (PySem.W.typeIn K (.ref C) = some (.type "type")) && PySem.W.keepIn K (.ref C))))
theorem oexB_ok {K : PySem.W.Frag} {C : Addr} (c : oexB K C = true) : OexC K C := by
  obtain ⟨c1, c⟩ := ba c
  obtain ⟨c2, c⟩ := ba c
  obtain ⟨c3, c⟩ := ba c
  obtain ⟨c4, c5⟩ := ba c
  refine ⟨?_, eqO_ok c2, of_decide_eq_true c3, of_decide_eq_true c4, c5⟩
  split at c1
  · rename_i dd cd sl ho
    split at c1
    · rename_i C' bm k0 k1 k2 k3 n k5 hm hs
      simp only [Bool.and_eq_true, beq_iff_eq, Bool.not_eq_true'] at c1
      obtain ⟨rfl, rfl, hdel, hdct, ht⟩ := c1
      obtain ⟨nm, bs, mro, ns, qn, hd, sn, sub, ab, col, del⟩ := cd
      dsimp only at hm hdel hdct
      subst hm hdel hdct
      have hsl : sl = #[k0, k1, k2, k3, some (.builtin "ValueError.__new__"), k5] := by
        obtain ⟨l⟩ := sl
        simp only at hs
        rw [hs]
      subst hsl
      exact ⟨nm, qn, ns, bs, bm, sn, sub, ab, col, dd, k0, k1, k2, k3, k5, ho, ht⟩
    · cases c1
  · cases c1
def excB (C : Addr) : Bool := eqO (PySem.W.findIn K (.ref C) "__getattribute__") (some (some (.builtin "BaseException.__getattribute__"))) && (eqO (PySem.W.findIn K (.ref C) "__getattr__") (some none) && (decide (PySem.W.subIn K (.ref C) (.type "BaseException") = some true) && (PySem.W.hasDictIn K C &&
  (eqO (PySem.W.findIn K (.ref C) "__class__") (some (some (.builtin "object.__class__"))) && (eqO (PySem.W.specialIn K (.builtin "object.__class__") "__get__") (some (some (.builtin "getset_descriptor.__get__"))) && (decide (PySem.W.takesIn K (.builtin "object.__class__") = some true) && decide (PySem.W.mroIn K C (.type "object") = some true)))))))
theorem excB_ok {K : PySem.W.Frag} {C : Addr} (c : excB K C = true) : XfC K C ∧ ExcC K C := by
  obtain ⟨c1, c⟩ := ba c
  obtain ⟨c2, c⟩ := ba c
  obtain ⟨c3, c⟩ := ba c
  obtain ⟨c4, c⟩ := ba c
  obtain ⟨c5, c⟩ := ba c
  obtain ⟨c6, c⟩ := ba c
  obtain ⟨c7, c8⟩ := ba c
  exact ⟨⟨eqO_ok c1, eqO_ok c2, of_decide_eq_true c3, c4⟩, eqO_ok c1, eqO_ok c2, of_decide_eq_true c3, c4, eqO_ok c5, eqO_ok c6, of_decide_eq_true c7, of_decide_eq_true c8⟩
def insB (C : Addr) : Bool := clsB K C && (eqO (PySem.W.findIn K (.ref C) "__class__") (some (some (.builtin "object.__class__"))) && (eqO (PySem.W.specialIn K (.builtin "object.__class__") "__get__") (some (some (.builtin "getset_descriptor.__get__"))) && (decide (PySem.W.takesIn K (.builtin "object.__class__") = some true) && decide (PySem.W.mroIn K C (.type "object") = some true))))
theorem insB_ok {K : PySem.W.Frag} {C : Addr} (c : insB K C = true) (X : Cx) (h : X.K = K) : InsK X C := by
  subst h
  obtain ⟨c1, c⟩ := ba c
  obtain ⟨c2, c⟩ := ba c
  obtain ⟨c3, c⟩ := ba c
  obtain ⟨c4, c5⟩ := ba c
  exact ⟨clsB_ok c1, eqO_ok c2, eqO_ok c3, of_decide_eq_true c4, of_decide_eq_true c5⟩
/-- a constant as a value of the layer -/
def dV : D → V
  | .int i => .int i
  | .str x => .str x
  | .bl b => .bl b
  | _ => .non
def dFlat : D → Bool
  | .int _ => true
  | .str _ => true
  | .bl _ => true
  | .non => true
  | _ => false
theorem dV_rep {K : PySem.W.Frag} {d : D} (h : dFlat d = true) (L : Addr → Prop) (H : Hp) : RepD K L H (dV d) d := by
  cases d <;> first | (unfold RepD; rfl) | cases h
def conB' (C : Addr) (f : Str) (d : D) : Bool := dFlat d && (!PySem.W.copiedNames.contains f && (match PySem.W.findIn K (.ref C) f with
  | some (some u) => relB (dV d) u && eqO (PySem.W.specialIn K u "__get__") (some none)
  | _ => false))
theorem conB'_ok {K : PySem.W.Frag} {C : Addr} {f : Str} {d : D} (h : conB' K C f d = true) (X : Cx) (hX : X.K = K) : ConI X C f d := by
  subst hX
  obtain ⟨h1, h⟩ := ba h
  obtain ⟨h2, h⟩ := ba h
  cases e : PySem.W.findIn X.K (.ref C) f with
  | none => rw [e] at h; cases h
  | some r =>
    rw [e] at h
    cases r with
    | none => cases h
    | some u =>
      obtain ⟨h3, h4⟩ := ba (show (relB (dV d) u && eqO (PySem.W.specialIn X.K u "__get__") (some none)) = true from h)
      exact ⟨_, u, ⟨e, relB_ok h3, eqO_ok h4, by simpa using h2⟩, dV_rep h1⟩
def glbB (n : Str) (d : D) : Bool := dFlat d && (match PySem.W.nsIn K mainGlobals n with
  | some (some u) => relB (dV d) u
  | _ => false)
theorem glbB_ok {K : PySem.W.Frag} {h : Heap} {mg : Str → Option Value} (X : K.In h) (G : h.Ns mainGlobals mg) {n : Str} {d : D} (c : glbB K n d = true) : GlbD K mg n d := by
  obtain ⟨h1, c⟩ := ba c
  cases e : PySem.W.nsIn K mainGlobals n with
  | none => rw [e] at c; cases c
  | some r =>
    rw [e] at c
    cases r with
    | none => cases c
    | some u => exact ⟨_, u, PySem.W.mg_of X G e, relB_ok c, dV_rep h1⟩
def noneV : Value → Bool
  | .none => true
  | _ => false
theorem noneV_ok {v : Value} (h : noneV v = true) : v = .none := by cases v <;> first | rfl | cases h
/-- the __init__ of an error class: what is no text -/
def supB (file : Str) (C : Addr) : Bool := (match K.lookup (ma K C "__init__") with
  | some ⟨_, _, .func fd, _⟩ => (match fd.closure, fd.code with
    | [(x, cc)], .ref cda => noneV fd.defaults && (decide (x = "__class__") && (PySem.W.codeIn K (.ref cda) fd.qualname && ((match K.lookup cda with
      | some ⟨_, _, .fields vs, _⟩ => (match (vs[2]? : Option Value) with
        | some (.str fl _) => file == fl
        | _ => false)
      | _ => false) && (match K.lookup cc with
      | some ⟨_, _, .cell (some (.ref C')), _⟩ => C' == C
      | _ => false))))
    | _, _ => false)
  | _ => false) && (PySem.W.isClsIn K C && (decide (PySem.W.mroIn K C (.ref C) = some true) && (eqO (PySem.W.nsIn K cStatics "thirdparty.any") (some none) && (eqO (PySem.W.ks_superIn K C C "__init__") (some (some (.builtin "ValueError.__init__"))) && (decide (PySem.W.subIn K (.ref C) (.type "ValueError") = some true) && (oexB K C &&
    (eqO (PySem.W.nsIn K mainGlobals "super") (some none) && (eqO (PySem.W.findIn K (.ref C) "__init__") (some (some (.ref (ma K C "__init__")))) && decide (PySem.W.typeIn K (.ref (ma K C "__init__")) = some (.type "function"))))))))))
/-- the texts of such an __init__ -/
abbrev SupW : Type := Option (PySem.Str × Arguments × FuncBody × Scope × Addr × Addr)
def supW (C : Addr) : SupW := match K.lookup (ma K C "__init__") with
  | some ⟨_, _, .func fd, _⟩ => some (fd.name, fd.params, fd.body, fd.scope, fd.globals, fd.builtins)
  | _ => none
end
theorem supB_ok {P : Program} {K : PySem.W.Frag} {h : Heap} {mg : Str → Option Value} (X : K.In h) (G : h.Ns mainGlobals mg) {C : Addr} {params : Arguments} {body : List Stmt} {scope : Scope}
    (c : supB K P.main.file C = true) (e : supW K C = some (("__init__" : PySem.Str), params, FuncBody.stmts body, scope, mainGlobals, builtinsNs)) (hd : (params.posonlyargs ++ params.args).head?.map (·.arg) = some ("self" : Str)) (top : (P.main.scope.names.lookup ("super" : Str)).isSome = false) (sks : scope.names.lookup ("super" : Str) = some .globalImplicit)
    (skc : scope.names.lookup ("__class__" : Str) = some .free) (ska : scope.names.lookup ("self" : Str) = some .local) (kind : scope.kind = .function) :
    ∃ fd qual, SupF P K mg C (ma K C "__init__") fd qual params body scope ∧ PySem.W.findIn K (.ref C) "__init__" = some (some (.ref (ma K C "__init__"))) ∧ PySem.W.typeIn K (.ref (ma K C "__init__")) = some (.type "function") ∧ fd.defaults = .none := by
  obtain ⟨c1, c⟩ := ba c
  obtain ⟨c2, c⟩ := ba c
  obtain ⟨c3, c⟩ := ba c
  obtain ⟨c4, c⟩ := ba c
  obtain ⟨c5, c⟩ := ba c
  obtain ⟨c6, c⟩ := ba c
  obtain ⟨c7, c⟩ := ba c
  obtain ⟨c8, c⟩ := ba c
  obtain ⟨c9, c10⟩ := ba c
  unfold supW at e
  cases q : K.lookup (ma K C "__init__") with
  | none => rw [q] at e; cases e
  | some o =>
    obtain ⟨oc, od, dt, osl⟩ := o
    rw [q] at e c1
    cases dt with
    | func fd =>
      obtain ⟨n1, n2, n3, n4, n5, n6, n7, n8, n9, n10, n11, n12, n13, n14, n15⟩ := fd
      simp only [Option.some.injEq, Prod.mk.injEq] at e
      obtain ⟨h1, h2, h3, h4, h5, h6⟩ := e
      subst h1 h2 h3 h4 h5 h6
      dsimp only at c1
      split at c1
      · rename_i x cc cda
        obtain ⟨d0, c1⟩ := ba c1
        obtain ⟨d1, c1⟩ := ba c1
        obtain ⟨d2, c1⟩ := ba c1
        obtain ⟨d3, d4⟩ := ba c1
        obtain rfl := of_decide_eq_true d1
        obtain ⟨ccl, cdd, vs, ccs, file, tf, e1, e2, e3⟩ : ∃ ccl cdd vs ccs file tf, K.lookup cda = some ⟨ccl, cdd, .fields vs, ccs⟩ ∧ vs[2]? = some (.str file tf) ∧ (P.main.file == file) = true := by
          split at d3
          · rename_i ccl cdd vs ccs hq
            split at d3
            · rename_i fl tf hv
              exact ⟨_, _, _, _, fl, tf, hq, hv, d3⟩
            · cases d3
          · cases d3
        obtain ⟨cl, cld, csl, e4⟩ : ∃ cl cld csl, K.lookup cc = some ⟨cl, cld, .cell (some (.ref C)), csl⟩ := by
          split at d4
          · rename_i cl cld C' csl hq
            obtain rfl := beq_iff_eq.mp d4
            exact ⟨_, _, _, hq⟩
          · cases d4
        obtain ⟨cdD, e5⟩ := Option.isSome_iff_exists.mp (show (PySem.W.clsIn K C).isSome = true from c2)
        exact ⟨_, n2, ⟨⟨oc, od, n8, n9, n10, n11, n12, cda, n14, cc, osl, vs, ccl, cdd, ccs, file, tf, cl, cld, csl, cdD, rfl, q, d2, e1, e2, e3, e4, e5⟩, hd, of_decide_eq_true c3, eqO_ok c4, eqO_ok c5, of_decide_eq_true c6, oexB_ok c7,
          PySem.W.mg_none_of X G (eqO_ok c8), top, sks, skc, ska, kind⟩, eqO_ok c9, of_decide_eq_true c10, noneV_ok d0⟩
      · cases c1
    | _ => cases e
/-! ### all of it -/
section
variable (K : PySem.W.Frag) (W : LawD)
def gloB (n : Str) (a : Addr) : Bool := eqO (PySem.W.nsIn K mainGlobals n) (some (some (.ref a)))
def okB1 : Bool := (W.cl.all fun p => gloB K p.2 (ga K p.2) && decide (cixK K W (ga K p.2) = some p.1)) && ((W.T.fns.all fun q => gloB K q.1 (ga K q.1)) && ((W.T.mts.all fun q => clsB K (clsK K W q.1) && methB K (clsK K W q.1) q.2.1) &&
  ((W.T.mks.all fun q => mkrB K (clsK K W q.2.1) && gloB K q.1 (clsK K W q.2.1)) && ((W.T.cls.all fun q => gloB K q.1 (clsK K W q.2)) && ((W.T.exs.all fun q => gloB K q.1 (clsK K W q.2.1) && supB K W.file (clsK K W q.2.1)) &&
  ((W.T.flds.all fun q => clsB K (clsK K W q.1) && eqO (PySem.W.findIn K (.ref (clsK K W q.1)) q.2) (some none)) && ((W.T.cons.all fun q => clsB K (clsK K W q.1) && conB' K (clsK K W q.1) q.2.1 q.2.2) && (W.T.glb.all fun q => glbB K q.1 q.2))))))))
def okB2 : Bool := (W.T.exf.all fun f => W.cl.all fun p => decide (32 ≤ p.1) || eqO (PySem.W.findIn K (.ref (ga K p.2)) f) (some none)) && ((W.T.blt.all fun x => eqO (PySem.W.nsIn K mainGlobals x) (some none)) && ((W.cl.all fun p => decide (p.1 < 32) || insB K (ga K p.2)) &&
  ((W.cl.all fun p => W.cl.all fun q => decide (PySem.W.kitOne K (.ref (ga K p.2)) (.ref (ga K q.2)) = some (subC p.1 q.1))) && ((tys.all fun t => W.cl.all fun q => decide (PySem.W.kitOne K (.type t) (.ref (ga K q.2)) = some false)) &&
  ((W.cl.all fun p => decide (32 ≤ p.1) || (decide (PySem.W.kitOne K (.ref (ga K p.2)) (.type "ValueError") = some true) && excB K (ga K p.2))) && ((W.eqs.all fun p => methB K (clsK K W p.1) "__eq__") &&
  ((W.cl.all fun p => decide (p.1 < 32) || tys.all fun t => PySem.W.notFirst K (ga K p.2) (.type t)) && (W.cl.all fun p => W.cl.all fun q => decide (32 ≤ p.1) || (decide (32 ≤ q.1) || decide (PySem.W.exmOne K (.ref (ga K p.2)) (.ref (ga K q.2)) = some (subC p.1 q.1)))))))))))
end
section
variable {P : Program} {w : World} {K : PySem.W.Frag} {mg : Str → Option Value} {base : Heap} {tab : Nat → Option JD} {W : LawD}
/-- a def keeps what its J text says -/
def DefOk (P : Program) (w : World) (K : PySem.W.Frag) (mg : Str → Option Value) (base : Heap) (T : Tb) (cm : CM) (tab : Nat → Option JD) (id : Nat) (a : Addr) : Prop := ∃ fd ps, Binds K fd ps [] ∧ ∀ k, LkB P w K mg base T cm k (jFn cm tab k) (jFm cm tab k) → FnOk P w K mg base (L2.CX P w) (k + 1) a fd ps (spOf K (jFn cm tab (k + 1) id))
def MkOk (P : Program) (w : World) (K : PySem.W.Frag) (mg : Str → Option Value) (base : Heap) (T : Tb) (cm : CM) (tab : Nat → Option JD) (id : Nat) (a : Addr) (n : Nat) (ks : List Str) (g : List (Nat ⊕ D)) : Prop := ∃ fd ps, KA K fd ps (n + 1) ks (gaK g) ∧ ∀ k, LkB P w K mg base T cm k (jFn cm tab k) (jFm cm tab k) → FnOk P w K mg base (L2.CX P w) (k + 1) a fd ps (spOf K (jFn cm tab (k + 1) id))
theorem cix_e {A : Addr} {i : Nat} (h : cixK K W A = some i) : ∃ p ∈ W.cl, p.1 = i ∧ ga K p.2 = A := by
  unfold cixK at h
  obtain ⟨p, e, rfl⟩ := Option.map_eq_some_iff.mp h
  have h1 := List.find?_some e
  exact ⟨p, List.mem_of_find?_eq_some e, rfl, by simpa using h1⟩
theorem eqf_e {A : Addr} {f : Nat} (h : eqfK K W A = some f) : ∃ p ∈ W.eqs, p.2 = f ∧ clsK K W p.1 = A := by
  unfold eqfK at h
  obtain ⟨p, e, rfl⟩ := Option.map_eq_some_iff.mp h
  have h1 := List.find?_some e
  exact ⟨p, List.mem_of_find?_eq_some e, rfl, by simpa using h1⟩
theorem allG {α : Type} {l : List α} {f : α → Bool} (h : l.all f = true) {i : Nat} {x : α} (e : l[i]? = some x) : f x = true := List.all_eq_true.mp h x (List.mem_of_getElem? e)
theorem orL {p : Prop} {d : Decidable p} {b : Bool} (h : (@decide p d || b) = true) (n : ¬ p) : b = true := by
  rw [decide_eq_false n, Bool.false_or] at h
  exact h
theorem lvl_fn {T : Tb} {cm : CM} {id : Nat} {a : Addr} (h : DefOk P w K mg base T cm tab id a) : ∀ k, (∀ j, j < k → LkB P w K mg base T cm j (jFn cm tab j) (jFm cm tab j)) → ∃ fd ps, Binds K fd ps [] ∧ FnOk P w K mg base (L2.CX P w) k a fd ps (spOf K (jFn cm tab k id))
  | 0, _ => by
    obtain ⟨fd, ps, hb, _⟩ := h
    exact ⟨fd, ps, hb, fnok_0⟩
  | k + 1, ih => by
    obtain ⟨fd, ps, hb, hf⟩ := h
    exact ⟨fd, ps, hb, hf k (ih k (Nat.lt_succ_self k))⟩
theorem lkb_of {h : Heap} (X : K.In h) (G : h.Ns mainGlobals mg) (ok1 : okB1 K W = true) (ok2 : okB2 K W = true)
    (hfn : ∀ (i : Nat) n f, W.T.fns[i]? = some (n, f) → PySem.W.keepIn K (.ref (ga K n)) = true ∧ DefOk P w K mg base W.T (cmK K W) tab f (ga K n))
    (hmt : ∀ (i : Nat) c m n f, W.T.mts[i]? = some (c, m, n, f) → DefOk P w K mg base W.T (cmK K W) tab f (ma K (clsK K W c) m))
    (hmk : ∀ (i : Nat) x c n ks f g, W.T.mks[i]? = some (x, c, n, ks, f, g) → MkOk P w K mg base W.T (cmK K W) tab f (ma K (clsK K W c) "__init__") n ks g)
    (hex : ∀ (i : Nat) n c fl, W.T.exs[i]? = some (n, c, fl) → ∃ fd ps, FnOk P w K mg base (L2.CX P w) 1 (ma K (clsK K W c) "__init__") fd ps (spSup (clsK K W c) fl) ∧ Binds K fd ps [])
    (heq : ∀ p ∈ W.eqs, DefOk P w K mg base W.T (cmK K W) tab p.2 (ma K (clsK K W p.1) "__eq__")) : ∀ k, LkB P w K mg base W.T (cmK K W) k (jFn (cmK K W) tab k) (jFm (cmK K W) tab k) := by
  obtain ⟨a1, ok1⟩ := ba ok1
  obtain ⟨a2, ok1⟩ := ba ok1
  obtain ⟨a3, ok1⟩ := ba ok1
  obtain ⟨a4, ok1⟩ := ba ok1
  obtain ⟨a5, ok1⟩ := ba ok1
  obtain ⟨a6, ok1⟩ := ba ok1
  obtain ⟨a7, ok1⟩ := ba ok1
  obtain ⟨a8, a9⟩ := ba ok1
  obtain ⟨b1, ok2⟩ := ba ok2
  obtain ⟨b2, ok2⟩ := ba ok2
  obtain ⟨b3, ok2⟩ := ba ok2
  obtain ⟨b4, ok2⟩ := ba ok2
  obtain ⟨b5, ok2⟩ := ba ok2
  obtain ⟨b6, ok2⟩ := ba ok2
  obtain ⟨b7, ok2⟩ := ba ok2
  obtain ⟨b8, b9⟩ := ba ok2
  have glo : ∀ {n : Str} {a : Addr}, gloB K n a = true → mg n = some (.ref a) := fun c => PySem.W.mg_of X G (eqO_ok c)
  intro k
  induction k using Nat.strongRecOn with
  | ind k ih =>
  have lf := fun {id : Nat} {a : Addr} (h : DefOk P w K mg base W.T (cmK K W) tab id a) => lvl_fn h k ih
  refine { fns := ?_, mts := ?_, mks := ?_, cls := ?_, exs := ?_, flds := ?_, con := ?_, glb := ?_, exf := ?_, blt := ?_, ins := ?_, kit := ?_, kitT := ?_, kitV := ?_, exk := ?_, eqs := ?_, nf := ?_, exm := ?_ }
  · intro i n f e
    obtain ⟨kp, h1⟩ := hfn i n f e
    obtain ⟨fd, ps, hb, h2⟩ := lf h1
    exact ⟨_, fd, ps, h2, glo (allG a2 e), kp, hb⟩
  · intro i c m n f e
    obtain ⟨fd, ps, hb, h2⟩ := lf (hmt i c m n f e)
    obtain ⟨h3, h4⟩ := ba (allG a3 e)
    exact ⟨_, fd, ps, clsB_ok h3, methB_ok h4, h2, hb⟩
  · intro i x c n ks f g e hk
    obtain ⟨fd, ps, hb, h2⟩ := hmk i x c n ks f g e
    obtain ⟨h3, h4⟩ := ba (allG a4 e)
    cases k with
    | zero => omega
    | succ k =>
      refine ⟨k, Nat.le_refl _, _, fd, ps, mkrB_ok h3, ?_, glo h4, hb⟩
      rw [jFm_succ]
      cases k with
      | zero => exact fnok_0
      | succ k => exact h2 k (ih k (by omega))
  · intro i n c e
    exact glo (allG a5 e)
  · intro i n c f e
    obtain ⟨fd, ps, h1, hb⟩ := hex i n c f e
    obtain ⟨h3, h4⟩ := ba (allG a6 e)
    obtain ⟨_, c⟩ := ba h4
    obtain ⟨_, c⟩ := ba c
    obtain ⟨_, c⟩ := ba c
    obtain ⟨_, c⟩ := ba c
    obtain ⟨_, c⟩ := ba c
    obtain ⟨_, c⟩ := ba c
    obtain ⟨c7, c⟩ := ba c
    obtain ⟨_, c⟩ := ba c
    obtain ⟨c9, c10⟩ := ba c
    exact ⟨_, fd, ps, oexB_ok c7, eqO_ok c9, of_decide_eq_true c10, h1, hb, glo h3⟩
  · intro i c f e
    obtain ⟨h3, h4⟩ := ba (allG a7 e)
    exact ⟨clsB_ok h3, eqO_ok h4⟩
  · intro i c f d e
    obtain ⟨h3, h4⟩ := ba (allG a8 e)
    exact ⟨clsB_ok h3, fun X hX => conB'_ok h4 X hX⟩
  · intro i n d e
    exact glbB_ok X G (allG a9 e)
  · intro i f e A j hA hj
    obtain ⟨p, hp, rfl, rfl⟩ := cix_e hA
    exact eqO_ok (orL (List.all_eq_true.mp (allG b1 e) p hp) (by omega))
  · intro x hx
    exact PySem.W.mg_none_of X G (eqO_ok (List.all_eq_true.mp b2 x hx))
  · intro A i hA hi Y hY
    obtain ⟨p, hp, rfl, rfl⟩ := cix_e hA
    exact insB_ok (orL (List.all_eq_true.mp b3 p hp) hi) Y hY
  · intro A i B j hA hB
    obtain ⟨p, hp, rfl, rfl⟩ := cix_e hA
    obtain ⟨q, hq, rfl, rfl⟩ := cix_e hB
    exact of_decide_eq_true (List.all_eq_true.mp (List.all_eq_true.mp b4 p hp) q hq)
  · intro t B j ht hB
    obtain ⟨q, hq, rfl, rfl⟩ := cix_e hB
    exact of_decide_eq_true (List.all_eq_true.mp (List.all_eq_true.mp b5 t ht) q hq)
  · intro A i hA hi
    obtain ⟨p, hp, rfl, rfl⟩ := cix_e hA
    exact of_decide_eq_true (ba (orL (List.all_eq_true.mp b6 p hp) (by omega))).1
  · intro A i hA hi
    obtain ⟨p, hp, rfl, rfl⟩ := cix_e hA
    exact excB_ok (ba (orL (List.all_eq_true.mp b6 p hp) (by omega))).2
  · intro C i f hC hf
    obtain ⟨p, hp, rfl, rfl⟩ := eqf_e hf
    obtain ⟨fd, ps, hb, h2⟩ := lf (heq p hp)
    have m := methB_ok (List.all_eq_true.mp b7 p hp)
    exact ⟨_, fd, ps, m.at_, m.fn, h2, hb⟩
  · intro A i t hA hi ht
    obtain ⟨p, hp, rfl, rfl⟩ := cix_e hA
    exact List.all_eq_true.mp (orL (List.all_eq_true.mp b8 p hp) hi) t ht
  · intro A i B j hA hi hB hj
    obtain ⟨p, hp, rfl, rfl⟩ := cix_e hA
    obtain ⟨q, hq, rfl, rfl⟩ := cix_e hB
    exact of_decide_eq_true (orL (orL (List.all_eq_true.mp (List.all_eq_true.mp b9 p hp) q hq) (by omega)) (by omega))
/-! ### the Hook -/
abbrev AlY : Type := AlD × List SupW × Bool
def asY (g : Addr → Option Obj) (n : Nat) : List Addr := asD g n ++ [cStatics]
def obsY (fn : List DefD) (W : LawD) (sup : List Nat) (K : PySem.W.Frag) : AlY := (obsD [] fn K, sup.map (fun c => supW K (clsK K W c)), okB1 K W && okB2 K W)
def valY (fn : List DefD) (sup : List (Nat × Arguments × List Stmt × Scope)) : AlY := (He.valD fn, sup.map (fun q => some (("__init__" : PySem.Str), q.2.1, FuncBody.stmts q.2.2.1, q.2.2.2, mainGlobals, builtinsNs)), true)
def SaysY (fn : List DefD) (W : LawD) (sup : List (Nat × Arguments × List Stmt × Scope)) (K : PySem.W.Frag) : Prop := obsY fn W (sup.map (·.1)) K = valY fn sup
def obsYG (n : Nat) (fn : List DefD) (W : LawD) (sup : List (Nat × Arguments × List Stmt × Scope)) (g : Addr → Option Obj) : AlY := obsY fn W (sup.map (·.1)) (frG g (asY g n))
def hookY (n : Nat) (fn : List DefD) (W : LawD) (sup : List (Nat × Arguments × List Stmt × Scope)) : PySem.W.Hook where
  α := AlY
  obs := fun s => obsYG n fn W sup s.heap.get?
  val := fun _ => valY fn sup
  says := fun _ h => ∃ K : PySem.W.Frag, K.In h ∧ SaysY fn W sup K
  of := fun _ _ e => ⟨_, frG_in, e⟩
  keeps := fun _ _ _ ⟨K, hK, c⟩ k => ⟨K, PySem.W.Frag.In.keeps hK k, c⟩
theorem obsYG_eq {n : Nat} {fn : List DefD} {W : LawD} {sup : List (Nat × Arguments × List Stmt × Scope)} {g : Addr → Option Obj} {s : Shared} (h : ∀ a, g a = s.heap.get? a) : obsYG n fn W sup g = (hookY n fn W sup).obs s := by
  have e : g = s.heap.get? := funext h
  rw [e] <;> rfl
theorem SaysY.d {fn : List DefD} {sup : List (Nat × Arguments × List Stmt × Scope)} (c : SaysY fn W sup K) : SaysD [] fn K := congrArg (fun z : AlY => z.1) c
theorem SaysY.ok {fn : List DefD} {sup : List (Nat × Arguments × List Stmt × Scope)} (c : SaysY fn W sup K) : okB1 K W = true ∧ okB2 K W = true := ba (congrArg (fun z : AlY => z.2.2) c)
theorem SaysY.sup {fn : List DefD} {sup : List (Nat × Arguments × List Stmt × Scope)} (c : SaysY fn W sup K) (i : Nat) {q : Nat × Arguments × List Stmt × Scope} (h : sup[i]? = some q) : supW K (clsK K W q.1) = some (("__init__" : PySem.Str), q.2.1, FuncBody.stmts q.2.2.1, q.2.2.2, mainGlobals, builtinsNs) := by
  have e : (sup.map (·.1)).map (fun c => supW K (clsK K W c)) = sup.map (fun q => some (("__init__" : PySem.Str), q.2.1, FuncBody.stmts q.2.2.1, q.2.2.2, mainGlobals, builtinsNs)) := congrArg (fun z : AlY => z.2.1) c
  have e2 := congrArg (fun l => l[i]?) e
  simp only [List.getElem?_map, h, Option.map_some, Option.some.injEq] at e2
  exact e2
/-! ### one def -/
theorem def_ok {fn : List DefD} {sup : List (Nat × Arguments × List Stmt × Scope)} (c : SaysY fn W sup K) (i : Nat) {d : DefD} (h : fn[i]? = some d) {st : Stmt} (h1 : d.params = defArgs st) (h2 : d.body = defBody st) (h3 : d.scope = defScope st) (h4 : d.dfl = []) {N ps U G : List Str} {id : Nat} {j : JD} (ht : tab id = some j) (Sc : ScA N ps U G st) (hn : j.n = N.length) (hp : j.ps = ps.length)
    (hd : ∀ {f : Addr}, Der P w K mg base W.T N U G st d.qual f j) : ∃ fd, FunD K d.name d.qual (defArgs st) (defBody st) (defScope st) [] (d.kws K) (fAd K d.at_) fd ∧ ∀ k, LkB P w K mg base W.T (cmK K W) k (jFn (cmK K W) tab k) (jFm (cmK K W) tab k) → FnOk P w K mg base (L2.CX P w) (k + 1) (fAd K d.at_) fd ps (spOf K (jFn (cmK K W) tab (k + 1) id)) := by
  obtain ⟨fd, F⟩ := c.d.def_ i h
  have e : d.dvs K = [] := by unfold DefD.dvs; rw [h4]; rfl
  rw [h1, h2, h3, e] at F
  exact ⟨fd, F, fun k L => jfn_ok ht (He5.fun_of F) Sc hn hp L hd⟩
end
end Y
set_option Elab.async false
set_option linter.all false
set_option maxRecDepth 100000
set_option maxHeartbeats 4000000
set_option autoImplicit false
/-! the head of a law: what is alike in all of them -/
namespace Y
open PySem PySem.Spec PyProof.Rows L2 He
theorem fm_nil {α : Type} {p : α → Prop} : ∀ x ∈ ([] : List α), p x := fun _ h => by cases h
theorem fm_cons {α : Type} {p : α → Prop} {a : α} {l : List α} (h : p a) (t : ∀ x ∈ l, p x) : ∀ x ∈ a :: l, p x := fun x hx => by
  rcases List.mem_cons.mp hx with rfl | hx
  · exact h
  · exact t x hx
theorem fm_get {α : Type} {p : α → Prop} {l : List α} (h : ∀ x ∈ l, p x) (i : Nat) (x : α) (e : l[i]? = some x) : p x := h x (List.mem_of_getElem? e)
section
variable {K : PySem.W.Frag} {fd : FuncData} {ps : List Str} {n : Nat}
theorem ka_plain (hn : ps.length = n) (b : Binds K fd ps []) : KA K fd ps n [] (gaK []) := by
  refine ⟨fun us _ => us, fun vs _ => vs, ⟨fun s us ws X l1 l2 => ?_, fun r _ => r⟩, fun L m H a b c d h1 _ => ?_⟩
  · have := b s us X (by rw [List.append_nil, l1, hn])
    rw [List.append_nil] at this
    cases ws with
    | nil => exact this
    | cons w ws => cases l2
  · show RepAs K L m H a (c ++ [])
    rw [List.append_nil]
    exact h1
/-- one keyword-only parameter, given -/
theorem ka_given {k : Str} {g : List Value → List Value → List Value} {gV : List V → List V → List V} (hb : KBn K fd ps n [k] g gV) (hg : ∀ us ws, g us ws = us ++ ws) : KA K fd ps n [k] (gaK [.inl 0]) := by
  refine ⟨fun us ws => us ++ [ws.getD 0 .none], fun vs zs => vs ++ [zs.getD 0 .non], ⟨fun s us ws X l1 l2 => ?_, fun r1 r2 => ?_⟩, fun L m H a b c d h1 h2 => ?_⟩
  · have := hb.to s us ws X l1 l2
    rw [hg] at this
    cases ws with
    | nil => cases l2
    | cons w ws =>
      cases ws with
      | nil => exact this
      | cons _ _ => cases l2
  · refine Vals.append r1 (.cons ?_ .nil)
    cases r2 with
    | nil => rfl
    | cons r _ => exact r
  · refine RepAs.app ?_ h1
    refine reps_cons.mpr ⟨_, [], rfl, ?_, reps_nil.mpr rfl⟩
    cases d with
    | nil =>
      rw [reps_nil.mp h2]
      show RepA K L m H .non (.d .non)
      unfold RepA RepD
      rfl
    | cons y d =>
      obtain ⟨v, r, rfl, h3, _⟩ := reps_cons.mp h2
      exact h3
/-- one keyword-only parameter, that lacks: an int -/
theorem ka_lacks {i : Int} {g : List Value → List Value → List Value} {gV : List V → List V → List V} (hb : KBn K fd ps n [] g gV) (hg : ∀ us ws, gV us ws = us ++ [.int i]) : KA K fd ps n [] (gaK [.inr (.int i)]) := by
  refine ⟨g, gV, hb, fun L m H a b c d h1 h2 => ?_⟩
  rw [hg]
  refine RepAs.app ?_ h1
  refine reps_cons.mpr ⟨_, [], rfl, ?_, reps_nil.mpr rfl⟩
  show RepA K L m H (.int i) (.d (.int i))
  unfold RepA RepD
  rfl
end
section
variable {P : Program} {w : World} {K : PySem.W.Frag} {mg : Str → Option Value} {base : Heap} {tab : Nat → Option JD} {W : LawD} {fn : List DefD} {sup : List (Nat × Arguments × List Stmt × Scope)}
theorem cls_ix (c : SaysY fn W sup K) (i : Nat) {p : Nat × Str} (e : W.cl[i]? = some p) (h : clsK K W p.1 = ga K p.2) : (cmK K W).cix ((cmK K W).cls p.1) = some p.1 := by
  have a1 := (ba c.ok.1).1
  have := of_decide_eq_true (ba (allG a1 e)).2
  show cixK K W (clsK K W p.1) = _
  rw [h]
  exact this
theorem fn_glo {h : Heap} (X : K.In h) (G : h.Ns mainGlobals mg) (c : SaysY fn W sup K) (i : Nat) {q : Str × Nat} (e : W.T.fns[i]? = some q) : mg q.1 = some (.ref (ga K q.1)) := by
  obtain ⟨a1, c1⟩ := ba c.ok.1
  exact PySem.W.mg_of X G (eqO_ok (allG (ba c1).1 e))
theorem sup_b (c : SaysY fn W sup K) (i : Nat) {q : Str × Nat × Str} (e : W.T.exs[i]? = some q) : supB K W.file (clsK K W q.2.1) = true := by
  obtain ⟨a1, c1⟩ := ba c.ok.1
  obtain ⟨_, c1⟩ := ba c1
  obtain ⟨_, c1⟩ := ba c1
  obtain ⟨_, c1⟩ := ba c1
  obtain ⟨_, c1⟩ := ba c1
  obtain ⟨a6, _⟩ := ba c1
  exact (ba (allG a6 e)).2
theorem sup_f (c : SaysY fn W sup K) (i j : Nat) {f : Str} {p : Nat × Str} (e : W.T.exf[i]? = some f) (e2 : W.cl[j]? = some p) (h : clsK K W p.1 = ga K p.2) (hp : p.1 < 32) : PySem.W.findIn K (.ref (clsK K W p.1)) f = some none := by
  have b1 := (ba c.ok.2).1
  rw [h]
  exact eqO_ok (orL (allG (allG b1 e) e2) (by omega))
end
theorem fnok_cx {P : Program} {w : World} {K : PySem.W.Frag} {mg : Str → Option Value} {base : Heap} {CX CX' : CXT} {k : Nat} {f : Addr} {fd : FuncData} {ps : List Str} {sp : Sp} (h : ∀ o H s E u s', CX o H s E u s' → CX' o H s E u s') (F : FnOk P w K mg base CX k f fd ps sp) : FnOk P w K mg base CX' k f fd ps sp :=
  ⟨F.len, fun A outer s H args us vs Q E hr he hb hv hs => codeAny_mono (F.run A outer s H args us vs Q E hr he hb hv hs) fun r s' q => by
    cases r with
    | ok f => cases f <;> exact q
    | error e => exact h _ _ _ _ _ _ q⟩
abbrev CXw (P : Program) : CXT := fun o H s E u s' => ∃ w, L2.CX P w o H s E u s'
/-- what is promised of a law -/
theorem law_sp {K : PySem.W.Frag} {S : Spec} {H : Hp} {a : Addr} {ns : List Int} (hS : SqL K H a (ns.map V.int)) (h : ∀ (Q : QA) (E : XA → Prop), Q (B true) [] → S [.d (.lst (dI ns))] [] Q E) : spOf K S [.ref a] H (fun v _ => v = .bl true) fun _ _ _ => False := by
  refine ⟨fun _ => False, [], [], [.d (.lst (dI ns))], fun x η => x = B true ∧ η = [], fun _ => False, ⟨rfl, List.nodup_nil, fun _ h => by (cases h), fun _ h => h.elim, fun _ h => (by cases h), fun i a o h => (by simp at h)⟩, ?_, h _ _ ⟨rfl, rfl⟩, ?_, fun _ h => h.elim⟩
  · refine reps_cons.mpr ⟨_, [], rfl, ?_, reps_nil.mpr rfl⟩
    refine rep_lst.mpr ⟨a, ns.map V.int, rfl, ?_, ?_⟩
    · rcases hS with h | h
      · refine .inl ⟨fun z => ?_, h⟩
        rcases z with z | z
        · exact z
        · obtain ⟨i, hi⟩ := z
          simp at hi
      · exact .inr (.inr h)
    · clear hS h
      induction ns with
      | nil => unfold dI RepDs; rfl
      | cons n ns ih =>
        unfold dI at ih ⊢
        rw [List.map_cons, List.map_cons]
        unfold RepDs
        exact ⟨_, _, rfl, by unfold RepD; rfl, ih⟩
  · rintro x η' ⟨rfl, rfl⟩ v m' H' _ _ r
    exact rep_bl.mp r
end Y
set_option linter.all false
set_option maxRecDepth 100000
namespace Y
open PySem PySem.Spec PyProof.Rows L2
abbrev i_Contest___init : Nat := 0
abbrev i_Contest_outcome : Nat := 1
abbrev i_Contest_outcomes : Nat := 2
abbrev i_forces : Nat := 3
abbrev i_forcing_call : Nat := 4
abbrev i_forced_calls : Nat := 5
abbrev i_ranked_calls : Nat := 6
abbrev i_ranks : Nat := 7
abbrev i_safe_answer : Nat := 8
abbrev i_settle : Nat := 9
abbrev i_has_right_states : Nat := 10
abbrev i_are_answers : Nat := 11
abbrev i_keeps : Nat := 12
abbrev i_shows_kept : Nat := 13
abbrev i_forces_down : Nat := 14
abbrev i_shows_lost : Nat := 15
abbrev i_is_entry : Nat := 16
abbrev i_Control___init : Nat := 17
abbrev i_Control_shape : Nat := 18
abbrev i_Control___eq : Nat := 19
abbrev i_Control_entry : Nat := 20
abbrev i_Control_widened : Nat := 21
abbrev i_Control_started : Nat := 22
abbrev i_Control_idle : Nat := 23
abbrev i_L_pool : Nat := 24
abbrev i_L_draw : Nat := 25
abbrev i_L_same : Nat := 26
abbrev i_L_contest_rows : Nat := 27
abbrev i_L_ranks : Nat := 28
abbrev i_L_settled : Nat := 29
abbrev i_L_asked : Nat := 30
abbrev i_L_forced : Nat := 31
abbrev i_L_ranks_right : Nat := 32
abbrev i_L_refusals : Nat := 33
abbrev i_law : Nat := 34
def b_Contest___init_0 : JB := .cons (.raise 1 "size" (.nm 1)) .nil
def b_Contest___init_1 : JB := .cons (.raise 1 "size" (.nm 2)) .nil
def b_Contest___init_2 : JB := .cons (.raise 1 "size" (.fld (.nm 3) 32 "cues")) .nil
def b_Contest___init_3 : JB := .cons (.raise 1 "size" (.fld (.nm 3) 32 "replies")) .nil
def b_Contest___init_4 : JB := .cons (.ife (.not (.chn .LtE .LtE (.k (.int 1)) (.nm 1) (.k (.int 16)))) b_Contest___init_0 .nil) <| .cons (.ife (.not (.chn .LtE .LtE (.k (.int 1)) (.nm 2) (.k (.int 16)))) b_Contest___init_1 .nil) <| .cons (.ife (.cmp .NotEq (.fld (.nm 3) 32 "cues") (.bin .Mult (.nm 1) (.nm 2))) b_Contest___init_2 .nil) <| .cons (.ife (.cmp .NotEq (.fld (.nm 3) 32 "replies") (.k (.int 2))) b_Contest___init_3 .nil) <| .cons (.fldS (.nm 0) 33 "calls" (.nm 1)) <| .cons (.fldS (.nm 0) 33 "answers" (.nm 2)) <| .cons (.fldS (.nm 0) 33 "control" (.nm 3)) .nil
def j_Contest___init : JD := ⟨4, 4, b_Contest___init_4⟩
def b_Contest_outcome_0 : JB := .cons (.ret (.own (.fld (.nm 0) 33 "control") 32 "entry" i_Control_entry (.cons (.nm 1) (.cons (.bin .Add (.bin .Mult (.nm 2) (.fld (.nm 0) 33 "answers")) (.nm 3)) (.nil))))) .nil
def j_Contest_outcome : JD := ⟨4, 4, b_Contest_outcome_0⟩
def b_Contest_outcomes_0 : JB := .cons (.ret (.lc (.nm 3) (.rng1 (.fld (.nm 0) 33 "answers")) .none (.own (.nm 0) 33 "outcome" i_Contest_outcome (.cons (.nm 1) (.cons (.nm 2) (.cons (.nm 3) (.nil))))) [3])) .nil
def j_Contest_outcomes : JD := ⟨4, 3, b_Contest_outcomes_0⟩
def b_forces_0 : JB := .cons (.ret (.k (.bl false))) .nil
def b_forces_1 : JB := .cons (.ife (.and (.cmp .NotEq (.nm 5) (.k (.int 1))) (.cmp .Is (.ix (.nm 3) (.nm 4)) (.k .non))) b_forces_0 .nil) .nil
def b_forces_2 : JB := .cons (.for (.tup (.cons (.nm 4) (.cons (.nm 5) (.nil)))) (.seq (.own (.nm 0) 33 "outcomes" i_Contest_outcomes (.cons (.nm 1) (.cons (.nm 2) (.nil))))) b_forces_1) <| .cons (.ret (.k (.bl true))) .nil
def j_forces : JD := ⟨6, 4, b_forces_2⟩
def b_forcing_call_0 : JB := .cons (.ret (.nm 3)) .nil
def b_forcing_call_1 : JB := .cons (.ife (.val (.fn i_forces (.cons (.nm 0) (.cons (.nm 1) (.cons (.nm 3) (.cons (.nm 2) (.nil))))))) b_forcing_call_0 .nil) .nil
def b_forcing_call_2 : JB := .cons (.for (.nm 3) (.rng1 (.fld (.nm 0) 33 "calls")) b_forcing_call_1) <| .cons (.ret (.k .non)) .nil
def j_forcing_call : JD := ⟨4, 3, b_forcing_call_2⟩
def b_forced_calls_0 : JB := .cons (.ixS (.nm 2) (.nm 3) (.nm 4)) .nil
def b_forced_calls_1 : JB := .cons (.asg (.nm 4) (.fn i_forcing_call (.cons (.nm 0) (.cons (.nm 3) (.cons (.nm 1) (.nil)))))) <| .cons (.ife (.cmp .IsNot (.nm 4) (.k .non)) b_forced_calls_0 .nil) .nil
def b_forced_calls_2 : JB := .cons (.ife (.cmp .Is (.ix (.nm 1) (.nm 3)) (.k .non)) b_forced_calls_1 .nil) .nil
def b_forced_calls_3 : JB := .cons (.asg (.nm 2) (.dnew)) <| .cons (.for (.nm 3) (.rng1 (.fld (.fld (.nm 0) 33 "control") 32 "states")) b_forced_calls_2) <| .cons (.ret (.nm 2)) .nil
def j_forced_calls : JD := ⟨5, 2, b_forced_calls_3⟩
def b_ranked_calls_0 : JB := .cons (.ixS (.nm 1) (.nm 5) (.nm 3)) <| .cons (.ixS (.nm 2) (.nm 5) (.nm 6)) .nil
def b_ranked_calls_1 : JB := .cons (.forL (.tup (.cons (.nm 5) (.cons (.nm 6) (.nil)))) (.items (.nm 4)) b_ranked_calls_0) <| .cons (.asg (.nm 3) (.bin .Add (.nm 3) (.k (.int 1)))) <| .cons (.asg (.nm 4) (.fn i_forced_calls (.cons (.nm 0) (.cons (.nm 1) (.nil))))) .nil
def b_ranked_calls_2 : JB := .cons (.asg (.nm 1) (.bin .Mult (.lst (.cons (.k .non) (.nil))) (.fld (.fld (.nm 0) 33 "control") 32 "states"))) <| .cons (.asg (.nm 2) (.bin .Mult (.lst (.cons (.k .non) (.nil))) (.fld (.fld (.nm 0) 33 "control") 32 "states"))) <| .cons (.asg (.nm 3) (.k (.int 0))) <| .cons (.asg (.nm 4) (.fn i_forced_calls (.cons (.nm 0) (.cons (.nm 1) (.nil))))) <| .cons (.while (.cmp .Gt (.callB .len (.cons (.nm 4) (.nil))) (.k (.int 0))) b_ranked_calls_1) <| .cons (.ret (.tup (.cons (.nm 1) (.cons (.nm 2) (.nil))))) .nil
def j_ranked_calls : JD := ⟨7, 1, b_ranked_calls_2⟩
def b_ranks_0 : JB := .cons (.ret (.ix (.fn i_ranked_calls (.cons (.nm 0) (.nil))) (.k (.int 0)))) .nil
def j_ranks : JD := ⟨1, 1, b_ranks_0⟩
def b_safe_answer_0 : JB := .cons (.ret (.nm 4)) .nil
def b_safe_answer_1 : JB := .cons (.ife (.and (.cmp .NotEq (.nm 6) (.k (.int 1))) (.cmp .Is (.ix (.nm 3) (.nm 5)) (.k .non))) b_safe_answer_0 .nil) .nil
def b_safe_answer_2 : JB := .cons (.for (.tup (.cons (.nm 4) (.cons (.tup (.cons (.nm 5) (.cons (.nm 6) (.nil)))) (.nil)))) (.en (.own (.nm 0) 33 "outcomes" i_Contest_outcomes (.cons (.nm 1) (.cons (.nm 2) (.nil))))) b_safe_answer_1) <| .cons (.ret (.k .non)) .nil
def j_safe_answer : JD := ⟨7, 4, b_safe_answer_2⟩
def b_settle_0 : JB := .cons (.asg (.nm 6) (.lc (.nm 7) (.rng1 (.fld (.nm 0) 33 "calls")) .none (.fn i_safe_answer (.cons (.nm 0) (.cons (.nm 4) (.cons (.nm 7) (.cons (.nm 1) (.nil)))))) [7])) <| .cons (.ex (.mth (.nm 3) .append (.cons (.tup (.cons (.nm 4) (.cons (.callT .tuple (.cons (.nm 6) (.nil))) (.nil)))) (.nil)))) .nil
def b_settle_1 : JB := .cons (.ife (.cmp .Is (.nm 5) (.k .non)) b_settle_0 .nil) .nil
def b_settle_2 : JB := .cons (.for (.tup (.cons (.nm 4) (.cons (.nm 5) (.nil)))) (.en (.nm 1)) b_settle_1) <| .cons (.ret (.tup (.cons (.k (.str "kept")) (.cons (.callT .tuple (.cons (.nm 3) (.nil))) (.nil))))) .nil
def b_settle_3 : JB := .cons (.ex (.mth (.nm 3) .append (.cons (.tup (.cons (.nm 4) (.cons (.ix (.nm 2) (.nm 4)) (.cons (.nm 5) (.nil))))) (.nil)))) .nil
def b_settle_4 : JB := .cons (.ife (.cmp .IsNot (.nm 5) (.k .non)) b_settle_3 .nil) .nil
def b_settle_5 : JB := .cons (.asg (.tup (.cons (.nm 1) (.cons (.nm 2) (.nil)))) (.fn i_ranked_calls (.cons (.nm 0) (.nil)))) <| .cons (.asg (.nm 3) (.lst (.nil))) <| .cons (.ife (.cmp .Is (.ix (.nm 1) (.fld (.fld (.nm 0) 33 "control") 32 "start")) (.k .non)) b_settle_2 .nil) <| .cons (.for (.tup (.cons (.nm 4) (.cons (.nm 5) (.nil)))) (.en (.nm 1)) b_settle_4) <| .cons (.ret (.tup (.cons (.k (.str "lost")) (.cons (.callT .tuple (.cons (.nm 3) (.nil))) (.nil))))) .nil
def j_settle : JD := ⟨8, 1, b_settle_5⟩
def b_has_right_states_0 : JB := .cons (.ret (.k (.bl false))) .nil
def b_has_right_states_1 : JB := .cons (.asg (.nm 2) (.dc (.nm 3) (.seq (.nm 1)) .none (.nm 3) (.k (.bl true)) [3])) <| .cons (.ife (.or (.cmp .NotEq (.callB .len (.cons (.nm 2) (.nil))) (.callB .len (.cons (.nm 1) (.nil)))) (.cmp .NotIn (.fld (.fld (.nm 0) 33 "control") 32 "start") (.nm 2))) b_has_right_states_0 .nil) <| .cons (.ret (.callB .all (.cons (.lc (.nm 3) (.seq (.nm 1)) .none (.chn .LtE .Lt (.k (.int 0)) (.nm 3) (.fld (.fld (.nm 0) 33 "control") 32 "states")) [3]) (.nil)))) .nil
def j_has_right_states : JD := ⟨4, 2, b_has_right_states_1⟩
def b_are_answers_0 : JB := .cons (.ret (.k (.bl false))) .nil
def b_are_answers_1 : JB := .cons (.ife (.cmp .NotEq (.callB .len (.cons (.nm 1) (.nil))) (.fld (.nm 0) 33 "calls")) b_are_answers_0 .nil) <| .cons (.ret (.callB .all (.cons (.lc (.nm 2) (.seq (.nm 1)) .none (.chn .LtE .Lt (.k (.int 0)) (.nm 2) (.fld (.nm 0) 33 "answers")) [2]) (.nil)))) .nil
def j_are_answers : JD := ⟨3, 2, b_are_answers_1⟩
def b_keeps_0 : JB := .cons (.ret (.k (.bl false))) .nil
def b_keeps_1 : JB := .cons (.asg (.tup (.cons (.nm 6) (.cons (.nm 7) (.nil)))) (.own (.nm 0) 33 "outcome" i_Contest_outcome (.cons (.nm 1) (.cons (.nm 4) (.cons (.nm 5) (.nil)))))) <| .cons (.ife (.or (.cmp .Eq (.nm 7) (.k (.int 1))) (.cmp .NotIn (.nm 6) (.nm 3))) b_keeps_0 .nil) .nil
def b_keeps_2 : JB := .cons (.for (.tup (.cons (.nm 4) (.cons (.nm 5) (.nil)))) (.en (.nm 2)) b_keeps_1) <| .cons (.ret (.k (.bl true))) .nil
def j_keeps : JD := ⟨8, 4, b_keeps_2⟩
def b_shows_kept_0 : JB := .cons (.ret (.k (.bl false))) .nil
def b_shows_kept_1 : JB := .cons (.ret (.k (.bl false))) .nil
def b_shows_kept_2 : JB := .cons (.ife (.or (.not (.val (.fn i_are_answers (.cons (.nm 0) (.cons (.nm 5) (.nil)))))) (.not (.val (.fn i_keeps (.cons (.nm 0) (.cons (.nm 4) (.cons (.nm 5) (.cons (.nm 3) (.nil))))))))) b_shows_kept_1 .nil) .nil
def b_shows_kept_3 : JB := .cons (.asg (.nm 2) (.lc (.tup (.cons (.nm 4) (.cons (.nm 6) (.nil)))) (.seq (.nm 1)) .none (.nm 4) [4, 6])) <| .cons (.ife (.not (.val (.fn i_has_right_states (.cons (.nm 0) (.cons (.nm 2) (.nil)))))) b_shows_kept_0 .nil) <| .cons (.asg (.nm 3) (.dc (.nm 4) (.seq (.nm 2)) .none (.nm 4) (.k (.bl true)) [4])) <| .cons (.for (.tup (.cons (.nm 4) (.cons (.nm 5) (.nil)))) (.seq (.nm 1)) b_shows_kept_2) <| .cons (.ret (.k (.bl true))) .nil
def j_shows_kept : JD := ⟨7, 2, b_shows_kept_3⟩
def b_forces_down_0 : JB := .cons (.ret (.k (.bl false))) .nil
def b_forces_down_1 : JB := .cons (.ife (.and (.cmp .NotEq (.nm 7) (.k (.int 1))) (.or (.cmp .NotIn (.nm 6) (.nm 2)) (.cmp .GtE (.ix (.nm 2) (.nm 6)) (.nm 5)))) b_forces_down_0 .nil) .nil
def b_forces_down_2 : JB := .cons (.asg (.tup (.cons (.nm 3) (.cons (.nm 4) (.cons (.nm 5) (.nil))))) (.nm 1)) <| .cons (.for (.tup (.cons (.nm 6) (.cons (.nm 7) (.nil)))) (.seq (.own (.nm 0) 33 "outcomes" i_Contest_outcomes (.cons (.nm 3) (.cons (.nm 4) (.nil))))) b_forces_down_1) <| .cons (.ret (.k (.bl true))) .nil
def j_forces_down : JD := ⟨8, 3, b_forces_down_2⟩
def b_shows_lost_0 : JB := .cons (.ret (.k (.bl false))) .nil
def b_shows_lost_1 : JB := .cons (.ret (.k (.bl false))) .nil
def b_shows_lost_2 : JB := .cons (.ret (.k (.bl false))) .nil
def b_shows_lost_3 : JB := .cons (.ife (.or (.not (.chn .LtE .Lt (.k (.int 0)) (.ix (.nm 3) (.k (.int 1))) (.fld (.nm 0) 33 "calls"))) (.cmp .Lt (.ix (.nm 3) (.k (.int 2))) (.k (.int 0)))) b_shows_lost_1 .nil) <| .cons (.ife (.not (.val (.fn i_forces_down (.cons (.nm 0) (.cons (.nm 3) (.cons (.nm 2) (.nil))))))) b_shows_lost_2 .nil) .nil
def b_shows_lost_4 : JB := .cons (.ife (.not (.val (.fn i_has_right_states (.cons (.nm 0) (.cons (.lc (.tup (.cons (.nm 4) (.cons (.nm 5) (.cons (.nm 5) (.nil))))) (.seq (.nm 1)) .none (.nm 4) [4, 5]) (.nil)))))) b_shows_lost_0 .nil) <| .cons (.asg (.nm 2) (.dc (.tup (.cons (.nm 4) (.cons (.nm 5) (.cons (.nm 6) (.nil))))) (.seq (.nm 1)) .none (.nm 4) (.nm 6) [4, 5, 6])) <| .cons (.for (.nm 3) (.seq (.nm 1)) b_shows_lost_3) <| .cons (.ret (.k (.bl true))) .nil
def j_shows_lost : JD := ⟨7, 2, b_shows_lost_4⟩
def b_is_entry_0 : JB := .cons (.asg (.tup (.cons (.nm 3) (.cons (.nm 4) (.nil)))) (.nm 0)) <| .cons (.ret (.and (.chn .LtE .Lt (.k (.int 0)) (.nm 3) (.nm 1)) (.chn .LtE .Lt (.k (.int 0)) (.nm 4) (.nm 2)))) .nil
def j_is_entry : JD := ⟨5, 3, b_is_entry_0⟩
def b_Control___init_0 : JB := .cons (.raise 15 "state" (.neg (.k (.int 1)))) .nil
def b_Control___init_1 : JB := .cons (.raise 15 "state" (.neg (.k (.int 1)))) .nil
def b_Control___init_2 : JB := .cons (.raise 15 "state" (.nm 6)) .nil
def b_Control___init_3 : JB := .cons (.ife (.or (.cmp .NotEq (.callB .len (.cons (.nm 7) (.nil))) (.nm 1)) (.not (.val (.callB .all (.cons (.lc (.nm 8) (.seq (.nm 7)) .none (.fn i_is_entry (.cons (.nm 8) (.cons (.nm 5) (.cons (.nm 2) (.nil))))) [8]) (.nil)))))) b_Control___init_2 .nil) .nil
def b_Control___init_4 : JB := .cons (.asg (.nm 5) (.callB .len (.cons (.nm 3) (.nil)))) <| .cons (.ife (.or (.not (.chn .LtE .LtE (.k (.int 1)) (.nm 1) (.con (.nm 0) 32 "MOST_CUES" (.int 16)))) (.not (.chn .LtE .LtE (.k (.int 1)) (.nm 2) (.con (.nm 0) 32 "MOST_REPLIES" (.int 256))))) b_Control___init_0 .nil) <| .cons (.ife (.or (.not (.chn .LtE .LtE (.k (.int 1)) (.nm 5) (.con (.nm 0) 32 "MOST_STATES" (.int 64)))) (.not (.chn .LtE .Lt (.k (.int 0)) (.nm 4) (.nm 5)))) b_Control___init_1 .nil) <| .cons (.fldS (.nm 0) 32 "cues" (.nm 1)) <| .cons (.fldS (.nm 0) 32 "replies" (.nm 2)) <| .cons (.fldS (.nm 0) 32 "states" (.nm 5)) <| .cons (.fldS (.nm 0) 32 "start" (.nm 4)) <| .cons (.fldS (.nm 0) 32 "rows" (.callT .tuple (.cons (.nm 3) (.nil)))) <| .cons (.for (.tup (.cons (.nm 6) (.cons (.nm 7) (.nil)))) (.en (.fld (.nm 0) 32 "rows")) b_Control___init_3) .nil
def j_Control___init : JD := ⟨9, 5, b_Control___init_4⟩
def b_Control___eq_0 : JB := .cons (.ret (.and (.callB .isi (.cons (.nm 1) (.cons (.cls 32) (.nil)))) (.and (.cmp .Eq (.fld (.nm 0) 32 "cues") (.fld (.nm 1) 32 "cues")) (.and (.cmp .Eq (.fld (.nm 0) 32 "replies") (.fld (.nm 1) 32 "replies")) (.and (.cmp .Eq (.fld (.nm 0) 32 "rows") (.fld (.nm 1) 32 "rows")) (.cmp .Eq (.fld (.nm 0) 32 "start") (.fld (.nm 1) 32 "start"))))))) .nil
def j_Control___eq : JD := ⟨2, 2, b_Control___eq_0⟩
def b_Control_entry_0 : JB := .cons (.ret (.ix (.ix (.fld (.nm 0) 32 "rows") (.nm 1)) (.nm 2))) .nil
def j_Control_entry : JD := ⟨3, 3, b_Control_entry_0⟩
def b_Control_started_0 : JB := .cons (.raise 1 "size" (.nm 1)) .nil
def b_Control_started_1 : JB := .cons (.ife (.not (.chn .LtE .Lt (.k (.int 0)) (.nm 1) (.fld (.nm 0) 32 "states"))) b_Control_started_0 .nil) <| .cons (.ret (.frz (.mk 32 i_Control___init [.inl 0] (.cons (.fld (.nm 0) 32 "cues") (.cons (.fld (.nm 0) 32 "replies") (.cons (.fld (.nm 0) 32 "rows") (.nil)))) (.cons (.nm 1) (.nil))))) .nil
def j_Control_started : JD := ⟨2, 2, b_Control_started_1⟩
def b_L_pool_0 : JB := .cons (.ret (.lst (.cons (.k (.int 0)) (.cons (.k (.int 0)) (.cons (.k (.int 0)) (.cons (.k (.int 0)) (.nil))))))) .nil
def b_L_pool_1 : JB := .cons (.ret (.lst (.cons (.k (.int 1)) (.cons (.nm 2) (.cons (.bin .Mod (.callT .int (.cons (.nm 2) (.nil))) (.k (.int 2147483647))) (.cons (.k (.int 0)) (.nil))))))) .nil
def b_L_pool_2 : JB := .cons (.ife (.cmp .Eq (.callB .len (.cons (.nm 0) (.nil))) (.k (.int 0))) b_L_pool_0 .nil) <| .cons (.asg (.nm 2) (.callB .abs (.cons (.ix (.nm 0) (.bin .Mod (.callT .int (.cons (.nm 1) (.nil))) (.callB .len (.cons (.nm 0) (.nil))))) (.nil)))) <| .cons (.ife (.and (.cmp .Lt (.nm 1) (.callB .len (.cons (.nm 0) (.nil)))) (.cmp .GtE (.nm 2) (.bin .Pow (.k (.int 10)) (.k (.int 18))))) b_L_pool_1 .nil) <| .cons (.ret (.lst (.cons (.k (.int 2)) (.cons (.k (.int 0)) (.cons (.bin .Mod (.callT .int (.cons (.bin .Add (.nm 2) (.bin .Mult (.k (.int 7919)) (.nm 1))) (.nil))) (.k (.int 2147483647))) (.cons (.k (.int 0)) (.nil))))))) .nil
def j_L_pool : JD := ⟨3, 2, b_L_pool_2⟩
def b_L_draw_0 : JB := .cons (.ret (.k (.int 0))) .nil
def b_L_draw_1 : JB := .cons (.asg (.nm 2) (.bin .Mod (.callT .int (.cons (.ix (.nm 0) (.k (.int 1))) (.nil))) (.nm 1))) <| .cons (.ixS (.nm 0) (.k (.int 1)) (.bin .FloorDiv (.ix (.nm 0) (.k (.int 1))) (.nm 1))) <| .cons (.ret (.nm 2)) .nil
def b_L_draw_2 : JB := .cons (.ixS (.nm 0) (.k (.int 3)) (.bin .Add (.ix (.nm 0) (.k (.int 3))) (.k (.int 1)))) <| .cons (.ife (.cmp .Eq (.ix (.nm 0) (.k (.int 0))) (.k (.int 0))) b_L_draw_0 .nil) <| .cons (.ife (.and (.cmp .Eq (.ix (.nm 0) (.k (.int 0))) (.k (.int 1))) (.and (.cmp .LtE (.ix (.nm 0) (.k (.int 3))) (.k (.int 60))) (.cmp .Gt (.ix (.nm 0) (.k (.int 1))) (.k (.int 0))))) b_L_draw_1 .nil) <| .cons (.asg (.nm 3) (.bin .Mod (.callT .int (.cons (.bin .Add (.bin .Add (.ix (.nm 0) (.k (.int 2))) (.bin .Mult (.k (.int 40503)) (.ix (.nm 0) (.k (.int 3))))) (.k (.int 17))) (.nil))) (.k (.int 2147483647)))) <| .cons (.asg (.nm 3) (.bin .Mod (.callT .int (.cons (.bin .Add (.bin .Add (.bin .Mult (.nm 3) (.nm 3)) (.bin .Mult (.k (.int 69621)) (.ix (.nm 0) (.k (.int 3))))) (.k (.int 5))) (.nil))) (.k (.int 2147483629)))) <| .cons (.asg (.nm 3) (.bin .Mod (.callT .int (.cons (.bin .Add (.bin .Add (.bin .Mult (.nm 3) (.nm 3)) (.k (.int 48271))) (.ix (.nm 0) (.k (.int 2)))) (.nil))) (.k (.int 2147483647)))) <| .cons (.ret (.bin .Mod (.callT .int (.cons (.bin .FloorDiv (.nm 3) (.k (.int 8))) (.nil))) (.nm 1))) .nil
def j_L_draw : JD := ⟨4, 2, b_L_draw_2⟩
def b_L_same_0 : JB := .cons (.ret (.cmp .Is (.nm 0) (.k .non))) .nil
def b_L_same_1 : JB := .cons (.ret (.cmp .Is (.nm 0) (.k (.bl true)))) .nil
def b_L_same_2 : JB := .cons (.ret (.cmp .Is (.nm 0) (.k (.bl false)))) .nil
def b_L_same_3 : JB := .cons (.ret (.and (.callB .isi (.cons (.nm 0) (.cons (.k (.ty "int")) (.nil)))) (.and (.not (.callB .isi (.cons (.nm 0) (.cons (.k (.ty "bool")) (.nil))))) (.cmp .Eq (.nm 0) (.nm 1))))) .nil
def b_L_same_4 : JB := .cons (.ret (.and (.callB .isi (.cons (.nm 0) (.cons (.k (.ty "str")) (.nil)))) (.cmp .Eq (.nm 0) (.nm 1)))) .nil
def b_L_same_5 : JB := .cons (.ret (.k (.bl false))) .nil
def b_L_same_6 : JB := .cons (.ret (.k (.bl false))) .nil
def b_L_same_7 : JB := .cons (.ife (.or (.cmp .NotIn (.nm 2) (.nm 0)) (.not (.val (.fn i_L_same (.cons (.ix (.nm 0) (.nm 2)) (.cons (.ix (.nm 1) (.nm 2)) (.nil))))))) b_L_same_6 .nil) .nil
def b_L_same_8 : JB := .cons (.ife (.or (.not (.val (.callB .isi (.cons (.nm 0) (.cons (.k (.ty "dict")) (.nil)))))) (.cmp .NotEq (.callB .len (.cons (.nm 0) (.nil))) (.callB .len (.cons (.nm 1) (.nil))))) b_L_same_5 .nil) <| .cons (.for (.nm 2) (.seq (.nm 1)) b_L_same_7) <| .cons (.ret (.k (.bl true))) .nil
def b_L_same_9 : JB := .cons (.ret (.k (.bl false))) .nil
def b_L_same_10 : JB := .cons (.ret (.k (.bl false))) .nil
def b_L_same_11 : JB := .cons (.ret (.k (.bl false))) .nil
def b_L_same_12 : JB := .cons (.ret (.k (.bl false))) .nil
def b_L_same_13 : JB := .cons (.ife (.not (.val (.fn i_L_same (.cons (.ix (.nm 0) (.nm 3)) (.cons (.ix (.nm 1) (.nm 3)) (.nil)))))) b_L_same_12 .nil) .nil
def b_L_same_14 : JB := .cons (.ife (.cmp .Is (.nm 1) (.k .non)) b_L_same_0 .nil) <| .cons (.ife (.cmp .Is (.nm 1) (.k (.bl true))) b_L_same_1 .nil) <| .cons (.ife (.cmp .Is (.nm 1) (.k (.bl false))) b_L_same_2 .nil) <| .cons (.ife (.val (.callB .isi (.cons (.nm 1) (.cons (.k (.ty "int")) (.nil))))) b_L_same_3 .nil) <| .cons (.ife (.val (.callB .isi (.cons (.nm 1) (.cons (.k (.ty "str")) (.nil))))) b_L_same_4 .nil) <| .cons (.ife (.val (.callB .isi (.cons (.nm 1) (.cons (.k (.ty "dict")) (.nil))))) b_L_same_8 .nil) <| .cons (.ife (.and (.val (.callB .isi (.cons (.nm 1) (.cons (.k (.ty "list")) (.nil))))) (.not (.val (.callB .isi (.cons (.nm 0) (.cons (.k (.ty "list")) (.nil))))))) b_L_same_9 .nil) <| .cons (.ife (.and (.val (.callB .isi (.cons (.nm 1) (.cons (.k (.ty "tuple")) (.nil))))) (.not (.val (.callB .isi (.cons (.nm 0) (.cons (.k (.ty "tuple")) (.nil))))))) b_L_same_10 .nil) <| .cons (.ife (.cmp .NotEq (.callB .len (.cons (.nm 0) (.nil))) (.callB .len (.cons (.nm 1) (.nil)))) b_L_same_11 .nil) <| .cons (.for (.nm 3) (.rng1 (.callB .len (.cons (.nm 1) (.nil)))) b_L_same_13) <| .cons (.ret (.k (.bl true))) .nil
def j_L_same : JD := ⟨4, 2, b_L_same_14⟩
def b_L_contest_rows_0 : JB := .cons (.ex (.mth (.nm 11) .append (.cons (.tup (.cons (.callB .max (.cons (.k (.int 0)) (.cons (.bin .Sub (.nm 9) (.k (.int 1))) (.nil)))) (.cons (.callT .int (.cons (.cmp .Eq (.nm 9) (.k (.int 0))) (.nil))) (.nil)))) (.nil)))) .nil
def b_L_contest_rows_1 : JB := .cons (.ex (.mth (.nm 11) .append (.cons (.tup (.cons (.fn i_L_draw (.cons (.nm 2) (.cons (.nm 5) (.nil)))) (.cons (.k (.int 0)) (.nil)))) (.nil)))) .nil
def b_L_contest_rows_2 : JB := .cons (.ife (.cmp .Eq (.bin .FloorDiv (.nm 12) (.nm 4)) (.nm 10)) b_L_contest_rows_0 b_L_contest_rows_1) .nil
def b_L_contest_rows_3 : JB := .cons (.asg (.nm 10) (.fn i_L_draw (.cons (.nm 2) (.cons (.nm 3) (.nil))))) <| .cons (.asg (.nm 11) (.lst (.nil))) <| .cons (.for (.nm 12) (.rng1 (.bin .Mult (.nm 3) (.nm 4))) b_L_contest_rows_2) <| .cons (.ex (.mth (.nm 8) .append (.cons (.callT .tuple (.cons (.nm 11) (.nil))) (.nil)))) .nil
def b_L_contest_rows_4 : JB := .cons (.for (.nm 9) (.rng1 (.nm 5)) b_L_contest_rows_3) <| .cons (.ret (.nm 8)) .nil
def b_L_contest_rows_5 : JB := .cons (.asg (.nm 14) (.fn i_L_draw (.cons (.nm 13) (.cons (.bin .Mult (.bin .Mult (.nm 5) (.nm 7)) (.k (.int 2))) (.nil))))) <| .cons (.ex (.mth (.nm 11) .append (.cons (.tup (.cons (.bin .Mod (.callT .int (.cons (.nm 14) (.nil))) (.nm 5)) (.cons (.callT .int (.cons (.cmp .Eq (.bin .FloorDiv (.nm 14) (.nm 5)) (.k (.int 0))) (.nil))) (.nil)))) (.nil)))) .nil
def b_L_contest_rows_6 : JB := .cons (.asg (.nm 13) (.fn i_L_pool (.cons (.nm 0) (.cons (.bin .Add (.nm 1) (.nm 9)) (.nil))))) <| .cons (.asg (.nm 11) (.lst (.nil))) <| .cons (.for (.nm 12) (.rng1 (.bin .Mult (.nm 3) (.nm 4))) b_L_contest_rows_5) <| .cons (.ex (.mth (.nm 8) .append (.cons (.callT .tuple (.cons (.nm 11) (.nil))) (.nil)))) .nil
def b_L_contest_rows_7 : JB := .cons (.asg (.nm 6) (.fn i_L_draw (.cons (.nm 2) (.cons (.k (.int 4)) (.nil))))) <| .cons (.asg (.nm 7) (.bin .Add (.k (.int 1)) (.fn i_L_draw (.cons (.nm 2) (.cons (.k (.int 5)) (.nil)))))) <| .cons (.asg (.nm 8) (.lst (.nil))) <| .cons (.ife (.cmp .Eq (.nm 6) (.k (.int 3))) b_L_contest_rows_4 .nil) <| .cons (.for (.nm 9) (.rng1 (.nm 5)) b_L_contest_rows_6) <| .cons (.ret (.nm 8)) .nil
def j_L_contest_rows : JD := ⟨15, 6, b_L_contest_rows_7⟩
def b_L_ranks_0 : JB := .cons (.cont) .nil
def b_L_ranks_1 : JB := .cons (.ixS (.nm 6) (.nm 7) (.nm 8)) .nil
def b_L_ranks_2 : JB := .cons (.asg (.nm 9) (.sli (.ix (.nm 0) (.nm 7)) (.some (.bin .Mult (.nm 8) (.nm 2))) (.some (.bin .Add (.bin .Mult (.nm 8) (.nm 2)) (.nm 2))))) <| .cons (.asg (.nm 10) (.lc (.nm 11) (.seq (.nm 9)) (.some (.and (.cmp .Eq (.ix (.nm 11) (.k (.int 1))) (.k (.int 0))) (.cmp .Is (.ix (.nm 3) (.ix (.nm 11) (.k (.int 0)))) (.k .non)))) (.nm 11) [11])) <| .cons (.ife (.and (.cmp .Eq (.callB .len (.cons (.nm 10) (.nil))) (.k (.int 0))) (.cmp .NotIn (.nm 7) (.nm 6))) b_L_ranks_1 .nil) .nil
def b_L_ranks_3 : JB := .cons (.ife (.cmp .IsNot (.ix (.nm 3) (.nm 7)) (.k .non)) b_L_ranks_0 .nil) <| .cons (.for (.nm 8) (.rng1 (.nm 1)) b_L_ranks_2) .nil
def b_L_ranks_4 : JB := .cons (.ixS (.nm 3) (.nm 7) (.nm 5)) <| .cons (.ixS (.nm 4) (.nm 7) (.ix (.nm 6) (.nm 7))) .nil
def b_L_ranks_5 : JB := .cons (.asg (.nm 6) (.dnew)) <| .cons (.for (.nm 7) (.rng1 (.callB .len (.cons (.nm 0) (.nil)))) b_L_ranks_3) <| .cons (.forL (.nm 7) (.keys (.nm 6)) b_L_ranks_4) .nil
def b_L_ranks_6 : JB := .cons (.asg (.nm 3) (.bin .Mult (.lst (.cons (.k .non) (.nil))) (.callB .len (.cons (.nm 0) (.nil))))) <| .cons (.asg (.nm 4) (.bin .Mult (.lst (.cons (.k .non) (.nil))) (.callB .len (.cons (.nm 0) (.nil))))) <| .cons (.for (.nm 5) (.rng1 (.callB .len (.cons (.nm 0) (.nil)))) b_L_ranks_5) <| .cons (.ret (.tup (.cons (.nm 3) (.cons (.nm 4) (.nil))))) .nil
def j_L_ranks : JD := ⟨12, 3, b_L_ranks_6⟩
def b_L_settled_0 : JB := .cons (.asg (.nm 9) (.sli (.ix (.nm 0) (.nm 6)) (.some (.bin .Mult (.nm 8) (.nm 2))) (.some (.bin .Add (.bin .Mult (.nm 8) (.nm 2)) (.nm 2))))) <| .cons (.ex (.mth (.nm 7) .append (.cons (.ix (.lc (.nm 10) (.rng1 (.nm 2)) (.some (.and (.cmp .Eq (.ix (.ix (.nm 9) (.nm 10)) (.k (.int 1))) (.k (.int 0))) (.cmp .Is (.ix (.ix (.nm 4) (.k (.int 0))) (.ix (.ix (.nm 9) (.nm 10)) (.k (.int 0)))) (.k .non)))) (.nm 10) [10]) (.k (.int 0))) (.nil)))) .nil
def b_L_settled_1 : JB := .cons (.asg (.nm 7) (.lst (.nil))) <| .cons (.for (.nm 8) (.rng1 (.nm 1)) b_L_settled_0) <| .cons (.ex (.mth (.nm 5) .append (.cons (.tup (.cons (.nm 6) (.cons (.callT .tuple (.cons (.nm 7) (.nil))) (.nil)))) (.nil)))) .nil
def b_L_settled_2 : JB := .cons (.ex (.mth (.nm 5) .append (.cons (.tup (.cons (.nm 6) (.cons (.ix (.ix (.nm 4) (.k (.int 1))) (.nm 6)) (.cons (.ix (.ix (.nm 4) (.k (.int 0))) (.nm 6)) (.nil))))) (.nil)))) .nil
def b_L_settled_3 : JB := .cons (.ife (.and (.cmp .Is (.ix (.ix (.nm 4) (.k (.int 0))) (.nm 3)) (.k .non)) (.cmp .Is (.ix (.ix (.nm 4) (.k (.int 0))) (.nm 6)) (.k .non))) b_L_settled_1 .nil) <| .cons (.ife (.and (.cmp .IsNot (.ix (.ix (.nm 4) (.k (.int 0))) (.nm 3)) (.k .non)) (.cmp .IsNot (.ix (.ix (.nm 4) (.k (.int 0))) (.nm 6)) (.k .non))) b_L_settled_2 .nil) .nil
def b_L_settled_4 : JB := .cons (.ret (.tup (.cons (.k (.str "kept")) (.cons (.callT .tuple (.cons (.nm 5) (.nil))) (.nil))))) .nil
def b_L_settled_5 : JB := .cons (.asg (.nm 4) (.fn i_L_ranks (.cons (.nm 0) (.cons (.nm 1) (.cons (.nm 2) (.nil)))))) <| .cons (.asg (.nm 5) (.lst (.nil))) <| .cons (.for (.nm 6) (.rng1 (.callB .len (.cons (.nm 0) (.nil)))) b_L_settled_3) <| .cons (.ife (.cmp .Is (.ix (.ix (.nm 4) (.k (.int 0))) (.nm 3)) (.k .non)) b_L_settled_4 .nil) <| .cons (.ret (.tup (.cons (.k (.str "lost")) (.cons (.callT .tuple (.cons (.nm 5) (.nil))) (.nil))))) .nil
def j_L_settled : JD := ⟨11, 4, b_L_settled_5⟩
def b_L_asked_0 : JB := .cons (.asg (.nm 3) (.tup (.cons (.k (.str "told")) (.cons (.frz (.mk 33 i_Contest___init [] (.cons (.nm 0) (.cons (.nm 1) (.cons (.nm 2) (.nil)))) (.nil))) (.nil))))) .nil
def b_L_asked_1 : JB := .cons (.asg (.nm 3) (.tup (.cons (.k (.str "size")) (.cons (.exf (.nm 4) "size") (.nil))))) .nil
def b_L_asked_2 : JB := .cons (.asg (.nm 3) (.tup (.cons (.k (.str "control")) (.cons (.exf (.nm 4) "state") (.nil))))) .nil
def b_L_asked_3 : JB := .cons (.asg (.nm 3) (.tup (.cons (.k (.str "feed")) (.cons (.exf (.nm 4) "index") (.nil))))) .nil
def b_L_asked_4 : JB := .cons (.asg (.nm 3) (.tup (.cons (.k (.str "exchange")) (.cons (.exf (.nm 4) "state") (.nil))))) .nil
def b_L_asked_5 : JB := .cons (.asg (.nm 3) (.tup (.cons (.k (.str "other")) (.cons (.k (.int 0)) (.nil))))) <| .cons (.asg (.nm 5) (.bin .Add (.bin .Add (.callT .int (.cons (.callB .isi (.cons (.nm 4) (.cons (.cls 1) (.nil)))) (.nil))) (.callT .int (.cons (.callB .isi (.cons (.nm 4) (.cons (.cls 15) (.nil)))) (.nil)))) (.callT .int (.cons (.callB .isi (.cons (.nm 4) (.cons (.cls 16) (.nil)))) (.nil))))) <| .cons (.asg (.nm 5) (.bin .Add (.bin .Add (.nm 5) (.callT .int (.cons (.callB .isi (.cons (.nm 4) (.cons (.cls 17) (.nil)))) (.nil)))) (.callT .int (.cons (.callB .isi (.cons (.nm 4) (.cons (.tup (.cons (.cls 2) (.cons (.cls 3) (.cons (.cls 4) (.nil))))) (.nil)))) (.nil))))) <| .cons (.asg (.nm 5) (.bin .Add (.nm 5) (.callT .int (.cons (.callB .isi (.cons (.nm 4) (.cons (.tup (.cons (.cls 5) (.cons (.cls 6) (.cons (.cls 7) (.cons (.cls 8) (.cons (.cls 9) (.nil))))))) (.nil)))) (.nil))))) <| .cons (.asg (.nm 5) (.bin .Add (.nm 5) (.callT .int (.cons (.callB .isi (.cons (.nm 4) (.cons (.tup (.cons (.cls 10) (.cons (.cls 11) (.cons (.cls 12) (.cons (.cls 13) (.cons (.cls 14) (.nil))))))) (.nil)))) (.nil))))) <| .cons (.ife (.and (.cmp .Eq (.nm 5) (.k (.int 1))) (.and (.val (.callB .isi (.cons (.nm 4) (.cons (.k (.ty "ValueError")) (.nil))))) (.val (.callB .isi (.cons (.nm 4) (.cons (.cls 1) (.nil))))))) b_L_asked_1 .nil) <| .cons (.ife (.and (.cmp .Eq (.nm 5) (.k (.int 1))) (.and (.val (.callB .isi (.cons (.nm 4) (.cons (.k (.ty "ValueError")) (.nil))))) (.val (.callB .isi (.cons (.nm 4) (.cons (.cls 15) (.nil))))))) b_L_asked_2 .nil) <| .cons (.ife (.and (.cmp .Eq (.nm 5) (.k (.int 1))) (.and (.val (.callB .isi (.cons (.nm 4) (.cons (.k (.ty "ValueError")) (.nil))))) (.val (.callB .isi (.cons (.nm 4) (.cons (.cls 16) (.nil))))))) b_L_asked_3 .nil) <| .cons (.ife (.and (.cmp .Eq (.nm 5) (.k (.int 1))) (.and (.val (.callB .isi (.cons (.nm 4) (.cons (.k (.ty "ValueError")) (.nil))))) (.val (.callB .isi (.cons (.nm 4) (.cons (.cls 17) (.nil))))))) b_L_asked_4 .nil) .nil
def b_L_asked_6 : JB := .cons (.asg (.nm 3) (.tup (.cons (.k (.str "none")) (.cons (.k (.int 0)) (.nil))))) <| .cons (.try b_L_asked_0 0 4 b_L_asked_5) <| .cons (.ret (.nm 3)) .nil
def j_L_asked : JD := ⟨6, 3, b_L_asked_6⟩
def b_L_forced_0 : JB := .cons (.ret (.k (.bl false))) .nil
def b_L_forced_1 : JB := .cons (.asg (.nm 6) (.bin .Add (.nm 6) (.k (.int 1)))) .nil
def b_L_forced_2 : JB := .cons (.ife (.and (.cmp .Eq (.ix (.nm 7) (.k (.int 1))) (.k (.int 0))) (.not (.val (.fn i_L_forced (.cons (.nm 0) (.cons (.nm 1) (.cons (.nm 2) (.cons (.ix (.nm 7) (.k (.int 0))) (.cons (.bin .Sub (.nm 4) (.k (.int 1))) (.nil)))))))))) b_L_forced_1 .nil) .nil
def b_L_forced_3 : JB := .cons (.ret (.k (.bl true))) .nil
def b_L_forced_4 : JB := .cons (.asg (.nm 6) (.k (.int 0))) <| .cons (.for (.nm 7) (.seq (.sli (.ix (.nm 0) (.nm 3)) (.some (.bin .Mult (.nm 5) (.nm 2))) (.some (.bin .Add (.bin .Mult (.nm 5) (.nm 2)) (.nm 2))))) b_L_forced_2) <| .cons (.ife (.cmp .Eq (.nm 6) (.k (.int 0))) b_L_forced_3 .nil) .nil
def b_L_forced_5 : JB := .cons (.ife (.cmp .Eq (.nm 4) (.k (.int 0))) b_L_forced_0 .nil) <| .cons (.for (.nm 5) (.rng1 (.nm 1)) b_L_forced_4) <| .cons (.ret (.k (.bl false))) .nil
def j_L_forced : JD := ⟨8, 5, b_L_forced_5⟩
def b_L_ranks_right_0 : JB := .cons (.ret (.k (.bl false))) .nil
def b_L_ranks_right_1 : JB := .cons (.asg (.nm 6) (.and (.cmp .IsNot (.ix (.nm 0) (.nm 4)) (.k .non)) (.cmp .Lt (.ix (.nm 0) (.nm 4)) (.nm 5)))) <| .cons (.ife (.cmp .NotEq (.nm 6) (.fn i_L_forced (.cons (.nm 1) (.cons (.nm 2) (.cons (.nm 3) (.cons (.nm 4) (.cons (.nm 5) (.nil)))))))) b_L_ranks_right_0 .nil) .nil
def b_L_ranks_right_2 : JB := .cons (.for (.nm 5) (.rng1 (.k (.int 4))) b_L_ranks_right_1) .nil
def b_L_ranks_right_3 : JB := .cons (.for (.nm 4) (.rng1 (.callB .min (.cons (.callB .len (.cons (.nm 1) (.nil))) (.cons (.k (.int 6)) (.nil))))) b_L_ranks_right_2) <| .cons (.ret (.k (.bl true))) .nil
def j_L_ranks_right : JD := ⟨7, 4, b_L_ranks_right_3⟩
def b_L_refusals_0 : JB := .cons (.asg (.nm 6) (.ix (.nm 5) (.k (.int 3)))) .nil
def b_L_refusals_1 : JB := .cons (.ixS (.nm 5) (.k (.int 3)) (.ix (.lst (.cons (.k (.int 1)) (.cons (.k (.int 3)) (.cons (.bin .Add (.k (.int 2)) (.fn i_L_draw (.cons (.nm 0) (.cons (.k (.int 255)) (.nil))))) (.nil))))) (.fn i_L_draw (.cons (.nm 0) (.cons (.k (.int 3)) (.nil)))))) <| .cons (.ife (.cmp .NotEq (.ix (.nm 5) (.k (.int 3))) (.k (.int 2))) b_L_refusals_0 .nil) .nil
def b_L_refusals_2 : JB := .cons (.ixS (.nm 5) (.k (.int 2)) (.bin .Add (.k (.int 1)) (.bin .Mod (.callT .int (.cons (.bin .Add (.fld (.nm 3) 32 "cues") (.fn i_L_draw (.cons (.nm 0) (.cons (.k (.int 15)) (.nil))))) (.nil))) (.k (.int 16))))) .nil
def b_L_refusals_3 : JB := .cons (.ixS (.nm 5) (.nm 7) (.ix (.lst (.cons (.k (.int 0)) (.cons (.k (.int 17)) (.cons (.bin .Sub (.neg (.k (.int 1))) (.fn i_L_draw (.cons (.nm 0) (.cons (.bin .Pow (.k (.int 10)) (.k (.int 6))) (.nil))))) (.cons (.bin .Add (.k (.int 17)) (.fn i_L_draw (.cons (.nm 0) (.cons (.bin .Pow (.k (.int 10)) (.k (.int 6))) (.nil))))) (.nil)))))) (.fn i_L_draw (.cons (.nm 0) (.cons (.k (.int 4)) (.nil)))))) .nil
def b_L_refusals_4 : JB := .cons (.ife (.cmp .Gt (.bin .BitAnd (.nm 4) (.bin .LShift (.k (.int 1)) (.nm 7))) (.k (.int 0))) b_L_refusals_3 .nil) .nil
def b_L_refusals_5 : JB := .cons (.asg (.nm 6) (.ix (.nm 5) (.k (.int 2)))) .nil
def b_L_refusals_6 : JB := .cons (.asg (.nm 6) (.ix (.nm 5) (.nm 7))) .nil
def b_L_refusals_7 : JB := .cons (.ife (.or (.cmp .Lt (.ix (.nm 5) (.nm 7)) (.k (.int 1))) (.cmp .Gt (.ix (.nm 5) (.nm 7)) (.k (.int 16)))) b_L_refusals_6 .nil) .nil
def b_L_refusals_8 : JB := .cons (.ret (.cmp .Eq (.ix (.nm 9) (.k (.int 0))) (.k (.str "told")))) .nil
def b_L_refusals_9 : JB := .cons (.asg (.nm 4) (.bin .Add (.k (.int 1)) (.fn i_L_draw (.cons (.nm 0) (.cons (.k (.int 15)) (.nil)))))) <| .cons (.asg (.nm 5) (.lst (.cons (.nm 1) (.cons (.nm 2) (.cons (.fld (.nm 3) 32 "cues") (.cons (.fld (.nm 3) 32 "replies") (.nil))))))) <| .cons (.asg (.nm 6) (.k .non)) <| .cons (.ife (.cmp .Gt (.bin .BitAnd (.nm 4) (.k (.int 8))) (.k (.int 0))) b_L_refusals_1 .nil) <| .cons (.ife (.cmp .Gt (.bin .BitAnd (.nm 4) (.k (.int 4))) (.k (.int 0))) b_L_refusals_2 .nil) <| .cons (.for (.nm 7) (.seq (.lst (.cons (.k (.int 1)) (.cons (.k (.int 0)) (.nil))))) b_L_refusals_4) <| .cons (.ife (.cmp .NotEq (.ix (.nm 5) (.k (.int 2))) (.bin .Mult (.ix (.nm 5) (.k (.int 0))) (.ix (.nm 5) (.k (.int 1))))) b_L_refusals_5 .nil) <| .cons (.for (.nm 7) (.seq (.lst (.cons (.k (.int 1)) (.cons (.k (.int 0)) (.nil))))) b_L_refusals_7) <| .cons (.asg (.nm 8) (.frz (.mk 32 i_Control___init [.inr (.int 0)] (.cons (.ix (.nm 5) (.k (.int 2))) (.cons (.ix (.nm 5) (.k (.int 3))) (.cons (.frz (.bin .Mult (.lst (.cons (.bin .Mult (.tup (.cons (.tup (.cons (.k (.int 0)) (.cons (.k (.int 0)) (.nil)))) (.nil))) (.ix (.nm 5) (.k (.int 2)))) (.nil))) (.fld (.nm 3) 32 "states"))) (.nil)))) (.nil)))) <| .cons (.asg (.nm 9) (.fn i_L_asked (.cons (.ix (.nm 5) (.k (.int 0))) (.cons (.ix (.nm 5) (.k (.int 1))) (.cons (.nm 8) (.nil)))))) <| .cons (.ife (.cmp .Is (.nm 6) (.k .non)) b_L_refusals_8 .nil) <| .cons (.ret (.fn i_L_same (.cons (.nm 9) (.cons (.tup (.cons (.k (.str "size")) (.cons (.nm 6) (.nil)))) (.nil))))) .nil
def j_L_refusals : JD := ⟨10, 4, b_L_refusals_9⟩
def b_law_0 : JB := .cons (.asg (.nm 4) (.k (.int 64))) .nil
def b_law_1 : JB := .cons (.asg (.nm 4) (.bin .Add (.k (.int 7)) (.fn i_L_draw (.cons (.nm 1) (.cons (.k (.int 24)) (.nil)))))) <| .cons (.ife (.cmp .Eq (.fn i_L_draw (.cons (.nm 1) (.cons (.k (.int 8)) (.nil)))) (.k (.int 7))) b_law_0 .nil) .nil
def b_law_2 : JB := .cons (.asg (.nm 2) (.ix (.lst (.cons (.k (.int 1)) (.cons (.k (.int 16)) (.cons (.k (.int 2)) (.cons (.k (.int 8)) (.nil)))))) (.fn i_L_draw (.cons (.nm 1) (.cons (.k (.int 4)) (.nil)))))) <| .cons (.asg (.nm 3) (.bin .FloorDiv (.k (.int 16)) (.nm 2))) .nil
def b_law_3 : JB := .cons (.ret (.k (.bl false))) .nil
def b_law_4 : JB := .cons (.ret (.k (.bl false))) .nil
def b_law_5 : JB := .cons (.asg (.nm 11) (.fn i_L_draw (.cons (.nm 1) (.cons (.nm 4) (.nil))))) <| .cons (.asg (.nm 12) (.fn i_L_draw (.cons (.nm 1) (.cons (.nm 2) (.nil))))) <| .cons (.asg (.nm 13) (.fn i_L_draw (.cons (.nm 1) (.cons (.nm 3) (.nil))))) <| .cons (.ife (.not (.val (.fn i_L_same (.cons (.own (.nm 9) 33 "outcome" i_Contest_outcome (.cons (.nm 11) (.cons (.nm 12) (.cons (.nm 13) (.nil))))) (.cons (.ix (.ix (.nm 6) (.nm 11)) (.bin .Add (.bin .Mult (.nm 12) (.nm 3)) (.nm 13))) (.nil)))))) b_law_4 .nil) .nil
def b_law_6 : JB := .cons (.ret (.k (.bl false))) .nil
def b_law_7 : JB := .cons (.ret (.k (.bl false))) .nil
def b_law_8 : JB := .cons (.ret (.k (.bl false))) .nil
def b_law_9 : JB := .cons (.ret (.k (.bl false))) .nil
def b_law_10 : JB := .cons (.ret (.k (.bl false))) .nil
def b_law_11 : JB := .cons (.ret (.k (.bl false))) .nil
def b_law_12 : JB := .cons (.asg (.nm 16) (.frz (.mk 33 i_Contest___init [] (.cons (.nm 2) (.cons (.nm 3) (.cons (.own (.nm 8) 32 "started" i_Control_started (.cons (.nm 11) (.nil))) (.nil)))) (.nil)))) <| .cons (.asg (.nm 17) (.fn i_settle (.cons (.nm 16) (.nil)))) <| .cons (.ife (.not (.val (.fn i_L_same (.cons (.nm 17) (.cons (.fn i_L_settled (.cons (.nm 6) (.cons (.nm 2) (.cons (.nm 3) (.cons (.nm 11) (.nil)))))) (.nil)))))) b_law_8 .nil) <| .cons (.asg (.nm 18) (.cmp .Eq (.ix (.nm 17) (.k (.int 0))) (.k (.str "kept")))) <| .cons (.ife (.and (.val (.nm 18)) (.not (.val (.fn i_L_same (.cons (.fn i_shows_kept (.cons (.nm 16) (.cons (.ix (.nm 17) (.k (.int 1))) (.nil)))) (.cons (.k (.bl true)) (.nil))))))) b_law_9 .nil) <| .cons (.ife (.and (.not (.val (.nm 18))) (.not (.val (.fn i_L_same (.cons (.fn i_shows_lost (.cons (.nm 16) (.cons (.ix (.nm 17) (.k (.int 1))) (.nil)))) (.cons (.k (.bl true)) (.nil))))))) b_law_10 .nil) <| .cons (.ife (.not (.val (.fn i_L_same (.cons (.fn i_ranks (.cons (.nm 16) (.nil))) (.cons (.frz (.callT .list (.cons (.nm 14) (.nil)))) (.nil)))))) b_law_11 .nil) .nil
def b_law_13 : JB := .cons (.ret (.k (.bl false))) .nil
def b_law_14 : JB := .cons (.ife (.not (.val (.fn i_L_refusals (.cons (.nm 1) (.cons (.nm 2) (.cons (.nm 3) (.cons (.nm 8) (.nil)))))))) b_law_13 .nil) .nil
def b_law_15 : JB := .cons (.asg (.nm 1) (.fn i_L_pool (.cons (.nm 0) (.cons (.k (.int 0)) (.nil))))) <| .cons (.asg (.nm 2) (.bin .Add (.k (.int 1)) (.fn i_L_draw (.cons (.nm 1) (.cons (.k (.int 4)) (.nil)))))) <| .cons (.asg (.nm 3) (.bin .Add (.k (.int 1)) (.fn i_L_draw (.cons (.nm 1) (.cons (.k (.int 4)) (.nil)))))) <| .cons (.asg (.nm 4) (.bin .Add (.k (.int 1)) (.fn i_L_draw (.cons (.nm 1) (.cons (.k (.int 6)) (.nil)))))) <| .cons (.asg (.nm 5) (.fn i_L_draw (.cons (.nm 1) (.cons (.k (.int 16)) (.nil))))) <| .cons (.ife (.cmp .Eq (.nm 5) (.k (.int 15))) b_law_1 .nil) <| .cons (.ife (.cmp .Eq (.nm 5) (.k (.int 14))) b_law_2 .nil) <| .cons (.asg (.nm 6) (.fn i_L_contest_rows (.cons (.nm 0) (.cons (.k (.int 1)) (.cons (.nm 1) (.cons (.nm 2) (.cons (.nm 3) (.cons (.nm 4) (.nil))))))))) <| .cons (.asg (.nm 7) (.fn i_L_draw (.cons (.nm 1) (.cons (.nm 4) (.nil))))) <| .cons (.asg (.nm 8) (.frz (.mk 32 i_Control___init [.inl 0] (.cons (.bin .Mult (.nm 2) (.nm 3)) (.cons (.k (.int 2)) (.cons (.frz (.callT .list (.cons (.nm 6) (.nil)))) (.nil)))) (.cons (.nm 7) (.nil))))) <| .cons (.asg (.nm 9) (.frz (.mk 33 i_Contest___init [] (.cons (.nm 2) (.cons (.nm 3) (.cons (.nm 8) (.nil)))) (.nil)))) <| .cons (.ife (.or (.not (.val (.fn i_L_same (.cons (.frz (.lst (.cons (.fld (.nm 9) 33 "calls") (.cons (.fld (.nm 9) 33 "answers") (.nil))))) (.cons (.frz (.lst (.cons (.nm 2) (.cons (.nm 3) (.nil))))) (.nil)))))) (.cmp .IsNot (.cmp .Eq (.fld (.nm 9) 33 "control") (.nm 8)) (.k (.bl true)))) b_law_3 .nil) <| .cons (.for (.nm 10) (.rng1 (.k (.int 8))) b_law_5) <| .cons (.asg (.nm 14) (.ix (.fn i_L_ranks (.cons (.nm 6) (.cons (.nm 2) (.cons (.nm 3) (.nil))))) (.k (.int 0)))) <| .cons (.asg (.nm 15) (.fn i_ranks (.cons (.nm 9) (.nil)))) <| .cons (.ife (.not (.val (.fn i_L_same (.cons (.nm 15) (.cons (.frz (.callT .list (.cons (.nm 14) (.nil)))) (.nil)))))) b_law_6 .nil) <| .cons (.ife (.and (.cmp .LtE (.bin .Mult (.nm 2) (.nm 3)) (.k (.int 6))) (.not (.val (.fn i_L_ranks_right (.cons (.nm 14) (.cons (.nm 6) (.cons (.nm 2) (.cons (.nm 3) (.nil))))))))) b_law_7 .nil) <| .cons (.ex (.mth (.nm 15) .append (.cons (.k (.int 0)) (.nil)))) <| .cons (.for (.nm 11) (.seq (.lst (.cons (.nm 7) (.cons (.k (.int 0)) (.cons (.bin .Sub (.nm 4) (.k (.int 1))) (.nil)))))) b_law_12) <| .cons (.for (.nm 10) (.rng1 (.k (.int 3))) b_law_14) <| .cons (.ret (.k (.bl true))) .nil
def j_law : JD := ⟨19, 1, b_law_15⟩
def pres : List Nat := [0, 1, 2, 3, 4, 5, 6, 7, 8, 9, 10, 11, 12, 13, 14, 15, 16, 17, 33, 32]
def eqt : List (Nat × Nat) := [(32, i_Control___eq)]
class CmOk (cm : CM) : Prop where
  ix : ∀ c ∈ pres, cm.cix (cm.cls c) = some c
  eq : ∀ p ∈ eqt, cm.eqf (cm.cls p.1) = some p.2
def tab : Nat → Option JD
  | 0 => some j_Contest___init
  | 1 => some j_Contest_outcome
  | 2 => some j_Contest_outcomes
  | 3 => some j_forces
  | 4 => some j_forcing_call
  | 5 => some j_forced_calls
  | 6 => some j_ranked_calls
  | 7 => some j_ranks
  | 8 => some j_safe_answer
  | 9 => some j_settle
  | 10 => some j_has_right_states
  | 11 => some j_are_answers
  | 12 => some j_keeps
  | 13 => some j_shows_kept
  | 14 => some j_forces_down
  | 15 => some j_shows_lost
  | 16 => some j_is_entry
  | 17 => some j_Control___init
  | 19 => some j_Control___eq
  | 20 => some j_Control_entry
  | 22 => some j_Control_started
  | 24 => some j_L_pool
  | 25 => some j_L_draw
  | 26 => some j_L_same
  | 27 => some j_L_contest_rows
  | 28 => some j_L_ranks
  | 29 => some j_L_settled
  | 30 => some j_L_asked
  | 31 => some j_L_forced
  | 32 => some j_L_ranks_right
  | 33 => some j_L_refusals
  | 34 => some j_law
  | _ => none
end Y
set_option Elab.async false
set_option linter.all false
set_option maxRecDepth 100000
set_option maxHeartbeats 2000000
set_option autoImplicit false
set_option pp.maxSteps 500
set_option pp.deepTerms false
set_option pp.proofs false
namespace Y
open PySem PySem.Spec PyProof.Rows L2
local macro_rules | `(tactic| walk_at "w") => `(tactic| conv => whnf)
local macro_rules | `(tactic| walk_at "s") => `(tactic| ((first | refine bk_step ?_ | refine bk_end ?_); conv => whnf))
local macro_rules | `(tactic| walk_at "c") => `(tactic| ((first | refine if_t rfl ?_ | refine if_f rfl ?_); conv => whnf))
local macro_rules | `(tactic| walk_at "a") => `(tactic| ((refine and_i ?h0 ?_); (case h0 => first | exact rfl | exact szl rfl | exact lt1000 rfl | exact Nat.succ_le_succ (Nat.zero_le _) | exact Nat.le_add_left _ _ | assumption | omega | decide | (refine Or.inl ⟨?_, ?_⟩ <;> omega) | (refine Or.inr ⟨?_, ?_⟩ <;> omega) | (refine ⟨?_, ?_⟩ <;> omega) | (refine ⟨?_, ?_, ?_⟩ <;> omega)); (conv => whnf)))
local macro_rules | `(tactic| walk_at "run") => `(tactic| repeat (first | walk_at "s" | walk_at "c" | walk_at "a"))
local macro_rules | `(tactic| walk_at "ca") => `(tactic| repeat (first | walk_at "c" | walk_at "a"))
local macro_rules | `(tactic| walk_at "n") => `(tactic| (walk_at "s"; walk_at "ca"))
local macro_rules | `(tactic| walk_at "v") => `(tactic| (walk_at "w"; walk_at "ca"))
local macro_rules | `(tactic| walk_at "o") => `(tactic| ((first | refine if_T (by omega) ?_ | refine if_F (by omega) ?_ | refine if_nT (by omega) ?_ | refine if_nF (by omega) ?_); (conv => whnf)))
local macro_rules | `(tactic| walk_at "cao") => `(tactic| repeat (first | walk_at "c" | walk_at "a" | walk_at "o"))
local macro_rules | `(tactic| walk_at "go") => `(tactic| repeat (first | walk_at "s" | walk_at "c" | walk_at "a" | walk_at "o"))
abbrev poolO (a b c d : Int) : O := .lst [.int a, .int b, .int c, .int d]
theorem ret_d {k : Nat} {Q : QA} {d : D} {η η' : Hs} (hk : keepH (List.range k) η (List.range k) = some η') (q : Q (.d d) η') : GcR k Q (.d d) η := ⟨List.range k, _, _, ndN_of List.nodup_range, pre_self, hk, rfl, q⟩
theorem map_snoc {α : Type} {f : α → D} {l : List α} {y : α} : l.map f ++ [f y] = (l ++ [y]).map f := by rw [List.map_append]; rfl
/-- append to a list told as a map -/
theorem ap_m {α : Type} {f : α → D} {l : List α} {x : D} {η : Hs} {k : Nat} {R : Hs → Prop} (y : α) (hx : x = f y) (hl : l.length < 16777216) (h : ob (wrH η k (some (.lst ((l ++ [y]).map f)))) R) : lenO (.lst (l.map f)) < sizeLine ∧ ob (wrH η k (some (.lst (l.map f ++ [x])))) R := by
  subst hx
  rw [map_snoc]
  refine ⟨?_, h⟩
  show (l.map f).length < _
  rw [List.length_map, sizeLine_eq]
  exact hl
/-- [y] * n -/
theorem rep_m {α : Type} {f : α → D} (y : α) {d : D} (hd : d = f y) {n : Nat} {j : Int} (hj : j = n) {η : Hs} {Q : QA} (hn : n ≤ 16777216) (q : Q (.h η.length) (η ++ [some (.lst ((List.replicate n y).map f))])) : (List.map A.d [d]).length * j.toNat ≤ sizeLine ∧ jPush η (mkL (List.replicate j.toNat (List.map A.d [d])).flatten) Q := by
  subst hd hj
  rw [Int.toNat_natCast]
  refine ⟨by rw [sizeLine_eq]; simpa using hn, ?_⟩
  show jPush η (mkL (List.replicate n [A.d (f y)]).flatten) Q
  rw [mkL_repM]
  exact q
/-- xs[n] = v in a list told as a map -/
theorem set_m {α : Type} {f : α → D} {l : List α} {i : Int} {x : D} {R : O → Prop} (n : Nat) (y : α) (hi : i = n) (hx : x = f y) (hl : n < l.length) (h : R (.lst ((l.set n y).map f))) : ob (setO (.lst (l.map f)) i (.d x)) R := by
  subst hi hx
  exact ob_i _ (setO_map hl) h
theorem draw_j {cm : CM} {k : Nat} {a b c d many : Int} {Q : QA} {E : XA → Prop} (h0 : 0 < many) (h1 : many.natAbs.log2 < 9000) (q : ∀ r a b c d, 0 ≤ r → r < many → Q (I r) [some (poolO a b c d)]) : jFn cm tab (k + 1) i_L_draw [.h 0, I many] [some (poolO a b c d)] Q E := by
  refine jFn_i (d := j_L_draw) rfl (jdef_i _ rfl rfl ?_)
  walk_at "s"
  walk_at "s"
  refine if_i (fun h2 => ?_) (fun h2 => ?_)
  · walk_at "run"
    exact ⟨[0], _, _, rfl, rfl, rfl, rfl, q 0 _ _ _ _ (Int.le_refl _) h0⟩
  walk_at "s"
  refine bk_step (s_ifv (decide (a = 1) && (decide (d + 1 ≤ 60) && decide (0 < b))) (fun K hK => ?_) (if_b (fun h => ?_) (fun _ => ?_)))
  · walk_at "w"
    refine if_i (fun h1 => ?_) (fun h1 => leaf hK (by simp [h1]))
    walk_at "w"
    refine if_i (fun h2 => ?_) (fun h2 => leaf hK (by simp [h2]))
    walk_at "w"
    exact leaf hK (by simp [h1, h2])
  · walk_at "run"
    exact ⟨[0], _, _, rfl, rfl, rfl, rfl, q _ _ _ _ _ (Int.emod_nonneg _ (by omega)) (Int.emod_lt_of_pos _ h0)⟩
  · walk_at "run"
    exact ⟨[0], _, _, rfl, rfl, rfl, rfl, q _ _ _ _ _ (Int.emod_nonneg _ (by omega)) (Int.emod_lt_of_pos _ h0)⟩
theorem pool_j {cm : CM} {k : Nat} {ns : List Int} {p : Int} {Q : QA} {E : XA → Prop} (h0 : 0 ≤ p) (q : ∀ a b c d, Q (.h 0) [some (poolO a b c d)]) : jFn cm tab (k + 1) i_L_pool [.d (.lst (dI ns)), I p] [] Q E := by
  refine jFn_i (d := j_L_pool) rfl (jdef_i _ rfl rfl ?_)
  walk_at "s"
  refine .inl ⟨_, rfl, fun _ => ?_⟩
  refine if_i (fun h => ?_) (fun h => ?_)
  · walk_at "run"
    exact ⟨[0], _, _, rfl, rfl, rfl, rfl, q _ _ _ _⟩
  walk_at "run"
  refine .inl ⟨_, rfl, fun _ => ?_⟩
  walk_at "w"
  rw [dI_len] at *
  walk_at "a"
  refine ob_i _ (dI_ix (Int.emod_nonneg _ (by omega)) (Int.emod_lt_of_pos _ (by omega))) ?_
  walk_at "w"
  refine bk_step (s_ifv (decide (p < ns.length) && decide (10 ^ 18 ≤ (if ns.getD (p % ↑ns.length).toNat 0 < 0 then -ns.getD (p % ↑ns.length).toNat 0 else ns.getD (p % ↑ns.length).toNat 0))) (fun K hK => ?_) (if_b (fun h => ?_) (fun _ => ?_)))
  · walk_at "w"
    refine .inl ⟨_, rfl, fun _ => ?_⟩
    rw [dI_len]
    refine if_i (fun h1 => ?_) (fun h1 => leaf hK (by simp [h1]))
    walk_at "run"
    exact leaf hK (by simp [h1])
  · walk_at "run"
    exact ⟨[0], _, _, rfl, rfl, rfl, rfl, q _ _ _ _⟩
  · walk_at "run"
    exact ⟨[0], _, _, rfl, rfl, rfl, rfl, q _ _ _ _⟩
theorem sameDs_pre {xs ys : List D} (h : sameDs xs ys = true) (i : Nat) {x y : D} (hx : xs[i]? = some x) (hy : ys[i]? = some y) : sameD x y = true := by
  induction xs generalizing ys i with
  | nil => simp at hx
  | cons a xs ih =>
    cases ys with
    | nil => simp at hy
    | cons b ys =>
      unfold sameDs at h
      rw [Bool.and_eq_true] at h
      cases i with
      | zero =>
        have e1 : a = x := by simpa using hx
        have e2 : b = y := by simpa using hy
        subst e1 e2
        exact h.1
      | succ i => exact ih h.2 i (by simpa using hx) (by simpa using hy)
/-- what _law_same is asked about two data, the first perhaps through a handle -/
def SameP (cm : CM) (k : Nat) (td dd : D) : Prop := ∀ (Q : QA) (E : XA → Prop), Q (B (sameD td dd)) [] → jFn cm tab k i_L_same [.d td, .d dd] [] Q E
def SameH (cm : CM) (k : Nat) (xs : List D) (dd : D) : Prop := ∀ (Q : QA) (E : XA → Prop), Q (B (sameD (.lst xs) dd)) [some (.lst xs)] → jFn cm tab k i_L_same [.h 0, .d dd] [some (.lst xs)] Q E
theorem same_go {cm : CM} {k n m : Nat} {a : A} {η : Hs} {td dd : D} {xs ys : List D} {Q : QA} {EE : EX} (ih : ∀ td dd, okD m td = true → okD n dd = true → SameP cm k td dd) (hh : η = [] ∧ a = .d td ∨ η = [some (.lst xs)] ∧ a = .h 0 ∧ td = .lst xs) (hs1 : seqD td = some xs) (hs2 : seqD dd = some ys) (ok1 : okDs m xs = true) (ok2 : okDs n ys = true) (hq : Q (B (sameDs xs ys)) η) :
    Bk (wB ((jAt cm tab k).at η.length) EE (.cons (.ife (.cmp .NotEq (.callB .len (.cons (.nm 0) .nil)) (.callB .len (.cons (.nm 1) .nil))) b_L_same_11 .nil) (.cons (.for (.nm 3) (.rng1 (.callB .len (.cons (.nm 1) .nil))) b_L_same_13) (.cons (.ret (.k (.bl true))) .nil))) [some a, some (.d dd), none, none] η (fun _ η' => GcR η.length Q (.d .non) η') (GcR η.length Q) noSH noSH) := by
  have l1 : lenA η a = some xs.length := by
    rcases hh with ⟨rfl, rfl⟩ | ⟨rfl, rfl, rfl⟩
    · cases td <;> cases hs1 <;> rfl
    · cases hs1; rfl
  have l2 : lenA η (.d dd) = some ys.length := by cases dd <;> cases hs2 <;> rfl
  have hk : keepH (List.range η.length) η (List.range η.length) = some η := by
    rcases hh with ⟨rfl, _⟩ | ⟨rfl, _⟩ <;> rfl
  have fin : ∀ b, b = sameDs xs ys → GcR η.length Q (B b) η := fun b e => ret_d hk (by rw [e]; exact hq)
  walk_at "s"
  refine .inl ⟨_, l1, fun b1 => ?_⟩
  walk_at "w"
  refine .inl ⟨_, l2, fun b2 => ?_⟩
  walk_at "w"
  refine if_n (fun hne => ?_) (fun hne => ?_)
  · walk_at "s"
    refine fin false ?_
    cases e : sameDs xs ys with
    | false => rfl
    | true => exact absurd (by rw [sameDs_len e]) hne
  have hne : xs.length = ys.length := by omega
  walk_at "s"
  refine bk_step ?_
  walk_at "w"
  refine .inl ⟨_, l2, fun _ => ?_⟩
  walk_at "w"
  rw [sizeLine_eq] at b1 b2
  refine and_i ⟨by omega, by omega⟩ (for_r ys.length rfl (fun i δ' η' => η' = η ∧ ∃ v, δ' = [some a, some (.d dd), none, v] ∧ sameDs (xs.take i) (ys.take i) = true) ⟨rfl, _, rfl, rfl⟩ ?_ ?_)
  · rintro i δ' η' hi ⟨rfl, v, rfl, hsd⟩
    have hix : i < xs.length := by omega
    have gx := List.getElem?_eq_getElem hix
    have gy := List.getElem?_eq_getElem hi
    have ox := okDs_get ok1 gx
    have oy := okDs_get ok2 gy
    generalize xs[i] = x1 at gx ox
    generalize ys[i] = y1 at gy oy
    walk_at "w"
    refine bk_step (s_ifv (!sameD x1 y1) (fun K hK => ?_) ?_)
    · have e1 : ∀ (J : Jx) (P : QA), P (.d x1) η' → jIx J η' P a (I (i : Nat)) := by
        intro J P p
        rcases hh with ⟨rfl, rfl⟩ | ⟨rfl, rfl, rfl⟩
        · cases td <;> cases hs1 <;> exact ob_i _ (ixs_nat gx) p
        · cases hs1; exact ob_i _ (ixs_nat gx) p
      have e2 : ∀ (J : Jx) (P : QA), P (.d y1) η' → jIx J η' P (.d dd) (I (i : Nat)) := by
        intro J P p
        cases dd <;> cases hs2 <;> exact ob_i _ (ixs_nat gy) p
      simp only [wC, wE, wL, ob_some, sget]
      refine ⟨rfl, ?_⟩
      refine e1 _ _ ?_
      refine e2 _ _ ?_
      refine jCall_i [] rfl (ih x1 y1 ox oy _ _ ⟨_, _, backS_nil, ?_⟩)
      exact hK
    · have st := sameDs_take i gx gy
      cases e : sameD x1 y1 with
      | true =>
        refine if_f rfl ?_
        walk_at "s"
        rw [e, hsd] at st
        exact bk_end ⟨rfl, _, rfl, st⟩
      | false =>
        refine if_t rfl ?_
        walk_at "s"
        refine fin false ?_
        cases e2 : sameDs xs ys with
        | false => rfl
        | true => exact absurd (sameDs_pre e2 i gx gy) (by rw [e]; decide)
  · rintro δ' η' ⟨rfl, v, rfl, hsd⟩
    walk_at "s"
    refine fin true ?_
    rw [List.take_of_length_le (by omega), List.take_of_length_le (by omega)] at hsd
    exact hsd.symm

/-- whatever the first is -/
theorem same_body {cm : CM} {k n m : Nat} {a : A} {η : Hs} {td dd : D} {Q : QA} {EE : EX} (ih : ∀ td dd m' n', n = n' + 1 → okD m' td = true → okD n' dd = true → SameP cm k td dd) (hh : η = [] ∧ a = .d td ∨ ∃ xs, η = [some (.lst xs)] ∧ a = .h 0 ∧ td = .lst xs) (ok1 : okD m td = true) (ok2 : okD n dd = true) (hq : Q (B (sameD td dd)) η) :
    Bk (wB ((jAt cm tab k).at η.length) EE b_L_same_14 [some a, some (.d dd), none, none] η (fun _ η' => GcR η.length Q (.d .non) η') (GcR η.length Q) noSH noSH) := by
  have hk : keepH (List.range η.length) η (List.range η.length) = some η := by
    rcases hh with ⟨rfl, _⟩ | ⟨xs, rfl, _⟩ <;> rfl
  have fin : ∀ b, b = sameD td dd → GcR η.length Q (B b) η := fun b e => ret_d hk (by rw [e]; exact hq)
  have seq : ∀ xs ys, seqD td = some xs → seqD dd = some ys → sameD td dd = sameDs xs ys → Bk (wB ((jAt cm tab k).at η.length) EE (.cons (.ife (.cmp .NotEq (.callB .len (.cons (.nm 0) .nil)) (.callB .len (.cons (.nm 1) .nil))) b_L_same_11 .nil) (.cons (.for (.nm 3) (.rng1 (.callB .len (.cons (.nm 1) .nil))) b_L_same_13) (.cons (.ret (.k (.bl true))) .nil))) [some a, some (.d dd), none, none] η (fun _ η' => GcR η.length Q (.d .non) η') (GcR η.length Q) noSH noSH) := by
    intro xs ys h1 h2 e
    obtain ⟨km, em, o1⟩ := okD_seq ok1 h1
    obtain ⟨kn, en, o2⟩ := okD_seq ok2 h2
    refine same_go (m := km) (n := kn) (fun td dd q1 q2 => ih td dd km kn en q1 q2) ?_ h1 h2 o1 o2 (by rw [← e]; exact hq)
    rcases hh with h | ⟨zs, h3, h4, rfl⟩
    · exact .inl h
    · cases h1
      exact .inr ⟨h3, h4, rfl⟩
  cases dd with
  | non =>
    walk_at "run"
    refine fin _ ?_
    rcases hh with ⟨rfl, rfl⟩ | ⟨xs, rfl, rfl, rfl⟩
    · cases td <;> rfl
    · rfl
  | bl c =>
    cases c <;> walk_at "run" <;> refine fin _ ?_ <;> rcases hh with ⟨rfl, rfl⟩ | ⟨xs, rfl, rfl, rfl⟩
    · cases td <;> rfl
    · rfl
    · cases td <;> rfl
    · rfl
  | int c =>
    rcases hh with ⟨rfl, rfl⟩ | ⟨xs, rfl, rfl, rfl⟩
    · cases td with
      | int d =>
        walk_at "run"
        refine fin _ ?_
        show decide (d = c) = (d == c)
        simp [BEq.beq]
      | ref d => cases m <;> simp [okD] at ok1
      | ty d => cases m <;> simp [okD] at ok1
      | ins d => cases m <;> simp [okD] at ok1
      | exc d => cases m <;> simp [okD] at ok1
      | _ =>
        walk_at "run"
        exact fin _ rfl
    · walk_at "run"
      exact fin _ rfl
  | str c =>
    rcases hh with ⟨rfl, rfl⟩ | ⟨xs, rfl, rfl, rfl⟩
    · cases td with
      | str d =>
        walk_at "run"
        refine fin _ ?_
        show decide (d = c) = (d == c)
        by_cases h : d = c <;> simp [h]
      | ref d => cases m <;> simp [okD] at ok1
      | ty d => cases m <;> simp [okD] at ok1
      | ins d => cases m <;> simp [okD] at ok1
      | exc d => cases m <;> simp [okD] at ok1
      | _ =>
        walk_at "run"
        exact fin _ rfl
    · walk_at "run"
      exact fin _ rfl
  | lst ys =>
    rcases hh with ⟨rfl, rfl⟩ | ⟨xs, rfl, rfl, rfl⟩
    · cases td with
      | lst xs =>
        iterate 8 (walk_at "s"; repeat walk_at "c"; try (refine bk_end ?_; walk_at "w"))
        exact seq xs ys rfl rfl rfl
      | ref d => cases m <;> simp [okD] at ok1
      | ty d => cases m <;> simp [okD] at ok1
      | ins d => cases m <;> simp [okD] at ok1
      | exc d => cases m <;> simp [okD] at ok1
      | _ =>
        walk_at "run"
        exact fin _ rfl
    · iterate 8 (walk_at "s"; repeat walk_at "c"; try (refine bk_end ?_; walk_at "w"))
      exact seq xs ys rfl rfl rfl
  | tup ys =>
    rcases hh with ⟨rfl, rfl⟩ | ⟨xs, rfl, rfl, rfl⟩
    · cases td with
      | tup xs =>
        iterate 8 (walk_at "s"; repeat walk_at "c"; try (refine bk_end ?_; walk_at "w"))
        exact seq xs ys rfl rfl rfl
      | ref d => cases m <;> simp [okD] at ok1
      | ty d => cases m <;> simp [okD] at ok1
      | ins d => cases m <;> simp [okD] at ok1
      | exc d => cases m <;> simp [okD] at ok1
      | _ =>
        walk_at "run"
        exact fin _ rfl
    · walk_at "run"
      exact fin _ rfl
  | ref d => cases n <;> simp [okD] at ok2
  | ty d => cases n <;> simp [okD] at ok2
  | ins d => cases n <;> simp [okD] at ok2
  | exc d => cases n <;> simp [okD] at ok2

theorem same_j {cm : CM} : ∀ (n k m : Nat) {td dd : D}, okD m td = true → okD n dd = true → SameP cm (k + n + 1) td dd
  | n, k, m, td, dd, h1, h2 => fun Q E hq => jFn_i (d := j_L_same) rfl (jdef_i _ rfl rfl (same_body (fun td dd m' n' e q1 q2 => by
    subst e
    exact same_j n' k m' q1 q2) (.inl ⟨rfl, rfl⟩) h1 h2 hq))
theorem same_h {cm : CM} (n k m : Nat) {xs : List D} {dd : D} (h1 : okD m (.lst xs) = true) (h2 : okD n dd = true) : SameH cm (k + n + 1) xs dd := fun Q E hq => jFn_i (d := j_L_same) rfl (jdef_i _ rfl rfl (same_body (fun td dd m' n' e q1 q2 => by
    subst e
    exact same_j n' k m' q1 q2) (.inr ⟨xs, rfl, rfl, rfl⟩) h1 h2 hq))
end Y
set_option Elab.async false
set_option linter.all false
set_option maxRecDepth 100000
set_option maxHeartbeats 2000000
set_option autoImplicit false
set_option pp.maxSteps 500
set_option pp.deepTerms false
set_option pp.proofs false
namespace Y
open PySem PySem.Spec PyProof.Rows L2
local macro_rules | `(tactic| walk_at "w") => `(tactic| conv => whnf)
local macro_rules | `(tactic| walk_at "s") => `(tactic| ((first | refine bk_step ?_ | refine bk_end ?_); conv => whnf))
local macro_rules | `(tactic| walk_at "c") => `(tactic| ((first | refine if_t rfl ?_ | refine if_f rfl ?_); conv => whnf))
local macro_rules | `(tactic| walk_at "a") => `(tactic| ((refine and_i ?h0 ?_); (case h0 => first | exact rfl | exact szl rfl | exact lt1000 rfl | exact Nat.succ_le_succ (Nat.zero_le _) | exact Nat.le_add_left _ _ | assumption | omega | decide | (refine Or.inl ⟨?_, ?_⟩ <;> omega) | (refine Or.inr ⟨?_, ?_⟩ <;> omega) | (refine ⟨?_, ?_⟩ <;> omega) | (refine ⟨?_, ?_, ?_⟩ <;> omega)); (conv => whnf)))
local macro_rules | `(tactic| walk_at "run") => `(tactic| repeat (first | walk_at "s" | walk_at "c" | walk_at "a"))
local macro_rules | `(tactic| walk_at "ca") => `(tactic| repeat (first | walk_at "c" | walk_at "a"))
local macro_rules | `(tactic| walk_at "n") => `(tactic| (walk_at "s"; walk_at "ca"))
local macro_rules | `(tactic| walk_at "v") => `(tactic| (walk_at "w"; walk_at "ca"))
local macro_rules | `(tactic| walk_at "o") => `(tactic| ((first | refine if_T (by omega) ?_ | refine if_F (by omega) ?_ | refine if_nT (by omega) ?_ | refine if_nF (by omega) ?_); (conv => whnf)))
local macro_rules | `(tactic| walk_at "cao") => `(tactic| repeat (first | walk_at "c" | walk_at "a" | walk_at "o"))
local macro_rules | `(tactic| walk_at "go") => `(tactic| repeat (first | walk_at "s" | walk_at "c" | walk_at "a" | walk_at "o"))
/-- an entry (next, reply) -/
def pairD (p : Int × Int) : D := .tup [.int p.1, .int p.2]
def rowD (r : List (Int × Int)) : D := .tup (r.map pairD)
/-- rows of a control with c cues, two replies -/
def rowOk (c states : Nat) (r : List (Int × Int)) : Prop := r.length = c ∧ ∀ p ∈ r, 0 ≤ p.1 ∧ p.1 < states ∧ 0 ≤ p.2 ∧ p.2 < 2
def rowsOk (c states n : Nat) (rows : List (List (Int × Int))) : Prop := rows.length = n ∧ ∀ r ∈ rows, rowOk c states r
theorem rowOk_add {j states : Nat} {r : List (Int × Int)} {p : Int × Int} (h : rowOk j states r) (h1 : 0 ≤ p.1) (h2 : p.1 < states) (h3 : 0 ≤ p.2 ∧ p.2 < 2) : rowOk (j + 1) states (r ++ [p]) := by
  refine ⟨by rw [List.length_append, h.1]; rfl, fun q hq => ?_⟩
  rcases List.mem_append.mp hq with z | z
  · exact h.2 q z
  · obtain rfl := List.mem_singleton.mp z
    exact ⟨h1, h2, h3.1, h3.2⟩
theorem rowsOk_add {c j states : Nat} {rows : List (List (Int × Int))} {r : List (Int × Int)} (h : rowsOk c states j rows) (h1 : rowOk c states r) : rowsOk c states (j + 1) (rows ++ [r]) := by
  refine ⟨by rw [List.length_append, h.1]; rfl, fun q hq => ?_⟩
  rcases List.mem_append.mp hq with z | z
  · exact h.2 q z
  · obtain rfl := List.mem_singleton.mp z
    exact h1
/-! ### the ranks, in plain words -/
abbrev Rows := List (List (Int × Int))
def tD : Option Nat → D
  | none => .non
  | some k => .int k
def isFree (t : List (Option Nat)) (o : Int × Int) : Bool := decide (o.2 = 0) && (t.getD o.1.toNat none).isNone
def outsOf (rows : Rows) (an s call : Nat) : List (Int × Int) := ((rows.getD s []).drop (call * an)).take an
def wins (rows : Rows) (an : Nat) (t : List (Option Nat)) (s call : Nat) : Bool := (outsOf rows an s call).all fun o => !isFree t o
def bestC (rows : Rows) (ca an : Nat) (t : List (Option Nat)) (s : Nat) : Option Nat := (List.range ca).find? (wins rows an t s)
def foundN (rows : Rows) (ca an : Nat) (t : List (Option Nat)) (n : Nat) : List (Nat × Nat) := (List.range n).filterMap fun s => if (t.getD s none).isSome then none else (bestC rows ca an t s).map fun c => (s, c)
def putN (k : Nat) (tb : List (Option Nat) × List (Option Nat)) (l : List (Nat × Nat)) : List (Option Nat) × List (Option Nat) := l.foldl (fun tb p => (tb.1.set p.1 (some k), tb.2.set p.1 (some p.2))) tb
def rnd (rows : Rows) (ca an : Nat) (tb : List (Option Nat) × List (Option Nat)) (k : Nat) : List (Option Nat) × List (Option Nat) := putN k tb (foundN rows ca an tb.1 rows.length)
def rksN (rows : Rows) (ca an n : Nat) : List (Option Nat) × List (Option Nat) := (List.range n).foldl (rnd rows ca an) (List.replicate rows.length none, List.replicate rows.length none)
def rks (rows : Rows) (ca an : Nat) := rksN rows ca an rows.length
theorem putN_len {k : Nat} : ∀ {l : List (Nat × Nat)} {tb : List (Option Nat) × List (Option Nat)}, (putN k tb l).1.length = tb.1.length ∧ (putN k tb l).2.length = tb.2.length
  | [], tb => ⟨rfl, rfl⟩
  | p :: l, tb => by
    have := putN_len (k := k) (l := l) (tb := (tb.1.set p.1 (some k), tb.2.set p.1 (some p.2)))
    rw [List.length_set, List.length_set] at this
    exact this
theorem rksN_len {rows : Rows} {ca an : Nat} : ∀ n, (rksN rows ca an n).1.length = rows.length ∧ (rksN rows ca an n).2.length = rows.length
  | 0 => by unfold rksN; simp
  | n + 1 => by
    have ih := rksN_len (rows := rows) (ca := ca) (an := an) n
    unfold rksN at ih ⊢
    rw [List.range_succ, List.foldl_append]
    exact ⟨(putN_len).1.trans ih.1, (putN_len).2.trans ih.2⟩
def kvD (l : List (Nat × Nat)) : List (Key × D) := l.map fun p => (.inl (p.1 : Int), .int p.2)
theorem getK_kv {l : List (Nat × Nat)} {s : Nat} (h : ∀ p ∈ l, p.1 ≠ s) : getK (kvD l) (.inl (s : Int)) = none := by
  unfold getK kvD
  rw [List.find?_map, Option.map_map, Option.map_eq_none_iff, List.find?_eq_none]
  intro p hp z
  have := of_decide_eq_true z
  have : (p.1 : Int) = s := by injection this
  exact h p hp (by omega)
theorem setK_kv {l : List (Nat × Nat)} {s c : Nat} (h : ∀ p ∈ l, p.1 ≠ s) : setK (kvD l) (.inl (s : Int)) (.int c) = kvD (l ++ [(s, c)]) := by
  unfold setK
  rw [if_neg]
  · unfold kvD
    rw [List.map_append]
    rfl
  · intro z
    obtain ⟨kv, h1, h2⟩ := List.any_eq_true.mp z
    unfold kvD at h1
    obtain ⟨p, hp, rfl⟩ := List.mem_map.mp h1
    have := of_decide_eq_true h2
    have : (p.1 : Int) = s := by injection this
    exact h p hp (by omega)
theorem foundN_lt {rows : Rows} {ca an : Nat} {t : List (Option Nat)} {n : Nat} : ∀ p ∈ foundN rows ca an t n, p.1 < n := by
  intro p hp
  unfold foundN at hp
  obtain ⟨s, hs, e⟩ := List.mem_filterMap.mp hp
  have hs := List.mem_range.mp hs
  split at e
  · cases e
  · obtain ⟨c, _, rfl⟩ := Option.map_eq_some_iff.mp e
    exact hs
/-- what is found at s up to call c -/
def atC (rows : Rows) (an : Nat) (t : List (Option Nat)) (s c : Nat) : List (Nat × Nat) := match (List.range c).find? (wins rows an t s) with
  | some k => [(s, k)]
  | none => []
theorem foundN_succ {rows : Rows} {ca an : Nat} {t : List (Option Nat)} {n : Nat} : foundN rows ca an t (n + 1) = foundN rows ca an t n ++ if (t.getD n none).isSome then [] else atC rows an t n ca := by
  unfold foundN
  rw [List.range_succ, List.filterMap_append]
  congr 1
  unfold atC bestC
  rw [List.filterMap_cons, List.filterMap_nil]
  by_cases h : (t.getD n none).isSome = true
  · rw [if_pos h, if_pos h]
  · rw [if_neg h, if_neg h]
    cases (List.range ca).find? (wins rows an t n) <;> rfl
theorem atC_succ {rows : Rows} {an : Nat} {t : List (Option Nat)} {s c : Nat} : atC rows an t s (c + 1) = if atC rows an t s c = [] ∧ wins rows an t s c = true then [(s, c)] else atC rows an t s c := by
  unfold atC
  rw [List.range_succ, List.find?_append]
  cases h : (List.range c).find? (wins rows an t s) with
  | some k => simp
  | none =>
    cases e : wins rows an t s c <;> simp [e, List.find?]
theorem getK_kvS {l : List (Nat × Nat)} {s : Nat} (h : ∃ p ∈ l, p.1 = s) : (getK (kvD l) (.inl (s : Int))).isSome = true := by
  obtain ⟨p, hp, rfl⟩ := h
  unfold getK
  rw [Option.isSome_map]
  rw [List.find?_isSome]
  exact ⟨(.inl (p.1 : Int), .int p.2), List.mem_map.mpr ⟨p, hp, rfl⟩, decide_eq_true rfl⟩
theorem atC_mem {rows : Rows} {an : Nat} {t : List (Option Nat)} {s c : Nat} (h : atC rows an t s c ≠ []) : ∃ p ∈ atC rows an t s c, p.1 = s := by
  unfold atC at h ⊢
  cases e : (List.range c).find? (wins rows an t s) with
  | none => rw [e] at h; exact absurd rfl h
  | some k => exact ⟨(s, k), by simp, rfl⟩
theorem foundN_len {rows : Rows} {ca an : Nat} {t : List (Option Nat)} {n : Nat} : (foundN rows ca an t n).length ≤ n := by
  unfold foundN
  exact Nat.le_trans (List.length_filterMap_le _ _) (by rw [List.length_range]; exact Nat.le_refl _)
theorem rksN_succ {rows : Rows} {ca an : Nat} (k : Nat) : rksN rows ca an (k + 1) = putN k (rksN rows ca an k) (foundN rows ca an (rksN rows ca an k).1 rows.length) := by
  unfold rksN
  rw [List.range_succ, List.foldl_append]
  rfl
def AscL (l : List (Nat × Nat)) : Prop := l.Pairwise fun p q => p.1 < q.1
theorem foundN_asc {rows : Rows} {ca an : Nat} {t : List (Option Nat)} : ∀ n, AscL (foundN rows ca an t n)
  | 0 => List.Pairwise.nil
  | n + 1 => by
    unfold AscL
    rw [foundN_succ, List.pairwise_append]
    refine ⟨foundN_asc n, ?_, fun p hp q hq => ?_⟩
    · split
      · exact List.Pairwise.nil
      · unfold atC
        split
        · exact List.pairwise_singleton _ _
        · exact List.Pairwise.nil
    · have := foundN_lt p hp
      split at hq
      · cases hq
      · unfold atC at hq
        split at hq
        · obtain rfl := List.mem_singleton.mp hq
          exact this
        · cases hq
theorem getK_asc : ∀ {l : List (Nat × Nat)} {i : Nat} {p : Nat × Nat}, AscL l → l[i]? = some p → getK (kvD l) (.inl (p.1 : Int)) = some (.int p.2)
  | [], i, p, _, h => by simp at h
  | q :: l, 0, p, _, h => by
    have : q = p := by simpa using h
    subst this
    unfold getK kvD
    rw [List.map_cons, List.find?_cons_of_pos (by simp)]
    rfl
  | q :: l, i + 1, p, ha, h => by
    have ha := List.pairwise_cons.mp ha
    have hp := List.mem_of_getElem? (show l[i]? = some p by simpa using h)
    have := ha.1 p hp
    have ih := getK_asc ha.2 (show l[i]? = some p by simpa using h)
    unfold getK kvD at ih ⊢
    rw [List.map_cons, List.find?_cons_of_neg]
    · exact ih
    · intro z
      have := of_decide_eq_true z
      have : (q.1 : Int) = p.1 := by injection this
      omega
theorem putN_take {k : Nat} {tb : List (Option Nat) × List (Option Nat)} {l : List (Nat × Nat)} {i : Nat} {p : Nat × Nat} (h : l[i]? = some p) : putN k tb (l.take (i + 1)) = ((putN k tb (l.take i)).1.set p.1 (some k), (putN k tb (l.take i)).2.set p.1 (some p.2)) := by
  unfold putN
  rw [List.take_succ, h, List.foldl_append]
  rfl
theorem rows_j {cm : CM} {k : Nat} {ns : List Int} {calls answers states place : Nat} {a b c d : Int} {Q : QA} {E : XA → Prop} (hc1 : 1 ≤ calls) (hc2 : calls ≤ 16) (ha1 : 1 ≤ answers) (ha2 : answers ≤ 16) (hs1 : 1 ≤ states) (hs2 : states ≤ 64)
    (q : ∀ (rows : Rows) (a b c d : Int), rowsOk (calls * answers) states states rows → Q (.h 1) [some (poolO a b c d), some (.lst (rows.map rowD))]) : jFn cm tab (k + 2) i_L_contest_rows [.d (.lst (dI ns)), I place, .h 0, I calls, I answers, I states] [some (poolO a b c d)] Q E := by
  have hm1 : calls * answers ≤ 16 * 16 := Nat.mul_le_mul hc2 ha2
  have hm2 : (calls : Int) * (answers : Int) = ((calls * answers : Nat) : Int) := by rw [Int.natCast_mul]
  refine jFn_i (d := j_L_contest_rows) rfl (jdef_i _ rfl rfl ?_)
  walk_at "n"
  refine jCall_i [0] rfl (draw_j (by decide) (by decide) fun way a b c d hw1 hw2 => ⟨_, _, rfl, ?_⟩)
  walk_at "v"
  walk_at "n"
  refine jCall_i [0] rfl (draw_j (by decide) (by decide) fun often a b c d ho1 ho2 => ⟨_, _, rfl, ?_⟩)
  walk_at "v"
  walk_at "n"
  walk_at "n"
  refine if_i (fun h3 => ?_) (fun h3 => ?_)
  · walk_at "s"
    refine and_i ⟨by omega, by omega⟩ (for_r states rfl (fun i δ' η' => ∃ (a b c d : Int) (rows : Rows), δ' = [some (.d (.lst (dI ns))), some (I place), some (.h 0), some (I calls), some (I answers), some (I states), some (I way), some (I (1 + often)), some (.h 1), none, none, none, none, none, none] ∧
      η' = [some (poolO a b c d), some (.lst (rows.map rowD))] ∧ rowsOk (calls * answers) states i rows) ⟨a, b, c, d, [], rfl, rfl, rfl, fun _ z => by simp at z⟩ ?_ ?_)
    · rintro i δ' η' hi ⟨a, b, c, d, rows, rfl, rfl, hr⟩
      walk_at "w"
      walk_at "n"
      refine jCall_i [0] rfl (draw_j (by omega) (lg (by omega)) fun forc a b c d hw1 hw2 => ⟨_, _, rfl, ?_⟩)
      walk_at "v"
      walk_at "n"
      walk_at "n"
      refine (for_r (calls * answers) hm2 (fun j δ' η' => ∃ (a b c d : Int) (row : List (Int × Int)), δ' = [some (.d (.lst (dI ns))), some (I place), some (.h 0), some (I calls), some (I answers), some (I states), some (I way), some (I (1 + often)), some (.h 1), some (I (i : Nat)), some (I forc), some (.h 2), none, none, none] ∧
        η' = [some (poolO a b c d), some (.lst (rows.map rowD)), some (.lst (row.map pairD))] ∧ rowOk j states row) ⟨a, b, c, d, [], rfl, rfl, rfl, fun _ z => by simp at z⟩ ?_ ?_)
      · rintro j δ' η' hj ⟨a, b, c, d, row, rfl, rfl, hrow⟩
        have hjj : row.length = j := hrow.1
        walk_at "w"
        walk_at "s"
        refine and_i (by omega) (and_i (lg (by omega)) ?_)
        refine if_i (fun h4 => ?_) (fun h4 => ?_)
        · walk_at "n"
          refine ap_m (max 0 ((i : Int) - 1), if decide ((i : Int) = 0) = true then 1 else 0) rfl (by omega) ?_
          walk_at "v"
          refine bk_end (b_fgt [12] (bk_end ?_))
          refine ⟨a, b, c, d, _, rfl, rfl, rowOk_add hrow (by dsimp only; omega) (by dsimp only; omega) ?_⟩
          dsimp only
          split <;> omega
        · walk_at "n"
          refine jCall_i [0] rfl (draw_j (by omega) (lg (by omega)) fun nxt a b c d hn1 hn2 => ⟨_, _, rfl, ?_⟩)
          walk_at "v"
          refine ap_m (nxt, 0) rfl (by omega) ?_
          walk_at "v"
          refine bk_end (b_fgt [12] (bk_end ?_))
          exact ⟨a, b, c, d, _, rfl, rfl, rowOk_add hrow hn1 hn2 (by dsimp only; omega)⟩
      · rintro δ' η' ⟨a, b, c, d, row, rfl, rfl, hrow⟩
        walk_at "n"
        rw [mkT_map]
        refine ap_m row rfl (by have := hr.1; omega) ?_
        walk_at "v"
        refine b_fgt [9, 10, 11, 12] (b_gc [0, 1] rfl rfl rfl (bk_end ?_))
        exact ⟨a, b, c, d, _, rfl, rfl, rowsOk_add hr hrow⟩
    · rintro δ' η' ⟨a, b, c, d, rows, rfl, rfl, hr⟩
      walk_at "run"
      exact ⟨[0, 1], _, _, rfl, rfl, rfl, rfl, q _ _ _ _ _ hr⟩
  refine bk_end ?_
  walk_at "w"
  walk_at "s"
  refine and_i ⟨by omega, by omega⟩ (for_r states rfl (fun i δ' η' => ∃ (rows : Rows), δ' = [some (.d (.lst (dI ns))), some (I place), some (.h 0), some (I calls), some (I answers), some (I states), some (I way), some (I (1 + often)), some (.h 1), none, none, none, none, none, none] ∧
    η' = [some (poolO a b c d), some (.lst (rows.map rowD))] ∧ rowsOk (calls * answers) states i rows) ⟨[], rfl, rfl, rfl, fun _ z => by simp at z⟩ ?_ ?_)
  · rintro i δ' η' hi ⟨rows, rfl, rfl, hr⟩
    walk_at "w"
    walk_at "n"
    refine jCall_i [] rfl (pool_j (by omega) fun a1 b1 c1 d1 => ⟨_, _, rfl, ?_⟩)
    walk_at "v"
    walk_at "n"
    walk_at "n"
    refine (for_r (calls * answers) hm2 (fun j δ' η' => ∃ (a1 b1 c1 d1 : Int) (row : List (Int × Int)), δ' = [some (.d (.lst (dI ns))), some (I place), some (.h 0), some (I calls), some (I answers), some (I states), some (I way), some (I (1 + often)), some (.h 1), some (I (i : Nat)), none, some (.h 3), none, some (.h 2), none] ∧
      η' = [some (poolO a b c d), some (.lst (rows.map rowD)), some (poolO a1 b1 c1 d1), some (.lst (row.map pairD))] ∧ rowOk j states row) ⟨a1, b1, c1, d1, [], rfl, rfl, rfl, fun _ z => by simp at z⟩ ?_ ?_)
    · rintro j δ' η' hj ⟨a1, b1, c1, d1, row, rfl, rfl, hrow⟩
      have hjj : row.length = j := hrow.1
      have hpos : (0 : Int) < (states : Int) * (1 + often) * 2 := Int.mul_pos (Int.mul_pos (by omega) (by omega)) (by omega)
      have hb1 : ((states : Int) * (1 + often)).natAbs ≤ 320 := by rw [Int.natAbs_mul]; exact Nat.le_trans (Nat.mul_le_mul (show (states : Int).natAbs ≤ 64 by omega) (show (1 + often).natAbs ≤ 5 by omega)) (by decide)
      walk_at "w"
      walk_at "n"
      refine jCall_i [2] rfl (draw_j hpos (lgm (by omega) (by decide)) fun pick a1 b1 c1 d1 hp1 hp2 => ⟨_, _, rfl, ?_⟩)
      walk_at "v"
      walk_at "n"
      refine and_i (lg (by omega)) ?_
      walk_at "v"
      refine ap_m (pick % (states : Int), if decide (pick / (states : Int) = 0) = true then 1 else 0) rfl (by omega) ?_
      walk_at "v"
      refine b_fgt [12, 14] (bk_end ?_)
      refine ⟨a1, b1, c1, d1, _, rfl, rfl, rowOk_add hrow (Int.emod_nonneg _ (by omega)) (Int.emod_lt_of_pos _ (by omega)) ?_⟩
      dsimp only
      split <;> omega
    · rintro δ' η' ⟨a1, b1, c1, d1, row, rfl, rfl, hrow⟩
      walk_at "n"
      rw [mkT_map]
      refine ap_m row rfl (by have := hr.1; omega) ?_
      walk_at "v"
      refine b_fgt [9, 11, 12, 13, 14] (b_gc [0, 1] rfl rfl rfl (bk_end ?_))
      exact ⟨_, rfl, rfl, rowsOk_add hr hrow⟩
  · rintro δ' η' ⟨rows, rfl, rfl, hr⟩
    walk_at "n"
    exact ⟨[0, 1], _, _, rfl, rfl, rfl, rfl, q _ _ _ _ _ hr⟩
end Y
set_option Elab.async false
set_option linter.all false
set_option maxRecDepth 100000
set_option maxHeartbeats 2000000
set_option autoImplicit false
set_option pp.maxSteps 500
set_option pp.deepTerms false
set_option pp.proofs false
namespace Y
open PySem PySem.Spec PyProof.Rows L2
local macro_rules | `(tactic| walk_at "w") => `(tactic| conv => whnf)
local macro_rules | `(tactic| walk_at "s") => `(tactic| ((first | refine bk_step ?_ | refine bk_end ?_); conv => whnf))
local macro_rules | `(tactic| walk_at "c") => `(tactic| ((first | refine if_t rfl ?_ | refine if_f rfl ?_); conv => whnf))
local macro_rules | `(tactic| walk_at "a") => `(tactic| ((refine and_i ?h0 ?_); (case h0 => first | exact rfl | exact szl rfl | exact lt1000 rfl | exact Nat.succ_le_succ (Nat.zero_le _) | exact Nat.le_add_left _ _ | assumption | omega | decide | (refine Or.inl ⟨?_, ?_⟩ <;> omega) | (refine Or.inr ⟨?_, ?_⟩ <;> omega) | (refine ⟨?_, ?_⟩ <;> omega) | (refine ⟨?_, ?_, ?_⟩ <;> omega)); (conv => whnf)))
local macro_rules | `(tactic| walk_at "run") => `(tactic| repeat (first | walk_at "s" | walk_at "c" | walk_at "a"))
local macro_rules | `(tactic| walk_at "ca") => `(tactic| repeat (first | walk_at "c" | walk_at "a"))
local macro_rules | `(tactic| walk_at "n") => `(tactic| (walk_at "s"; walk_at "ca"))
local macro_rules | `(tactic| walk_at "v") => `(tactic| (walk_at "w"; walk_at "ca"))
local macro_rules | `(tactic| walk_at "o") => `(tactic| ((first | refine if_T (by omega) ?_ | refine if_F (by omega) ?_ | refine if_nT (by omega) ?_ | refine if_nF (by omega) ?_); (conv => whnf)))
local macro_rules | `(tactic| walk_at "cao") => `(tactic| repeat (first | walk_at "c" | walk_at "a" | walk_at "o"))
local macro_rules | `(tactic| walk_at "go") => `(tactic| repeat (first | walk_at "s" | walk_at "c" | walk_at "a" | walk_at "o"))
/-- a control -/
def ctlF (cu re sta : Int) (rows : Rows) : List (Str × D) := [("cues", .int cu), ("replies", .int re), ("states", .int rows.length), ("start", .int sta), ("rows", .tup (rows.map rowD))]
def ctlD (cm : CM) (cu re sta : Int) (rows : Rows) : D := .ins (cm.cls 32) (ctlF cu re sta rows)
theorem is_entry_j {cm : CM} {k : Nat} {a b st re : Int} {Q : QA} {E : XA → Prop} (h : 0 ≤ a ∧ a < st ∧ 0 ≤ b ∧ b < re) (q : Q (B true) []) : jFn cm tab (k + 1) i_is_entry [.d (.tup [.int a, .int b]), I st, I re] [] Q E := by
  obtain ⟨h1, h2, h3, h4⟩ := h
  refine jFn_i (d := j_is_entry) rfl (jdef_i _ rfl rfl ?_)
  walk_at "n"
  walk_at "n"
  refine if_T h1 ?_
  walk_at "v"
  rw [decide_eq_true h2]
  walk_at "v"
  refine if_T h3 ?_
  walk_at "v"
  rw [decide_eq_true h4]
  exact ⟨[], _, _, rfl, rfl, rfl, rfl, q⟩
/-- rows with c cues and re replies -/
def rowOkR (c re states : Nat) (r : List (Int × Int)) : Prop := r.length = c ∧ ∀ p ∈ r, 0 ≤ p.1 ∧ p.1 < states ∧ 0 ≤ p.2 ∧ p.2 < re
theorem ctl_init {cm : CM} [co : CmOk cm] {k cu re sta : Nat} {x : D} {rows : Rows} {Q : QA} {E : XA → Prop} (hx : x = .tup (rows.map rowD) ∨ x = .lst (rows.map rowD)) (h1 : 1 ≤ cu ∧ cu ≤ 16) (h2 : 1 ≤ re ∧ re ≤ 256) (h3 : 1 ≤ rows.length ∧ rows.length ≤ 64) (h4 : sta < rows.length) (hr : ∀ r ∈ rows, rowOkR cu re rows.length r)
    (q : Q (.d .non) [some (.ins (cm.cls 32) ((ctlF cu re sta rows).map fun p => (p.1, .d p.2)))]) : jFn cm tab (k + 3) i_Control___init [.h 0, I cu, I re, .d x, I sta] [some (.ins (cm.cls 32) [])] Q E := by
  have hl : ∀ η, lenA η (.d x) = some rows.length := fun η => by rcases hx with rfl | rfl <;> (show some (rows.map rowD).length = _; rw [List.length_map])
  have hi : ∀ η, itemsA η (.d x) = some ((rows.map rowD).map .d) := fun η => by rcases hx with rfl | rfl <;> rfl
  refine jFn_i (d := j_Control___init) rfl (jdef_i _ rfl rfl ?_)
  walk_at "s"
  refine .inl ⟨_, hl _, fun _ => ?_⟩
  walk_at "v"
  iterate 8 (walk_at "s"; walk_at "cao")
  walk_at "s"
  rw [hi]
  walk_at "v"
  rw [mkT_map]
  walk_at "v"
  walk_at "n"
  refine for_en (l := rows) (f := fun r => .d (rowD r)) mm (fun i δ' η' => δ' = [some (.h 0), some (I cu), some (I re), some (.d x), some (I sta), some (I rows.length), none, none, none] ∧ η' = [some (.ins (cm.cls 32) ((ctlF cu re sta rows).map fun p => (p.1, .d p.2)))]) ⟨rfl, rfl⟩ (fun _ _ _ _ _ => trivial) ?_ ?_
  · rintro i r δ' η' hx ⟨rfl, rfl⟩
    obtain ⟨hr1, hr2⟩ := hr r (List.mem_of_getElem? hx)
    walk_at "w"
    walk_at "s"
    refine .inl ⟨_, rfl, fun _ => ?_⟩
    walk_at "v"
    refine if_nF (by rw [List.length_map]; omega) ?_
    walk_at "v"
    refine lc_m (l := r) (f := fun p => .d (pairD p)) (fun _ => .bl true) mm rfl trivial (by rw [sizeLine_eq]; omega) ?_ ?_
    · intro j p hp R N hR
      obtain ⟨g1, g2, g3, g4⟩ := hr2 p (List.mem_of_getElem? hp)
      walk_at "v"
      exact jCall_i [] rfl (is_entry_j ⟨g1, by omega, g3, by omega⟩ ⟨_, _, rfl, hR⟩)
    · walk_at "w"
      refine ⟨r.map fun _ => true, ?_, rfl, ?_⟩
      · show some _ = some _
        simp [dB]
      · walk_at "w"
        exact if_eq (c := false) (by simp) (if_f rfl (bk_end (b_fgt [6, 7] (b_gc [0] rfl rfl rfl (bk_end ⟨rfl, rfl⟩)))))
  · rintro δ' η' ⟨rfl, rfl⟩
    refine bk_end ?_
    exact ⟨[0], _, _, rfl, rfl, rfl, rfl, q⟩
theorem okDs_map {α : Type} {f : α → D} {n : Nat} : ∀ {l : List α}, (∀ x ∈ l, okD n (f x) = true) → okDs n (l.map f) = true
  | [], _ => by simp [okDs]
  | x :: l, h => by
    rw [List.map_cons]
    unfold okDs
    rw [h x (by simp), okDs_map fun y hy => h y (by simp [hy])]
    rfl
theorem okD_pair {n : Nat} {p : Int × Int} : okD (n + 1) (pairD p) = true := by
  unfold pairD
  simp [okD, okDs]
theorem okD_row {n : Nat} {r : List (Int × Int)} : okD (n + 2) (rowD r) = true := by
  unfold rowD okD
  exact okDs_map fun _ _ => okD_pair
theorem okD_rows {n : Nat} {rows : Rows} : okD (n + 3) (.tup (rows.map rowD)) = true := by
  unfold okD
  exact okDs_map fun _ _ => okD_row
theorem entry_j {cm : CM} {k : Nat} {cu re sta : Int} {rows : Rows} {r : List (Int × Int)} {p : Int × Int} {s c : Int} {Q : QA} {E : XA → Prop} (s' c' : Nat) (hs : s = s') (hc : c = c') (h1 : rows[s']? = some r) (h2 : r[c']? = some p) (q : Q (.d (pairD p)) []) : jFn cm tab (k + 1) i_Control_entry [.d (ctlD cm cu re sta rows), I s, I c] [] Q E := by
  refine jFn_i (d := j_Control_entry) rfl (jdef_i _ rfl rfl ?_)
  walk_at "n"
  refine ix_m s' hs h1 ?_
  walk_at "v"
  refine ix_m c' hc h2 ?_
  exact ⟨[], _, _, rfl, rfl, rfl, rfl, q⟩
theorem started_j {cm : CM} [co : CmOk cm] {k cu re sta s : Nat} {rows : Rows} {Q : QA} {E : XA → Prop} (h1 : 1 ≤ cu ∧ cu ≤ 16) (h2 : 1 ≤ re ∧ re ≤ 256) (h3 : 1 ≤ rows.length ∧ rows.length ≤ 64) (h4 : s < rows.length) (hr : ∀ r ∈ rows, rowOkR cu re rows.length r) (q : Q (.d (ctlD cm cu re s rows)) []) : jFn cm tab (k + 5) i_Control_started [.d (ctlD cm cu re sta rows), I s] [] Q E := by
  refine jFn_i (d := j_Control_started) rfl (jdef_i _ rfl rfl ?_)
  walk_at "s"
  walk_at "cao"
  refine bk_end ?_
  walk_at "n"
  refine jCall_i [0] rfl (ctl_init (.inl rfl) h1 h2 h3 h4 hr ⟨_, _, rfl, rfl, ?_⟩)
  refine ⟨0, _, _, _, rfl, rfl, rfl, rfl, rfl, rfl, ?_⟩
  exact ⟨[], _, _, rfl, rfl, rfl, rfl, q⟩
theorem ctl_eq {cm : CM} [co : CmOk cm] {k : Nat} {cu re sta cu' re' sta' : Int} {rows rows' : Rows} {Q : QA} {E : XA → Prop} (q : Q (B (decide (cu = cu') && (decide (re = re') && (eqD (.tup (rows.map rowD)) (.tup (rows'.map rowD)) && decide (sta = sta'))))) []) : jFn cm tab (k + 1) i_Control___eq [.d (ctlD cm cu re sta rows), .d (ctlD cm cu' re' sta' rows')] [] Q E := by
  refine jFn_i (d := j_Control___eq) rfl (jdef_i _ rfl rfl ?_)
  have fin : ∀ b, b = (decide (cu = cu') && (decide (re = re') && (eqD (.tup (rows.map rowD)) (.tup (rows'.map rowD)) && decide (sta = sta')))) → GcR ([] : Hs).length Q (B b) [] := fun b e => ret_d rfl (by rw [e]; exact q)
  walk_at "n"
  refine ob_i (o := cm.cix (cm.cls 32)) 32 (co.ix 32 (by decide)) ?_
  walk_at "v"
  refine ob_i (o := cm.cix (cm.cls 32)) 32 (co.ix 32 (by decide)) ?_
  walk_at "v"
  refine if_i (fun h1 => ?_) fun h1 => fin _ (by simp [h1])
  walk_at "v"
  refine if_i (fun h2 => ?_) fun h2 => fin _ (by simp [h2])
  walk_at "v"
  refine and_i (okD_rows (n := 61)) (and_i (okD_rows (n := 61)) ?_)
  refine if_b (fun h3 => ?_) fun h3 => fin _ (by simp [h3])
  walk_at "v"
  exact fin _ (by simp [h1, h2, h3])
/-- a contest -/
def cstD (cm : CM) (ca an : Nat) (sta : Int) (rows : Rows) : D := .ins (cm.cls 33) [("calls", .int ca), ("answers", .int an), ("control", ctlD cm ((ca * an : Nat) : Int) 2 sta rows)]
/-- what is wrong with the numbers of a contest -/
def wrongT (ca an cu re : Int) : Option Int := if ¬ (1 ≤ ca ∧ ca ≤ 16) then some ca else if ¬ (1 ≤ an ∧ an ≤ 16) then some an else if cu ≠ ca * an then some cu else if re ≠ 2 then some re else none
theorem cst_init {cm : CM} [co : CmOk cm] {k : Nat} {ca an cu re sta : Int} {rows : Rows} {Q : QA} {E : XA → Prop} (hs : ca.natAbs < 2 ^ 62 ∧ an.natAbs < 2 ^ 62)
    (q : wrongT ca an cu re = none → Q (.d .non) [some (.ins (cm.cls 33) [("calls", I ca), ("answers", I an), ("control", .d (ctlD cm cu re sta rows))])]) (e : ∀ v, wrongT ca an cu re = some v → E ⟨cm.cls 1, [("size", .int v)], [some (.ins (cm.cls 33) [])]⟩) : jFn cm tab (k + 3) i_Contest___init [.h 0, I ca, I an, .d (ctlD cm cu re sta rows)] [some (.ins (cm.cls 33) [])] Q E := by
  refine jFn_i (d := j_Contest___init) rfl (jdef_i _ rfl rfl ?_)
  refine bk_step (s_ifv (!decide (1 ≤ ca ∧ ca ≤ 16)) (fun K hK => ?_) (if_n (fun h1 => ?_) fun h1 => ?_))
  · walk_at "w"
    refine if_i (fun h1 => ?_) fun h1 => leaf hK (by simp [h1])
    walk_at "v"
    exact leaf hK (by simp [h1])
  · walk_at "n"
    exact ⟨[0], _, rfl, rfl, rfl, e _ (by unfold wrongT; rw [if_pos h1])⟩
  refine bk_end (bk_step (s_ifv (!decide (1 ≤ an ∧ an ≤ 16)) (fun K hK => ?_) (if_n (fun h2 => ?_) fun h2 => ?_)))
  · walk_at "w"
    refine if_i (fun h1 => ?_) fun h1 => leaf hK (by simp [h1])
    walk_at "v"
    exact leaf hK (by simp [h1])
  · walk_at "n"
    exact ⟨[0], _, rfl, rfl, rfl, e _ (by unfold wrongT; rw [if_neg (by simpa using h1), if_pos h2])⟩
  refine bk_end ?_
  walk_at "n"
  refine if_n (fun h3 => ?_) fun h3 => ?_
  · walk_at "n"
    exact ⟨[0], _, rfl, rfl, rfl, e _ (by unfold wrongT; rw [if_neg (by simpa using h1), if_neg (by simpa using h2), if_pos h3])⟩
  refine bk_end ?_
  walk_at "n"
  refine if_n (fun h4 => ?_) fun h4 => ?_
  · walk_at "n"
    exact ⟨[0], _, rfl, rfl, rfl, e _ (by unfold wrongT; rw [if_neg (by simpa using h1), if_neg (by simpa using h2), if_neg (by simpa using h3), if_pos h4])⟩
  refine bk_end ?_
  iterate 3 (walk_at "n")
  refine bk_end ?_
  exact ⟨[0], _, _, rfl, rfl, rfl, rfl, q (by unfold wrongT; rw [if_neg (by simpa using h1), if_neg (by simpa using h2), if_neg (by simpa using h3), if_neg (by simpa using h4)])⟩
theorem outs_get {rows : Rows} {an ca s c i : Nat} {r : List (Int × Int)} (h1 : rows[s]? = some r) (hr : r.length = ca * an) (hc : c < ca) (hi : i < an) : ∃ p, r[c * an + i]? = some p ∧ (outsOf rows an s c)[i]? = some p ∧ (outsOf rows an s c).length = an := by
  have hb : c * an + an ≤ ca * an := by
    have := Nat.mul_le_mul_right an (show c + 1 ≤ ca from hc)
    rwa [Nat.succ_mul] at this
  have hlt : c * an + i < r.length := by omega
  refine ⟨r[c * an + i], List.getElem?_eq_getElem hlt, ?_, ?_⟩
  · unfold outsOf
    rw [List.getD_eq_getElem?_getD, h1]
    show (List.take an (List.drop (c * an) r))[i]? = _
    rw [List.getElem?_take_of_lt hi, List.getElem?_drop, List.getElem?_eq_getElem hlt]
  · unfold outsOf
    rw [List.getD_eq_getElem?_getD, h1]
    show (List.take an (List.drop (c * an) r)).length = _
    rw [List.length_take, List.length_drop]
    omega
theorem outcome_j {cm : CM} {k : Nat} {ca an : Nat} {sta : Int} {rows : Rows} {r : List (Int × Int)} {p : Int × Int} {s c a : Nat} {Q : QA} {E : XA → Prop} (hc : an ≤ 16) (h1 : rows[s]? = some r) (h2 : r[c * an + a]? = some p) (q : Q (.d (pairD p)) []) : jFn cm tab (k + 2) i_Contest_outcome [.d (cstD cm ca an sta rows), I s, I c, I a] [] Q E := by
  refine jFn_i (d := j_Contest_outcome) rfl (jdef_i _ rfl rfl ?_)
  walk_at "n"
  refine jCall_i [] rfl (entry_j s (c * an + a) rfl ?_ h1 h2 ⟨_, _, rfl, ?_⟩)
  · rw [Int.natCast_add, Int.natCast_mul]
  · exact ⟨[], _, _, rfl, rfl, rfl, rfl, q⟩
theorem outcomes_j {cm : CM} {k : Nat} {ca an : Nat} {sta : Int} {rows : Rows} {s c : Nat} {Q : QA} {E : XA → Prop} (hc : an ≤ 16) (h1 : s < rows.length) (hr : ∀ r ∈ rows, r.length = ca * an) (h2 : c < ca) (q : Q (.h 0) [some (.lst ((outsOf rows an s c).map pairD))]) : jFn cm tab (k + 3) i_Contest_outcomes [.d (cstD cm ca an sta rows), I s, I c] [] Q E := by
  refine jFn_i (d := j_Contest_outcomes) rfl (jdef_i _ rfl rfl ?_)
  walk_at "n"
  have gr := List.getElem?_eq_getElem h1
  have hl := hr _ (List.getElem_mem h1)
  have hlen : (outsOf rows an s c).length ≤ an := by unfold outsOf; rw [List.length_take]; omega
  have hlen2 : an ≤ (outsOf rows an s c).length := by
    by_cases h0 : an = 0
    · omega
    · obtain ⟨_, _, _, e⟩ := outs_get gr hl h2 (show 0 < an by omega)
      omega
  refine lc_m (l := List.range an) (f := fun i => I (i : Nat)) (fun i => pairD ((outsOf rows an s c).getD i (0, 0))) (intsA0 rfl) rfl trivial (by rw [List.length_range, sizeLine_eq]; omega) ?_ ?_
  · intro j p hp R N hR
    obtain ⟨rfl, hj⟩ := range_get hp
    obtain ⟨p, e1, e2, _⟩ := outs_get gr hl h2 hj
    walk_at "v"
    refine jCall_i [] rfl (outcome_j hc gr e1 ⟨_, _, rfl, ?_⟩)
    rw [List.getD_eq_getElem?_getD, e2] at hR
    exact hR
  · rw [range_map (by omega)]
    exact ⟨[0], _, _, rfl, rfl, rfl, rfl, q⟩
end Y
set_option Elab.async false
set_option linter.all false
set_option maxRecDepth 100000
set_option maxHeartbeats 2000000
set_option autoImplicit false
set_option pp.maxSteps 500
set_option pp.deepTerms false
set_option pp.proofs false
namespace Y
open PySem PySem.Spec PyProof.Rows L2
local macro_rules | `(tactic| walk_at "w") => `(tactic| conv => whnf)
local macro_rules | `(tactic| walk_at "s") => `(tactic| ((first | refine bk_step ?_ | refine bk_end ?_); conv => whnf))
local macro_rules | `(tactic| walk_at "c") => `(tactic| ((first | refine if_t rfl ?_ | refine if_f rfl ?_); conv => whnf))
local macro_rules | `(tactic| walk_at "a") => `(tactic| ((refine and_i ?h0 ?_); (case h0 => first | exact rfl | exact szl rfl | exact lt1000 rfl | exact Nat.succ_le_succ (Nat.zero_le _) | exact Nat.le_add_left _ _ | assumption | omega | decide | (refine Or.inl ⟨?_, ?_⟩ <;> omega) | (refine Or.inr ⟨?_, ?_⟩ <;> omega) | (refine ⟨?_, ?_⟩ <;> omega) | (refine ⟨?_, ?_, ?_⟩ <;> omega)); (conv => whnf)))
local macro_rules | `(tactic| walk_at "run") => `(tactic| repeat (first | walk_at "s" | walk_at "c" | walk_at "a"))
local macro_rules | `(tactic| walk_at "ca") => `(tactic| repeat (first | walk_at "c" | walk_at "a"))
local macro_rules | `(tactic| walk_at "n") => `(tactic| (walk_at "s"; walk_at "ca"))
local macro_rules | `(tactic| walk_at "v") => `(tactic| (walk_at "w"; walk_at "ca"))
local macro_rules | `(tactic| walk_at "o") => `(tactic| ((first | refine if_T (by omega) ?_ | refine if_F (by omega) ?_ | refine if_nT (by omega) ?_ | refine if_nF (by omega) ?_); (conv => whnf)))
local macro_rules | `(tactic| walk_at "cao") => `(tactic| repeat (first | walk_at "c" | walk_at "a" | walk_at "o"))
local macro_rules | `(tactic| walk_at "go") => `(tactic| repeat (first | walk_at "s" | walk_at "c" | walk_at "a" | walk_at "o"))
/-- the numbers of a contest are right -/
structure CstOk (ca an : Nat) (rows : Rows) : Prop where
  c : 1 ≤ ca ∧ ca ≤ 16
  a : 1 ≤ an ∧ an ≤ 16
  n : 1 ≤ rows.length ∧ rows.length ≤ 64
  r : ∀ r ∈ rows, rowOkR (ca * an) 2 rows.length r
theorem CstOk.len {ca an : Nat} {rows : Rows} (h : CstOk ca an rows) : ∀ r ∈ rows, r.length = ca * an := fun r hr => (h.r r hr).1
theorem CstOk.out {ca an : Nat} {rows : Rows} (h : CstOk ca an rows) {s c i : Nat} {p : Int × Int} (hp : (outsOf rows an s c)[i]? = some p) : 0 ≤ p.1 ∧ p.1 < rows.length ∧ 0 ≤ p.2 ∧ p.2 < 2 := by
  have := List.mem_of_getElem? hp
  unfold outsOf at this
  have h2 := List.mem_of_mem_drop (List.mem_of_mem_take this)
  rw [List.getD_eq_getElem?_getD] at h2
  cases e : rows[s]? with
  | none => rw [e] at h2; cases h2
  | some r =>
    rw [e] at h2
    exact (h.r r (List.mem_of_getElem? e)).2 p h2
theorem CstOk.outLen {ca an : Nat} {rows : Rows} (h : CstOk ca an rows) {s c : Nat} (hs : s < rows.length) (hc : c < ca) : (outsOf rows an s c).length = an := by
  obtain ⟨_, _, _, e⟩ := outs_get (i := 0) (List.getElem?_eq_getElem hs) (h.len _ (List.getElem_mem hs)) hc (by have := h.a; omega)
  exact e
abbrev tLs (t : List (Option Nat)) : O := .lst (t.map tD)
theorem tD_non {x : Option Nat} : isNone (.d (tD x)) = x.isNone := by cases x <;> rfl
theorem getT {t : List (Option Nat)} {i : Nat} (h : i < t.length) : t[i]? = some (t.getD i none) := by
  rw [List.getD_eq_getElem?_getD, List.getElem?_eq_getElem h]
  rfl
theorem forces_j {cm : CM} {k : Nat} {ca an : Nat} {sta : Int} {rows : Rows} {t : List (Option Nat)} {s c : Nat} {Q : QA} {E : XA → Prop} (ok : CstOk ca an rows) (ht : t.length = rows.length) (hs : s < rows.length) (hc : c < ca) (q : Q (B (wins rows an t s c)) [some (tLs t)]) : jFn cm tab (k + 4) i_forces [.d (cstD cm ca an sta rows), I s, I c, .h 0] [some (tLs t)] Q E := by
  refine jFn_i (d := j_forces) rfl (jdef_i _ rfl rfl ?_)
  walk_at "n"
  refine jCall_i [] rfl (outcomes_j ok.a.2 hs ok.len hc ⟨_, _, rfl, ?_⟩)
  walk_at "v"
  refine for_m (l := outsOf rows an s c) (f := fun p => .d (pairD p)) mm (fun i δ' η' => δ' = [some (.d (cstD cm ca an sta rows)), some (I s), some (I c), some (.h 0), none, none] ∧ η' = [some (tLs t), some (.lst ((outsOf rows an s c).map pairD))] ∧ ((outsOf rows an s c).take i).all (fun o => !isFree t o) = true) ⟨rfl, rfl, rfl⟩ (fun _ _ _ _ h => by rw [h.2.1]; rfl) ?_ ?_
  · rintro i o δ' η' ho ⟨rfl, rfl, hall⟩
    obtain ⟨h1, h2, h3, h4⟩ := ok.out ho
    have hfr : isFree t o = (decide (o.2 = 0) && (t.getD o.1.toNat none).isNone) := rfl
    walk_at "w"
    refine bk_step (s_ifv (isFree t o) (fun K hK => ?_) (if_b (fun h => ?_) fun h => ?_))
    · walk_at "v"
      refine if_n (fun h5 => ?_) fun h5 => leaf hK (by rw [hfr, decide_eq_false (by omega)]; rfl)
      walk_at "v"
      refine ix_m o.1.toNat (by omega) (getT (by omega)) ?_
      walk_at "v"
      exact leaf hK (by rw [hfr, decide_eq_true (show o.2 = 0 by omega), tD_non]; rfl)
    · walk_at "n"
      refine ret_d rfl ?_
      rw [show wins rows an t s c = false from ?_] at q
      · exact q
      · unfold wins
        rw [List.all_eq_false]
        exact ⟨o, List.mem_of_getElem? ho, by rw [h]; decide⟩
    · refine bk_end (b_fgt [4, 5] (bk_end ⟨rfl, rfl, ?_⟩))
      rw [take_succ_get ho, List.all_append, hall]
      simp [h]
  · rintro δ' η' ⟨rfl, rfl, hall⟩
    walk_at "n"
    refine ret_d rfl ?_
    rw [List.take_length] at hall
    unfold wins at q
    rw [hall] at q
    exact q
theorem find_range_succ {n : Nat} {p : Nat → Bool} : (List.range (n + 1)).find? p = ((List.range n).find? p).or (if p n = true then some n else none) := by
  rw [List.range_succ, List.find?_append]
  congr 1
  by_cases h : p n = true <;> simp [h, List.find?]
theorem forcing_j {cm : CM} {k : Nat} {ca an : Nat} {sta : Int} {rows : Rows} {t : List (Option Nat)} {s : Nat} {Q : QA} {E : XA → Prop} (ok : CstOk ca an rows) (ht : t.length = rows.length) (hs : s < rows.length) (q : Q (.d (tD (bestC rows ca an t s))) [some (tLs t)]) : jFn cm tab (k + 5) i_forcing_call [.d (cstD cm ca an sta rows), I s, .h 0] [some (tLs t)] Q E := by
  have hca := ok.c
  refine jFn_i (d := j_forcing_call) rfl (jdef_i _ rfl rfl ?_)
  walk_at "n"
  refine for_r ca rfl (fun i δ' η' => δ' = [some (.d (cstD cm ca an sta rows)), some (I s), some (.h 0), none] ∧ η' = [some (tLs t)] ∧ (List.range i).find? (wins rows an t s) = none) ⟨rfl, rfl, rfl⟩ ?_ ?_
  · rintro i δ' η' hi ⟨rfl, rfl, hn⟩
    walk_at "w"
    walk_at "n"
    refine jCall_i [0] rfl (forces_j ok ht hs hi ⟨_, _, rfl, ?_⟩)
    walk_at "v"
    refine if_b (fun h => ?_) fun h => ?_
    · walk_at "n"
      refine ret_d rfl ?_
      have : bestC rows ca an t s = some i := by
        unfold bestC
        rw [List.find?_eq_some_iff_getElem]
        refine ⟨h, i, by rw [List.length_range]; exact hi, by simp, fun j hj => ?_⟩
        have := List.find?_eq_none.mp hn j (by simpa using hj)
        simpa using this
      rw [this] at q
      exact q
    · refine bk_end (b_fgt [3] (bk_end ⟨rfl, rfl, ?_⟩))
      rw [find_range_succ, hn, h]
      rfl
  · rintro δ' η' ⟨rfl, rfl, hn⟩
    walk_at "n"
    refine ret_d rfl ?_
    have : bestC rows ca an t s = none := hn
    rw [this] at q
    exact q
end Y
set_option Elab.async false
set_option linter.all false
set_option maxRecDepth 100000
set_option maxHeartbeats 2000000
set_option autoImplicit false
set_option pp.maxSteps 500
set_option pp.deepTerms false
set_option pp.proofs false
namespace Y
open PySem PySem.Spec PyProof.Rows L2
local macro_rules | `(tactic| walk_at "w") => `(tactic| conv => whnf)
local macro_rules | `(tactic| walk_at "s") => `(tactic| ((first | refine bk_step ?_ | refine bk_end ?_); conv => whnf))
local macro_rules | `(tactic| walk_at "c") => `(tactic| ((first | refine if_t rfl ?_ | refine if_f rfl ?_); conv => whnf))
local macro_rules | `(tactic| walk_at "a") => `(tactic| ((refine and_i ?h0 ?_); (case h0 => first | exact rfl | exact szl rfl | exact lt1000 rfl | exact Nat.succ_le_succ (Nat.zero_le _) | exact Nat.le_add_left _ _ | assumption | omega | decide | (refine Or.inl ⟨?_, ?_⟩ <;> omega) | (refine Or.inr ⟨?_, ?_⟩ <;> omega) | (refine ⟨?_, ?_⟩ <;> omega) | (refine ⟨?_, ?_, ?_⟩ <;> omega)); (conv => whnf)))
local macro_rules | `(tactic| walk_at "run") => `(tactic| repeat (first | walk_at "s" | walk_at "c" | walk_at "a"))
local macro_rules | `(tactic| walk_at "ca") => `(tactic| repeat (first | walk_at "c" | walk_at "a"))
local macro_rules | `(tactic| walk_at "n") => `(tactic| (walk_at "s"; walk_at "ca"))
local macro_rules | `(tactic| walk_at "v") => `(tactic| (walk_at "w"; walk_at "ca"))
local macro_rules | `(tactic| walk_at "o") => `(tactic| ((first | refine if_T (by omega) ?_ | refine if_F (by omega) ?_ | refine if_nT (by omega) ?_ | refine if_nF (by omega) ?_); (conv => whnf)))
local macro_rules | `(tactic| walk_at "cao") => `(tactic| repeat (first | walk_at "c" | walk_at "a" | walk_at "o"))
local macro_rules | `(tactic| walk_at "go") => `(tactic| repeat (first | walk_at "s" | walk_at "c" | walk_at "a" | walk_at "o"))
theorem forced_calls_j {cm : CM} {k : Nat} {ca an : Nat} {sta : Int} {rows : Rows} {t : List (Option Nat)} {Q : QA} {E : XA → Prop} (ok : CstOk ca an rows) (ht : t.length = rows.length) (q : Q (.h 1) [some (tLs t), some (.dK (kvD (foundN rows ca an t rows.length)))]) : jFn cm tab (k + 6) i_forced_calls [.d (cstD cm ca an sta rows), .h 0] [some (tLs t)] Q E := by
  have hn := ok.n
  refine jFn_i (d := j_forced_calls) rfl (jdef_i _ rfl rfl ?_)
  walk_at "n"
  walk_at "n"
  refine for_r rows.length rfl (fun i δ' η' => δ' = [some (.d (cstD cm ca an sta rows)), some (.h 0), some (.h 1), none, none] ∧ η' = [some (tLs t), some (.dK (kvD (foundN rows ca an t i)))]) ⟨rfl, rfl⟩ ?_ ?_
  · rintro i δ' η' hi ⟨rfl, rfl⟩
    have gt := getT (t := t) (i := i) (by omega)
    have fs := foundN_succ (rows := rows) (ca := ca) (an := an) (t := t) (n := i)
    walk_at "w"
    walk_at "n"
    refine ix_m i rfl gt ?_
    generalize t.getD i none = x at gt fs
    walk_at "w"
    rw [tD_non]
    cases x with
    | some v =>
      refine if_f rfl (bk_end (b_fgt [3, 4] (bk_end ⟨rfl, ?_⟩)))
      rw [fs]
      simp
    | none =>
      refine if_t rfl ?_
      walk_at "n"
      refine jCall_i [0] rfl (forcing_j ok ht hi ⟨_, _, rfl, ?_⟩)
      rw [if_neg (by simp)] at fs
      have fa : atC rows an t i ca = match bestC rows ca an t i with | some k => [(i, k)] | none => [] := rfl
      rw [fa] at fs
      generalize bestC rows ca an t i = y at fs
      cases y with
      | none =>
        walk_at "v"
        walk_at "n"
        refine bk_end (bk_end (b_fgt [3, 4] (bk_end ⟨rfl, ?_⟩)))
        rw [fs]
        simp
      | some c =>
        walk_at "v"
        walk_at "n"
        walk_at "n"
        refine and_i (by unfold kvD; rw [List.length_map, sizeLine_eq]; exact Nat.lt_of_le_of_lt foundN_len (by omega)) ?_
        walk_at "w"
        refine bk_end (bk_end (b_fgt [3, 4] (bk_end ⟨rfl, ?_⟩)))
        rw [fs]
        show [_, some (O.dK (setK (kvD (foundN rows ca an t i)) (Sum.inl ((i : Nat) : Int)) (.int (c : Nat))))] = _
        rw [setK_kv (fun p hp => by have := foundN_lt p hp; omega)]
  · rintro δ' η' ⟨rfl, rfl⟩
    walk_at "n"
    exact ⟨[0, 1], _, _, rfl, rfl, rfl, rfl, q⟩
/-! ### the rounds come to an end -/
abbrev cntS (l : List (Option Nat)) : Nat := l.countP (·.isSome)
theorem cnt_ge {k : Nat} : ∀ (l : List (Option Nat)) (i : Nat), cntS l ≤ cntS (l.set i (some k))
  | [], _ => by simp
  | x :: l, 0 => by
    rw [List.set_cons_zero]
    simp only [cntS, List.countP_cons]
    cases x <;> simp
  | x :: l, i + 1 => by
    rw [List.set_cons_succ]
    have := cnt_ge (k := k) l i
    simp only [cntS, List.countP_cons] at this ⊢
    omega
theorem cnt_gt {k : Nat} : ∀ (l : List (Option Nat)) (i : Nat), l[i]? = some none → cntS l < cntS (l.set i (some k))
  | [], _, h => by simp at h
  | x :: l, 0, h => by
    rw [List.set_cons_zero]
    have : x = none := by simpa using h
    subst this
    simp [cntS, List.countP_cons]
  | x :: l, i + 1, h => by
    rw [List.set_cons_succ]
    have := cnt_gt (k := k) l i (by simpa using h)
    simp only [cntS, List.countP_cons] at this ⊢
    omega
theorem cnt_put {k : Nat} : ∀ {l : List (Nat × Nat)} {tb : List (Option Nat) × List (Option Nat)}, cntS tb.1 ≤ cntS (putN k tb l).1
  | [], tb => Nat.le_refl _
  | p :: l, tb => Nat.le_trans (cnt_ge (k := k) tb.1 p.1) (cnt_put (l := l) (tb := (tb.1.set p.1 (some k), tb.2.set p.1 (some p.2))))
theorem found_head {rows : Rows} {ca an : Nat} {t : List (Option Nat)} {n : Nat} {p : Nat × Nat} (h : p ∈ foundN rows ca an t n) : t.getD p.1 none = none := by
  unfold foundN at h
  obtain ⟨s, hs, e⟩ := List.mem_filterMap.mp h
  split at e
  · cases e
  · rename_i hn
    obtain ⟨c, _, rfl⟩ := Option.map_eq_some_iff.mp e
    cases e2 : t.getD s none with
    | none => rfl
    | some v => rw [e2] at hn; simp at hn
theorem cnt_round {rows : Rows} {ca an k : Nat} (h : foundN rows ca an (rksN rows ca an k).1 rows.length ≠ []) : cntS (rksN rows ca an k).1 < cntS (rksN rows ca an (k + 1)).1 := by
  rw [rksN_succ]
  have hl := (rksN_len (rows := rows) (ca := ca) (an := an) k).1
  generalize hf : foundN rows ca an (rksN rows ca an k).1 rows.length = l at h
  cases l with
  | nil => exact absurd rfl h
  | cons p l =>
    have hp : p ∈ foundN rows ca an (rksN rows ca an k).1 rows.length := by rw [hf]; simp
    have h1 := found_head hp
    have h2 := foundN_lt p hp
    have := cnt_gt (k := k) (rksN rows ca an k).1 p.1 (by rw [getT (by omega), h1])
    exact Nat.lt_of_lt_of_le this (cnt_put (l := l) (tb := ((rksN rows ca an k).1.set p.1 (some k), (rksN rows ca an k).2.set p.1 (some p.2))))
theorem rks_stay {rows : Rows} {ca an k : Nat} (h : foundN rows ca an (rksN rows ca an k).1 rows.length = []) : ∀ d, rksN rows ca an (k + d) = rksN rows ca an k
  | 0 => rfl
  | d + 1 => by
    rw [← Nat.add_assoc, rksN_succ, rks_stay h d, h]
    rfl
theorem itemsD_kv {l : List (Nat × Nat)} {i : Nat} {x : A} (h : (itemsD (kvD l))[i]? = some x) : ∃ p, l[i]? = some p ∧ x = .d (.tup [.int p.1, .int p.2]) := by
  unfold itemsD kvD at h
  rw [List.getElem?_map, List.getElem?_map] at h
  cases e : l[i]? with
  | none => rw [e] at h; cases h
  | some p =>
    rw [e] at h
    cases h
    exact ⟨p, rfl, rfl⟩
theorem mkL_non {n : Nat} : mkL (List.replicate n [A.d D.non]).flatten = .lst ((List.replicate n none).map tD) := mkL_repM (f := tD) (y := none)
theorem ranked_j {cm : CM} {k : Nat} {ca an : Nat} {sta : Int} {rows : Rows} {Q : QA} {E : XA → Prop} (ok : CstOk ca an rows) (q : Q (.t [.h 0, .h 1]) [some (tLs (rks rows ca an).1), some (tLs (rks rows ca an).2)]) : jFn cm tab (k + 7) i_ranked_calls [.d (cstD cm ca an sta rows)] [] Q E := by
  have hn := ok.n
  refine jFn_i (d := j_ranked_calls) rfl (jdef_i _ rfl rfl ?_)
  walk_at "n"
  refine rep_m (f := tD) none rfl rfl (by omega) ?_
  walk_at "v"
  walk_at "n"
  refine rep_m (f := tD) none rfl rfl (by omega) ?_
  walk_at "v"
  refine b_gc [1, 3] rfl rfl rfl ?_
  walk_at "n"
  walk_at "n"
  refine jCall_i [0] rfl (forced_calls_j ok (by rw [List.length_replicate]) ⟨_, _, rfl, ?_⟩)
  walk_at "v"
  refine bk_step ?_
  refine ⟨⟨fun m δ' η' => ∃ k, k ≤ cntS (rksN rows ca an k).1 ∧ m = rows.length - k ∧ ∃ v5 v6, δ' = [some (.d (cstD cm ca an sta rows)), some (.h 0), some (.h 1), some (I k), some (.h 2), v5, v6] ∧
    η' = [some (tLs (rksN rows ca an k).1), some (tLs (rksN rows ca an k).2), some (.dK (kvD (foundN rows ca an (rksN rows ca an k).1 rows.length)))], ⟨_, 0, Nat.zero_le _, rfl, _, _, rfl, rfl⟩, ?_⟩⟩
  rintro m δ' η' ⟨k, hk, rfl, v5, v6, rfl, rfl⟩
  have hl := rksN_len (rows := rows) (ca := ca) (an := an) k
  have hlt : ∀ p ∈ foundN rows ca an (rksN rows ca an k).1 rows.length, p.1 < rows.length := foundN_lt
  have hasc := foundN_asc (rows := rows) (ca := ca) (an := an) (t := (rksN rows ca an k).1) rows.length
  have hcr := cnt_round (rows := rows) (ca := ca) (an := an) (k := k)
  have hst := rks_stay (rows := rows) (ca := ca) (an := an) (k := k)
  have hsu := rksN_succ (rows := rows) (ca := ca) (an := an) k
  have hcb : cntS (rksN rows ca an (k + 1)).1 ≤ rows.length := by
    rw [← (rksN_len (rows := rows) (ca := ca) (an := an) (k + 1)).1]
    exact List.countP_le_length
  have hcb0 : cntS (rksN rows ca an k).1 ≤ rows.length := by
    rw [← hl.1]
    exact List.countP_le_length
  walk_at "w"
  refine .inr ⟨2, _, rfl, rfl, ?_⟩
  walk_at "v"
  generalize hf : foundN rows ca an (rksN rows ca an k).1 rows.length = l at hlt hasc hcr hst
  refine if_i (fun h => ?_) fun h => ?_
  · have hne : l ≠ [] := by
      rintro rfl
      simp [kvD] at h
    have hcr := hcr hne
    rw [hf] at hsu
    clear hst hf hcb0
    revert hk hl hsu hcr
    generalize rksN rows ca an k = tb
    obtain ⟨t, b⟩ := tb
    intro hk hl hsu hcr
    dsimp only at hk hl hcr
    walk_at "s"
    refine ⟨⟨2, kvD l, rfl, fun ob vs => ⟨_, rfl, ?_⟩⟩⟩
    walk_at "w"
    refine ⟨2, ob, vs, kvD l, rfl, rfl, ?_⟩
    refine ⟨fun i δ' η' => (∃ v5 v6, δ' = [some (.d (cstD cm ca an sta rows)), some (.h 0), some (.h 1), some (I k), some (.h 2), v5, v6]) ∧
      η' = [some (tLs (putN k (t, b) (l.take i)).1), some (tLs (putN k (t, b) (l.take i)).2), some (.lkd ob vs (kvD l))], ⟨⟨_, _, rfl⟩, rfl⟩, rfl, fun i δ' η' _ h => ?_, ?_, ?_⟩
    · rw [h.2]
      exact ⟨rfl, rfl⟩
    · rintro i x δ' η' hx ⟨⟨v5, v6, rfl⟩, rfl⟩
      obtain ⟨p, hp, rfl⟩ := itemsD_kv hx
      have hpl := hlt p (List.mem_of_getElem? hp)
      have hpn := putN_len (k := k) (l := l.take i) (tb := (t, b))
      dsimp only at hpn
      walk_at "w"
      walk_at "n"
      refine set_m p.1 (some k) rfl rfl (by rw [hpn.1]; omega) ?_
      walk_at "v"
      walk_at "n"
      refine set_m p.1 (some p.2) rfl rfl (by rw [hpn.2]; omega) ?_
      walk_at "v"
      refine bk_end ⟨⟨_, _, rfl⟩, ?_⟩
      rw [putN_take hp]
    · rintro δ' η' ⟨⟨v5, v6, rfl⟩, rfl⟩
      refine ⟨_, rfl, ?_⟩
      have hle : (itemsD (kvD l)).length = l.length := by unfold itemsD kvD; rw [List.length_map, List.length_map]
      rw [hle, List.take_length, ← hsu]
      walk_at "n"
      walk_at "n"
      refine jCall_i [0] rfl (forced_calls_j ok (rksN_len (k + 1)).1 ⟨_, _, rfl, ?_⟩)
      walk_at "v"
      refine b_fgt [5, 6] (b_gc [0, 1, 3] rfl rfl rfl (bk_end ?_))
      exact ⟨_, by omega, k + 1, by omega, rfl, _, _, rfl, rfl⟩
  · have hnil : l = [] := by
      cases l with
      | nil => rfl
      | cons p l => simp [kvD] at h
    walk_at "n"
    refine ⟨[0, 1], _, _, rfl, rfl, rfl, rfl, ?_⟩
    have : rks rows ca an = rksN rows ca an k := by
      unfold rks
      have := hst hnil (rows.length - k)
      rwa [show k + (rows.length - k) = rows.length by omega] at this
    rw [this] at q
    exact q
end Y
set_option Elab.async false
set_option linter.all false
set_option maxRecDepth 100000
set_option maxHeartbeats 2000000
set_option autoImplicit false
set_option pp.maxSteps 500
set_option pp.deepTerms false
set_option pp.proofs false
namespace Y
open PySem PySem.Spec PyProof.Rows L2
local macro_rules | `(tactic| walk_at "w") => `(tactic| conv => whnf)
local macro_rules | `(tactic| walk_at "s") => `(tactic| ((first | refine bk_step ?_ | refine bk_end ?_); conv => whnf))
local macro_rules | `(tactic| walk_at "c") => `(tactic| ((first | refine if_t rfl ?_ | refine if_f rfl ?_); conv => whnf))
local macro_rules | `(tactic| walk_at "a") => `(tactic| ((refine and_i ?h0 ?_); (case h0 => first | exact rfl | exact szl rfl | exact lt1000 rfl | exact Nat.succ_le_succ (Nat.zero_le _) | exact Nat.le_add_left _ _ | assumption | omega | decide | (refine Or.inl ⟨?_, ?_⟩ <;> omega) | (refine Or.inr ⟨?_, ?_⟩ <;> omega) | (refine ⟨?_, ?_⟩ <;> omega) | (refine ⟨?_, ?_, ?_⟩ <;> omega)); (conv => whnf)))
local macro_rules | `(tactic| walk_at "run") => `(tactic| repeat (first | walk_at "s" | walk_at "c" | walk_at "a"))
local macro_rules | `(tactic| walk_at "ca") => `(tactic| repeat (first | walk_at "c" | walk_at "a"))
local macro_rules | `(tactic| walk_at "n") => `(tactic| (walk_at "s"; walk_at "ca"))
local macro_rules | `(tactic| walk_at "v") => `(tactic| (walk_at "w"; walk_at "ca"))
local macro_rules | `(tactic| walk_at "o") => `(tactic| ((first | refine if_T (by omega) ?_ | refine if_F (by omega) ?_ | refine if_nT (by omega) ?_ | refine if_nF (by omega) ?_); (conv => whnf)))
local macro_rules | `(tactic| walk_at "cao") => `(tactic| repeat (first | walk_at "c" | walk_at "a" | walk_at "o"))
local macro_rules | `(tactic| walk_at "go") => `(tactic| repeat (first | walk_at "s" | walk_at "c" | walk_at "a" | walk_at "o"))
theorem ranks_j {cm : CM} {k : Nat} {ca an : Nat} {sta : Int} {rows : Rows} {Q : QA} {E : XA → Prop} (ok : CstOk ca an rows) (q : Q (.h 0) [some (tLs (rks rows ca an).1)]) : jFn cm tab (k + 8) i_ranks [.d (cstD cm ca an sta rows)] [] Q E := by
  refine jFn_i (d := j_ranks) rfl (jdef_i _ rfl rfl ?_)
  walk_at "n"
  refine jCall_i [] rfl (ranked_j ok ⟨_, _, rfl, ?_⟩)
  walk_at "v"
  exact ⟨[0], _, _, rfl, rfl, rfl, rfl, q⟩
/-- the least answer that is free -/
def safeA (rows : Rows) (an : Nat) (t : List (Option Nat)) (s c : Nat) : Option Nat := (List.range an).find? fun a => isFree t ((outsOf rows an s c).getD a (0, 0))
theorem safe_j {cm : CM} {k : Nat} {ca an : Nat} {sta : Int} {rows : Rows} {t : List (Option Nat)} {s c : Nat} {Q : QA} {E : XA → Prop} (ok : CstOk ca an rows) (ht : t.length = rows.length) (hs : s < rows.length) (hc : c < ca) (q : Q (.d (tD (safeA rows an t s c))) [some (tLs t)]) : jFn cm tab (k + 4) i_safe_answer [.d (cstD cm ca an sta rows), I s, I c, .h 0] [some (tLs t)] Q E := by
  have hlen := ok.outLen hs hc
  refine jFn_i (d := j_safe_answer) rfl (jdef_i _ rfl rfl ?_)
  walk_at "n"
  refine jCall_i [] rfl (outcomes_j ok.a.2 hs ok.len hc ⟨_, _, rfl, ?_⟩)
  walk_at "v"
  refine for_en (l := outsOf rows an s c) (f := fun p => .d (pairD p)) mm (fun i δ' η' => δ' = [some (.d (cstD cm ca an sta rows)), some (I s), some (I c), some (.h 0), none, none, none] ∧ η' = [some (tLs t), some (.lst ((outsOf rows an s c).map pairD))] ∧ (List.range i).find? (fun a => isFree t ((outsOf rows an s c).getD a (0, 0))) = none) ⟨rfl, rfl, rfl⟩ (fun _ _ _ _ h => by rw [h.2.1]; rfl) ?_ ?_
  · rintro i o δ' η' ho ⟨rfl, rfl, hn⟩
    obtain ⟨h1, h2, h3, h4⟩ := ok.out ho
    have hfr : isFree t o = (decide (o.2 = 0) && (t.getD o.1.toNat none).isNone) := rfl
    have hgo : (outsOf rows an s c).getD i (0, 0) = o := by rw [List.getD_eq_getElem?_getD, ho]; rfl
    have hi : i < an := by rw [← hlen]; exact (List.getElem?_eq_some_iff.mp ho).1
    walk_at "w"
    refine bk_step (s_ifv (isFree t o) (fun K hK => ?_) (if_b (fun h => ?_) fun h => ?_))
    · walk_at "v"
      refine if_n (fun h5 => ?_) fun h5 => leaf hK (by rw [hfr, decide_eq_false (by omega)]; rfl)
      walk_at "v"
      refine ix_m o.1.toNat (by omega) (getT (by omega)) ?_
      walk_at "v"
      exact leaf hK (by rw [hfr, decide_eq_true (show o.2 = 0 by omega), tD_non]; rfl)
    · walk_at "n"
      refine ret_d rfl ?_
      have : safeA rows an t s c = some i := by
        unfold safeA
        rw [List.find?_eq_some_iff_getElem]
        refine ⟨by rw [hgo]; exact h, i, by rw [List.length_range]; exact hi, by simp, fun j hj => ?_⟩
        have := List.find?_eq_none.mp hn j (by simpa using hj)
        simpa using this
      rw [this] at q
      exact q
    · refine bk_end (b_fgt [4, 5, 6] (bk_end ⟨rfl, rfl, ?_⟩))
      rw [find_range_succ, hn, hgo, h]
      rfl
  · rintro δ' η' ⟨rfl, rfl, hn⟩
    walk_at "n"
    refine ret_d rfl ?_
    rw [hlen] at hn
    have : safeA rows an t s c = none := hn
    rw [this] at q
    exact q
def keptR (rows : Rows) (ca an : Nat) (t : List (Option Nat)) (s : Nat) : D := .tup [.int s, .tup ((List.range ca).map fun c => tD (safeA rows an t s c))]
def lostR (t b : List (Option Nat)) (s : Nat) : D := .tup [.int s, tD (b.getD s none), tD (t.getD s none)]
/-- the table of settle -/
def setlD (rows : Rows) (ca an sta : Nat) : D := if ((rks rows ca an).1.getD sta none).isNone = true then
  .tup [.str "kept", .tup (((List.range rows.length).filter fun s => ((rks rows ca an).1.getD s none).isNone).map (keptR rows ca an (rks rows ca an).1))]
  else .tup [.str "lost", .tup (((List.range rows.length).filter fun s => ((rks rows ca an).1.getD s none).isSome).map (lostR (rks rows ca an).1 (rks rows ca an).2))]
theorem filt_succ {p : Nat → Bool} {n : Nat} : (List.range (n + 1)).filter p = (List.range n).filter p ++ if p n = true then [n] else [] := by
  rw [List.range_succ, List.filter_append]
  congr 1
  by_cases h : p n = true <;> simp [h, List.filter]
theorem filt_le {p : Nat → Bool} {n : Nat} : ((List.range n).filter p).length ≤ n := Nat.le_trans (List.length_filter_le _ _) (by rw [List.length_range]; exact Nat.le_refl _)
theorem rks_len {rows : Rows} {ca an : Nat} : (rks rows ca an).1.length = rows.length ∧ (rks rows ca an).2.length = rows.length := rksN_len _
theorem settle_j {cm : CM} {k : Nat} {ca an : Nat} {sta : Nat} {rows : Rows} {Q : QA} {E : XA → Prop} (ok : CstOk ca an rows) (hsta : sta < rows.length) (q : Q (.d (setlD rows ca an sta)) []) : jFn cm tab (k + 8) i_settle [.d (cstD cm ca an sta rows)] [] Q E := by
  have hn := ok.n
  have hca := ok.c
  refine jFn_i (d := j_settle) rfl (jdef_i _ rfl rfl ?_)
  walk_at "n"
  refine jCall_i [] rfl (ranked_j ok ⟨_, _, rfl, ?_⟩)
  have hl := rks_len (rows := rows) (ca := ca) (an := an)
  unfold setlD at q
  generalize (rks rows ca an).1 = t at hl q
  generalize (rks rows ca an).2 = b at hl q
  obtain ⟨hl1, hl2⟩ := hl
  walk_at "v"
  walk_at "n"
  walk_at "n"
  refine ix_m sta rfl (getT (by omega)) ?_
  walk_at "v"
  rw [tD_non]
  refine if_b (fun h => ?_) fun h => ?_
  · rw [if_pos h] at q
    walk_at "n"
    refine for_en (l := t) (f := fun x => .d (tD x)) mm (fun i δ' η' => δ' = [some (.d (cstD cm ca an sta rows)), some (.h 0), some (.h 1), some (.h 2), none, none, none, none] ∧ η' = [some (tLs t), some (tLs b), some (.lst (((List.range i).filter fun s => (t.getD s none).isNone).map (keptR rows ca an t)))]) ⟨rfl, rfl⟩ (fun _ _ _ _ h => by rw [h.2]; rfl) ?_ ?_
    · rintro i x δ' η' hx ⟨rfl, rfl⟩
      have hi := (List.getElem?_eq_some_iff.mp hx).1
      have hxe : t.getD i none = x := by rw [List.getD_eq_getElem?_getD, hx]; rfl
      have hfs := filt_succ (p := fun s => (t.getD s none).isNone) (n := i)
      rw [hxe] at hfs
      walk_at "w"
      walk_at "s"
      rw [tD_non]
      refine if_b (fun h => ?_) fun h => ?_
      · walk_at "n"
        refine lc_m (l := List.range ca) (f := fun i => I (i : Nat)) (fun c => tD (safeA rows an t i c)) (intsA0 rfl) rfl trivial (by rw [List.length_range, sizeLine_eq]; omega) ?_ ?_
        · intro j c hc R N hR
          obtain ⟨rfl, hc⟩ := range_get hc
          walk_at "v"
          exact jCall_i [0] rfl (safe_j ok hl1 (by omega) hc ⟨_, _, rfl, hR⟩)
        · walk_at "v"
          walk_at "n"
          rw [mkT_map]
          walk_at "v"
          refine ap_m (f := keptR rows ca an t) i rfl (Nat.lt_of_le_of_lt filt_le (by omega)) ?_
          walk_at "v"
          refine bk_end (b_fgt [4, 5, 6] (b_gc [0, 1, 2] rfl rfl rfl (bk_end ⟨rfl, ?_⟩)))
          rw [hfs, if_pos h]
      · refine bk_end (b_fgt [4, 5] (bk_end ⟨rfl, ?_⟩))
        rw [hfs, if_neg (by rw [h]; decide), List.append_nil]
    · rintro δ' η' ⟨rfl, rfl⟩
      walk_at "n"
      rw [mkT_map]
      walk_at "v"
      refine ret_d rfl ?_
      rw [← hl1] at q
      exact q
  · rw [if_neg (by rw [h]; decide)] at q
    refine bk_end ?_
    walk_at "n"
    refine for_en (l := t) (f := fun x => .d (tD x)) mm (fun i δ' η' => δ' = [some (.d (cstD cm ca an sta rows)), some (.h 0), some (.h 1), some (.h 2), none, none, none, none] ∧ η' = [some (tLs t), some (tLs b), some (.lst (((List.range i).filter fun s => (t.getD s none).isSome).map (lostR t b)))]) ⟨rfl, rfl⟩ (fun _ _ _ _ h => by rw [h.2]; rfl) ?_ ?_
    · rintro i x δ' η' hx ⟨rfl, rfl⟩
      have hi := (List.getElem?_eq_some_iff.mp hx).1
      have hxe : t.getD i none = x := by rw [List.getD_eq_getElem?_getD, hx]; rfl
      have hfs := filt_succ (p := fun s => (t.getD s none).isSome) (n := i)
      rw [hxe] at hfs
      walk_at "w"
      walk_at "s"
      rw [tD_non]
      refine if_b (fun h => ?_) fun h => ?_
      · have h : x.isSome = true := by cases x <;> simp_all
        walk_at "n"
        refine ix_m i rfl (getT (by omega)) ?_
        walk_at "v"
        refine ap_m (f := lostR t b) i (by unfold lostR; rw [hxe]) (Nat.lt_of_le_of_lt filt_le (by omega)) ?_
        walk_at "v"
        refine bk_end (b_fgt [4, 5] (bk_end ⟨rfl, ?_⟩))
        rw [hfs, if_pos h]
      · have h : x.isSome = false := by cases x <;> simp_all
        refine bk_end (b_fgt [4, 5] (bk_end ⟨rfl, ?_⟩))
        rw [hfs, if_neg (by rw [h]; decide), List.append_nil]
    · rintro δ' η' ⟨rfl, rfl⟩
      walk_at "n"
      rw [mkT_map]
      walk_at "v"
      refine ret_d rfl ?_
      rw [← hl1] at q
      exact q
end Y
set_option Elab.async false
set_option linter.all false
set_option maxRecDepth 100000
set_option maxHeartbeats 2000000
set_option autoImplicit false
set_option pp.maxSteps 500
set_option pp.deepTerms false
set_option pp.proofs false
namespace Y
open PySem PySem.Spec PyProof.Rows L2
local macro_rules | `(tactic| walk_at "w") => `(tactic| conv => whnf)
local macro_rules | `(tactic| walk_at "s") => `(tactic| ((first | refine bk_step ?_ | refine bk_end ?_); conv => whnf))
local macro_rules | `(tactic| walk_at "c") => `(tactic| ((first | refine if_t rfl ?_ | refine if_f rfl ?_); conv => whnf))
local macro_rules | `(tactic| walk_at "a") => `(tactic| ((refine and_i ?h0 ?_); (case h0 => first | exact rfl | exact szl rfl | exact lt1000 rfl | exact Nat.succ_le_succ (Nat.zero_le _) | exact Nat.le_add_left _ _ | assumption | omega | decide | (refine Or.inl ⟨?_, ?_⟩ <;> omega) | (refine Or.inr ⟨?_, ?_⟩ <;> omega) | (refine ⟨?_, ?_⟩ <;> omega) | (refine ⟨?_, ?_, ?_⟩ <;> omega)); (conv => whnf)))
local macro_rules | `(tactic| walk_at "run") => `(tactic| repeat (first | walk_at "s" | walk_at "c" | walk_at "a"))
local macro_rules | `(tactic| walk_at "ca") => `(tactic| repeat (first | walk_at "c" | walk_at "a"))
local macro_rules | `(tactic| walk_at "n") => `(tactic| (walk_at "s"; walk_at "ca"))
local macro_rules | `(tactic| walk_at "v") => `(tactic| (walk_at "w"; walk_at "ca"))
local macro_rules | `(tactic| walk_at "o") => `(tactic| ((first | refine if_T (by omega) ?_ | refine if_F (by omega) ?_ | refine if_nT (by omega) ?_ | refine if_nF (by omega) ?_); (conv => whnf)))
local macro_rules | `(tactic| walk_at "cao") => `(tactic| repeat (first | walk_at "c" | walk_at "a" | walk_at "o"))
local macro_rules | `(tactic| walk_at "go") => `(tactic| repeat (first | walk_at "s" | walk_at "c" | walk_at "a" | walk_at "o"))
theorem keysA_kv {l : List (Nat × Nat)} {i : Nat} {x : A} (h : (keysA (kvD l))[i]? = some x) : ∃ p, l[i]? = some p ∧ x = .d (.int (p.1 : Int)) := by
  unfold keysA kvD at h
  rw [List.getElem?_map, List.getElem?_map] at h
  cases e : l[i]? with
  | none => rw [e] at h; cases h
  | some p =>
    rw [e] at h
    cases h
    exact ⟨p, rfl, rfl⟩
theorem take_out {rows : Rows} {an s c : Nat} {r : List (Int × Int)} (h : rows[s]? = some r) : (r.drop (c * an)).take (c * an + an - c * an) = outsOf rows an s c := by
  unfold outsOf
  rw [List.getD_eq_getElem?_getD, h, Nat.add_sub_cancel_left]
  rfl
theorem filt_nil {rows : Rows} {an : Nat} {t : List (Option Nat)} {s c : Nat} : decide ((((outsOf rows an s c).filter (isFree t)).length : Int) = 0) = wins rows an t s c := by
  unfold wins
  cases h : (outsOf rows an s c).all fun o => !isFree t o with
  | true =>
    have : (outsOf rows an s c).filter (isFree t) = [] := by
      rw [List.filter_eq_nil_iff]
      intro a ha z
      have := List.all_eq_true.mp h a ha
      simp [z] at this
    rw [this]
    rfl
  | false =>
    obtain ⟨a, ha, z⟩ := List.all_eq_false.mp h
    have : a ∈ (outsOf rows an s c).filter (isFree t) := List.mem_filter.mpr ⟨ha, by simpa using z⟩
    have := List.length_pos_of_mem this
    exact decide_eq_false (by omega)
theorem L_ranks_j {cm : CM} {k : Nat} {ca an : Nat} {rows : Rows} {Q : QA} {E : XA → Prop} (ok : CstOk ca an rows) (q : Q (.t [.h 1, .h 2]) [some (.lst (rows.map rowD)), some (tLs (rks rows ca an).1), some (tLs (rks rows ca an).2)]) : jFn cm tab (k + 1) i_L_ranks [.h 0, I ca, I an] [some (.lst (rows.map rowD))] Q E := by
  have hn := ok.n
  have hca := ok.c
  have han := ok.a
  have hlen : ∀ η : Hs, lenA (some (.lst (rows.map rowD)) :: η) (.h 0) = some rows.length := fun η => by show some (rows.map rowD).length = _; rw [List.length_map]
  refine jFn_i (d := j_L_ranks) rfl (jdef_i _ rfl rfl ?_)
  walk_at "n"
  refine .inl ⟨_, hlen _, fun _ => ?_⟩
  walk_at "v"
  refine rep_m (f := tD) none rfl rfl (by omega) ?_
  walk_at "v"
  walk_at "n"
  refine .inl ⟨_, hlen _, fun _ => ?_⟩
  walk_at "v"
  refine rep_m (f := tD) none rfl rfl (by omega) ?_
  walk_at "v"
  refine b_gc [0, 2, 4] rfl rfl rfl ?_
  walk_at "s"
  refine .inl ⟨_, hlen _, fun _ => ?_⟩
  walk_at "v"
  refine for_r rows.length rfl (fun k δ' η' => δ' = [some (.h 0), some (I ca), some (I an), some (.h 1), some (.h 2), none, none, none, none, none, none, none] ∧ η' = [some (.lst (rows.map rowD)), some (tLs (rksN rows ca an k).1), some (tLs (rksN rows ca an k).2)]) ⟨rfl, rfl⟩ ?_ ?_
  · rintro k δ' η' hk ⟨rfl, rfl⟩
    have hl := rksN_len (rows := rows) (ca := ca) (an := an) k
    have hsu := rksN_succ (rows := rows) (ca := ca) (an := an) k
    revert hl hsu
    generalize rksN rows ca an k = tb
    obtain ⟨t, b⟩ := tb
    intro hl hsu
    dsimp only at hl hsu
    obtain ⟨hl1, hl2⟩ := hl
    walk_at "w"
    walk_at "n"
    walk_at "s"
    refine .inl ⟨_, hlen _, fun _ => ?_⟩
    walk_at "v"
    refine for_r rows.length rfl (fun s δ' η' => δ' = [some (.h 0), some (I ca), some (I an), some (.h 1), some (.h 2), some (I k), some (.h 3), none, none, none, none, none] ∧ η' = [some (.lst (rows.map rowD)), some (tLs t), some (tLs b), some (.dK (kvD (foundN rows ca an t s)))]) ⟨rfl, rfl⟩ ?_ ?_
    · rintro s δ' η' hs ⟨rfl, rfl⟩
      have gt := getT (t := t) (i := s) (by omega)
      have fs := foundN_succ (rows := rows) (ca := ca) (an := an) (t := t) (n := s)
      have gr := List.getElem?_eq_getElem hs
      have hrow := ok.len _ (List.getElem_mem hs)
      generalize rows[s] = r at gr hrow
      walk_at "w"
      walk_at "n"
      refine ix_m s rfl gt ?_
      walk_at "v"
      rw [tD_non]
      refine if_b (fun h => ?_) fun h => ?_
      · refine bk_step (gh_fgt [7] (gh_i ⟨rfl, ?_⟩))
        rw [fs, if_pos (by cases hx : t.getD s none <;> rw [hx] at h <;> simp_all), List.append_nil]
      · rw [if_neg (by cases hx : t.getD s none <;> rw [hx] at h <;> simp_all)] at fs
        refine bk_end ?_
        walk_at "n"
        refine for_r ca rfl (fun c δ' η' => δ' = [some (.h 0), some (I ca), some (I an), some (.h 1), some (.h 2), some (I k), some (.h 3), some (I s), none, none, none, none] ∧ η' = [some (.lst (rows.map rowD)), some (tLs t), some (tLs b), some (.dK (kvD (foundN rows ca an t s ++ atC rows an t s c)))]) ⟨rfl, by rw [show atC rows an t s 0 = [] from rfl, List.append_nil]⟩ ?_ ?_
        · rintro c δ' η' hc ⟨rfl, rfl⟩
          have as := atC_succ (rows := rows) (an := an) (t := t) (s := s) (c := c)
          have am := atC_mem (rows := rows) (an := an) (t := t) (s := s) (c := c)
          walk_at "w"
          walk_at "s"
          refine ix_m s rfl gr ?_
          walk_at "v"
          rw [show (c : Int) * (an : Int) = ((c * an : Nat) : Int) by rw [Int.natCast_mul], show ((c * an : Nat) : Int) + (an : Int) = ((c * an + an : Nat) : Int) by rw [Int.natCast_add], cutA_map, mkT_map, take_out gr]
          walk_at "v"
          walk_at "s"
          refine lc_f (l := outsOf rows an s c) (f := fun p => .d (pairD p)) (isFree t) pairD mm rfl trivial (by rw [ok.outLen hs hc, sizeLine_eq]; omega) ?_ ?_
          · intro j o ho R N h1 h2
            obtain ⟨g1, g2, g3, g4⟩ := ok.out ho
            have hfr : isFree t o = (decide (o.2 = 0) && (t.getD o.1.toNat none).isNone) := rfl
            rw [hfr] at h1 h2
            walk_at "v"
            refine if_i (fun h5 => ?_) fun h5 => if_f rfl (h2 (by rw [decide_eq_false h5]; rfl))
            walk_at "v"
            refine ix_m o.1.toNat (by omega) (getT (by omega)) ?_
            walk_at "v"
            rw [decide_eq_true (show o.2 = 0 by omega)] at h1 h2
            rw [tD_non]
            exact if_b (fun h => h1 h) fun h => h2 h
          · walk_at "v"
            refine bk_step (s_ifv (wins rows an t s c && (atC rows an t s c).isEmpty) (fun K hK => ?_) (if_b (fun h => ?_) fun h => ?_))
            · walk_at "w"
              refine .inl ⟨_, by show some (List.map pairD _).length = _; rw [List.length_map], fun _ => ?_⟩
              walk_at "v"
              rw [filt_nil]
              refine if_b (fun h => ?_) fun h => leaf hK (by rw [h]; rfl)
              walk_at "v"
              refine .inr ⟨rfl, 3, .int s, .inl s, _, rfl, rfl, rfl, rfl, leaf hK ?_⟩
              rw [h]
              cases he : atC rows an t s c with
              | nil =>
                rw [List.append_nil, getK_kv fun p hp => by have := foundN_lt p hp; omega]
                rfl
              | cons p l =>
                obtain ⟨p', hp1, hp2⟩ := am (by rw [he]; simp)
                rw [he] at hp1
                rw [getK_kvS ⟨p', List.mem_append_right _ hp1, hp2⟩]
                rfl
            · have h2 : atC rows an t s c = [] := by
                have := (Bool.and_eq_true_iff.mp h).2
                exact List.isEmpty_iff.mp this
              have h1 := (Bool.and_eq_true_iff.mp h).1
              rw [if_pos ⟨h2, h1⟩] at as
              rw [h2, List.append_nil]
              walk_at "n"
              refine and_i (by unfold kvD; rw [List.length_map, sizeLine_eq]; exact Nat.lt_of_le_of_lt foundN_len (by omega)) ?_
              walk_at "v"
              refine bk_end (b_fgt [8, 9, 10] (b_gc [0, 1, 2, 3] rfl rfl rfl (bk_end ⟨rfl, ?_⟩)))
              rw [as, ← setK_kv (fun p hp => by have := foundN_lt p hp; omega)]
            · rw [if_neg (by
                intro z
                rw [z.1, z.2] at h
                exact absurd h (by decide))] at as
              refine bk_end (b_fgt [8, 9, 10] (b_gc [0, 1, 2, 3] rfl rfl rfl (bk_end ⟨rfl, ?_⟩)))
              rw [as]
        · rintro δ' η' ⟨rfl, rfl⟩
          refine b_fgt [7] (bk_end ⟨rfl, ?_⟩)
          rw [fs]
    · rintro δ' η' ⟨rfl, rfl⟩
      have hlt : ∀ p ∈ foundN rows ca an t rows.length, p.1 < rows.length := foundN_lt
      have hasc := foundN_asc (rows := rows) (ca := ca) (an := an) (t := t) rows.length
      generalize foundN rows ca an t rows.length = l at hlt hasc hsu
      walk_at "s"
      refine ⟨⟨3, kvD l, rfl, fun ob vs => ⟨_, rfl, ?_⟩⟩⟩
      walk_at "w"
      refine ⟨3, ob, vs, kvD l, rfl, rfl, ?_⟩
      refine ⟨fun i δ' η' => (∃ v7, δ' = [some (.h 0), some (I ca), some (I an), some (.h 1), some (.h 2), some (I k), some (.h 3), v7, none, none, none, none]) ∧
        η' = [some (.lst (rows.map rowD)), some (tLs (putN k (t, b) (l.take i)).1), some (tLs (putN k (t, b) (l.take i)).2), some (.lkd ob vs (kvD l))], ⟨⟨_, rfl⟩, rfl⟩, rfl, fun i δ' η' _ h => ?_, ?_, ?_⟩
      · rw [h.2]
        exact ⟨rfl, rfl⟩
      · rintro i x δ' η' hx ⟨⟨v7, rfl⟩, rfl⟩
        obtain ⟨p, hp, rfl⟩ := keysA_kv hx
        have hpl := hlt p (List.mem_of_getElem? hp)
        have hpn := putN_len (k := k) (l := l.take i) (tb := (t, b))
        dsimp only at hpn
        walk_at "w"
        walk_at "n"
        refine set_m p.1 (some k) rfl rfl (by rw [hpn.1]; omega) ?_
        walk_at "v"
        walk_at "n"
        refine ob_i _ (getK_asc hasc hp) ?_
        walk_at "v"
        refine set_m p.1 (some p.2) rfl rfl (by rw [hpn.2]; omega) ?_
        walk_at "v"
        refine bk_end ⟨⟨_, rfl⟩, ?_⟩
        rw [putN_take hp]
      · rintro δ' η' ⟨⟨v7, rfl⟩, rfl⟩
        refine ⟨_, rfl, ?_⟩
        have hle : (keysA (kvD l)).length = l.length := by unfold keysA kvD; rw [List.length_map, List.length_map]
        rw [hle, List.take_length, ← hsu]
        refine b_fgt [5, 6, 7] (b_gc [0, 1, 2] rfl rfl rfl (bk_end ⟨rfl, rfl⟩))
  · rintro δ' η' ⟨rfl, rfl⟩
    walk_at "n"
    exact ⟨[0, 1, 2], _, _, rfl, rfl, rfl, rfl, q⟩
end Y
set_option Elab.async false
set_option linter.all false
set_option maxRecDepth 100000
set_option maxHeartbeats 2000000
set_option autoImplicit false
set_option pp.maxSteps 500
set_option pp.deepTerms false
set_option pp.proofs false
namespace Y
open PySem PySem.Spec PyProof.Rows L2
local macro_rules | `(tactic| walk_at "w") => `(tactic| conv => whnf)
local macro_rules | `(tactic| walk_at "s") => `(tactic| ((first | refine bk_step ?_ | refine bk_end ?_); conv => whnf))
local macro_rules | `(tactic| walk_at "c") => `(tactic| ((first | refine if_t rfl ?_ | refine if_f rfl ?_); conv => whnf))
local macro_rules | `(tactic| walk_at "a") => `(tactic| ((refine and_i ?h0 ?_); (case h0 => first | exact rfl | exact szl rfl | exact lt1000 rfl | exact Nat.succ_le_succ (Nat.zero_le _) | exact Nat.le_add_left _ _ | assumption | omega | decide | (refine Or.inl ⟨?_, ?_⟩ <;> omega) | (refine Or.inr ⟨?_, ?_⟩ <;> omega) | (refine ⟨?_, ?_⟩ <;> omega) | (refine ⟨?_, ?_, ?_⟩ <;> omega)); (conv => whnf)))
local macro_rules | `(tactic| walk_at "run") => `(tactic| repeat (first | walk_at "s" | walk_at "c" | walk_at "a"))
local macro_rules | `(tactic| walk_at "ca") => `(tactic| repeat (first | walk_at "c" | walk_at "a"))
local macro_rules | `(tactic| walk_at "n") => `(tactic| (walk_at "s"; walk_at "ca"))
local macro_rules | `(tactic| walk_at "v") => `(tactic| (walk_at "w"; walk_at "ca"))
local macro_rules | `(tactic| walk_at "o") => `(tactic| ((first | refine if_T (by omega) ?_ | refine if_F (by omega) ?_ | refine if_nT (by omega) ?_ | refine if_nF (by omega) ?_); (conv => whnf)))
local macro_rules | `(tactic| walk_at "cao") => `(tactic| repeat (first | walk_at "c" | walk_at "a" | walk_at "o"))
local macro_rules | `(tactic| walk_at "go") => `(tactic| repeat (first | walk_at "s" | walk_at "c" | walk_at "a" | walk_at "o"))
theorem rks_fix {rows : Rows} {ca an : Nat} : foundN rows ca an (rks rows ca an).1 rows.length = [] := by
  have h : ∀ k, foundN rows ca an (rksN rows ca an k).1 rows.length ≠ [] → k < cntS (rksN rows ca an (k + 1)).1 := by
    intro k
    induction k with
    | zero => intro h; exact Nat.lt_of_le_of_lt (Nat.zero_le _) (cnt_round h)
    | succ k ih =>
      intro h
      have := cnt_round h
      have h2 : foundN rows ca an (rksN rows ca an k).1 rows.length ≠ [] := by
        intro z
        apply h
        have := rks_stay z 1
        rw [this]
        exact z
      have := ih h2
      omega
  by_cases z : foundN rows ca an (rks rows ca an).1 rows.length = []
  · exact z
  · have := h rows.length z
    have h2 : cntS (rksN rows ca an (rows.length + 1)).1 ≤ (rksN rows ca an (rows.length + 1)).1.length := List.countP_le_length
    rw [(rksN_len (rows := rows) (ca := ca) (an := an) (rows.length + 1)).1] at h2
    omega
theorem fix_wins {rows : Rows} {ca an s c : Nat} {t : List (Option Nat)} (h : foundN rows ca an t rows.length = []) (hs : s < rows.length) (ht : t.getD s none = none) (hc : c < ca) : wins rows an t s c = false := by
  have h0 := h
  unfold foundN at h
  rw [List.filterMap_eq_nil_iff] at h
  have := h s (List.mem_range.mpr hs)
  rw [ht] at this
  have hb : bestC rows ca an t s = none := by
    cases hb : bestC rows ca an t s with
    | none => rfl
    | some k => rw [hb] at this; exact absurd this (by simp)
  unfold bestC at hb
  have := List.find?_eq_none.mp hb c (List.mem_range.mpr hc)
  simpa using this
theorem fix_safe {rows : Rows} {ca an s c : Nat} {t : List (Option Nat)} (ok : CstOk ca an rows) (hs : s < rows.length) (hc : c < ca) (h : wins rows an t s c = false) : ∃ a, safeA rows an t s c = some a ∧ a < an := by
  unfold wins at h
  obtain ⟨o, ho, z⟩ := List.all_eq_false.mp h
  obtain ⟨i, hi, e⟩ := List.getElem_of_mem ho
  have hl := ok.outLen hs hc
  unfold safeA
  cases hf : (List.range an).find? fun a => isFree t ((outsOf rows an s c).getD a (0, 0)) with
  | some a => exact ⟨a, rfl, List.mem_range.mp (List.mem_of_find?_eq_some hf)⟩
  | none =>
    have := List.find?_eq_none.mp hf i (List.mem_range.mpr (by omega))
    rw [List.getD_eq_getElem?_getD, List.getElem?_eq_getElem hi, e] at this
    simp at z
    exact absurd z (by simpa using this)
theorem L_settled_j {cm : CM} {k : Nat} {ca an sta : Nat} {rows : Rows} {Q : QA} {E : XA → Prop} (ok : CstOk ca an rows) (hsta : sta < rows.length) (q : Q (.d (setlD rows ca an sta)) [some (.lst (rows.map rowD))]) : jFn cm tab (k + 2) i_L_settled [.h 0, I ca, I an, I sta] [some (.lst (rows.map rowD))] Q E := by
  have hn := ok.n
  have hca := ok.c
  have han := ok.a
  have hlen : ∀ η : Hs, lenA (some (.lst (rows.map rowD)) :: η) (.h 0) = some rows.length := fun η => by show some (rows.map rowD).length = _; rw [List.length_map]
  refine jFn_i (d := j_L_settled) rfl (jdef_i _ rfl rfl ?_)
  walk_at "n"
  refine jCall_i [0] rfl (L_ranks_j ok ⟨_, _, rfl, ?_⟩)
  have hl := rks_len (rows := rows) (ca := ca) (an := an)
  have hfix := rks_fix (rows := rows) (ca := ca) (an := an)
  unfold setlD at q
  generalize (rks rows ca an).1 = t at hl q hfix
  generalize (rks rows ca an).2 = b at hl q
  obtain ⟨hl1, hl2⟩ := hl
  walk_at "v"
  walk_at "n"
  walk_at "s"
  refine .inl ⟨_, hlen _, fun _ => ?_⟩
  walk_at "v"
  cases h : (t.getD sta none).isNone with
  | true =>
    rw [if_pos h] at q
    refine for_r rows.length rfl (fun i δ' η' => δ' = [some (.h 0), some (I ca), some (I an), some (I sta), some (.t [.h 1, .h 2]), some (.h 3), none, none, none, none, none] ∧ η' = [some (.lst (rows.map rowD)), some (tLs t), some (tLs b), some (.lst (((List.range i).filter fun s => (t.getD s none).isNone).map (keptR rows ca an t)))]) ⟨rfl, rfl⟩ ?_ ?_
    · rintro s δ' η' hs ⟨rfl, rfl⟩
      have hfs := filt_succ (p := fun s => (t.getD s none).isNone) (n := s)
      have gr := List.getElem?_eq_getElem hs
      generalize rows[s] = r at gr
      walk_at "w"
      walk_at "s"
      refine ix_m sta rfl (getT (by omega)) ?_
      walk_at "v"
      rw [tD_non]
      refine if_t h ?_
      walk_at "v"
      refine ix_m s rfl (getT (by omega)) ?_
      walk_at "v"
      rw [tD_non]
      refine if_b (fun h2 => ?_) fun h2 => ?_
      · have h2' : t.getD s none = none := Option.isNone_iff_eq_none.mp h2
        walk_at "n"
        walk_at "n"
        refine for_r ca rfl (fun c δ' η' => δ' = [some (.h 0), some (I ca), some (I an), some (I sta), some (.t [.h 1, .h 2]), some (.h 3), some (I s), some (.h 4), none, none, none] ∧ η' = [some (.lst (rows.map rowD)), some (tLs t), some (tLs b), some (.lst (((List.range s).filter fun s => (t.getD s none).isNone).map (keptR rows ca an t))), some (.lst ((List.range c).map fun c => tD (safeA rows an t s c)))]) ⟨rfl, rfl⟩ ?_ ?_
        · rintro c δ' η' hc ⟨rfl, rfl⟩
          obtain ⟨a0, ha0, ha1⟩ := fix_safe ok hs hc (fix_wins hfix hs h2' hc)
          have hlo := ok.outLen hs hc
          walk_at "w"
          walk_at "s"
          refine ix_m s rfl gr ?_
          walk_at "v"
          rw [show (c : Int) * (an : Int) = ((c * an : Nat) : Int) by rw [Int.natCast_mul], show ((c * an : Nat) : Int) + (an : Int) = ((c * an + an : Nat) : Int) by rw [Int.natCast_add], cutA_map, mkT_map, take_out gr]
          walk_at "v"
          walk_at "n"
          refine lc_f (l := List.range an) (f := fun i => I (i : Nat)) (fun a => isFree t ((outsOf rows an s c).getD a (0, 0))) (fun a => .int (a : Nat)) (intsA0 rfl) rfl trivial (by rw [List.length_range, sizeLine_eq]; omega) ?_ ?_
          · intro j a hj R N h1 h2
            obtain ⟨rfl, hj⟩ := range_get hj
            have ho : (outsOf rows an s c)[a]? = some ((outsOf rows an s c).getD a (0, 0)) := by
              rw [List.getD_eq_getElem?_getD, List.getElem?_eq_getElem (by omega)]
              rfl
            generalize (outsOf rows an s c).getD a (0, 0) = o at ho h1 h2
            obtain ⟨g1, g2, g3, g4⟩ := ok.out ho
            have hfr : isFree t o = (decide (o.2 = 0) && (t.getD o.1.toNat none).isNone) := rfl
            rw [hfr] at h1 h2
            walk_at "v"
            refine ix_m a rfl ho ?_
            walk_at "v"
            refine if_i (fun h5 => ?_) fun h5 => if_f rfl (h2 (by rw [decide_eq_false h5]; rfl))
            walk_at "v"
            refine ix_m a rfl ho ?_
            walk_at "v"
            refine ix_m o.1.toNat (by omega) (getT (by omega)) ?_
            walk_at "v"
            rw [decide_eq_true (show o.2 = 0 by omega)] at h1 h2
            rw [tD_non]
            exact if_b (fun h => h1 h) fun h => h2 h
          · walk_at "v"
            have hh : ((List.range an).filter fun a => isFree t ((outsOf rows an s c).getD a (0, 0)))[0]? = some a0 := by
              rw [← List.head?_eq_getElem?, List.head?_filter]
              exact ha0
            refine ix_m 0 rfl hh ?_
            walk_at "v"
            refine ap_m (f := fun c => tD (safeA rows an t s c)) c (by rw [ha0]; rfl) (by rw [List.length_range]; omega) ?_
            walk_at "v"
            refine b_fgt [8, 9] (b_gc [0, 1, 2, 3, 4] rfl rfl rfl (bk_end ⟨rfl, ?_⟩))
            rw [List.range_succ]
        · rintro δ' η' ⟨rfl, rfl⟩
          walk_at "n"
          rw [mkT_map]
          walk_at "v"
          refine ap_m (f := keptR rows ca an t) s rfl (Nat.lt_of_le_of_lt filt_le (by omega)) ?_
          walk_at "v"
          refine bk_end ?_
          walk_at "s"
          refine ix_m sta rfl (getT (by omega)) ?_
          walk_at "v"
          rw [tD_non, h]
          walk_at "v"
          refine bk_end (b_fgt [6, 7] (b_gc [0, 1, 2, 3] rfl rfl rfl (bk_end ⟨rfl, ?_⟩)))
          rw [hfs, if_pos h2]
      · refine bk_end ?_
        walk_at "s"
        refine ix_m sta rfl (getT (by omega)) ?_
        walk_at "v"
        rw [tD_non, h]
        walk_at "v"
        refine bk_end (b_fgt [6, 7] (b_gc [0, 1, 2, 3] rfl rfl rfl (bk_end ⟨rfl, ?_⟩)))
        rw [hfs, if_neg (by rw [h2]; decide), List.append_nil]
    · rintro δ' η' ⟨rfl, rfl⟩
      walk_at "s"
      refine ix_m sta rfl (getT (by omega)) ?_
      walk_at "v"
      rw [tD_non]
      refine if_t h ?_
      walk_at "n"
      rw [mkT_map]
      walk_at "v"
      refine ⟨[0], _, _, rfl, rfl, rfl, rfl, q⟩
  | false =>
    rw [if_neg (by rw [h]; decide)] at q
    refine for_r rows.length rfl (fun i δ' η' => δ' = [some (.h 0), some (I ca), some (I an), some (I sta), some (.t [.h 1, .h 2]), some (.h 3), none, none, none, none, none] ∧ η' = [some (.lst (rows.map rowD)), some (tLs t), some (tLs b), some (.lst (((List.range i).filter fun s => (t.getD s none).isSome).map (lostR t b)))]) ⟨rfl, rfl⟩ ?_ ?_
    · rintro s δ' η' hs ⟨rfl, rfl⟩
      have hfs := filt_succ (p := fun s => (t.getD s none).isSome) (n := s)
      walk_at "w"
      walk_at "s"
      refine ix_m sta rfl (getT (by omega)) ?_
      walk_at "v"
      rw [tD_non]
      refine if_f h ?_
      walk_at "v"
      refine bk_end ?_
      walk_at "s"
      refine ix_m sta rfl (getT (by omega)) ?_
      walk_at "v"
      rw [tD_non, h]
      walk_at "v"
      refine ix_m s rfl (getT (by omega)) ?_
      walk_at "v"
      rw [tD_non]
      refine if_b (fun h2 => ?_) fun h2 => ?_
      · walk_at "n"
        refine ix_m s rfl (getT (by omega)) ?_
        walk_at "v"
        refine ix_m s rfl (getT (by omega)) ?_
        walk_at "v"
        refine ap_m (f := lostR t b) s rfl (Nat.lt_of_le_of_lt filt_le (by omega)) ?_
        walk_at "v"
        refine bk_end (b_fgt [6] (bk_end ⟨rfl, ?_⟩))
        rw [hfs, if_pos (by cases hx : t.getD s none <;> rw [hx] at h2 <;> simp_all)]
      · refine bk_end (b_fgt [6] (bk_end ⟨rfl, ?_⟩))
        rw [hfs, if_neg (by cases hx : t.getD s none <;> rw [hx] at h2 <;> simp_all), List.append_nil]
    · rintro δ' η' ⟨rfl, rfl⟩
      walk_at "s"
      refine ix_m sta rfl (getT (by omega)) ?_
      walk_at "v"
      rw [tD_non]
      refine if_f h ?_
      refine bk_end ?_
      walk_at "n"
      rw [mkT_map]
      walk_at "v"
      refine ⟨[0], _, _, rfl, rfl, rfl, rfl, q⟩
end Y
set_option Elab.async false
set_option linter.all false
set_option maxRecDepth 100000
set_option maxHeartbeats 2000000
set_option autoImplicit false
set_option pp.maxSteps 500
set_option pp.deepTerms false
set_option pp.proofs false
namespace Y
open PySem PySem.Spec PyProof.Rows L2
local macro_rules | `(tactic| walk_at "w") => `(tactic| conv => whnf)
local macro_rules | `(tactic| walk_at "s") => `(tactic| ((first | refine bk_step ?_ | refine bk_end ?_); conv => whnf))
local macro_rules | `(tactic| walk_at "c") => `(tactic| ((first | refine if_t rfl ?_ | refine if_f rfl ?_); conv => whnf))
local macro_rules | `(tactic| walk_at "a") => `(tactic| ((refine and_i ?h0 ?_); (case h0 => first | exact rfl | exact szl rfl | exact lt1000 rfl | exact Nat.succ_le_succ (Nat.zero_le _) | exact Nat.le_add_left _ _ | assumption | omega | decide | (refine Or.inl ⟨?_, ?_⟩ <;> omega) | (refine Or.inr ⟨?_, ?_⟩ <;> omega) | (refine ⟨?_, ?_⟩ <;> omega) | (refine ⟨?_, ?_, ?_⟩ <;> omega)); (conv => whnf)))
local macro_rules | `(tactic| walk_at "run") => `(tactic| repeat (first | walk_at "s" | walk_at "c" | walk_at "a"))
local macro_rules | `(tactic| walk_at "ca") => `(tactic| repeat (first | walk_at "c" | walk_at "a"))
local macro_rules | `(tactic| walk_at "n") => `(tactic| (walk_at "s"; walk_at "ca"))
local macro_rules | `(tactic| walk_at "v") => `(tactic| (walk_at "w"; walk_at "ca"))
local macro_rules | `(tactic| walk_at "o") => `(tactic| ((first | refine if_T (by omega) ?_ | refine if_F (by omega) ?_ | refine if_nT (by omega) ?_ | refine if_nF (by omega) ?_); (conv => whnf)))
local macro_rules | `(tactic| walk_at "cao") => `(tactic| repeat (first | walk_at "c" | walk_at "a" | walk_at "o"))
local macro_rules | `(tactic| walk_at "go") => `(tactic| repeat (first | walk_at "s" | walk_at "c" | walk_at "a" | walk_at "o"))
theorem putN_out {k s : Nat} : ∀ {l : List (Nat × Nat)} {tb : List (Option Nat) × List (Option Nat)}, (∀ p ∈ l, p.1 ≠ s) → (putN k tb l).1.getD s none = tb.1.getD s none ∧ (putN k tb l).2.getD s none = tb.2.getD s none
  | [], tb, _ => ⟨rfl, rfl⟩
  | p :: l, tb, h => by
    have := putN_out (k := k) (s := s) (l := l) (tb := (tb.1.set p.1 (some k), tb.2.set p.1 (some p.2))) fun q hq => h q (by simp [hq])
    have hp := h p (by simp)
    dsimp only at this
    simp only [List.getD_eq_getElem?_getD, List.getElem?_set_ne hp] at this ⊢
    exact this
theorem putN_in {k : Nat} {p : Nat × Nat} : ∀ {l : List (Nat × Nat)} {tb : List (Option Nat) × List (Option Nat)}, AscL l → p ∈ l → p.1 < tb.1.length → p.1 < tb.2.length → (putN k tb l).1.getD p.1 none = some k ∧ (putN k tb l).2.getD p.1 none = some p.2
  | [], tb, _, h, _, _ => by simp at h
  | q :: l, tb, ha, h, h1, h2 => by
    have ha := List.pairwise_cons.mp ha
    rcases List.mem_cons.mp h with rfl | h
    · have := putN_out (k := k) (s := p.1) (l := l) (tb := (tb.1.set p.1 (some k), tb.2.set p.1 (some p.2))) fun q hq => by have := ha.1 q hq; omega
      dsimp only at this
      show (putN k (tb.1.set p.1 (some k), tb.2.set p.1 (some p.2)) l).1.getD p.1 none = _ ∧ (putN k (tb.1.set p.1 (some k), tb.2.set p.1 (some p.2)) l).2.getD p.1 none = _
      rw [this.1, this.2]
      simp only [List.getD_eq_getElem?_getD, List.getElem?_set_self h1, List.getElem?_set_self h2]
      exact ⟨rfl, rfl⟩
    · exact putN_in (tb := (tb.1.set q.1 (some k), tb.2.set q.1 (some q.2))) ha.2 h (by simpa using h1) (by simpa using h2)
theorem mem_found {rows : Rows} {ca an s c : Nat} {t : List (Option Nat)} {n : Nat} : (s, c) ∈ foundN rows ca an t n ↔ s < n ∧ t.getD s none = none ∧ bestC rows ca an t s = some c := by
  unfold foundN
  rw [List.mem_filterMap]
  constructor
  · rintro ⟨s', h1, h2⟩
    split at h2
    · cases h2
    · rename_i hn
      obtain ⟨c', h3, h4⟩ := Option.map_eq_some_iff.mp h2
      cases h4
      refine ⟨List.mem_range.mp h1, ?_, h3⟩
      cases hx : t.getD s none with
      | none => rfl
      | some v => rw [hx] at hn; simp at hn
  · rintro ⟨h1, h2, h3⟩
    refine ⟨s, List.mem_range.mpr h1, ?_⟩
    rw [h2, h3]
    rfl
/-- one round at a state -/
theorem rks_step {rows : Rows} {ca an s n : Nat} (hs : s < rows.length) : ((rksN rows ca an (n + 1)).1.getD s none, (rksN rows ca an (n + 1)).2.getD s none) =
    match (rksN rows ca an n).1.getD s none, bestC rows ca an (rksN rows ca an n).1 s with
    | none, some c => (some n, some c)
    | t, _ => (t, (rksN rows ca an n).2.getD s none) := by
  rw [rksN_succ]
  have hl := rksN_len (rows := rows) (ca := ca) (an := an) n
  cases ht : (rksN rows ca an n).1.getD s none with
  | some v =>
    have := putN_out (k := n) (s := s) (l := foundN rows ca an (rksN rows ca an n).1 rows.length) (tb := rksN rows ca an n) (by
      rintro ⟨s', c⟩ hp rfl
      have := (mem_found.mp hp).2.1
      rw [ht] at this
      cases this)
    rw [this.1, this.2, ht]
  | none =>
    cases hb : bestC rows ca an (rksN rows ca an n).1 s with
    | none =>
      have := putN_out (k := n) (s := s) (l := foundN rows ca an (rksN rows ca an n).1 rows.length) (tb := rksN rows ca an n) (by
        rintro ⟨s', c⟩ hp rfl
        have := (mem_found.mp hp).2.2
        rw [hb] at this
        cases this)
      rw [this.1, this.2, ht]
    | some c =>
      have := putN_in (k := n) (p := (s, c)) (tb := rksN rows ca an n) (foundN_asc (rows := rows) (ca := ca) (an := an) (t := (rksN rows ca an n).1) rows.length) (mem_found.mpr ⟨hs, ht, hb⟩) (by rw [hl.1]; exact hs) (by rw [hl.2]; exact hs)
      dsimp only at this
      rw [this.1, this.2]
theorem rks_lt {rows : Rows} {ca an s k : Nat} (hs : s < rows.length) : ∀ n, (rksN rows ca an n).1.getD s none = some k → k < n
  | 0, h => by
    unfold rksN at h
    simp [List.getD_eq_getElem?_getD, List.getElem?_replicate, hs] at h
  | n + 1, h => by
    have := congrArg Prod.fst (rks_step (ca := ca) (an := an) (n := n) hs)
    dsimp only at this
    rw [h] at this
    have ih := rks_lt (ca := ca) (an := an) (k := k) hs n
    revert this ih
    generalize (rksN rows ca an n).1.getD s none = x
    generalize bestC rows ca an (rksN rows ca an n).1 s = y
    intro h2 ih
    cases x with
    | some v =>
      have h2 : some k = some v := h2
      have := ih h2.symm
      omega
    | none =>
      cases y with
      | none => cases h2
      | some c =>
        have h2 : some k = some n := h2
        cases h2
        omega
theorem rks_keep {rows : Rows} {ca an s k : Nat} (hs : s < rows.length) (n : Nat) (h : (rksN rows ca an n).1.getD s none = some k) : ∀ d, (rksN rows ca an (n + d)).1.getD s none = some k ∧ (rksN rows ca an (n + d)).2.getD s none = (rksN rows ca an n).2.getD s none
  | 0 => ⟨h, rfl⟩
  | d + 1 => by
    have ih := rks_keep hs n h d
    have := rks_step (ca := ca) (an := an) (n := n + d) hs
    rw [ih.1, ih.2] at this
    exact ⟨congrArg Prod.fst this, congrArg Prod.snd this⟩
theorem rks_back {rows : Rows} {ca an s k m : Nat} (hs : s < rows.length) (hk : k < m) : ∀ d, (rksN rows ca an (m + d)).1.getD s none = some k → (rksN rows ca an m).1.getD s none = some k
  | 0, h => h
  | d + 1, h => by
    have := congrArg Prod.fst (rks_step (ca := ca) (an := an) (n := m + d) hs)
    dsimp only at this
    rw [show m + d + 1 = m + (d + 1) by omega, h] at this
    refine rks_back hs hk d ?_
    revert this
    generalize (rksN rows ca an (m + d)).1.getD s none = x
    generalize bestC rows ca an (rksN rows ca an (m + d)).1 s = y
    intro h2
    cases x with
    | some v => exact h2.symm
    | none =>
      cases y with
      | none => cases h2
      | some c =>
        have h2 : some k = some (m + d) := h2
        cases h2
        omega
theorem rks_from {rows : Rows} {ca an : Nat} (d : Nat) : rksN rows ca an (rows.length + d) = rks rows ca an := rks_stay rks_fix d
/-- the ranks below m are those of m rounds -/
theorem rks_iff {rows : Rows} {ca an s k m : Nat} (hs : s < rows.length) : (rks rows ca an).1.getD s none = some k ∧ k < m ↔ (rksN rows ca an m).1.getD s none = some k := by
  by_cases h : m ≤ rows.length
  · obtain ⟨d, hd⟩ := Nat.exists_eq_add_of_le h
    constructor
    · rintro ⟨h1, h2⟩
      unfold rks at h1
      rw [hd] at h1
      exact rks_back hs h2 d h1
    · intro h1
      refine ⟨?_, rks_lt hs m h1⟩
      unfold rks
      rw [hd]
      exact (rks_keep hs m h1 d).1
  · obtain ⟨d, hd⟩ := Nat.exists_eq_add_of_le (show rows.length ≤ m by omega)
    rw [hd, rks_from]
    constructor
    · exact fun h => h.1
    · intro h1
      refine ⟨h1, ?_⟩
      unfold rks at h1
      have := rks_lt hs _ h1
      omega
theorem rks_call {rows : Rows} {ca an s k : Nat} (hs : s < rows.length) : ∀ n, (rksN rows ca an n).1.getD s none = some k → ∃ c, (rksN rows ca an n).2.getD s none = some c ∧ bestC rows ca an (rksN rows ca an k).1 s = some c
  | 0, h => by
    have := rks_lt hs 0 h
    omega
  | n + 1, h => by
    have h2 := rks_step (ca := ca) (an := an) (n := n) hs
    have ih := rks_call (ca := ca) (an := an) (k := k) hs n
    cases hx : (rksN rows ca an n).1.getD s none with
    | some v =>
      rw [hx] at h2
      have e1 := congrArg Prod.fst h2
      have e2 := congrArg Prod.snd h2
      dsimp only at e1 e2
      rw [h] at e1
      have e1 : some k = some v := e1
      rw [e2]
      exact ih (by rw [hx, e1])
    | none =>
      cases hy : bestC rows ca an (rksN rows ca an n).1 s with
      | none =>
        rw [hx, hy] at h2
        have e1 := congrArg Prod.fst h2
        dsimp only at e1
        rw [h] at e1
        cases e1
      | some c =>
        rw [hx, hy] at h2
        have e1 := congrArg Prod.fst h2
        have e2 := congrArg Prod.snd h2
        dsimp only at e1 e2
        rw [h] at e1
        cases e1
        exact ⟨c, e2, hy⟩
theorem best_lt {rows : Rows} {ca an s c : Nat} {t : List (Option Nat)} (h : bestC rows ca an t s = some c) : c < ca ∧ wins rows an t s c = true := by
  unfold bestC at h
  exact ⟨List.mem_range.mp (List.mem_of_find?_eq_some h), List.find?_some h⟩
/-- what a rank means -/
theorem rks_down {rows : Rows} {ca an s k : Nat} (ok : CstOk ca an rows) (hs : s < rows.length) (h : (rks rows ca an).1.getD s none = some k) : ∃ c, c < ca ∧ (rks rows ca an).2.getD s none = some c ∧ ∀ o ∈ outsOf rows an s c, o.2 = 0 → ∃ k', (rks rows ca an).1.getD o.1.toNat none = some k' ∧ k' < k := by
  obtain ⟨c, h1, h2⟩ := rks_call hs rows.length h
  obtain ⟨h3, h4⟩ := best_lt h2
  refine ⟨c, h3, h1, fun o ho h0 => ?_⟩
  obtain ⟨i, hi, e⟩ := List.getElem_of_mem ho
  have ob := ok.out (p := o) (s := s) (c := c) (i := i) (by rw [← e]; exact List.getElem?_eq_getElem hi)
  have := List.all_eq_true.mp h4 o ho
  unfold isFree at this
  rw [decide_eq_true h0] at this
  cases hx : (rksN rows ca an k).1.getD o.1.toNat none with
  | none => rw [hx] at this; simp at this
  | some k' =>
    have hb : o.1.toNat < rows.length := by omega
    exact ⟨k', rks_iff hb |>.mpr hx⟩
/-- can the caller win with at most so many calls -/
def forcedN (rows : Rows) (ca an : Nat) : Nat → Nat → Bool
  | 0, _ => false
  | m + 1, s => (List.range ca).any fun c => (outsOf rows an s c).all fun o => !(decide (o.2 = 0) && !forcedN rows ca an m o.1.toNat)
theorem wins_mono {rows : Rows} {ca an s c n : Nat} (ok : CstOk ca an rows) (h : wins rows an (rksN rows ca an n).1 s c = true) : ∀ d, wins rows an (rksN rows ca an (n + d)).1 s c = true := by
  intro d
  unfold wins at h ⊢
  rw [List.all_eq_true] at h ⊢
  intro o ho
  have := h o ho
  obtain ⟨i, hi, e⟩ := List.getElem_of_mem ho
  have ob := ok.out (p := o) (s := s) (c := c) (i := i) (by rw [← e]; exact List.getElem?_eq_getElem hi)
  have hb : o.1.toNat < rows.length := by omega
  unfold isFree at this ⊢
  cases hx : (rksN rows ca an n).1.getD o.1.toNat none with
  | none =>
    rw [hx] at this
    have : decide (o.2 = 0) = false := by simpa using this
    rw [this]
    rfl
  | some k =>
    rw [(rks_keep hb n hx d).1]
    simp
theorem forced_iff {rows : Rows} {ca an : Nat} (ok : CstOk ca an rows) : ∀ m s, s < rows.length → forcedN rows ca an m s = ((rksN rows ca an m).1.getD s none).isSome
  | 0, s, hs => by
    unfold forcedN rksN
    simp [List.getD_eq_getElem?_getD, List.getElem?_replicate, hs]
  | m + 1, s, hs => by
    unfold forcedN
    have hw : ∀ c, ((outsOf rows an s c).all fun o => !(decide (o.2 = 0) && !forcedN rows ca an m o.1.toNat)) = wins rows an (rksN rows ca an m).1 s c := by
      intro c
      unfold wins
      rw [Bool.eq_iff_iff, List.all_eq_true, List.all_eq_true]
      have : ∀ o ∈ outsOf rows an s c, (!(decide (o.2 = 0) && !forcedN rows ca an m o.1.toNat)) = !isFree (rksN rows ca an m).1 o := by
        intro o ho
        obtain ⟨i, hi, e⟩ := List.getElem_of_mem ho
        have ob := ok.out (p := o) (s := s) (c := c) (i := i) (by rw [← e]; exact List.getElem?_eq_getElem hi)
        rw [forced_iff ok m o.1.toNat (by omega)]
        unfold isFree
        cases (rksN rows ca an m).1.getD o.1.toNat none <;> rfl
      exact ⟨fun h o ho => by rw [← this o ho]; exact h o ho, fun h o ho => by rw [this o ho]; exact h o ho⟩
    simp only [hw]
    have h2 := congrArg Prod.fst (rks_step (ca := ca) (an := an) (n := m) hs)
    dsimp only at h2
    rw [h2]
    cases hb : bestC rows ca an (rksN rows ca an m).1 s with
    | some c =>
      obtain ⟨h3, h4⟩ := best_lt hb
      rw [List.any_eq_true.mpr ⟨c, List.mem_range.mpr h3, h4⟩]
      cases (rksN rows ca an m).1.getD s none <;> rfl
    | none =>
      have hn : ∀ c < ca, wins rows an (rksN rows ca an m).1 s c = false := by
        intro c hc
        unfold bestC at hb
        have := List.find?_eq_none.mp hb c (List.mem_range.mpr hc)
        simpa using this
      rw [List.any_eq_false.mpr fun c hc => by rw [hn c (List.mem_range.mp hc)]; decide]
      cases hx : (rksN rows ca an m).1.getD s none with
      | none => rfl
      | some k =>
        obtain ⟨c, h3, h4⟩ := rks_call hs m hx
        obtain ⟨h5, h6⟩ := best_lt h4
        have hk := rks_lt hs m hx
        have := wins_mono ok h6 (m - k)
        rw [show k + (m - k) = m by omega, hn c h5] at this
        cases this
end Y
set_option Elab.async false
set_option linter.all false
set_option maxRecDepth 100000
set_option maxHeartbeats 2000000
set_option autoImplicit false
set_option pp.maxSteps 500
set_option pp.deepTerms false
set_option pp.proofs false
namespace Y
open PySem PySem.Spec PyProof.Rows L2
local macro_rules | `(tactic| walk_at "w") => `(tactic| conv => whnf)
local macro_rules | `(tactic| walk_at "s") => `(tactic| ((first | refine bk_step ?_ | refine bk_end ?_); conv => whnf))
local macro_rules | `(tactic| walk_at "c") => `(tactic| ((first | refine if_t rfl ?_ | refine if_f rfl ?_); conv => whnf))
local macro_rules | `(tactic| walk_at "a") => `(tactic| ((refine and_i ?h0 ?_); (case h0 => first | exact rfl | exact szl rfl | exact lt1000 rfl | exact Nat.succ_le_succ (Nat.zero_le _) | exact Nat.le_add_left _ _ | assumption | omega | decide | (refine Or.inl ⟨?_, ?_⟩ <;> omega) | (refine Or.inr ⟨?_, ?_⟩ <;> omega) | (refine ⟨?_, ?_⟩ <;> omega) | (refine ⟨?_, ?_, ?_⟩ <;> omega)); (conv => whnf)))
local macro_rules | `(tactic| walk_at "run") => `(tactic| repeat (first | walk_at "s" | walk_at "c" | walk_at "a"))
local macro_rules | `(tactic| walk_at "ca") => `(tactic| repeat (first | walk_at "c" | walk_at "a"))
local macro_rules | `(tactic| walk_at "n") => `(tactic| (walk_at "s"; walk_at "ca"))
local macro_rules | `(tactic| walk_at "v") => `(tactic| (walk_at "w"; walk_at "ca"))
local macro_rules | `(tactic| walk_at "o") => `(tactic| ((first | refine if_T (by omega) ?_ | refine if_F (by omega) ?_ | refine if_nT (by omega) ?_ | refine if_nF (by omega) ?_); (conv => whnf)))
local macro_rules | `(tactic| walk_at "cao") => `(tactic| repeat (first | walk_at "c" | walk_at "a" | walk_at "o"))
local macro_rules | `(tactic| walk_at "go") => `(tactic| repeat (first | walk_at "s" | walk_at "c" | walk_at "a" | walk_at "o"))
section
variable {tg : JT} {tst : Sl → Hs → (Bool → Hs → Prop) → Prop} {kx vx : Sl → Hs → QA → Prop} {vs : List Nat} {items : List A} {ok : Hs → Prop} {δ : Sl} {η : Hs} {Q : QA}
theorem setK_new {kvs : List (Key × D)} {c : Key} {z : D} (h : ∀ p ∈ kvs, p.1 ≠ c) : setK kvs c z = kvs ++ [(c, z)] := by
  unfold setK
  rw [if_neg]
  intro z
  obtain ⟨kv, h1, h2⟩ := List.any_eq_true.mp z
  exact h kv h1 (of_decide_eq_true h2)
/-- {k(y): v(y) for y in l}, all keys apart: the heap stays -/
theorem dc_i {α : Type} {f : α → A} {l : List α} (g : α → Key × D) (hi : items = l.map f) (hk : keepH (List.range η.length) η (List.range η.length) = some η) (hok : ok η) (hl : l.length ≤ sizeLine) (nd : l.Pairwise fun x y => (g x).1 ≠ (g y).1)
    (hst : ∀ (i : Nat) (y : α), l[i]? = some y → ∀ (R : A → QA) (N : Hs → Prop), R (.d (kD (g y).1)) (.d (g y).2) η → wTg tg (f y) (wipeSl δ vs) fun δ2 => tst δ2 η fun b η2 => If b (kx δ2 η2 fun z η3 => vx δ2 η3 (R z)) (N η2)) (q : Q (.h η.length) (η ++ [some (.dK (l.map g))])) : jDc tg tst kx vx vs items ok δ η Q := by
  subst hi
  refine ⟨⟨fun i acc η' => η' = η ∧ acc = (l.take i).map g, ⟨rfl, rfl⟩, fun i acc η' _ h => by rw [h.1]; exact ⟨hok, rfl⟩, fun i x acc η' hx h => ?_, fun acc η' h => ?_⟩⟩
  · obtain ⟨rfl, rfl⟩ := h
    rw [List.getElem?_map] at hx
    cases e : l[i]? with
    | none => rw [e] at hx; cases hx
    | some y =>
      rw [e] at hx
      cases hx
      have hlt := (List.getElem?_eq_some_iff.mp e).1
      refine ⟨?_, hst i y e (fun z => GcD η'.length fun u η4 => ∃ c, z = .d (kD c) ∧ η4 = η' ∧ setK ((l.take i).map g) c u = (l.take (i + 1)).map g) _ ⟨List.range η'.length, _, η', ndN_of List.nodup_range, pre_self, hk, rfl, _, rfl, rfl, ?_⟩⟩
      · rw [List.length_map]
        have h2 := List.length_take_le i l
        omega
      · have hp : (l.take (i + 1)).Pairwise fun x y => (g x).1 ≠ (g y).1 := nd.sublist (List.take_sublist _ _)
        rw [take_succ_get e, List.pairwise_append] at hp
        rw [setK_new, take_succ_get e, List.map_append]
        · rfl
        · intro p hp2
          obtain ⟨x, hx, rfl⟩ := List.mem_map.mp hp2
          exact hp.2.2 x hx y (by simp)
  · obtain ⟨rfl, rfl⟩ := h
    rw [List.length_map, List.take_length]
    exact q
end
theorem getK_fn {v : Nat → D} {s : Nat} : ∀ {S : List Nat}, getK (S.map fun s : Nat => ((.inl (s : Int) : Key), v s)) (.inl (s : Int)) = if s ∈ S then some (v s) else none
  | [] => rfl
  | x :: S => by
    have ih := getK_fn (v := v) (s := s) (S := S)
    unfold getK at ih ⊢
    rw [List.map_cons]
    by_cases h : x = s
    · subst h
      rw [List.find?_cons_of_pos (by simp), if_pos (by simp)]
      rfl
    · rw [List.find?_cons_of_neg (by
        intro z
        have := of_decide_eq_true z
        have : (x : Int) = s := by injection this
        omega), ih]
      have : s ∈ x :: S ↔ s ∈ S := by
        rw [List.mem_cons]
        exact ⟨fun z => z.resolve_left fun e => h e.symm, .inr⟩
      by_cases h2 : s ∈ S
      · rw [if_pos h2, if_pos (this.mpr h2)]
      · rw [if_neg h2, if_neg fun z => h2 (this.mp z)]
abbrev stO (S : List Nat) : O := .lst (S.map fun s => .int (s : Nat))
abbrev dictO (S : List Nat) (v : Nat → D) : O := .dK (S.map fun s : Nat => ((.inl (s : Int) : Key), v s))
theorem has_right_j {cm : CM} {k : Nat} {ca an sta : Nat} {rows : Rows} {S : List Nat} {Q : QA} {E : XA → Prop} (hS : S.Pairwise fun x y => x ≠ y) (hl : S.length ≤ 64) (h1 : sta ∈ S) (h2 : ∀ s ∈ S, s < rows.length) (q : Q (B true) [some (stO S)]) : jFn cm tab (k + 1) i_has_right_states [.d (cstD cm ca an sta rows), .h 0] [some (stO S)] Q E := by
  refine jFn_i (d := j_has_right_states) rfl (jdef_i _ rfl rfl ?_)
  walk_at "s"
  refine dc_i (l := S) (f := fun s => I (s : Nat)) (fun s => (.inl (s : Int), .bl true)) mm rfl rfl (by rw [sizeLine_eq]; omega) (hS.imp fun h z => h (by injection z with z; omega)) ?_ ?_
  · intro i s hs R N hR
    walk_at "v"
    exact hR
  · walk_at "v"
    walk_at "s"
    refine .inr ⟨1, _, rfl, rfl, ?_⟩
    walk_at "v"
    refine .inl ⟨_, rfl, fun _ => ?_⟩
    walk_at "v"
    refine if_nF (by rw [List.length_map, List.length_map]) ?_
    walk_at "v"
    refine .inr ⟨rfl, 1, _, .inl (sta : Int), _, rfl, rfl, rfl, rfl, ?_⟩
    rw [getK_fn, if_pos h1]
    walk_at "v"
    refine bk_end ?_
    walk_at "s"
    refine lc_m (l := S) (f := fun s => I (s : Nat)) (fun _ => .bl true) mm rfl rfl (by rw [sizeLine_eq]; omega) ?_ ?_
    · intro i s hs R N hR
      have := h2 s (List.mem_of_getElem? hs)
      walk_at "v"
      rw [decide_eq_true (by omega)]
      exact hR
    · walk_at "w"
      refine ⟨S.map fun _ => true, ?_, rfl, ?_⟩
      · show some _ = some _
        simp [dB]
      · walk_at "w"
        rw [show (S.map fun _ => true).all id = true by simp]
        exact ⟨[0], _, _, rfl, rfl, rfl, rfl, q⟩
theorem are_answers_j {cm : CM} {k : Nat} {ca an sta : Nat} {rows : Rows} {f : Nat → Nat} {Q : QA} {E : XA → Prop} (hca : ca ≤ 16) (hf : ∀ c < ca, f c < an) (q : Q (B true) []) : jFn cm tab (k + 1) i_are_answers [.d (cstD cm ca an sta rows), .d (.tup ((List.range ca).map fun c => .int (f c : Nat)))] [] Q E := by
  refine jFn_i (d := j_are_answers) rfl (jdef_i _ rfl rfl ?_)
  walk_at "s"
  refine .inl ⟨_, rfl, fun _ => ?_⟩
  walk_at "v"
  refine if_nF (by rw [List.length_map, List.length_range]) ?_
  refine bk_end ?_
  walk_at "s"
  refine lc_m (l := List.range ca) (f := fun c => I (f c : Nat)) (fun _ => .bl true) mm rfl trivial (by rw [List.length_range, sizeLine_eq]; omega) ?_ ?_
  · intro i c hc R N hR
    obtain ⟨rfl, hc⟩ := range_get hc
    have := hf _ hc
    walk_at "v"
    rw [decide_eq_true (by omega)]
    exact hR
  · walk_at "w"
    refine ⟨(List.range ca).map fun _ => true, ?_, rfl, ?_⟩
    · show some _ = some _
      simp [dB]
    · walk_at "w"
      rw [show ((List.range ca).map fun _ => true).all id = true by simp]
      exact ⟨[], _, _, rfl, rfl, rfl, rfl, q⟩
/-- the states without a rank -/
abbrev freeS (t : List (Option Nat)) (n : Nat) : List Nat := (List.range n).filter fun s => (t.getD s none).isNone
abbrev rankS (t : List (Option Nat)) (n : Nat) : List Nat := (List.range n).filter fun s => (t.getD s none).isSome
theorem keeps_j {cm : CM} {k : Nat} {ca an sta s : Nat} {rows : Rows} {t : List (Option Nat)} {f : Nat → Nat} {Q : QA} {E : XA → Prop} (ok : CstOk ca an rows) (hs : s < rows.length) (hf : ∀ c < ca, safeA rows an t s c = some (f c) ∧ f c < an) (q : Q (B true) [some (dictO (freeS t rows.length) fun _ => .bl true)]) : jFn cm tab (k + 3) i_keeps [.d (cstD cm ca an sta rows), I s, .d (.tup ((List.range ca).map fun c => .int (f c : Nat))), .h 0] [some (dictO (freeS t rows.length) fun _ => .bl true)] Q E := by
  refine jFn_i (d := j_keeps) rfl (jdef_i _ rfl rfl ?_)
  walk_at "n"
  refine for_en (l := List.range ca) (f := fun c => I (f c : Nat)) mm (fun i δ' η' => δ' = [some (.d (cstD cm ca an sta rows)), some (I s), some (.d (.tup ((List.range ca).map fun c => .int (f c : Nat)))), some (.h 0), none, none, none, none] ∧ η' = [some (dictO (freeS t rows.length) fun _ => .bl true)]) ⟨rfl, rfl⟩ (fun _ _ _ _ _ => trivial) ?_ ?_
  · rintro i c δ' η' hc ⟨rfl, rfl⟩
    obtain ⟨rfl, hc⟩ := range_get hc
    obtain ⟨h1, h2⟩ := hf _ hc
    obtain ⟨p, e1, e2, _⟩ := outs_get (List.getElem?_eq_getElem hs) (ok.len _ (List.getElem_mem hs)) hc h2
    have ob := ok.out e2
    have hfree : isFree t p = true := by
      unfold safeA at h1
      have := List.find?_some h1
      rw [List.getD_eq_getElem?_getD, e2] at this
      exact this
    unfold isFree at hfree
    obtain ⟨f1, f2⟩ := Bool.and_eq_true_iff.mp hfree
    have f1 := of_decide_eq_true f1
    walk_at "w"
    walk_at "n"
    refine jCall_i [] rfl (outcome_j ok.a.2 (List.getElem?_eq_getElem hs) e1 ⟨_, _, rfl, ?_⟩)
    walk_at "v"
    walk_at "n"
    refine if_F (by omega) ?_
    walk_at "v"
    refine .inr ⟨rfl, 0, _, .inl p.1, _, rfl, rfl, rfl, rfl, ?_⟩
    rw [show p.1 = ((p.1.toNat : Nat) : Int) by omega, getK_fn, if_pos (List.mem_filter.mpr ⟨List.mem_range.mpr (by omega), f2⟩)]
    walk_at "v"
    exact bk_end (b_fgt [4, 5, 6, 7] (bk_end ⟨rfl, rfl⟩))
  · rintro δ' η' ⟨rfl, rfl⟩
    walk_at "n"
    exact ⟨[0], _, _, rfl, rfl, rfl, rfl, q⟩
theorem filt_ne {p : Nat → Bool} {n : Nat} : ((List.range n).filter p).Pairwise fun x y => x ≠ y := List.Pairwise.sublist List.filter_sublist (List.nodup_range (n := n))
theorem shows_kept_j {cm : CM} {k : Nat} {ca an sta : Nat} {rows : Rows} {t : List (Option Nat)} {f : Nat → Nat → Nat} {Q : QA} {E : XA → Prop} (ok : CstOk ca an rows) (hsta : sta < rows.length) (hn : t.getD sta none = none) (hf : ∀ s ∈ freeS t rows.length, ∀ c < ca, safeA rows an t s c = some (f s c) ∧ f s c < an) (q : Q (B true) []) : jFn cm tab (k + 4) i_shows_kept [.d (cstD cm ca an sta rows), .d (.tup ((freeS t rows.length).map fun s => .tup [.int (s : Nat), .tup ((List.range ca).map fun c => .int (f s c : Nat))]))] [] Q E := by
  have hlen : (freeS t rows.length).length ≤ 64 := Nat.le_trans filt_le ok.n.2
  refine jFn_i (d := j_shows_kept) rfl (jdef_i _ rfl rfl ?_)
  walk_at "s"
  refine lc_m (l := freeS t rows.length) (f := fun s => .d (.tup [.int (s : Nat), .tup ((List.range ca).map fun c => .int (f s c : Nat))])) (fun s => .int (s : Nat)) mm rfl trivial (by rw [sizeLine_eq]; omega) ?_ ?_
  · intro i s hs R N hR
    walk_at "v"
    exact hR
  walk_at "v"
  walk_at "n"
  refine jCall_i [0] rfl (has_right_j filt_ne hlen (List.mem_filter.mpr ⟨List.mem_range.mpr hsta, by rw [hn]; rfl⟩) (fun s hs => List.mem_range.mp (List.mem_filter.mp hs).1) ⟨_, _, rfl, ?_⟩)
  walk_at "v"
  refine bk_end ?_
  walk_at "s"
  refine dc_i (l := freeS t rows.length) (f := fun s => I (s : Nat)) (fun s => (.inl (s : Int), .bl true)) mm rfl rfl (by rw [sizeLine_eq]; omega) (filt_ne.imp fun h z => h (by injection z with z; omega)) ?_ ?_
  · intro i s hs R N hR
    walk_at "v"
    exact hR
  walk_at "v"
  walk_at "n"
  refine for_m (l := freeS t rows.length) (f := fun s => .d (.tup [.int (s : Nat), .tup ((List.range ca).map fun c => .int (f s c : Nat))])) mm (fun i δ' η' => ∃ v4 v5, δ' = [some (.d (cstD cm ca an sta rows)), some (.d (.tup ((freeS t rows.length).map fun s => .tup [.int (s : Nat), .tup ((List.range ca).map fun c => .int (f s c : Nat))]))), some (.h 0), some (.h 1), v4, v5, none] ∧ η' = [some (stO (freeS t rows.length)), some (dictO (freeS t rows.length) fun _ => .bl true)]) ⟨_, _, rfl, rfl⟩ (fun _ _ _ _ _ => trivial) ?_ ?_
  · rintro i s δ' η' hs ⟨v4, v5, rfl, rfl⟩
    have hm := List.mem_of_getElem? hs
    have hs := List.mem_range.mp (List.mem_filter.mp hm).1
    walk_at "w"
    walk_at "n"
    refine jCall_i [] rfl (are_answers_j ok.c.2 (fun c hc => (hf s hm c hc).2) ⟨_, _, rfl, ?_⟩)
    walk_at "v"
    refine jCall_i [1] rfl (keeps_j ok hs (hf s hm) ⟨_, _, rfl, ?_⟩)
    walk_at "v"
    exact bk_end (bk_end ⟨_, _, rfl, rfl⟩)
  · rintro δ' η' ⟨v4, v5, rfl, rfl⟩
    walk_at "n"
    exact ⟨[], _, _, rfl, rfl, rfl, rfl, q⟩
theorem forces_down_j {cm : CM} {k : Nat} {ca an sta s c r : Nat} {rows : Rows} {S : List Nat} {v : Nat → Nat} {Q : QA} {E : XA → Prop} (ok : CstOk ca an rows) (hs : s < rows.length) (hc : c < ca) (hd : ∀ o ∈ outsOf rows an s c, o.2 = 0 → o.1.toNat ∈ S ∧ v o.1.toNat < r) (q : Q (B true) [some (dictO S fun s => .int (v s : Nat))]) : jFn cm tab (k + 4) i_forces_down [.d (cstD cm ca an sta rows), .d (.tup [.int (s : Nat), .int (c : Nat), .int (r : Nat)]), .h 0] [some (dictO S fun s => .int (v s : Nat))] Q E := by
  refine jFn_i (d := j_forces_down) rfl (jdef_i _ rfl rfl ?_)
  walk_at "n"
  walk_at "n"
  refine jCall_i [] rfl (outcomes_j ok.a.2 hs ok.len hc ⟨_, _, rfl, ?_⟩)
  walk_at "v"
  refine for_m (l := outsOf rows an s c) (f := fun p => .d (pairD p)) mm (fun i δ' η' => ∃ v6 v7, δ' = [some (.d (cstD cm ca an sta rows)), some (.d (.tup [.int (s : Nat), .int (c : Nat), .int (r : Nat)])), some (.h 0), some (I s), some (I c), some (I r), v6, v7] ∧ η' = [some (dictO S fun s => .int (v s : Nat)), some (.lst ((outsOf rows an s c).map pairD))]) ⟨_, _, rfl, rfl⟩ (fun _ _ _ _ h => by obtain ⟨_, _, _, h⟩ := h; rw [h]; rfl) ?_ ?_
  · rintro i o δ' η' ho ⟨v6, v7, rfl, rfl⟩
    obtain ⟨g1, g2, g3, g4⟩ := ok.out ho
    have hd := hd o (List.mem_of_getElem? ho)
    walk_at "w"
    walk_at "s"
    refine if_n (fun h => ?_) fun h => ?_
    · obtain ⟨h1, h2⟩ := hd (by omega)
      walk_at "v"
      refine .inr ⟨rfl, 0, _, .inl o.1, _, rfl, rfl, rfl, rfl, ?_⟩
      have ho1 : o.1 = ((o.1.toNat : Nat) : Int) := by omega
      have hg := getK_fn (v := fun s => .int (v s : Nat)) (s := o.1.toNat) (S := S)
      rw [← ho1, if_pos h1] at hg
      rw [hg]
      walk_at "v"
      refine ob_i _ hg ?_
      walk_at "v"
      rw [decide_eq_false (by omega)]
      walk_at "v"
      exact bk_end (bk_end ⟨_, _, rfl, rfl⟩)
    · walk_at "v"
      exact bk_end (bk_end ⟨_, _, rfl, rfl⟩)
  · rintro δ' η' ⟨v6, v7, rfl, rfl⟩
    walk_at "n"
    exact ⟨[0], _, _, rfl, rfl, rfl, rfl, q⟩
abbrev lostO (S : List Nat) (cs v : Nat → Nat) : D := .tup (S.map fun s => .tup [.int (s : Nat), .int (cs s : Nat), .int (v s : Nat)])
theorem shows_lost_j {cm : CM} {k : Nat} {ca an sta : Nat} {rows : Rows} {t : List (Option Nat)} {cs v : Nat → Nat} {Q : QA} {E : XA → Prop} (ok : CstOk ca an rows) (hsta : sta < rows.length) (hn : (t.getD sta none).isSome = true) (hf : ∀ s ∈ rankS t rows.length, cs s < ca ∧ ∀ o ∈ outsOf rows an s (cs s), o.2 = 0 → o.1.toNat ∈ rankS t rows.length ∧ v o.1.toNat < v s) (q : Q (B true) []) : jFn cm tab (k + 5) i_shows_lost [.d (cstD cm ca an sta rows), .d (lostO (rankS t rows.length) cs v)] [] Q E := by
  have hlen : (rankS t rows.length).length ≤ 64 := Nat.le_trans filt_le ok.n.2
  refine jFn_i (d := j_shows_lost) rfl (jdef_i _ rfl rfl ?_)
  walk_at "n"
  refine lc_m (l := rankS t rows.length) (f := fun s => .d (.tup [.int (s : Nat), .int (cs s : Nat), .int (v s : Nat)])) (fun s => .int (s : Nat)) mm rfl trivial (by rw [sizeLine_eq]; omega) ?_ ?_
  · intro i s hs R N hR
    walk_at "v"
    exact hR
  walk_at "v"
  refine jCall_i [0] rfl (has_right_j filt_ne hlen (List.mem_filter.mpr ⟨List.mem_range.mpr hsta, hn⟩) (fun s hs => List.mem_range.mp (List.mem_filter.mp hs).1) ⟨_, _, rfl, ?_⟩)
  walk_at "v"
  refine b_gc [] rfl rfl rfl (bk_end ?_)
  walk_at "s"
  refine dc_i (l := rankS t rows.length) (f := fun s => .d (.tup [.int (s : Nat), .int (cs s : Nat), .int (v s : Nat)])) (fun s => (.inl (s : Int), .int (v s : Nat))) mm rfl trivial (by rw [sizeLine_eq]; omega) (filt_ne.imp fun h z => h (by injection z with z; omega)) ?_ ?_
  · intro i s hs R N hR
    walk_at "v"
    exact hR
  walk_at "v"
  walk_at "n"
  refine for_m (l := rankS t rows.length) (f := fun s => .d (.tup [.int (s : Nat), .int (cs s : Nat), .int (v s : Nat)])) mm (fun i δ' η' => ∃ v3, δ' = [some (.d (cstD cm ca an sta rows)), some (.d (lostO (rankS t rows.length) cs v)), some (.h 0), v3, none, none, none] ∧ η' = [some (dictO (rankS t rows.length) fun s => .int (v s : Nat))]) ⟨_, rfl, rfl⟩ (fun _ _ _ _ _ => trivial) ?_ ?_
  · rintro i s δ' η' hs ⟨v3, rfl, rfl⟩
    have hm := List.mem_of_getElem? hs
    have hs := List.mem_range.mp (List.mem_filter.mp hm).1
    obtain ⟨h1, h2⟩ := hf s hm
    walk_at "w"
    walk_at "n"
    rw [decide_eq_true (show ((cs s : Nat) : Int) < (ca : Nat) by omega)]
    walk_at "v"
    refine bk_end ?_
    walk_at "n"
    refine jCall_i [0] rfl (forces_down_j ok hs h1 h2 ⟨_, _, rfl, ?_⟩)
    walk_at "v"
    exact bk_end (bk_end ⟨_, rfl, rfl⟩)
  · rintro δ' η' ⟨v3, rfl, rfl⟩
    walk_at "n"
    exact ⟨[], _, _, rfl, rfl, rfl, rfl, q⟩
end Y
set_option Elab.async false
set_option linter.all false
set_option maxRecDepth 100000
set_option maxHeartbeats 2000000
set_option autoImplicit false
set_option pp.maxSteps 500
set_option pp.deepTerms false
set_option pp.proofs false
namespace Y
open PySem PySem.Spec PyProof.Rows L2
local macro_rules | `(tactic| walk_at "w") => `(tactic| conv => whnf)
local macro_rules | `(tactic| walk_at "s") => `(tactic| ((first | refine bk_step ?_ | refine bk_end ?_); conv => whnf))
local macro_rules | `(tactic| walk_at "c") => `(tactic| ((first | refine if_t rfl ?_ | refine if_f rfl ?_); conv => whnf))
local macro_rules | `(tactic| walk_at "a") => `(tactic| ((refine and_i ?h0 ?_); (case h0 => first | exact rfl | exact szl rfl | exact lt1000 rfl | exact Nat.succ_le_succ (Nat.zero_le _) | exact Nat.le_add_left _ _ | assumption | omega | decide | (refine Or.inl ⟨?_, ?_⟩ <;> omega) | (refine Or.inr ⟨?_, ?_⟩ <;> omega) | (refine ⟨?_, ?_⟩ <;> omega) | (refine ⟨?_, ?_, ?_⟩ <;> omega)); (conv => whnf)))
local macro_rules | `(tactic| walk_at "run") => `(tactic| repeat (first | walk_at "s" | walk_at "c" | walk_at "a"))
local macro_rules | `(tactic| walk_at "ca") => `(tactic| repeat (first | walk_at "c" | walk_at "a"))
local macro_rules | `(tactic| walk_at "n") => `(tactic| (walk_at "s"; walk_at "ca"))
local macro_rules | `(tactic| walk_at "v") => `(tactic| (walk_at "w"; walk_at "ca"))
local macro_rules | `(tactic| walk_at "o") => `(tactic| ((first | refine if_T (by omega) ?_ | refine if_F (by omega) ?_ | refine if_nT (by omega) ?_ | refine if_nF (by omega) ?_); (conv => whnf)))
local macro_rules | `(tactic| walk_at "cao") => `(tactic| repeat (first | walk_at "c" | walk_at "a" | walk_at "o"))
local macro_rules | `(tactic| walk_at "go") => `(tactic| repeat (first | walk_at "s" | walk_at "c" | walk_at "a" | walk_at "o"))
theorem exq {J : Jx} (co : CmOk J.cm) (i c : Nat) (hi : i ∈ pres) (hc : c ∈ pres) (h1 : i < 32 ∧ c < 32) : excQ J (J.cm.cls i) (.ref (J.cm.cls c)) = some (subC i c) := by
  show (match J.cm.cix (J.cm.cls i), J.cm.cix (J.cm.cls c) with
    | some i, some j => if i < 32 ∧ j < 32 then some (subC i j) else none
    | _, _ => none) = _
  rw [co.ix i hi, co.ix c hc]
  exact if_pos h1
theorem exqT {J : Jx} (co : CmOk J.cm) (i : Nat) (hi : i ∈ pres) (h1 : i < 32) : excQ J (J.cm.cls i) (.ty "ValueError") = some true := by
  unfold excQ
  rw [co.ix i hi]
  exact if_pos ⟨h1, rfl⟩
theorem exqs {J : Jx} (co : CmOk J.cm) (i : Nat) (hi : i ∈ pres) (h1 : i < 32) : ∀ cs : List Nat, (∀ c ∈ cs, c ∈ pres ∧ c < 32) → excQs J (J.cm.cls i) (cs.map fun c => .ref (J.cm.cls c)) = some (cs.any fun c => subC i c)
  | [], _ => rfl
  | c :: cs, h => by
    have h2 := h c (by simp)
    rw [List.map_cons]
    unfold excQs
    rw [exq co i c hi h2.1 ⟨h1, h2.2⟩, exqs co i hi h1 cs fun c' hc => h c' (by simp [hc])]
    rfl
/-- what _law_asked tells -/
def askD (cm : CM) (a b cu re sta : Int) (rows : Rows) : D := match wrongT a b cu re with
  | some v => .tup [.str "size", .int v]
  | none => .tup [.str "told", .ins (cm.cls 33) [("calls", .int a), ("answers", .int b), ("control", ctlD cm cu re sta rows)]]
theorem L_asked_j {cm : CM} [co : CmOk cm] {k : Nat} {a b cu re sta : Int} {rows : Rows} {Q : QA} {E : XA → Prop} (hs : a.natAbs < 2 ^ 62 ∧ b.natAbs < 2 ^ 62) (q : Q (.d (askD cm a b cu re sta rows)) []) : jFn cm tab (k + 5) i_L_asked [I a, I b, .d (ctlD cm cu re sta rows)] [] Q E := by
  refine jFn_i (d := j_L_asked) rfl (jdef_i _ rfl rfl ?_)
  walk_at "n"
  refine bk_step ?_
  refine b_step ?_
  walk_at "w"
  walk_at "ca"
  refine jCall_i [0] rfl (cst_init hs (fun h => ⟨_, _, rfl, rfl, ?_⟩) fun v h => ⟨_, rfl, true, exq co 1 0 (by decide) (by decide) (by decide), if_t rfl fun x dx => ?_⟩)
  · refine ⟨0, _, _, _, rfl, rfl, rfl, rfl, rfl, rfl, ?_⟩
    walk_at "v"
    refine bk_end ?_
    walk_at "n"
    refine ret_d rfl ?_
    unfold askD at q
    rw [h] at q
    exact q
  · refine b_gc [] rfl rfl rfl ?_
    walk_at "n"
    walk_at "n"
    refine ob_i _ (exq co 1 1 (by decide) (by decide) (by decide)) ?_
    walk_at "v"
    refine ob_i _ (exq co 1 15 (by decide) (by decide) (by decide)) ?_
    walk_at "v"
    refine ob_i _ (exq co 1 16 (by decide) (by decide) (by decide)) ?_
    walk_at "v"
    walk_at "n"
    refine ob_i _ (exq co 1 17 (by decide) (by decide) (by decide)) ?_
    walk_at "v"
    refine ob_i _ (co.ix 1 (by decide)) ?_
    walk_at "v"
    refine ob_i _ (exqs co 1 (by decide) (by decide) [2, 3, 4] (by decide)) ?_
    walk_at "v"
    walk_at "n"
    refine ob_i _ (co.ix 1 (by decide)) ?_
    walk_at "v"
    refine ob_i _ (exqs co 1 (by decide) (by decide) [5, 6, 7, 8, 9] (by decide)) ?_
    walk_at "v"
    walk_at "n"
    refine ob_i _ (co.ix 1 (by decide)) ?_
    walk_at "v"
    refine ob_i _ (exqs co 1 (by decide) (by decide) [10, 11, 12, 13, 14] (by decide)) ?_
    walk_at "v"
    walk_at "n"
    refine ob_i _ (exqT co 1 (by decide) (by decide)) ?_
    walk_at "v"
    refine ob_i _ (exq co 1 1 (by decide) (by decide) (by decide)) ?_
    walk_at "v"
    walk_at "n"
    refine ob_i _ (co.ix 1 (by decide)) ?_
    walk_at "v"
    refine bk_end ?_
    walk_at "n"
    refine ob_i _ (exqT co 1 (by decide) (by decide)) ?_
    walk_at "v"
    refine ob_i _ (exq co 1 15 (by decide) (by decide) (by decide)) ?_
    walk_at "v"
    refine bk_end ?_
    walk_at "n"
    refine ob_i _ (exqT co 1 (by decide) (by decide)) ?_
    walk_at "v"
    refine ob_i _ (exq co 1 16 (by decide) (by decide) (by decide)) ?_
    walk_at "v"
    refine bk_end ?_
    walk_at "n"
    refine ob_i _ (exqT co 1 (by decide) (by decide)) ?_
    walk_at "v"
    refine ob_i _ (exq co 1 17 (by decide) (by decide) (by decide)) ?_
    walk_at "v"
    refine bk_end ?_
    refine bk_end ?_
    walk_at "n"
    refine ret_d rfl ?_
    unfold askD at q
    rw [h] at q
    exact q
end Y
set_option Elab.async false
set_option linter.all false
set_option maxRecDepth 100000
set_option maxHeartbeats 2000000
set_option autoImplicit false
set_option pp.maxSteps 500
set_option pp.deepTerms false
set_option pp.proofs false
namespace Y
open PySem PySem.Spec PyProof.Rows L2
local macro_rules | `(tactic| walk_at "w") => `(tactic| conv => whnf)
local macro_rules | `(tactic| walk_at "s") => `(tactic| ((first | refine bk_step ?_ | refine bk_end ?_); conv => whnf))
local macro_rules | `(tactic| walk_at "c") => `(tactic| ((first | refine if_t rfl ?_ | refine if_f rfl ?_); conv => whnf))
local macro_rules | `(tactic| walk_at "a") => `(tactic| ((refine and_i ?h0 ?_); (case h0 => first | exact rfl | exact szl rfl | exact lt1000 rfl | exact Nat.succ_le_succ (Nat.zero_le _) | exact Nat.le_add_left _ _ | assumption | omega | decide | (refine Or.inl ⟨?_, ?_⟩ <;> omega) | (refine Or.inr ⟨?_, ?_⟩ <;> omega) | (refine ⟨?_, ?_⟩ <;> omega) | (refine ⟨?_, ?_, ?_⟩ <;> omega)); (conv => whnf)))
local macro_rules | `(tactic| walk_at "run") => `(tactic| repeat (first | walk_at "s" | walk_at "c" | walk_at "a"))
local macro_rules | `(tactic| walk_at "ca") => `(tactic| repeat (first | walk_at "c" | walk_at "a"))
local macro_rules | `(tactic| walk_at "n") => `(tactic| (walk_at "s"; walk_at "ca"))
local macro_rules | `(tactic| walk_at "v") => `(tactic| (walk_at "w"; walk_at "ca"))
local macro_rules | `(tactic| walk_at "o") => `(tactic| ((first | refine if_T (by omega) ?_ | refine if_F (by omega) ?_ | refine if_nT (by omega) ?_ | refine if_nF (by omega) ?_); (conv => whnf)))
local macro_rules | `(tactic| walk_at "cao") => `(tactic| repeat (first | walk_at "c" | walk_at "a" | walk_at "o"))
local macro_rules | `(tactic| walk_at "go") => `(tactic| repeat (first | walk_at "s" | walk_at "c" | walk_at "a" | walk_at "o"))
theorem filt1t {α : Type} {p : α → Bool} {o : α} (h : p o = true) : ([o].filter p).length = 1 := by
  rw [List.filter_cons_of_pos h]
  rfl
theorem filt1f {α : Type} {p : α → Bool} {o : α} (h : p o = false) : ([o].filter p).length = 0 := by
  rw [List.filter_cons_of_neg (by rw [h]; decide)]
  rfl
theorem all_filt {α : Type} {p : α → Bool} {l : List α} : decide (((l.filter p).length : Int) = 0) = l.all fun o => !p o := by
  cases h : l.all fun o => !p o with
  | true =>
    have : l.filter p = [] := by
      rw [List.filter_eq_nil_iff]
      intro a ha z
      have := List.all_eq_true.mp h a ha
      simp [z] at this
    rw [this]
    rfl
  | false =>
    obtain ⟨a, ha, z⟩ := List.all_eq_false.mp h
    have : a ∈ l.filter p := List.mem_filter.mpr ⟨ha, by simpa using z⟩
    have := List.length_pos_of_mem this
    exact decide_eq_false (by omega)
theorem any_range_succ {n : Nat} {p : Nat → Bool} : (List.range (n + 1)).any p = ((List.range n).any p || p n) := by
  rw [List.range_succ, List.any_append]
  simp
theorem L_forced_j {cm : CM} {ca an : Nat} {rows : Rows} (ok : CstOk ca an rows) : ∀ (m : Nat) {k s : Nat} {x : Int} {Q : QA} {E : XA → Prop}, x = s → s < rows.length → Q (B (forcedN rows ca an m s)) [some (.lst (rows.map rowD))] → jFn cm tab (k + m + 1) i_L_forced [.h 0, I ca, I an, I x, I m] [some (.lst (rows.map rowD))] Q E
  | 0, k, s, x, Q, E, hx, hs, q => by
    refine jFn_i (d := j_L_forced) rfl (jdef_i _ rfl rfl ?_)
    walk_at "n"
    walk_at "n"
    exact ⟨[0], _, _, rfl, rfl, rfl, rfl, q⟩
  | m + 1, k, s, x, Q, E, hx, hs, q => by
    subst hx
    have hca := ok.c
    have han := ok.a
    have gr := List.getElem?_eq_getElem hs
    generalize rows[s] = r at gr
    refine jFn_i (d := j_L_forced) rfl (jdef_i _ rfl rfl ?_)
    refine bk_step (s_ifv false (fun K hK => ?_) (if_f rfl ?_))
    · walk_at "v"
      exact leaf hK (by symm; exact decide_eq_false (by omega))
    refine bk_end ?_
    walk_at "n"
    refine for_r ca rfl (fun i δ' η' => ∃ v6 v7, δ' = [some (.h 0), some (I ca), some (I an), some (I s), some (I ((m + 1 : Nat) : Int)), none, v6, v7] ∧ η' = [some (.lst (rows.map rowD))] ∧ (List.range i).any (fun c => (outsOf rows an s c).all fun o => !(decide (o.2 = 0) && !forcedN rows ca an m o.1.toNat)) = false) ⟨_, _, rfl, rfl, rfl⟩ ?_ ?_
    · rintro c δ' η' hc ⟨v6, v7, rfl, rfl, hany⟩
      walk_at "w"
      walk_at "n"
      walk_at "s"
      refine ix_m s rfl gr ?_
      walk_at "v"
      rw [show (c : Int) * (an : Int) = ((c * an : Nat) : Int) by rw [Int.natCast_mul], show ((c * an : Nat) : Int) + (an : Int) = ((c * an + an : Nat) : Int) by rw [Int.natCast_add], cutA_map, mkT_map, take_out gr]
      walk_at "v"
      refine for_m (l := outsOf rows an s c) (f := fun p => .d (pairD p)) mm (fun i δ' η' => ∃ v7, δ' = [some (.h 0), some (I ca), some (I an), some (I s), some (I ((m + 1 : Nat) : Int)), some (I c), some (I ((((outsOf rows an s c).take i).filter fun o => (decide (o.2 = 0) && !forcedN rows ca an m o.1.toNat)).length : Nat)), v7] ∧ η' = [some (.lst (rows.map rowD))]) ⟨_, rfl, rfl⟩ (fun _ _ _ _ _ => trivial) ?_ ?_
      · rintro i o δ' η' ho ⟨v7, rfl, rfl⟩
        obtain ⟨g1, g2, g3, g4⟩ := ok.out ho
        walk_at "w"
        refine bk_step (s_ifv (decide (o.2 = 0) && !forcedN rows ca an m o.1.toNat) (fun K hK => ?_) (if_b (fun h => ?_) fun h => ?_))
        · walk_at "v"
          refine if_i (fun h5 => ?_) fun h5 => leaf hK (by rw [decide_eq_false h5]; rfl)
          walk_at "v"
          rw [show ((m + 1 : Nat) : Int) - 1 = (m : Nat) by omega]
          refine jCall_i [0] rfl (L_forced_j ok m (s := o.1.toNat) (by omega) (by omega) ⟨_, _, rfl, ?_⟩)
          walk_at "v"
          exact leaf hK (by rw [decide_eq_true h5]; rfl)
        · walk_at "n"
          refine bk_end (bk_end ⟨some (.d (pairD o)), ?_, rfl⟩)
          rw [take_succ_get ho, List.filter_append, List.length_append, filt1t (p := fun o : Int × Int => (decide (o.2 = 0) && !forcedN rows ca an m o.1.toNat)) h, Int.natCast_add]
          rfl
        · refine bk_end (bk_end ⟨some (.d (pairD o)), ?_, rfl⟩)
          rw [take_succ_get ho, List.filter_append, List.length_append, filt1f (p := fun o : Int × Int => (decide (o.2 = 0) && !forcedN rows ca an m o.1.toNat)) h]
          rfl
      · rintro δ' η' ⟨v7, rfl, rfl⟩
        rw [List.take_length]
        walk_at "s"
        rw [all_filt]
        refine if_b (fun h => ?_) fun h => ?_
        · walk_at "n"
          refine ⟨[0], _, _, rfl, rfl, rfl, rfl, ?_⟩
          have : forcedN rows ca an (m + 1) s = true := by
            unfold forcedN
            exact List.any_eq_true.mpr ⟨c, List.mem_range.mpr hc, h⟩
          rw [this] at q
          exact q
        · refine bk_end (b_fgt [5] (bk_end ⟨_, _, rfl, rfl, ?_⟩))
          rw [any_range_succ, hany, h]
          rfl
    · rintro δ' η' ⟨v6, v7, rfl, rfl, hany⟩
      walk_at "n"
      refine ⟨[0], _, _, rfl, rfl, rfl, rfl, ?_⟩
      have : forcedN rows ca an (m + 1) s = false := hany
      rw [this] at q
      exact q
theorem L_ranks_right_j {cm : CM} {k ca an : Nat} {rows : Rows} {Q : QA} {E : XA → Prop} (ok : CstOk ca an rows) (q : Q (B true) [some (tLs (rks rows ca an).1), some (.lst (rows.map rowD))]) : jFn cm tab (k + 5) i_L_ranks_right [.h 0, .h 1, I ca, I an] [some (tLs (rks rows ca an).1), some (.lst (rows.map rowD))] Q E := by
  have hl := (rks_len (rows := rows) (ca := ca) (an := an)).1
  have hn := ok.n
  have hlen : ∀ o, lenA [some o, some (.lst (rows.map rowD))] (.h 1) = some rows.length := fun η => by show some (rows.map rowD).length = _; rw [List.length_map]
  refine jFn_i (d := j_L_ranks_right) rfl (jdef_i _ rfl rfl ?_)
  walk_at "s"
  refine .inl ⟨_, hlen _, fun _ => ?_⟩
  walk_at "v"
  refine for_r (min rows.length 6) (by omega) (fun i δ' η' => ∃ v5 v6, δ' = [some (.h 0), some (.h 1), some (I ca), some (I an), none, v5, v6] ∧ η' = [some (tLs (rks rows ca an).1), some (.lst (rows.map rowD))]) ⟨_, _, rfl, rfl⟩ ?_ ?_
  · rintro s δ' η' hs ⟨v5, v6, rfl, rfl⟩
    have hs : s < rows.length := by omega
    walk_at "w"
    walk_at "n"
    refine for_r 4 rfl (fun i δ' η' => ∃ v5 v6, δ' = [some (.h 0), some (.h 1), some (I ca), some (I an), some (I s), v5, v6] ∧ η' = [some (tLs (rks rows ca an).1), some (.lst (rows.map rowD))]) ⟨_, _, rfl, rfl⟩ ?_ ?_
    · rintro m δ' η' hm ⟨v5, v6, rfl, rfl⟩
      have gt := getT (t := (rks rows ca an).1) (i := s) (by omega)
      have hb : forcedN rows ca an m s = match (rks rows ca an).1.getD s none with | some v => decide (v < m) | none => false := by
        rw [forced_iff ok m s hs]
        cases hx : (rksN rows ca an m).1.getD s none with
        | some v =>
          obtain ⟨h1, h2⟩ := rks_iff hs |>.mpr hx
          rw [h1]
          exact (decide_eq_true h2).symm
        | none =>
          cases hy : (rks rows ca an).1.getD s none with
          | none => rfl
          | some v =>
            show false = decide (v < m)
            symm
            refine decide_eq_false fun z => ?_
            have := rks_iff hs |>.mp ⟨hy, z⟩
            rw [hx] at this
            cases this
      walk_at "w"
      walk_at "s"
      refine ix_m s rfl gt ?_
      have fin : ∀ b, forcedN rows ca an m s = b → Bk (wB ((jAt cm tab (k + 4)).at 2) (GcX 2 E) (.cons (.ife (.cmp .NotEq (.nm 6) (.fn i_L_forced (.cons (.nm 1) (.cons (.nm 2) (.cons (.nm 3) (.cons (.nm 4) (.cons (.nm 5) (.nil)))))))) b_L_ranks_right_0 .nil) .nil) [some (.h 0), some (.h 1), some (I ca), some (I an), some (I s), some (I m), some (B b)] [some (tLs (rks rows ca an).1), some (.lst (rows.map rowD))] (fun δ' η' => ∃ v5 v6, δ' = [some (.h 0), some (.h 1), some (I ca), some (I an), some (I s), v5, v6] ∧ η' = [some (tLs (rks rows ca an).1), some (.lst (rows.map rowD))]) (GcR 2 Q) noSH (fun δ' η' => ∃ v5 v6, δ' = [some (.h 0), some (.h 1), some (I ca), some (I an), some (I s), v5, v6] ∧ η' = [some (tLs (rks rows ca an).1), some (.lst (rows.map rowD))])) := by
        intro b hb
        walk_at "n"
        refine jCall_i [1] rfl ?_
        show jFn cm tab (k + 4) i_L_forced _ _ _ _
        rw [show k + 4 = (k + 3 - m) + m + 1 by omega]
        refine L_forced_j ok m rfl hs ⟨_, _, rfl, ?_⟩
        rw [hb]
        walk_at "v"
        cases b <;> (walk_at "v"; exact bk_end (bk_end ⟨_, _, rfl, rfl⟩))
      cases hx : (rks rows ca an).1.getD s none with
      | none =>
        rw [hx] at hb
        walk_at "v"
        exact fin _ hb
      | some v =>
        rw [hx] at hb
        walk_at "v"
        refine ix_m s rfl gt ?_
        rw [hx]
        walk_at "v"
        rw [show decide ((v : Int) < (m : Int)) = decide (v < m) by simp]
        exact fin _ hb
    · rintro δ' η' ⟨v5, v6, rfl, rfl⟩
      exact b_fgt [4] (bk_end ⟨_, _, rfl, rfl⟩)
  · rintro δ' η' ⟨v5, v6, rfl, rfl⟩
    walk_at "n"
    exact ⟨[0, 1], _, _, rfl, rfl, rfl, rfl, q⟩
end Y
set_option Elab.async false
set_option linter.all false
set_option maxRecDepth 100000
set_option maxHeartbeats 2000000
set_option autoImplicit false
set_option pp.maxSteps 500
set_option pp.deepTerms false
set_option pp.proofs false
namespace Y
open PySem PySem.Spec PyProof.Rows L2
local macro_rules | `(tactic| walk_at "w") => `(tactic| conv => whnf)
local macro_rules | `(tactic| walk_at "s") => `(tactic| ((first | refine bk_step ?_ | refine bk_end ?_); conv => whnf))
local macro_rules | `(tactic| walk_at "c") => `(tactic| ((first | refine if_t rfl ?_ | refine if_f rfl ?_); conv => whnf))
local macro_rules | `(tactic| walk_at "a") => `(tactic| ((refine and_i ?h0 ?_); (case h0 => first | exact rfl | exact szl rfl | exact lt1000 rfl | exact Nat.succ_le_succ (Nat.zero_le _) | exact Nat.le_add_left _ _ | assumption | omega | decide | (refine Or.inl ⟨?_, ?_⟩ <;> omega) | (refine Or.inr ⟨?_, ?_⟩ <;> omega) | (refine ⟨?_, ?_⟩ <;> omega) | (refine ⟨?_, ?_, ?_⟩ <;> omega)); (conv => whnf)))
local macro_rules | `(tactic| walk_at "run") => `(tactic| repeat (first | walk_at "s" | walk_at "c" | walk_at "a"))
local macro_rules | `(tactic| walk_at "ca") => `(tactic| repeat (first | walk_at "c" | walk_at "a"))
local macro_rules | `(tactic| walk_at "n") => `(tactic| (walk_at "s"; walk_at "ca"))
local macro_rules | `(tactic| walk_at "v") => `(tactic| (walk_at "w"; walk_at "ca"))
local macro_rules | `(tactic| walk_at "o") => `(tactic| ((first | refine if_T (by omega) ?_ | refine if_F (by omega) ?_ | refine if_nT (by omega) ?_ | refine if_nF (by omega) ?_); (conv => whnf)))
local macro_rules | `(tactic| walk_at "cao") => `(tactic| repeat (first | walk_at "c" | walk_at "a" | walk_at "o"))
local macro_rules | `(tactic| walk_at "go") => `(tactic| repeat (first | walk_at "s" | walk_at "c" | walk_at "a" | walk_at "o"))
mutual
theorem sameD_ok : ∀ {n : Nat} {d : D}, okD n d = true → sameD d d = true
  | _, .non, _ => by unfold sameD; rfl
  | _, .bl _, _ => by unfold sameD; simp
  | _, .int _, _ => by unfold sameD; simp
  | _, .str _, _ => by unfold sameD; simp
  | n + 1, .tup xs, h => by
    unfold okD at h
    unfold sameD
    exact sameDs_ok h
  | n + 1, .lst xs, h => by
    unfold okD at h
    unfold sameD
    exact sameDs_ok h
  | 0, .tup _, h => by simp [okD] at h
  | 0, .lst _, h => by simp [okD] at h
  | n, .ins _ _, h => by simp [okD] at h
  | n, .exc _ _ _ _, h => by simp [okD] at h
  | n, .ref _, h => by simp [okD] at h
  | n, .ty _, h => by simp [okD] at h
theorem sameDs_ok : ∀ {n : Nat} {xs : List D}, okDs n xs = true → sameDs xs xs = true
  | _, [], _ => by unfold sameDs; rfl
  | n, x :: xs, h => by
    unfold okDs at h
    obtain ⟨h1, h2⟩ := Bool.and_eq_true_iff.mp h
    unfold sameDs
    rw [sameD_ok h1, sameDs_ok h2]
    rfl
end
mutual
theorem eqD_ok : ∀ {n : Nat} {d : D}, okD n d = true → eqD d d = true
  | _, .non, _ => by unfold eqD; rfl
  | _, .bl _, _ => by unfold eqD; simp
  | _, .int _, _ => by unfold eqD; simp
  | _, .str _, _ => by unfold eqD; simp
  | n + 1, .tup xs, h => by
    unfold okD at h
    unfold eqD
    exact eqDs_ok h
  | n + 1, .lst xs, h => by
    unfold okD at h
    unfold eqD
    exact eqDs_ok h
  | 0, .tup _, h => by simp [okD] at h
  | 0, .lst _, h => by simp [okD] at h
  | n, .ins _ _, h => by simp [okD] at h
  | n, .exc _ _ _ _, h => by simp [okD] at h
  | n, .ref _, h => by simp [okD] at h
  | n, .ty _, h => by simp [okD] at h
theorem eqDs_ok : ∀ {n : Nat} {xs : List D}, okDs n xs = true → eqDs xs xs = true
  | _, [], _ => by unfold eqDs; rfl
  | n, x :: xs, h => by
    unfold okDs at h
    obtain ⟨h1, h2⟩ := Bool.and_eq_true_iff.mp h
    unfold eqDs
    rw [eqD_ok h1, eqDs_ok h2]
    rfl
end
theorem ix_in3 {x y z i : Int} {P : D → Prop} (h : 0 ≤ i ∧ i < 3) (p : ∀ m, m = x ∨ m = y ∨ m = z → P (.int m)) : ob (ixA [.int x, .int y, .int z] i) P := by
  rcases (by omega : i = 0 ∨ i = 1 ∨ i = 2) with rfl | rfl | rfl
  · exact p x (by simp)
  · exact p y (by simp)
  · exact p z (by simp)
theorem ix_in4 {x y z u i : Int} {P : D → Prop} (h : 0 ≤ i ∧ i < 4) (p : ∀ m, m = x ∨ m = y ∨ m = z ∨ m = u → P (.int m)) : ob (ixA [.int x, .int y, .int z, .int u] i) P := by
  rcases (by omega : i = 0 ∨ i = 1 ∨ i = 2 ∨ i = 3) with rfl | rfl | rfl | rfl
  · exact p x (by simp)
  · exact p y (by simp)
  · exact p z (by simp)
  · exact p u (by simp)
theorem mkT_rep {d : D} {n : Nat} : mkT (List.replicate (n : Int).toNat (List.map A.d [d])).flatten = .d (.tup (List.replicate n d)) := by
  rw [Int.toNat_natCast]
  show mkT (List.replicate n [A.d d]).flatten = _
  have : (List.replicate n [A.d d]).flatten = (List.replicate n d).map .d := by
    induction n with
    | zero => rfl
    | succ n ih =>
      rw [List.replicate_succ, List.flatten_cons, ih, List.replicate_succ]
      rfl
  rw [this, mkT_map]
theorem ok_size {v : Int} : okD 1 (.tup [.str "size", .int v]) = true := by
  have : PyData.strOk "size" = true := by decide +kernel
  simp [okD, okDs, this]
def tI : Option Int → D
  | none => .non
  | some i => .int i
/-- the numbers that are asked for -/
abbrev numO (n0 n1 : Int) (n2 n3 : Nat) : O := .lst [.int n0, .int n1, .int n2, .int n3]
abbrev refS (cm : CM) (ca an sta : Nat) (rows : Rows) (fl : Int) (due : Option Int) : Sl := [some (.h 0), some (I ca), some (I an), some (.d (ctlD cm ((ca * an : Nat) : Int) 2 sta rows)), some (I fl), some (.h 1), some (.d (tI due)), none, none, none]
theorem L_refusals_j {cm : CM} [co : CmOk cm] {k ca an sta : Nat} {a b c d : Int} {rows : Rows} {Q : QA} {E : XA → Prop} (ok : CstOk ca an rows) (h16 : ca * an ≤ 16) (q : ∀ a b c d, Q (B true) [some (poolO a b c d)]) : jFn cm tab (k + 8) i_L_refusals [.h 0, I ca, I an, .d (ctlD cm ((ca * an : Nat) : Int) 2 sta rows)] [some (poolO a b c d)] Q E := by
  have hca := ok.c
  have han := ok.a
  have hn := ok.n
  refine jFn_i (d := j_L_refusals) rfl (jdef_i _ rfl rfl ?_)
  walk_at "n"
  refine jCall_i [0] rfl (draw_j (by decide) (by decide) fun fl a b c d hf1 hf2 => ⟨_, _, rfl, ?_⟩)
  walk_at "v"
  walk_at "n"
  walk_at "n"
  have hpos : 1 ≤ ca * an := Nat.mul_pos hca.1 han.1
  -- the replies
  refine bk_cut (fun δ η => ∃ (a b c d : Int) (n3 : Nat), (1 ≤ n3 ∧ n3 ≤ 256) ∧ δ = refS cm ca an sta rows (1 + fl) (if (n3 : Int) ≠ 2 then some (n3 : Int) else none) ∧ η = [some (poolO a b c d), some (numO ca an (ca * an) n3)]) (fun nx hnx => ?_) ?_
  · walk_at "w"
    refine if_i (fun h => ?_) fun h => bk_end (hnx _ _ ⟨a, b, c, d, 2, by omega, rfl, rfl⟩)
    walk_at "n"
    refine jCall_i [0] rfl (draw_j (by decide) (by decide) fun r1 a b c d g1 g2 => ⟨_, _, rfl, ?_⟩)
    walk_at "v"
    refine jCall_i [0] rfl (draw_j (by decide) (by decide) fun r2 a b c d g3 g4 => ⟨_, _, rfl, ?_⟩)
    walk_at "v"
    refine ix_in3 ⟨g3, g4⟩ fun m hm => ?_
    walk_at "v"
    obtain ⟨m, rfl⟩ := Int.eq_ofNat_of_zero_le (show 0 ≤ m by omega)
    walk_at "n"
    refine if_n (fun h2 => ?_) fun h2 => ?_
    · walk_at "n"
      refine b_gc [0, 1] rfl rfl rfl (bk_end ?_)
      refine bk_end (hnx _ _ ⟨a, b, c, d, m, by omega, ?_, rfl⟩)
      rw [if_pos h2]
      rfl
    · refine bk_end ?_
      refine b_gc [0, 1] rfl rfl rfl (bk_end (hnx _ _ ⟨a, b, c, d, m, by omega, ?_, rfl⟩))
      rw [if_neg (by omega)]
      rfl
  rintro _ _ ⟨a, b, c, d, n3, hn3, rfl, rfl⟩
  generalize hdue : (if (n3 : Int) ≠ 2 then some (n3 : Int) else none) = due
  -- the cues
  refine bk_cut (fun δ η => ∃ (a b c d : Int) (n2 : Nat), (1 ≤ n2 ∧ n2 ≤ 16) ∧ δ = refS cm ca an sta rows (1 + fl) due ∧ η = [some (poolO a b c d), some (numO ca an n2 n3)]) (fun nx hnx => ?_) ?_
  · walk_at "w"
    refine if_i (fun h => ?_) fun h => bk_end (hnx _ _ ⟨a, b, c, d, ca * an, ⟨hpos, h16⟩, rfl, rfl⟩)
    walk_at "n"
    refine jCall_i [0] rfl (draw_j (by decide) (by decide) fun r1 a b c d g1 g2 => ⟨_, _, rfl, ?_⟩)
    walk_at "v"
    obtain ⟨m, hm⟩ := Int.eq_ofNat_of_zero_le (show 0 ≤ 1 + (((ca * an : Nat) : Int) + r1) % 16 by omega)
    refine bk_end (hnx _ _ ⟨a, b, c, d, m, by omega, rfl, ?_⟩)
    rw [hm]
    rfl
  rintro _ _ ⟨a, b, c, d, n2, hn2, rfl, rfl⟩
  -- calls and answers
  refine bk_cut (fun δ' η' => ∃ (a b c d n0 n1 : Int) (v7 : Option A), (n0.natAbs < 2 ^ 31 ∧ n1.natAbs < 2 ^ 31) ∧ δ' = [some (.h 0), some (I ca), some (I an), some (.d (ctlD cm ((ca * an : Nat) : Int) 2 sta rows)), some (I (1 + fl)), some (.h 1), some (.d (tI due)), v7, none, none] ∧ η' = [some (poolO a b c d), some (numO n0 n1 n2 n3), some (.lst [.int 1, .int 0])]) (fun nx hnx => ?_) ?_
  · walk_at "v"
    refine for_m (l := [(1 : Nat), 0]) (f := fun i => I (i : Nat)) rfl (fun i δ' η' => ∃ (a b c d n0 n1 : Int) (v7 : Option A), (n0.natAbs < 2 ^ 31 ∧ n1.natAbs < 2 ^ 31) ∧ δ' = [some (.h 0), some (I ca), some (I an), some (.d (ctlD cm ((ca * an : Nat) : Int) 2 sta rows)), some (I (1 + fl)), some (.h 1), some (.d (tI due)), v7, none, none] ∧ η' = [some (poolO a b c d), some (numO n0 n1 n2 n3), some (.lst [.int 1, .int 0])]) ⟨a, b, c, d, ca, an, _, by omega, rfl, rfl⟩ (fun _ _ _ _ h => by obtain ⟨_, _, _, _, _, _, _, _, _, h⟩ := h; rw [h]; rfl) ?_ ?_
    · rintro i j δ' η' hj ⟨a, b, c, d, n0, n1, v7, hn, rfl, rfl⟩
      have hj : j = 1 ∨ j = 0 := by have := List.mem_of_getElem? hj; simpa using this
      rcases hj with rfl | rfl
      · walk_at "w"
        walk_at "n"
        refine if_i (fun h => ?_) fun h => bk_end (bk_end ⟨a, b, c, d, n0, n1, _, hn, rfl, rfl⟩)
        walk_at "n"
        refine jCall_i [0] rfl (draw_j (by decide) (by decide) fun r1 a b c d g1 g2 => ⟨_, _, rfl, ?_⟩)
        walk_at "v"
        refine jCall_i [0] rfl (draw_j (by decide) (by decide) fun r2 a b c d g3 g4 => ⟨_, _, rfl, ?_⟩)
        walk_at "v"
        refine jCall_i [0] rfl (draw_j (by decide) (by decide) fun r3 a b c d g5 g6 => ⟨_, _, rfl, ?_⟩)
        walk_at "v"
        refine ix_in4 ⟨g5, g6⟩ fun m hm => ?_
        walk_at "v"
        refine b_gc [0, 1, 2] rfl rfl rfl (bk_end (bk_end ⟨a, b, c, d, n0, m, _, ?_, rfl, rfl⟩))
        have : (10 : Int) ^ (6 : Int).toNat = 1000000 := by decide
        omega
      · walk_at "w"
        walk_at "n"
        refine if_i (fun h => ?_) fun h => bk_end (bk_end ⟨a, b, c, d, n0, n1, _, hn, rfl, rfl⟩)
        walk_at "n"
        refine jCall_i [0] rfl (draw_j (by decide) (by decide) fun r1 a b c d g1 g2 => ⟨_, _, rfl, ?_⟩)
        walk_at "v"
        refine jCall_i [0] rfl (draw_j (by decide) (by decide) fun r2 a b c d g3 g4 => ⟨_, _, rfl, ?_⟩)
        walk_at "v"
        refine jCall_i [0] rfl (draw_j (by decide) (by decide) fun r3 a b c d g5 g6 => ⟨_, _, rfl, ?_⟩)
        walk_at "v"
        refine ix_in4 ⟨g5, g6⟩ fun m hm => ?_
        walk_at "v"
        refine b_gc [0, 1, 2] rfl rfl rfl (bk_end (bk_end ⟨a, b, c, d, m, n1, _, ?_, rfl, rfl⟩))
        have : (10 : Int) ^ (6 : Int).toNat = 1000000 := by decide
        omega
    · rintro δ' η' ⟨a, b, c, d, n0, n1, v7, hn, rfl, rfl⟩
      exact hnx _ _ ⟨a, b, c, d, n0, n1, v7, hn, rfl, rfl⟩
  rintro _ _ ⟨a, b, c, d, n0, n1, v7, hn01, rfl, rfl⟩
  refine b_fgt [7] (b_gc [0, 1] rfl rfl rfl ?_)
  -- what is due
  refine bk_cut (fun δ' η' => δ' = refS cm ca an sta rows (1 + fl) (if (n2 : Int) ≠ n0 * n1 then some (n2 : Int) else due) ∧ η' = [some (poolO a b c d), some (numO n0 n1 n2 n3)]) (fun nx hnx => ?_) ?_
  · walk_at "v"
    refine if_n (fun h => ?_) fun h => ?_
    · walk_at "n"
      refine bk_end (hnx _ _ ⟨?_, rfl⟩)
      rw [if_pos h]
      rfl
    · refine bk_end (hnx _ _ ⟨?_, rfl⟩)
      rw [if_neg (by omega)]
      rfl
  rintro _ _ ⟨rfl, rfl⟩
  generalize hdue2 : (if (n2 : Int) ≠ n0 * n1 then some (n2 : Int) else due) = due2
  refine bk_cut (fun δ' η' => ∃ v7, δ' = [some (.h 0), some (I ca), some (I an), some (.d (ctlD cm ((ca * an : Nat) : Int) 2 sta rows)), some (I (1 + fl)), some (.h 1), some (.d (tI (wrongT n0 n1 n2 n3))), v7, none, none] ∧ η' = [some (poolO a b c d), some (numO n0 n1 n2 n3), some (.lst [.int 1, .int 0])]) (fun nx hnx => ?_) ?_
  · walk_at "v"
    refine for_m (l := [(1 : Nat), 0]) (f := fun i => I (i : Nat)) rfl (fun i δ' η' => ∃ v7, δ' = [some (.h 0), some (I ca), some (I an), some (.d (ctlD cm ((ca * an : Nat) : Int) 2 sta rows)), some (I (1 + fl)), some (.h 1), some (.d (tI (match i with
        | 0 => due2
        | 1 => if ¬ (1 ≤ n1 ∧ n1 ≤ 16) then some n1 else due2
        | _ => wrongT n0 n1 n2 n3))), v7, none, none] ∧ η' = [some (poolO a b c d), some (numO n0 n1 n2 n3), some (.lst [.int 1, .int 0])]) ⟨_, rfl, rfl⟩ (fun _ _ _ _ h => by obtain ⟨_, _, h⟩ := h; rw [h]; rfl) ?_ ?_
    · rintro i j δ' η' hj ⟨v7, rfl, rfl⟩
      have hi : i < 2 := (List.getElem?_eq_some_iff.mp hj).1
      rcases (by omega : i = 0 ∨ i = 1) with rfl | rfl
      · obtain rfl : 1 = j := by simpa using hj
        walk_at "w"
        refine bk_step (s_ifv (decide (¬ (1 ≤ n1 ∧ n1 ≤ 16))) (fun K hK => ?_) (if_i (fun h => ?_) fun h => ?_))
        · walk_at "v"
          refine if_i (fun h => leaf hK (decide_eq_true (by omega))) fun h => ?_
          walk_at "v"
          exact leaf hK (decide_eq_decide.mpr (by omega))
        · walk_at "n"
          exact bk_end (bk_end ⟨some (I 1), congrArg (fun x => [some (.h 0), some (I ca), some (I an), some (.d (ctlD cm ((ca * an : Nat) : Int) 2 sta rows)), some (I (1 + fl)), some (.h 1), some (.d (tI x)), some (I 1), none, none]) ((if_pos h : (if ¬ (1 ≤ n1 ∧ n1 ≤ 16) then some n1 else due2) = some n1)).symm, rfl⟩)
        · exact bk_end (bk_end ⟨some (I 1), congrArg (fun x => [some (.h 0), some (I ca), some (I an), some (.d (ctlD cm ((ca * an : Nat) : Int) 2 sta rows)), some (I (1 + fl)), some (.h 1), some (.d (tI x)), some (I 1), none, none]) ((if_neg h : (if ¬ (1 ≤ n1 ∧ n1 ≤ 16) then some n1 else due2) = due2)).symm, rfl⟩)
      · obtain rfl : 0 = j := by simpa using hj
        have hw : wrongT n0 n1 n2 n3 = if ¬ (1 ≤ n0 ∧ n0 ≤ 16) then some n0 else if ¬ (1 ≤ n1 ∧ n1 ≤ 16) then some n1 else due2 := by
          rw [← hdue2, ← hdue]
          rfl
        walk_at "w"
        refine bk_step (s_ifv (decide (¬ (1 ≤ n0 ∧ n0 ≤ 16))) (fun K hK => ?_) (if_i (fun h => ?_) fun h => ?_))
        · walk_at "v"
          refine if_i (fun h => leaf hK (decide_eq_true (by omega))) fun h => ?_
          walk_at "v"
          exact leaf hK (decide_eq_decide.mpr (by omega))
        · walk_at "n"
          exact bk_end (bk_end ⟨some (I 0), congrArg (fun x => [some (.h 0), some (I ca), some (I an), some (.d (ctlD cm ((ca * an : Nat) : Int) 2 sta rows)), some (I (1 + fl)), some (.h 1), some (.d (tI x)), some (I 0), none, none]) (hw.trans (if_pos h)).symm, rfl⟩)
        · exact bk_end (bk_end ⟨some (I 0), congrArg (fun x => [some (.h 0), some (I ca), some (I an), some (.d (ctlD cm ((ca * an : Nat) : Int) 2 sta rows)), some (I (1 + fl)), some (.h 1), some (.d (tI x)), some (I 0), none, none]) (hw.trans (if_neg h)).symm, rfl⟩)
    · rintro δ' η' ⟨v7, rfl, rfl⟩
      exact hnx _ _ ⟨v7, rfl, rfl⟩
  rintro _ _ ⟨v7, rfl, rfl⟩
  refine b_fgt [7] (b_gc [0, 1] rfl rfl rfl ?_)
  walk_at "n"
  rw [mkT_rep]
  walk_at "v"
  refine rep_m (f := rowD) (List.replicate n2 (0, 0)) (by unfold rowD; rw [List.map_replicate]; rfl) rfl (by omega) ?_
  walk_at "v"
  refine ⟨3, _, _, _, rfl, rfl, rfl, rfl, rfl, rfl, ?_⟩
  walk_at "v"
  refine jCall_i [2] rfl (ctl_init (sta := 0) (rows := List.replicate rows.length (List.replicate n2 (0, 0))) (.inr rfl) hn2 hn3 (by rw [List.length_replicate]; exact hn) (by rw [List.length_replicate]; omega) (fun r hr => ?_) ⟨_, _, rfl, rfl, ?_⟩)
  · rw [(List.mem_replicate.mp hr).2, List.length_replicate]
    refine ⟨List.length_replicate, fun p hp => ?_⟩
    rw [(List.mem_replicate.mp hp).2]
    dsimp only
    omega
  refine ⟨2, _, _, _, rfl, rfl, rfl, rfl, rfl, rfl, ?_⟩
  walk_at "v"
  walk_at "n"
  refine jCall_i [] rfl (L_asked_j ⟨by omega, by omega⟩ ⟨_, _, rfl, ?_⟩)
  walk_at "v"
  unfold askD
  cases hw : wrongT n0 n1 n2 n3 with
  | none =>
    walk_at "n"
    walk_at "n"
    exact ⟨[0], _, _, rfl, rfl, rfl, rfl, q _ _ _ _⟩
  | some v =>
    walk_at "n"
    refine bk_end ?_
    walk_at "n"
    refine jCall_i [] rfl (same_j 1 (k + 5) 1 (td := .tup [.str "size", .int v]) (dd := .tup [.str "size", .int v]) ok_size ok_size _ _ ⟨_, _, rfl, ?_⟩)
    rw [sameD_ok ok_size]
    exact ⟨[0], _, _, rfl, rfl, rfl, rfl, q _ _ _ _⟩
end Y
set_option Elab.async false
set_option linter.all false
set_option maxRecDepth 100000
set_option maxHeartbeats 2000000
set_option autoImplicit false
set_option pp.maxSteps 500
set_option pp.deepTerms false
set_option pp.proofs false
namespace Y
open PySem PySem.Spec PyProof.Rows L2
local macro_rules | `(tactic| walk_at "w") => `(tactic| conv => whnf)
local macro_rules | `(tactic| walk_at "s") => `(tactic| ((first | refine bk_step ?_ | refine bk_end ?_); conv => whnf))
local macro_rules | `(tactic| walk_at "c") => `(tactic| ((first | refine if_t rfl ?_ | refine if_f rfl ?_); conv => whnf))
local macro_rules | `(tactic| walk_at "a") => `(tactic| ((refine and_i ?h0 ?_); (case h0 => first | exact rfl | exact szl rfl | exact lt1000 rfl | exact Nat.succ_le_succ (Nat.zero_le _) | exact Nat.le_add_left _ _ | assumption | omega | decide | (refine Or.inl ⟨?_, ?_⟩ <;> omega) | (refine Or.inr ⟨?_, ?_⟩ <;> omega) | (refine ⟨?_, ?_⟩ <;> omega) | (refine ⟨?_, ?_, ?_⟩ <;> omega)); (conv => whnf)))
local macro_rules | `(tactic| walk_at "run") => `(tactic| repeat (first | walk_at "s" | walk_at "c" | walk_at "a"))
local macro_rules | `(tactic| walk_at "ca") => `(tactic| repeat (first | walk_at "c" | walk_at "a"))
local macro_rules | `(tactic| walk_at "n") => `(tactic| (walk_at "s"; walk_at "ca"))
local macro_rules | `(tactic| walk_at "v") => `(tactic| (walk_at "w"; walk_at "ca"))
local macro_rules | `(tactic| walk_at "o") => `(tactic| ((first | refine if_T (by omega) ?_ | refine if_F (by omega) ?_ | refine if_nT (by omega) ?_ | refine if_nF (by omega) ?_); (conv => whnf)))
local macro_rules | `(tactic| walk_at "cao") => `(tactic| repeat (first | walk_at "c" | walk_at "a" | walk_at "o"))
local macro_rules | `(tactic| walk_at "go") => `(tactic| repeat (first | walk_at "s" | walk_at "c" | walk_at "a" | walk_at "o"))
theorem okD_tD {n : Nat} {x : Option Nat} : okD n (tD x) = true := by
  cases x <;> (unfold tD; cases n <;> simp [okD])
theorem okD_int {n : Nat} {i : Int} : okD n (.int i) = true := by cases n <;> simp [okD]
theorem ok_kept : okD 0 (.str "kept") = true := by
  have : PyData.strOk "kept" = true := by decide +kernel
  simp [okD, this]
theorem ok_lost : okD 0 (.str "lost") = true := by
  have : PyData.strOk "lost" = true := by decide +kernel
  simp [okD, this]
theorem okD_tup {n : Nat} {xs : List D} (h : okDs n xs = true) : okD (n + 1) (.tup xs) = true := by
  unfold okD
  exact h
theorem okD_lst {n : Nat} {xs : List D} (h : okDs n xs = true) : okD (n + 1) (.lst xs) = true := by
  unfold okD
  exact h
theorem okDs_cons {n : Nat} {x : D} {xs : List D} (h : okD n x = true) (h2 : okDs n xs = true) : okDs n (x :: xs) = true := by
  unfold okDs
  rw [h, h2]
  rfl
theorem okDs_nil {n : Nat} : okDs n [] = true := by unfold okDs; rfl
theorem okD_str {n : Nat} {x : Str} (h : okD 0 (.str x) = true) : okD n (.str x) = true := by
  have h : PyData.strOk x = true := by simpa [okD] using h
  cases n <;> simp [okD, h]
theorem okD_keptR {rows : Rows} {ca an s : Nat} {t : List (Option Nat)} : okD 2 (keptR rows ca an t s) = true :=
  okD_tup (okDs_cons okD_int (okDs_cons (okD_tup (okDs_map fun _ _ => okD_tD)) okDs_nil))
theorem okD_lostR {t b : List (Option Nat)} {s : Nat} : okD 2 (lostR t b s) = true :=
  okD_tup (okDs_cons okD_int (okDs_cons okD_tD (okDs_cons okD_tD okDs_nil)))
theorem okD_setl {rows : Rows} {ca an s : Nat} : okD 4 (setlD rows ca an s) = true := by
  unfold setlD
  split
  · exact okD_tup (okDs_cons (okD_str ok_kept) (okDs_cons (okD_tup (okDs_map fun _ _ => okD_keptR)) okDs_nil))
  · exact okD_tup (okDs_cons (okD_str ok_lost) (okDs_cons (okD_tup (okDs_map fun _ _ => okD_lostR)) okDs_nil))
theorem okD_tLs {n : Nat} {t : List (Option Nat)} : okD (n + 1) (.lst (t.map tD)) = true := okD_lst (okDs_map fun _ _ => okD_tD)
theorem okD_bl {n : Nat} {b : Bool} : okD n (.bl b) = true := by cases n <;> simp [okD]
/-- the keeper's table, as the judge wants it -/
theorem kept_form {rows : Rows} {ca an : Nat} (ok : CstOk ca an rows) : ∃ f : Nat → Nat → Nat, (freeS (rks rows ca an).1 rows.length).map (keptR rows ca an (rks rows ca an).1) = (freeS (rks rows ca an).1 rows.length).map (fun s => .tup [.int (s : Nat), .tup ((List.range ca).map fun c => .int (f s c : Nat))]) ∧ ∀ s ∈ freeS (rks rows ca an).1 rows.length, ∀ c < ca, safeA rows an (rks rows ca an).1 s c = some (f s c) ∧ f s c < an := by
  have hx : ∀ s ∈ freeS (rks rows ca an).1 rows.length, ∀ c < ca, safeA rows an (rks rows ca an).1 s c = some ((safeA rows an (rks rows ca an).1 s c).getD 0) ∧ (safeA rows an (rks rows ca an).1 s c).getD 0 < an := by
    intro s hs c hc
    obtain ⟨h1, h2⟩ := List.mem_filter.mp hs
    have h1 := List.mem_range.mp h1
    obtain ⟨a, ha, hb⟩ := fix_safe ok h1 hc (fix_wins rks_fix h1 (Option.isNone_iff_eq_none.mp h2) hc)
    rw [ha]
    exact ⟨rfl, hb⟩
  refine ⟨fun s c => (safeA rows an (rks rows ca an).1 s c).getD 0, List.map_congr_left fun s hs => ?_, hx⟩
  unfold keptR
  have : (List.range ca).map (fun c => tD (safeA rows an (rks rows ca an).1 s c)) = (List.range ca).map fun c => .int (((safeA rows an (rks rows ca an).1 s c).getD 0 : Nat) : Int) := List.map_congr_left fun c hc => by
    have := (hx s hs c (List.mem_range.mp hc)).1
    exact congrArg tD this
  rw [this]
theorem lost_form {rows : Rows} {ca an : Nat} (ok : CstOk ca an rows) : ∃ cs v : Nat → Nat, (rankS (rks rows ca an).1 rows.length).map (lostR (rks rows ca an).1 (rks rows ca an).2) = (rankS (rks rows ca an).1 rows.length).map (fun s => .tup [.int (s : Nat), .int (cs s : Nat), .int (v s : Nat)]) ∧
    ∀ s ∈ rankS (rks rows ca an).1 rows.length, cs s < ca ∧ ∀ o ∈ outsOf rows an s (cs s), o.2 = 0 → o.1.toNat ∈ rankS (rks rows ca an).1 rows.length ∧ v o.1.toNat < v s := by
  have hx : ∀ s ∈ rankS (rks rows ca an).1 rows.length, ∃ c k, (rks rows ca an).2.getD s none = some c ∧ (rks rows ca an).1.getD s none = some k ∧ c < ca ∧ ∀ o ∈ outsOf rows an s c, o.2 = 0 → ∃ k', (rks rows ca an).1.getD o.1.toNat none = some k' ∧ k' < k := by
    intro s hs
    obtain ⟨h1, h2⟩ := List.mem_filter.mp hs
    have h1 := List.mem_range.mp h1
    obtain ⟨k, hk⟩ := Option.isSome_iff_exists.mp h2
    obtain ⟨c, e1, e2, e3⟩ := rks_down ok h1 hk
    exact ⟨c, k, e2, hk, e1, e3⟩
  refine ⟨fun s => ((rks rows ca an).2.getD s none).getD 0, fun s => ((rks rows ca an).1.getD s none).getD 0, List.map_congr_left fun s hs => ?_, fun s hs => ?_⟩
  · obtain ⟨c, k, h1, h2, _⟩ := hx s hs
    unfold lostR
    dsimp only
    rw [h1, h2]
    rfl
  · obtain ⟨c, k, h1, h2, h3, h4⟩ := hx s hs
    dsimp only
    rw [h1, h2]
    refine ⟨h3, fun o ho h0 => ?_⟩
    obtain ⟨k', h5, h6⟩ := h4 o ho h0
    rw [h5]
    refine ⟨List.mem_filter.mpr ⟨List.mem_range.mpr ?_, by rw [h5]; rfl⟩, h6⟩
    obtain ⟨i, hi, e⟩ := List.getElem_of_mem ho
    have ob := ok.out (p := o) (s := s) (c := c) (i := i) (by
      rw [← e]
      exact List.getElem?_eq_getElem hi)
    omega
theorem wrong_none {ca an : Nat} (h1 : 1 ≤ ca ∧ ca ≤ 16) (h2 : 1 ≤ an ∧ an ≤ 16) : wrongT ca an ((ca * an : Nat) : Int) 2 = none := by
  unfold wrongT
  rw [if_neg (by omega), if_neg (by omega), if_neg (by rw [Int.natCast_mul]; simp), if_neg (by simp)]
end Y
set_option Elab.async false
set_option linter.all false
set_option maxRecDepth 100000
set_option maxHeartbeats 2000000
set_option autoImplicit false
set_option pp.maxSteps 500
set_option pp.deepTerms false
set_option pp.proofs false
namespace Y
open PySem PySem.Spec PyProof.Rows L2
local macro_rules | `(tactic| walk_at "w") => `(tactic| conv => whnf)
local macro_rules | `(tactic| walk_at "s") => `(tactic| ((first | refine bk_step ?_ | refine bk_end ?_); conv => whnf))
local macro_rules | `(tactic| walk_at "c") => `(tactic| ((first | refine if_t rfl ?_ | refine if_f rfl ?_); conv => whnf))
local macro_rules | `(tactic| walk_at "a") => `(tactic| ((refine and_i ?h0 ?_); (case h0 => first | exact rfl | exact szl rfl | exact lt1000 rfl | exact Nat.succ_le_succ (Nat.zero_le _) | exact Nat.le_add_left _ _ | assumption | omega | decide | (refine Or.inl ⟨?_, ?_⟩ <;> omega) | (refine Or.inr ⟨?_, ?_⟩ <;> omega) | (refine ⟨?_, ?_⟩ <;> omega) | (refine ⟨?_, ?_, ?_⟩ <;> omega)); (conv => whnf)))
local macro_rules | `(tactic| walk_at "run") => `(tactic| repeat (first | walk_at "s" | walk_at "c" | walk_at "a"))
local macro_rules | `(tactic| walk_at "ca") => `(tactic| repeat (first | walk_at "c" | walk_at "a"))
local macro_rules | `(tactic| walk_at "n") => `(tactic| (walk_at "s"; walk_at "ca"))
local macro_rules | `(tactic| walk_at "v") => `(tactic| (walk_at "w"; walk_at "ca"))
local macro_rules | `(tactic| walk_at "o") => `(tactic| ((first | refine if_T (by omega) ?_ | refine if_F (by omega) ?_ | refine if_nT (by omega) ?_ | refine if_nF (by omega) ?_); (conv => whnf)))
local macro_rules | `(tactic| walk_at "cao") => `(tactic| repeat (first | walk_at "c" | walk_at "a" | walk_at "o"))
local macro_rules | `(tactic| walk_at "go") => `(tactic| repeat (first | walk_at "s" | walk_at "c" | walk_at "a" | walk_at "o"))
abbrev lawS (cm : CM) (ns : List Int) (ca an og : Nat) (r4 : Int) (rows : Rows) (tl : Sl) : Sl := some (.d (.lst (dI ns))) :: some (.h 0) :: some (I ca) :: some (I an) :: some (I rows.length) :: some (I r4) :: some (.h 1) :: some (I og) :: some (.d (ctlD cm ((ca * an : Nat) : Int) 2 og rows)) :: some (.d (cstD cm ca an og rows)) :: tl
theorem law_j {cm : CM} [co : CmOk cm] {k : Nat} {ns : List Int} {Q : QA} {E : XA → Prop} (q : Q (B true) []) : jFn cm tab (k + 12) i_law [.d (.lst (dI ns))] [] Q E := by
  refine jFn_i (d := j_law) rfl (jdef_i _ rfl rfl ?_)
  walk_at "n"
  refine jCall_i [] rfl (pool_j (by omega) fun a b c d => ⟨_, _, rfl, ?_⟩)
  walk_at "v"
  walk_at "n"
  refine jCall_i [0] rfl (draw_j (by decide) (by decide) fun r1 a b c d g1 g2 => ⟨_, _, rfl, ?_⟩)
  walk_at "v"
  walk_at "n"
  refine jCall_i [0] rfl (draw_j (by decide) (by decide) fun r2 a b c d g3 g4 => ⟨_, _, rfl, ?_⟩)
  walk_at "v"
  walk_at "n"
  refine jCall_i [0] rfl (draw_j (by decide) (by decide) fun r3 a b c d g5 g6 => ⟨_, _, rfl, ?_⟩)
  walk_at "v"
  walk_at "n"
  refine jCall_i [0] rfl (draw_j (by decide) (by decide) fun r4 a b c d g7 g8 => ⟨_, _, rfl, ?_⟩)
  walk_at "v"
  obtain ⟨ca, hca⟩ := Int.eq_ofNat_of_zero_le (show 0 ≤ 1 + r1 by omega)
  obtain ⟨an, han⟩ := Int.eq_ofNat_of_zero_le (show 0 ≤ 1 + r2 by omega)
  obtain ⟨st, hst⟩ := Int.eq_ofNat_of_zero_le (show 0 ≤ 1 + r3 by omega)
  rw [hca, han, hst]
  refine bk_cut (fun δ' η' => ∃ (a b c d : Int) (st : Nat), (1 ≤ st ∧ st ≤ 64) ∧ δ' = [some (.d (.lst (dI ns))), some (.h 0), some (I ca), some (I an), some (I st), some (I r4), none, none, none, none, none, none, none, none, none, none, none, none, none] ∧ η' = [some (poolO a b c d)]) (fun nx hnx => ?_) ?_
  · walk_at "w"
    refine if_i (fun h => ?_) fun h => bk_end (hnx _ _ ⟨a, b, c, d, st, by omega, rfl, rfl⟩)
    walk_at "n"
    refine jCall_i [0] rfl (draw_j (by decide) (by decide) fun r5 a b c d g9 g10 => ⟨_, _, rfl, ?_⟩)
    walk_at "v"
    walk_at "n"
    refine jCall_i [0] rfl (draw_j (by decide) (by decide) fun r6 a b c d g11 g12 => ⟨_, _, rfl, ?_⟩)
    walk_at "v"
    obtain ⟨st, hst⟩ := Int.eq_ofNat_of_zero_le (show 0 ≤ 7 + r5 by omega)
    rw [hst]
    refine if_i (fun h => ?_) fun h => ?_
    · walk_at "n"
      exact bk_end (bk_end (hnx _ _ ⟨a, b, c, d, 64, by omega, rfl, rfl⟩))
    · exact bk_end (bk_end (hnx _ _ ⟨a, b, c, d, st, by omega, rfl, rfl⟩))
  rintro _ _ ⟨a, b, c, d, st, hst, rfl, rfl⟩
  have hca : 1 ≤ ca ∧ ca ≤ 4 := by omega
  have han : 1 ≤ an ∧ an ≤ 4 := by omega
  have h16 : ca * an ≤ 4 * 4 := Nat.mul_le_mul hca.2 han.2
  refine bk_cut (fun δ' η' => ∃ (a b c d : Int) (ca an : Nat), (1 ≤ ca ∧ ca ≤ 16) ∧ (1 ≤ an ∧ an ≤ 16) ∧ ca * an ≤ 16 ∧ δ' = [some (.d (.lst (dI ns))), some (.h 0), some (I ca), some (I an), some (I st), some (I r4), none, none, none, none, none, none, none, none, none, none, none, none, none] ∧ η' = [some (poolO a b c d)]) (fun nx hnx => ?_) ?_
  · walk_at "w"
    refine if_i (fun h => ?_) fun h => bk_end (hnx _ _ ⟨a, b, c, d, ca, an, by omega, by omega, h16, rfl, rfl⟩)
    walk_at "n"
    refine jCall_i [0] rfl (draw_j (by decide) (by decide) fun r5 a b c d g9 g10 => ⟨_, _, rfl, ?_⟩)
    walk_at "v"
    refine ix_in4 ⟨g9, g10⟩ fun m hm => ?_
    rcases hm with rfl | rfl | rfl | rfl
    · walk_at "v"
      walk_at "n"
      exact b_gc [0] rfl rfl rfl (bk_end (hnx _ _ ⟨a, b, c, d, 1, 16, by omega, by omega, by omega, rfl, rfl⟩))
    · walk_at "v"
      walk_at "n"
      exact b_gc [0] rfl rfl rfl (bk_end (hnx _ _ ⟨a, b, c, d, 16, 1, by omega, by omega, by omega, rfl, rfl⟩))
    · walk_at "v"
      walk_at "n"
      exact b_gc [0] rfl rfl rfl (bk_end (hnx _ _ ⟨a, b, c, d, 2, 8, by omega, by omega, by omega, rfl, rfl⟩))
    · walk_at "v"
      walk_at "n"
      exact b_gc [0] rfl rfl rfl (bk_end (hnx _ _ ⟨a, b, c, d, 8, 2, by omega, by omega, by omega, rfl, rfl⟩))
  clear hca han h16 g1 g2 g3 g4
  rintro _ _ ⟨a, b, c, d, ca, an, hca, han, h16, rfl, rfl⟩
  walk_at "n"
  refine jCall_i [0] rfl (rows_j (place := 1) hca.1 hca.2 han.1 han.2 hst.1 hst.2 fun rows a b c d hr => ⟨_, _, rfl, ?_⟩)
  walk_at "v"
  obtain ⟨hrl, hr⟩ := hr
  subst hrl
  have ok : CstOk ca an rows := ⟨hca, han, hst, hr⟩
  have hpos : 1 ≤ ca * an := Nat.mul_pos hca.1 han.1
  walk_at "n"
  refine jCall_i [0] rfl (draw_j (by omega) (lg (by omega)) fun r5 a b c d g1 g2 => ⟨_, _, rfl, ?_⟩)
  walk_at "v"
  obtain ⟨og, rfl⟩ := Int.eq_ofNat_of_zero_le g1
  have hog : og < rows.length := by omega
  walk_at "n"
  have hmul : (ca : Int) * (an : Int) = ((ca * an : Nat) : Int) := by rw [Int.natCast_mul]
  rw [mkL_map]
  refine ⟨2, _, _, _, rfl, rfl, rfl, rfl, rfl, rfl, ?_⟩
  walk_at "v"
  rw [hmul]
  refine jCall_i [2] rfl (ctl_init (sta := og) (rows := rows) (.inr rfl) ⟨hpos, h16⟩ (re := 2) (by omega) hst hog hr ⟨_, _, rfl, rfl, ?_⟩)
  refine ⟨2, _, _, _, rfl, rfl, rfl, rfl, rfl, rfl, ?_⟩
  walk_at "v"
  walk_at "n"
  refine jCall_i [2] rfl (cst_init ⟨by omega, by omega⟩ (fun _ => ⟨_, _, rfl, rfl, ?_⟩) fun v h => absurd ((wrong_none hca han).symm.trans h) fun z => by cases z)
  refine ⟨2, _, _, _, rfl, rfl, rfl, rfl, rfl, rfl, ?_⟩
  walk_at "v"
  have okl : ∀ x y : Nat, okD 1 (.lst [.int x, .int y]) = true := fun _ _ => okD_lst (okDs_cons okD_int (okDs_cons okD_int okDs_nil))
  refine bk_step (s_ifv false (fun K hK => ?_) (if_f rfl (bk_end ?_)))
  · walk_at "v"
    refine ⟨2, _, _, _, rfl, rfl, rfl, rfl, rfl, rfl, ?_⟩
    walk_at "v"
    refine ⟨2, _, _, _, rfl, rfl, rfl, rfl, rfl, rfl, ?_⟩
    walk_at "v"
    refine jCall_i [] rfl (same_j 1 (k + 9) 1 (okl _ _) (okl _ _) _ _ ⟨_, _, rfl, ?_⟩)
    rw [sameD_ok (okl _ _)]
    walk_at "v"
    refine ob_i (o := cm.cix (cm.cls 32)) 32 (co.ix 32 (by decide)) ?_
    walk_at "v"
    refine ob_i (o := cm.eqf (cm.cls 32)) i_Control___eq (co.eq (32, i_Control___eq) (by decide)) ?_
    walk_at "v"
    refine jCall_i [] rfl (ctl_eq ⟨_, _, rfl, ?_⟩)
    rw [eqD_ok (okD_rows (n := 0))]
    walk_at "v"
    exact leaf hK (by simp)
  walk_at "n"
  refine for_r 8 rfl (fun i δ' η' => ∃ (a b c d : Int) (v10 v11 v12 v13 : Option A), δ' = lawS cm ns ca an og r4 rows [v10, v11, v12, v13, none, none, none, none, none] ∧ η' = [some (poolO a b c d), some (.lst (rows.map rowD))]) ⟨a, b, c, d, _, _, _, _, rfl, rfl⟩ ?_ ?_
  · rintro i δ' η' hi ⟨a, b, c, d, v10, v11, v12, v13, rfl, rfl⟩
    walk_at "w"
    walk_at "n"
    refine jCall_i [0] rfl (draw_j (by omega) (lg (by omega)) fun r5 a b c d g3 g4 => ⟨_, _, rfl, ?_⟩)
    walk_at "v"
    walk_at "n"
    refine jCall_i [0] rfl (draw_j (by omega) (lg (by omega)) fun r6 a b c d g5 g6 => ⟨_, _, rfl, ?_⟩)
    walk_at "v"
    walk_at "n"
    refine jCall_i [0] rfl (draw_j (by omega) (lg (by omega)) fun r7 a b c d g7 g8 => ⟨_, _, rfl, ?_⟩)
    walk_at "v"
    obtain ⟨s, rfl⟩ := Int.eq_ofNat_of_zero_le g3
    obtain ⟨ce, rfl⟩ := Int.eq_ofNat_of_zero_le g5
    obtain ⟨x, rfl⟩ := Int.eq_ofNat_of_zero_le g7
    have hs : s < rows.length := by omega
    obtain ⟨p, e1, e2, _⟩ := outs_get (List.getElem?_eq_getElem hs) (ok.len _ (List.getElem_mem hs)) (show ce < ca by omega) (show x < an by omega)
    walk_at "n"
    refine jCall_i [] rfl (outcome_j han.2 (List.getElem?_eq_getElem hs) e1 ⟨_, _, rfl, ?_⟩)
    walk_at "v"
    refine ix_m s rfl (List.getElem?_eq_getElem hs) ?_
    walk_at "v"
    refine ix_m (ce * an + x) (by rw [Int.natCast_add, Int.natCast_mul]) e1 ?_
    walk_at "v"
    refine jCall_i [] rfl (same_j 1 (k + 9) 1 (okD_pair (p := p)) (okD_pair (p := p)) _ _ ⟨_, _, rfl, ?_⟩)
    rw [sameD_ok (okD_pair (p := p) (n := 0))]
    walk_at "v"
    exact bk_end (bk_end ⟨a, b, c, d, _, _, _, _, rfl, rfl⟩)
  rintro _ _ ⟨a, b, c, d, v10, v11, v12, v13, rfl, rfl⟩
  refine b_fgt [10, 11, 12, 13] ?_
  walk_at "n"
  refine jCall_i [1] rfl (L_ranks_j ok ⟨_, _, rfl, ?_⟩)
  walk_at "v"
  refine b_gc [0, 1, 2] rfl rfl rfl ?_
  walk_at "n"
  refine jCall_i [] rfl (ranks_j ok ⟨_, _, rfl, ?_⟩)
  walk_at "v"
  walk_at "n"
  rw [mkL_map]
  refine ⟨4, _, _, _, rfl, rfl, rfl, rfl, rfl, rfl, ?_⟩
  walk_at "v"
  refine jCall_i [3] rfl (same_h 1 (k + 9) 1 okD_tLs okD_tLs _ _ ⟨_, _, rfl, ?_⟩)
  rw [sameD_ok (okD_tLs (n := 0))]
  walk_at "v"
  refine bk_end ?_
  refine bk_step (s_ifv false (fun K hK => ?_) (if_f rfl (bk_end ?_)))
  · walk_at "v"
    refine if_b (fun _ => ?_) fun _ => leaf hK rfl
    walk_at "v"
    refine jCall_i [2, 1] rfl (L_ranks_right_j ok ⟨_, _, rfl, ?_⟩)
    walk_at "v"
    exact leaf hK rfl
  have hlr := (rks_len (rows := rows) (ca := ca) (an := an)).1
  walk_at "n"
  refine and_i ?_ ?_
  · show (List.map tD (rks rows ca an).1).length < sizeLine
    rw [List.length_map, sizeLine_eq]
    omega
  walk_at "v"
  refine b_fgt [15] (b_gc [0, 1, 2] rfl rfl rfl ?_)
  walk_at "n"
  rw [show ((rows.length : Nat) : Int) - 1 = ((rows.length - 1 : Nat) : Int) by omega]
  refine for_m (l := [og, 0, rows.length - 1]) (f := fun i => I (i : Nat)) rfl (fun i δ' η' => δ' = lawS cm ns ca an og r4 rows [none, none, none, none, some (.h 2), none, none, none, none] ∧ η' = [some (poolO a b c d), some (.lst (rows.map rowD)), some (tLs (rks rows ca an).1), some (.lst [.int og, .int 0, .int ((rows.length - 1 : Nat) : Int)])]) ⟨rfl, rfl⟩ (fun _ _ _ _ h => by rw [h.2]; rfl) ?_ ?_
  · rintro i s δ' η' hs ⟨rfl, rfl⟩
    have hs := List.mem_of_getElem? hs
    have hs : s < rows.length := by
      have hs : s = og ∨ s = 0 ∨ s = rows.length - 1 := by simpa using hs
      omega
    walk_at "w"
    walk_at "n"
    refine jCall_i [] rfl (started_j ⟨hpos, h16⟩ (re := 2) (by omega) hst hs hr ⟨_, _, rfl, ?_⟩)
    walk_at "v"
    refine jCall_i [4] rfl (cst_init ⟨by omega, by omega⟩ (fun _ => ⟨_, _, rfl, rfl, ?_⟩) fun v h => absurd ((wrong_none hca han).symm.trans h) fun z => by cases z)
    refine ⟨4, _, _, _, rfl, rfl, rfl, rfl, rfl, rfl, ?_⟩
    walk_at "v"
    walk_at "n"
    refine jCall_i [] rfl (settle_j ok hs ⟨_, _, rfl, ?_⟩)
    walk_at "v"
    walk_at "n"
    refine jCall_i [1] rfl (L_settled_j ok hs ⟨_, _, rfl, ?_⟩)
    walk_at "v"
    refine jCall_i [] rfl (same_j 4 (k + 6) 4 okD_setl okD_setl _ _ ⟨_, _, rfl, ?_⟩)
    rw [sameD_ok okD_setl]
    walk_at "v"
    refine bk_end ?_
    have tail : ∀ (P : SH), P (lawS cm ns ca an og r4 rows [none, none, none, none, some (.h 2), none, none, none, none]) [some (poolO a b c d), some (.lst (rows.map rowD)), some (tLs (rks rows ca an).1), some (.lst [.int og, .int 0, .int ((rows.length - 1 : Nat) : Int)])] → Bk (wB ((((jAt cm tab (k + 11)).at 0)).at 4) (GcX 0 E) (.cons (.ife (.not (.val (.fn i_L_same (.cons (.fn i_ranks (.cons (.nm 16) (.nil))) (.cons (.frz (.callT .list (.cons (.nm 14) (.nil)))) (.nil)))))) b_law_11 .nil) .nil) (lawS cm ns ca an og r4 rows [none, some (I s), none, none, some (.h 2), none, some (.d (cstD cm ca an s rows)), none, none]) [some (poolO a b c d), some (.lst (rows.map rowD)), some (tLs (rks rows ca an).1), some (.lst [.int og, .int 0, .int ((rows.length - 1 : Nat) : Int)])] P (GcR 0 Q) P P) := by
      intro P hP
      walk_at "n"
      refine jCall_i [] rfl (ranks_j ok ⟨_, _, rfl, ?_⟩)
      walk_at "v"
      rw [mkL_map]
      refine ⟨5, _, _, _, rfl, rfl, rfl, rfl, rfl, rfl, ?_⟩
      walk_at "v"
      refine jCall_i [4] rfl (same_h 1 (k + 9) 1 okD_tLs okD_tLs _ _ ⟨_, _, rfl, ?_⟩)
      rw [sameD_ok (okD_tLs (n := 0))]
      walk_at "v"
      exact bk_end (b_fgt [11, 16] (b_gc [0, 1, 2, 3] rfl rfl rfl (bk_end hP)))
    cases h : ((rks rows ca an).1.getD s none).isNone with
    | true =>
      have e : setlD rows ca an s = .tup [.str "kept", .tup ((freeS (rks rows ca an).1 rows.length).map (keptR rows ca an (rks rows ca an).1))] := by
        unfold setlD
        rw [if_pos h]
      obtain ⟨f, hf1, hf2⟩ := kept_form ok
      rw [e, hf1]
      walk_at "n"
      walk_at "n"
      refine jCall_i [] rfl (shows_kept_j ok hs (Option.isNone_iff_eq_none.mp h) hf2 ⟨_, _, rfl, ?_⟩)
      walk_at "v"
      refine jCall_i [] rfl (same_j 0 (k + 10) 0 (okD_bl (b := true)) (okD_bl (b := true)) _ _ ⟨_, _, rfl, ?_⟩)
      rw [sameD_ok (okD_bl (n := 0))]
      walk_at "v"
      refine bk_end ?_
      walk_at "n"
      refine bk_end ?_
      refine b_fgt [17, 18] ?_
      exact tail _ ⟨rfl, rfl⟩
    | false =>
      have e : setlD rows ca an s = .tup [.str "lost", .tup ((rankS (rks rows ca an).1 rows.length).map (lostR (rks rows ca an).1 (rks rows ca an).2))] := by
        unfold setlD
        rw [if_neg (by rw [h]; decide)]
      obtain ⟨cs, v, hf1, hf2⟩ := lost_form ok
      rw [e, hf1]
      walk_at "n"
      walk_at "n"
      refine bk_end ?_
      walk_at "n"
      refine jCall_i [] rfl (shows_lost_j ok hs (by cases hx : (rks rows ca an).1.getD s none <;> rw [hx] at h <;> simp_all) hf2 ⟨_, _, rfl, ?_⟩)
      walk_at "v"
      refine jCall_i [] rfl (same_j 0 (k + 10) 0 (okD_bl (b := true)) (okD_bl (b := true)) _ _ ⟨_, _, rfl, ?_⟩)
      rw [sameD_ok (okD_bl (n := 0))]
      walk_at "v"
      refine bk_end ?_
      refine b_fgt [17, 18] ?_
      exact tail _ ⟨rfl, rfl⟩
  rintro _ _ ⟨rfl, rfl⟩
  refine b_fgt [6, 14] (b_gc [0] rfl rfl rfl ?_)
  walk_at "n"
  refine for_r 3 rfl (fun i δ' η' => ∃ (a b c d : Int) (v10 : Option A), δ' = [some (.d (.lst (dI ns))), some (.h 0), some (I ca), some (I an), some (I rows.length), some (I r4), none, some (I og), some (.d (ctlD cm ((ca * an : Nat) : Int) 2 og rows)), some (.d (cstD cm ca an og rows)), v10, none, none, none, none, none, none, none, none] ∧ η' = [some (poolO a b c d)]) ⟨a, b, c, d, _, rfl, rfl⟩ ?_ ?_
  · rintro i δ' η' hi ⟨a, b, c, d, v10, rfl, rfl⟩
    walk_at "w"
    walk_at "n"
    refine jCall_i [0] rfl (L_refusals_j ok h16 fun a b c d => ⟨_, _, rfl, ?_⟩)
    walk_at "v"
    exact bk_end (bk_end ⟨a, b, c, d, _, rfl, rfl⟩)
  rintro _ _ ⟨a, b, c, d, v10, rfl, rfl⟩
  walk_at "n"
  exact ⟨[], _, _, rfl, rfl, rfl, rfl, q⟩
end Y
set_option Elab.async false
set_option linter.all false
set_option maxRecDepth 100000
set_option maxHeartbeats 4000000
set_option autoImplicit false
namespace Y
open PySem PySem.Spec PyProof.Rows L2
def top (i : Nat) : Stmt := PySem.Challenge.pw_gatesofcloth_k95_whole_contests_settled.main.body.getD i (.Pass ⟨0, 0, 0, 0⟩)
def cbody (i k : Nat) : Stmt := match top i with
  | .ClassDef _ _ _ b _ _ _ _ _ _ _ => b.getD k (.Pass ⟨0, 0, 0, 0⟩)
  | s => s
def T0 : Tb := { fns := [("_forces", i_forces), ("_forcing_call", i_forcing_call), ("_forced_calls", i_forced_calls), ("ranked_calls", i_ranked_calls), ("_safe_answer", i_safe_answer), ("_has_right_states", i_has_right_states), ("_are_answers", i_are_answers), ("_keeps", i_keeps), ("_forces_down", i_forces_down), ("_is_entry", i_is_entry), ("_law_same", i_L_same), ("_law_draw", i_L_draw), ("_law_pool", i_L_pool), ("_law_ranks", i_L_ranks), ("_law_forced", i_L_forced), ("_law_asked", i_L_asked), ("_law_contest_rows", i_L_contest_rows), ("ranks", i_ranks), ("_law_ranks_right", i_L_ranks_right), ("settle", i_settle), ("_law_settled", i_L_settled), ("shows_kept", i_shows_kept), ("shows_lost", i_shows_lost), ("_law_refusals", i_L_refusals), ("law", i_law)], mts := [(32, "entry", 2, i_Control_entry), (33, "outcome", 3, i_Contest_outcome), (33, "outcomes", 2, i_Contest_outcomes), (32, "started", 1, i_Control_started)], mks := [("Control", 32, 3, ["start"], i_Control___init, [.inl 0]), ("Contest", 33, 3, [], i_Contest___init, []), ("Control", 32, 3, [], i_Control___init, [.inr (.int 0)])], cls := [("Control", 32), ("FabricError", 0), ("SizeError", 1), ("ControlError", 15), ("FeedError", 16), ("ExchangeError", 17), ("BitsError", 2), ("MachineError", 3), ("ProgramError", 4), ("CircuitError", 5), ("NetlistError", 6), ("FanoutError", 7), ("ColouringError", 8), ("EdgeError", 9), ("PathError", 10), ("TapeError", 11), ("StoreError", 12), ("HistoryError", 13), ("CommandError", 14)], exs := [("SizeError", 1, "size"), ("ControlError", 15, "state")], flds := [(32, "cues"), (32, "replies"), (33, "calls"), (33, "answers"), (33, "control"), (32, "states"), (32, "start"), (32, "rows")], cons := [(32, "MOST_CUES", (.int 16)), (32, "MOST_REPLIES", (.int 256)), (32, "MOST_STATES", (.int 64))], exf := ["size", "state", "index"], glb := [("MOST_CALLS", (.int 16)), ("MOST_ANSWERS", (.int 16)), ("LOST", (.int 1)), ("KEPT_WORD", (.str "kept")), ("LOST_WORD", (.str "lost"))], blt := ["range", "len", "enumerate", "tuple", "all", "isinstance", "abs", "int", "bool", "str", "dict", "list", "max", "ValueError", "min"] }
abbrev s_Contest___init : Stmt := cbody 24 0
theorem sc_Contest___init : ScA ["self", "calls", "answers", "control"] ["self", "calls", "answers", "control"] ["self", "calls", "answers", "control"] ["MOST_CALLS", "SizeError", "MOST_ANSWERS"] s_Contest___init :=
  ⟨⟨rfl, rfl, rfl, by decide +kernel, rfl, by decide +kernel, by decide +kernel⟩, by decide +kernel, by decide +kernel, by decide +kernel⟩
theorem d_Contest___init {P : Program} {w : World} {K : PySem.W.Frag} {mg : Str → Option Value} {base : Heap} {f : Addr} : Der P w K mg base T0 ["self", "calls", "answers", "control"] ["self", "calls", "answers", "control"] ["MOST_CALLS", "SizeError", "MOST_ANSWERS"] s_Contest___init "Contest.__init__" f j_Contest___init := fun J _ cdv A₀ outer s H E _ _ =>
  b_cons (s_if (c_not (c_chn (e_int) (e_nm rfl) (e_glb 0 rfl) rfl)) (b_cons (s_raise 0 rfl (e_nm rfl) rfl rfl) (b_nil)) (b_nil)) (b_cons (s_if (c_not (c_chn (e_int) (e_nm rfl) (e_glb 1 rfl) rfl)) (b_cons (s_raise 0 rfl (e_nm rfl) rfl rfl) (b_nil)) (b_nil)) (b_cons (s_if (c_cmp (e_fld 0 rfl (e_nm rfl) rfl) (e_bin (e_nm rfl) (e_nm rfl)) rfl) (b_cons (s_raise 0 rfl (e_fld 0 rfl (e_nm rfl) rfl) rfl rfl) (b_nil)) (b_nil)) (b_cons (s_if (c_cmp (e_fld 1 rfl (e_nm rfl) rfl) (e_int) rfl) (b_cons (s_raise 0 rfl (e_fld 1 rfl (e_nm rfl) rfl) rfl rfl) (b_nil)) (b_nil)) (b_cons (s_fld 2 rfl (e_nm rfl) (e_nm rfl) rfl) (b_cons (s_fld 3 rfl (e_nm rfl) (e_nm rfl) rfl) (b_cons (s_fld 4 rfl (e_nm rfl) (e_nm rfl) rfl) (b_nil)))))))
abbrev s_Contest_outcome : Stmt := cbody 24 1
theorem sc_Contest_outcome : ScA ["self", "state", "call", "answer"] ["self", "state", "call", "answer"] ["self", "state", "call", "answer"] [] s_Contest_outcome :=
  ⟨⟨rfl, rfl, rfl, by decide +kernel, rfl, by decide +kernel, by decide +kernel⟩, by decide +kernel, by decide +kernel, by decide +kernel⟩
theorem d_Contest_outcome {P : Program} {w : World} {K : PySem.W.Frag} {mg : Str → Option Value} {base : Heap} {f : Addr} : Der P w K mg base T0 ["self", "state", "call", "answer"] ["self", "state", "call", "answer"] [] s_Contest_outcome "Contest.outcome" f j_Contest_outcome := fun J _ cdv A₀ outer s H E _ _ =>
  b_cons (s_ret (e_own 0 rfl rfl (e_fld 4 rfl (e_nm rfl) rfl) (l_cons (e_nm rfl) (l_cons (e_bin (e_bin (e_nm rfl) (e_fld 3 rfl (e_nm rfl) rfl)) (e_nm rfl)) (l_nil) rfl) rfl) rfl rfl rfl)) (b_nil)
abbrev s_Contest_outcomes : Stmt := cbody 24 2
theorem sc_Contest_outcomes : ScA ["self", "state", "call", "answer"] ["self", "state", "call"] ["self", "state", "call"] ["range"] s_Contest_outcomes :=
  ⟨⟨rfl, rfl, rfl, by decide +kernel, rfl, by decide +kernel, by decide +kernel⟩, by decide +kernel, by decide +kernel, by decide +kernel⟩
theorem d_Contest_outcomes {P : Program} {w : World} {K : PySem.W.Frag} {mg : Str → Option Value} {base : Heap} {f : Addr} : Der P w K mg base T0 ["self", "state", "call", "answer"] ["self", "state", "call"] ["range"] s_Contest_outcomes "Contest.outcomes" f j_Contest_outcomes := fun J _ cdv A₀ outer s H E _ _ =>
  b_cons (s_ret (e_lc (own := [("answer", 3)]) (U' := ["answer", "state", "call", "self"]) (S' := ["answer"]) (G' := []) (sc := defScope s_Contest_outcomes) rfl ⟨by decide +kernel, by decide +kernel, by decide +kernel, by decide +kernel, by decide +kernel⟩ (i_rng1 0 rfl (e_fld 3 rfl (e_nm rfl) rfl) rfl rfl) (fun Y _ _ _ _ => tw_nm rfl (by decide)) (fun Y _ _ _ _ => oo_none) (fun Y _ _ _ _ => e_own 1 rfl rfl (e_nm rfl) (l_cons (e_nm rfl) (l_cons (e_nm rfl) (l_cons (e_nm rfl) (l_nil) rfl) rfl) rfl) rfl rfl rfl) (fun _ => rfl))) (b_nil)
abbrev s_forces : Stmt := top 28
theorem sc_forces : ScA ["contest", "state", "call", "found", "following", "reply"] ["contest", "state", "call", "found"] ["contest", "state", "call", "found", "following", "reply"] ["LOST"] s_forces :=
  ⟨⟨rfl, rfl, rfl, by decide +kernel, rfl, by decide +kernel, by decide +kernel⟩, by decide +kernel, by decide +kernel, by decide +kernel⟩
theorem d_forces {P : Program} {w : World} {K : PySem.W.Frag} {mg : Str → Option Value} {base : Heap} {f : Addr} : Der P w K mg base T0 ["contest", "state", "call", "found", "following", "reply"] ["contest", "state", "call", "found", "following", "reply"] ["LOST"] s_forces "_forces" f j_forces := fun J _ cdv A₀ outer s H E _ _ =>
  b_cons (s_for (i_seq (e_own 2 rfl rfl (e_nm rfl) (l_cons (e_nm rfl) (l_cons (e_nm rfl) (l_nil) rfl) rfl) rfl rfl rfl)) (t_tup (ts_cons (t_nm rfl) (ts_cons (t_nm rfl) (ts_nil) rfl) rfl) rfl rfl rfl) (b_cons (s_if (c_of (v_and (c_cmp (e_nm rfl) (e_glb 2 rfl) rfl) (v_and1 (c_cmp (e_ix (e_nm rfl) (e_nm rfl) (fun _ _ => rfl)) (e_non) rfl)))) (b_cons (s_ret (e_bl)) (b_nil)) (b_nil)) (b_nil)) (fun _ => rfl)) (b_cons (s_ret (e_bl)) (b_nil))
abbrev s_forcing_call : Stmt := top 29
theorem sc_forcing_call : ScA ["contest", "state", "found", "call"] ["contest", "state", "found"] ["contest", "state", "found", "call"] ["range", "_forces"] s_forcing_call :=
  ⟨⟨rfl, rfl, rfl, by decide +kernel, rfl, by decide +kernel, by decide +kernel⟩, by decide +kernel, by decide +kernel, by decide +kernel⟩
theorem d_forcing_call {P : Program} {w : World} {K : PySem.W.Frag} {mg : Str → Option Value} {base : Heap} {f : Addr} : Der P w K mg base T0 ["contest", "state", "found", "call"] ["contest", "state", "found", "call"] ["range", "_forces"] s_forcing_call "_forcing_call" f j_forcing_call := fun J _ cdv A₀ outer s H E _ _ =>
  b_cons (s_for (i_rng1 0 rfl (e_fld 2 rfl (e_nm rfl) rfl) rfl rfl) (t_nm rfl) (b_cons (s_if (c_val (e_fn 0 rfl (l_cons (e_nm rfl) (l_cons (e_nm rfl) (l_cons (e_nm rfl) (l_cons (e_nm rfl) (l_nil) rfl) rfl) rfl) rfl) rfl rfl) (fun _ => rfl)) (b_cons (s_ret (e_nm rfl)) (b_nil)) (b_nil)) (b_nil)) (fun _ => rfl)) (b_cons (s_ret (e_non)) (b_nil))
abbrev s_forced_calls : Stmt := top 30
theorem sc_forced_calls : ScA ["contest", "found", "forced", "state", "call"] ["contest", "found"] ["contest", "found", "forced", "state", "call"] ["range", "_forcing_call"] s_forced_calls :=
  ⟨⟨rfl, rfl, rfl, by decide +kernel, rfl, by decide +kernel, by decide +kernel⟩, by decide +kernel, by decide +kernel, by decide +kernel⟩
theorem d_forced_calls {P : Program} {w : World} {K : PySem.W.Frag} {mg : Str → Option Value} {base : Heap} {f : Addr} : Der P w K mg base T0 ["contest", "found", "forced", "state", "call"] ["contest", "found", "forced", "state", "call"] ["range", "_forcing_call"] s_forced_calls "_forced_calls" f j_forced_calls := fun J _ cdv A₀ outer s H E _ _ =>
  b_cons (s_set rfl (e_dnew) rfl) (b_cons (s_for (i_rng1 0 rfl (e_fld 5 rfl (e_fld 4 rfl (e_nm rfl) rfl) rfl) rfl rfl) (t_nm rfl) (b_cons (s_if (c_cmp (e_ix (e_nm rfl) (e_nm rfl) (fun _ _ => rfl)) (e_non) rfl) (b_cons (s_set rfl (e_fn 1 rfl (l_cons (e_nm rfl) (l_cons (e_nm rfl) (l_cons (e_nm rfl) (l_nil) rfl) rfl) rfl) rfl rfl) rfl) (b_cons (s_if (c_cmp (e_nm rfl) (e_non) rfl) (b_cons (s_ixS (e_nm rfl) (e_nm rfl) (e_nm rfl) rfl rfl rfl (fun _ => rfl)) (b_nil)) (b_nil)) (b_nil))) (b_nil)) (b_nil)) (fun _ => rfl)) (b_cons (s_ret (e_nm rfl)) (b_nil)))
abbrev s_ranked_calls : Stmt := top 31
theorem sc_ranked_calls : ScA ["contest", "found", "calls", "rank", "forced", "state", "call"] ["contest"] ["contest", "found", "calls", "rank", "forced", "state", "call"] ["_forced_calls", "len"] s_ranked_calls :=
  ⟨⟨rfl, rfl, rfl, by decide +kernel, rfl, by decide +kernel, by decide +kernel⟩, by decide +kernel, by decide +kernel, by decide +kernel⟩
theorem d_ranked_calls {P : Program} {w : World} {K : PySem.W.Frag} {mg : Str → Option Value} {base : Heap} {f : Addr} : Der P w K mg base T0 ["contest", "found", "calls", "rank", "forced", "state", "call"] ["contest", "found", "calls", "rank", "forced", "state", "call"] ["_forced_calls", "len"] s_ranked_calls "ranked_calls" f j_ranked_calls := fun J _ cdv A₀ outer s H E _ _ =>
  b_cons (s_set rfl (e_bin (e_lst (l_cons (e_non) (l_nil) rfl)) (e_fld 5 rfl (e_fld 4 rfl (e_nm rfl) rfl) rfl)) rfl) (b_cons (s_set rfl (e_bin (e_lst (l_cons (e_non) (l_nil) rfl)) (e_fld 5 rfl (e_fld 4 rfl (e_nm rfl) rfl) rfl)) rfl) (b_cons (s_set rfl (e_int) rfl) (b_cons (s_set rfl (e_fn 2 rfl (l_cons (e_nm rfl) (l_cons (e_nm rfl) (l_nil) rfl) rfl) rfl rfl) rfl) (b_cons (s_while (c_cmp (e_callB 1 rfl (l_cons (e_nm rfl) (l_nil) rfl) rfl rfl) (e_int) rfl) (b_cons (s_forL (i_items (e_nm rfl) rfl rfl) (t_tup (ts_cons (t_nm rfl) (ts_cons (t_nm rfl) (ts_nil) rfl) rfl) rfl rfl rfl) (b_cons (s_ixS (e_nm rfl) (e_nm rfl) (e_nm rfl) rfl rfl rfl (fun _ => rfl)) (b_cons (s_ixS (e_nm rfl) (e_nm rfl) (e_nm rfl) rfl rfl rfl (fun _ => rfl)) (b_nil))) (fun _ => rfl)) (b_cons (s_set rfl (e_bin (e_nm rfl) (e_int)) rfl) (b_cons (s_set rfl (e_fn 2 rfl (l_cons (e_nm rfl) (l_cons (e_nm rfl) (l_nil) rfl) rfl) rfl rfl) rfl) (b_nil))))) (b_cons (s_ret (e_tup (l_cons (e_nm rfl) (l_cons (e_nm rfl) (l_nil) rfl) rfl))) (b_nil))))))
abbrev s_ranks : Stmt := top 32
theorem sc_ranks : ScA ["contest"] ["contest"] ["contest"] ["ranked_calls"] s_ranks :=
  ⟨⟨rfl, rfl, rfl, by decide +kernel, rfl, by decide +kernel, by decide +kernel⟩, by decide +kernel, by decide +kernel, by decide +kernel⟩
theorem d_ranks {P : Program} {w : World} {K : PySem.W.Frag} {mg : Str → Option Value} {base : Heap} {f : Addr} : Der P w K mg base T0 ["contest"] ["contest"] ["ranked_calls"] s_ranks "ranks" f j_ranks := fun J _ cdv A₀ outer s H E _ _ =>
  b_cons (s_ret (e_ix (e_fn 3 rfl (l_cons (e_nm rfl) (l_nil) rfl) rfl rfl) (e_int) (fun _ _ => rfl))) (b_nil)
abbrev s_safe_answer : Stmt := top 33
theorem sc_safe_answer : ScA ["contest", "state", "call", "found", "answer", "following", "reply"] ["contest", "state", "call", "found"] ["contest", "state", "call", "found", "answer", "following", "reply"] ["enumerate", "LOST"] s_safe_answer :=
  ⟨⟨rfl, rfl, rfl, by decide +kernel, rfl, by decide +kernel, by decide +kernel⟩, by decide +kernel, by decide +kernel, by decide +kernel⟩
theorem d_safe_answer {P : Program} {w : World} {K : PySem.W.Frag} {mg : Str → Option Value} {base : Heap} {f : Addr} : Der P w K mg base T0 ["contest", "state", "call", "found", "answer", "following", "reply"] ["contest", "state", "call", "found", "answer", "following", "reply"] ["enumerate", "LOST"] s_safe_answer "_safe_answer" f j_safe_answer := fun J _ cdv A₀ outer s H E _ _ =>
  b_cons (s_for (i_en 2 rfl (e_own 2 rfl rfl (e_nm rfl) (l_cons (e_nm rfl) (l_cons (e_nm rfl) (l_nil) rfl) rfl) rfl rfl rfl) rfl) (t_tup (ts_cons (t_nm rfl) (ts_cons (t_tup (ts_cons (t_nm rfl) (ts_cons (t_nm rfl) (ts_nil) rfl) rfl) rfl rfl rfl) (ts_nil) rfl) rfl) rfl rfl rfl) (b_cons (s_if (c_of (v_and (c_cmp (e_nm rfl) (e_glb 2 rfl) rfl) (v_and1 (c_cmp (e_ix (e_nm rfl) (e_nm rfl) (fun _ _ => rfl)) (e_non) rfl)))) (b_cons (s_ret (e_nm rfl)) (b_nil)) (b_nil)) (b_nil)) (fun _ => rfl)) (b_cons (s_ret (e_non)) (b_nil))
abbrev s_settle : Stmt := top 34
theorem sc_settle : ScA ["contest", "found", "calls", "table", "state", "rank", "answers", "call"] ["contest"] ["contest", "found", "calls", "table", "state", "rank", "answers"] ["ranked_calls", "enumerate", "range", "tuple", "KEPT_WORD", "LOST_WORD"] s_settle :=
  ⟨⟨rfl, rfl, rfl, by decide +kernel, rfl, by decide +kernel, by decide +kernel⟩, by decide +kernel, by decide +kernel, by decide +kernel⟩
theorem d_settle {P : Program} {w : World} {K : PySem.W.Frag} {mg : Str → Option Value} {base : Heap} {f : Addr} : Der P w K mg base T0 ["contest", "found", "calls", "table", "state", "rank", "answers", "call"] ["contest", "found", "calls", "table", "state", "rank", "answers"] ["ranked_calls", "enumerate", "range", "tuple", "KEPT_WORD", "LOST_WORD"] s_settle "settle" f j_settle := fun J _ cdv A₀ outer s H E _ _ =>
  b_cons (s_asg (e_fn 3 rfl (l_cons (e_nm rfl) (l_nil) rfl) rfl rfl) (t_tup (ts_cons (t_nm rfl) (ts_cons (t_nm rfl) (ts_nil) rfl) rfl) rfl rfl rfl) rfl rfl rfl) (b_cons (s_set rfl (e_lst (l_nil)) rfl) (b_cons (s_if (c_cmp (e_ix (e_nm rfl) (e_fld 6 rfl (e_fld 4 rfl (e_nm rfl) rfl) rfl) (fun _ _ => rfl)) (e_non) rfl) (b_cons (s_for (i_en 2 rfl (e_nm rfl) rfl) (t_tup (ts_cons (t_nm rfl) (ts_cons (t_nm rfl) (ts_nil) rfl) rfl) rfl rfl rfl) (b_cons (s_if (c_cmp (e_nm rfl) (e_non) rfl) (b_cons (s_setLc rfl (own := [("call", 7)]) (U' := ["call", "contest", "state", "found"]) (S' := ["call"]) (G' := ["_safe_answer"]) (sc := defScope s_settle) rfl ⟨by decide +kernel, by decide +kernel, by decide +kernel, by decide +kernel, by decide +kernel⟩ (i_rng1 0 rfl (e_fld 2 rfl (e_nm rfl) rfl) rfl rfl) (fun Y _ _ _ _ => tw_nm rfl (by decide)) (fun Y _ _ _ _ => oo_none) (fun Y _ _ _ _ => e_fn 4 rfl (l_cons (e_nm rfl) (l_cons (e_nm rfl) (l_cons (e_nm rfl) (l_cons (e_nm rfl) (l_nil) rfl) rfl) rfl) rfl) rfl rfl) (fun _ => rfl) rfl rfl) (b_cons (s_ex (e_mth rfl (e_nm rfl) (l_cons (e_tup (l_cons (e_nm rfl) (l_cons (e_callT 3 rfl (l_cons (e_nm rfl) (l_nil) rfl) rfl rfl) (l_nil) rfl) rfl)) (l_nil) rfl) rfl rfl rfl rfl rfl) rfl) (b_nil))) (b_nil)) (b_nil)) (fun _ => rfl)) (b_cons (s_ret (e_tup (l_cons (e_glb 3 rfl) (l_cons (e_callT 3 rfl (l_cons (e_nm rfl) (l_nil) rfl) rfl rfl) (l_nil) rfl) rfl))) (b_nil))) (b_nil)) (b_cons (s_for (i_en 2 rfl (e_nm rfl) rfl) (t_tup (ts_cons (t_nm rfl) (ts_cons (t_nm rfl) (ts_nil) rfl) rfl) rfl rfl rfl) (b_cons (s_if (c_cmp (e_nm rfl) (e_non) rfl) (b_cons (s_ex (e_mth rfl (e_nm rfl) (l_cons (e_tup (l_cons (e_nm rfl) (l_cons (e_ix (e_nm rfl) (e_nm rfl) (fun _ _ => rfl)) (l_cons (e_nm rfl) (l_nil) rfl) rfl) rfl)) (l_nil) rfl) rfl rfl rfl rfl rfl) rfl) (b_nil)) (b_nil)) (b_nil)) (fun _ => rfl)) (b_cons (s_ret (e_tup (l_cons (e_glb 4 rfl) (l_cons (e_callT 3 rfl (l_cons (e_nm rfl) (l_nil) rfl) rfl rfl) (l_nil) rfl) rfl))) (b_nil)))))
abbrev s_has_right_states : Stmt := top 36
theorem sc_has_right_states : ScA ["contest", "states", "known", "state"] ["contest", "states"] ["contest", "states", "known"] ["len", "all"] s_has_right_states :=
  ⟨⟨rfl, rfl, rfl, by decide +kernel, rfl, by decide +kernel, by decide +kernel⟩, by decide +kernel, by decide +kernel, by decide +kernel⟩
theorem d_has_right_states {P : Program} {w : World} {K : PySem.W.Frag} {mg : Str → Option Value} {base : Heap} {f : Addr} : Der P w K mg base T0 ["contest", "states", "known", "state"] ["contest", "states", "known"] ["len", "all"] s_has_right_states "_has_right_states" f j_has_right_states := fun J _ cdv A₀ outer s H E _ _ =>
  b_cons (s_setDc rfl (own := [("state", 3)]) (U' := ["state"]) (S' := ["state"]) (G' := []) (sc := defScope s_has_right_states) rfl ⟨by decide +kernel, by decide +kernel, by decide +kernel, by decide +kernel, by decide +kernel⟩ (i_seq (e_nm rfl)) (fun Y _ _ _ _ => tw_nm rfl (by decide)) (fun Y _ _ _ _ => oo_none) (fun Y _ _ _ _ => e_nm rfl) (fun Y _ _ _ _ => e_bl) (fun _ => rfl) rfl rfl) (b_cons (s_if (c_of (v_or (c_cmp (e_callB 1 rfl (l_cons (e_nm rfl) (l_nil) rfl) rfl rfl) (e_callB 1 rfl (l_cons (e_nm rfl) (l_nil) rfl) rfl rfl) rfl) (v_or1 (c_cmp (e_fld 6 rfl (e_fld 4 rfl (e_nm rfl) rfl) rfl) (e_nm rfl) rfl)))) (b_cons (s_ret (e_bl)) (b_nil)) (b_nil)) (b_cons (s_ret (e_callB 4 rfl (l_cons (e_lc (own := [("state", 3)]) (U' := ["state", "contest"]) (S' := ["state"]) (G' := []) (sc := defScope s_has_right_states) rfl ⟨by decide +kernel, by decide +kernel, by decide +kernel, by decide +kernel, by decide +kernel⟩ (i_seq (e_nm rfl)) (fun Y _ _ _ _ => tw_nm rfl (by decide)) (fun Y _ _ _ _ => oo_none) (fun Y _ _ _ _ => e_chn (e_int) (e_nm rfl) (e_fld 5 rfl (e_fld 4 rfl (e_nm rfl) rfl) rfl) rfl) (fun _ => rfl)) (l_nil) rfl) rfl rfl)) (b_nil)))
abbrev s_are_answers : Stmt := top 37
theorem sc_are_answers : ScA ["contest", "answers", "answer"] ["contest", "answers"] ["contest", "answers"] ["len", "all"] s_are_answers :=
  ⟨⟨rfl, rfl, rfl, by decide +kernel, rfl, by decide +kernel, by decide +kernel⟩, by decide +kernel, by decide +kernel, by decide +kernel⟩
theorem d_are_answers {P : Program} {w : World} {K : PySem.W.Frag} {mg : Str → Option Value} {base : Heap} {f : Addr} : Der P w K mg base T0 ["contest", "answers", "answer"] ["contest", "answers"] ["len", "all"] s_are_answers "_are_answers" f j_are_answers := fun J _ cdv A₀ outer s H E _ _ =>
  b_cons (s_if (c_cmp (e_callB 1 rfl (l_cons (e_nm rfl) (l_nil) rfl) rfl rfl) (e_fld 2 rfl (e_nm rfl) rfl) rfl) (b_cons (s_ret (e_bl)) (b_nil)) (b_nil)) (b_cons (s_ret (e_callB 4 rfl (l_cons (e_lc (own := [("answer", 2)]) (U' := ["answer", "contest"]) (S' := ["answer"]) (G' := []) (sc := defScope s_are_answers) rfl ⟨by decide +kernel, by decide +kernel, by decide +kernel, by decide +kernel, by decide +kernel⟩ (i_seq (e_nm rfl)) (fun Y _ _ _ _ => tw_nm rfl (by decide)) (fun Y _ _ _ _ => oo_none) (fun Y _ _ _ _ => e_chn (e_int) (e_nm rfl) (e_fld 3 rfl (e_nm rfl) rfl) rfl) (fun _ => rfl)) (l_nil) rfl) rfl rfl)) (b_nil))
abbrev s_keeps : Stmt := top 38
theorem sc_keeps : ScA ["contest", "state", "answers", "known", "call", "answer", "following", "reply"] ["contest", "state", "answers", "known"] ["contest", "state", "answers", "known", "call", "answer", "following", "reply"] ["enumerate", "LOST"] s_keeps :=
  ⟨⟨rfl, rfl, rfl, by decide +kernel, rfl, by decide +kernel, by decide +kernel⟩, by decide +kernel, by decide +kernel, by decide +kernel⟩
theorem d_keeps {P : Program} {w : World} {K : PySem.W.Frag} {mg : Str → Option Value} {base : Heap} {f : Addr} : Der P w K mg base T0 ["contest", "state", "answers", "known", "call", "answer", "following", "reply"] ["contest", "state", "answers", "known", "call", "answer", "following", "reply"] ["enumerate", "LOST"] s_keeps "_keeps" f j_keeps := fun J _ cdv A₀ outer s H E _ _ =>
  b_cons (s_for (i_en 2 rfl (e_nm rfl) rfl) (t_tup (ts_cons (t_nm rfl) (ts_cons (t_nm rfl) (ts_nil) rfl) rfl) rfl rfl rfl) (b_cons (s_asg (e_own 1 rfl rfl (e_nm rfl) (l_cons (e_nm rfl) (l_cons (e_nm rfl) (l_cons (e_nm rfl) (l_nil) rfl) rfl) rfl) rfl rfl rfl) (t_tup (ts_cons (t_nm rfl) (ts_cons (t_nm rfl) (ts_nil) rfl) rfl) rfl rfl rfl) rfl rfl rfl) (b_cons (s_if (c_of (v_or (c_cmp (e_nm rfl) (e_glb 2 rfl) rfl) (v_or1 (c_cmp (e_nm rfl) (e_nm rfl) rfl)))) (b_cons (s_ret (e_bl)) (b_nil)) (b_nil)) (b_nil))) (fun _ => rfl)) (b_cons (s_ret (e_bl)) (b_nil))
abbrev s_shows_kept : Stmt := top 39
theorem sc_shows_kept : ScA ["contest", "table", "states", "known", "state", "answers", "_"] ["contest", "table"] ["contest", "table", "states", "known", "state", "answers"] ["_has_right_states", "_are_answers", "_keeps"] s_shows_kept :=
  ⟨⟨rfl, rfl, rfl, by decide +kernel, rfl, by decide +kernel, by decide +kernel⟩, by decide +kernel, by decide +kernel, by decide +kernel⟩
theorem d_shows_kept {P : Program} {w : World} {K : PySem.W.Frag} {mg : Str → Option Value} {base : Heap} {f : Addr} : Der P w K mg base T0 ["contest", "table", "states", "known", "state", "answers", "_"] ["contest", "table", "states", "known", "state", "answers"] ["_has_right_states", "_are_answers", "_keeps"] s_shows_kept "shows_kept" f j_shows_kept := fun J _ cdv A₀ outer s H E _ _ =>
  b_cons (s_setLc rfl (own := [("state", 4), ("_", 6)]) (U' := ["state", "_"]) (S' := ["state", "_"]) (G' := []) (sc := defScope s_shows_kept) rfl ⟨by decide +kernel, by decide +kernel, by decide +kernel, by decide +kernel, by decide +kernel⟩ (i_seq (e_nm rfl)) (fun Y _ _ _ _ => tw_tup (tsw_cons (tw_nm rfl (by decide)) (tsw_cons (tw_nm rfl (by decide)) (tsw_nil) rfl) rfl) rfl rfl rfl) (fun Y _ _ _ _ => oo_none) (fun Y _ _ _ _ => e_nm rfl) (fun _ => rfl) rfl rfl) (b_cons (s_if (c_not (c_val (e_fn 5 rfl (l_cons (e_nm rfl) (l_cons (e_nm rfl) (l_nil) rfl) rfl) rfl rfl) (fun _ => rfl))) (b_cons (s_ret (e_bl)) (b_nil)) (b_nil)) (b_cons (s_setDc rfl (own := [("state", 4)]) (U' := ["state"]) (S' := ["state"]) (G' := []) (sc := defScope s_shows_kept) rfl ⟨by decide +kernel, by decide +kernel, by decide +kernel, by decide +kernel, by decide +kernel⟩ (i_seq (e_nm rfl)) (fun Y _ _ _ _ => tw_nm rfl (by decide)) (fun Y _ _ _ _ => oo_none) (fun Y _ _ _ _ => e_nm rfl) (fun Y _ _ _ _ => e_bl) (fun _ => rfl) rfl rfl) (b_cons (s_for (i_seq (e_nm rfl)) (t_tup (ts_cons (t_nm rfl) (ts_cons (t_nm rfl) (ts_nil) rfl) rfl) rfl rfl rfl) (b_cons (s_if (c_of (v_or (c_not (c_val (e_fn 6 rfl (l_cons (e_nm rfl) (l_cons (e_nm rfl) (l_nil) rfl) rfl) rfl rfl) (fun _ => rfl))) (v_or1 (c_not (c_val (e_fn 7 rfl (l_cons (e_nm rfl) (l_cons (e_nm rfl) (l_cons (e_nm rfl) (l_cons (e_nm rfl) (l_nil) rfl) rfl) rfl) rfl) rfl rfl) (fun _ => rfl)))))) (b_cons (s_ret (e_bl)) (b_nil)) (b_nil)) (b_nil)) (fun _ => rfl)) (b_cons (s_ret (e_bl)) (b_nil)))))
abbrev s_forces_down : Stmt := top 40
theorem sc_forces_down : ScA ["contest", "row", "rank_of", "state", "call", "rank", "following", "reply"] ["contest", "row", "rank_of"] ["contest", "row", "rank_of", "state", "call", "rank", "following", "reply"] ["LOST"] s_forces_down :=
  ⟨⟨rfl, rfl, rfl, by decide +kernel, rfl, by decide +kernel, by decide +kernel⟩, by decide +kernel, by decide +kernel, by decide +kernel⟩
theorem d_forces_down {P : Program} {w : World} {K : PySem.W.Frag} {mg : Str → Option Value} {base : Heap} {f : Addr} : Der P w K mg base T0 ["contest", "row", "rank_of", "state", "call", "rank", "following", "reply"] ["contest", "row", "rank_of", "state", "call", "rank", "following", "reply"] ["LOST"] s_forces_down "_forces_down" f j_forces_down := fun J _ cdv A₀ outer s H E _ _ =>
  b_cons (s_asg (e_nm rfl) (t_tup (ts_cons (t_nm rfl) (ts_cons (t_nm rfl) (ts_cons (t_nm rfl) (ts_nil) rfl) rfl) rfl) rfl rfl rfl) rfl rfl rfl) (b_cons (s_for (i_seq (e_own 2 rfl rfl (e_nm rfl) (l_cons (e_nm rfl) (l_cons (e_nm rfl) (l_nil) rfl) rfl) rfl rfl rfl)) (t_tup (ts_cons (t_nm rfl) (ts_cons (t_nm rfl) (ts_nil) rfl) rfl) rfl rfl rfl) (b_cons (s_if (c_of (v_and (c_cmp (e_nm rfl) (e_glb 2 rfl) rfl) (v_and1 (c_of (v_or (c_cmp (e_nm rfl) (e_nm rfl) rfl) (v_or1 (c_cmp (e_ix (e_nm rfl) (e_nm rfl) (fun _ _ => rfl)) (e_nm rfl) rfl))))))) (b_cons (s_ret (e_bl)) (b_nil)) (b_nil)) (b_nil)) (fun _ => rfl)) (b_cons (s_ret (e_bl)) (b_nil)))
abbrev s_shows_lost : Stmt := top 41
theorem sc_shows_lost : ScA ["contest", "table", "rank_of", "row", "state", "_", "rank"] ["contest", "table"] ["contest", "table", "rank_of", "row"] ["_has_right_states", "_forces_down"] s_shows_lost :=
  ⟨⟨rfl, rfl, rfl, by decide +kernel, rfl, by decide +kernel, by decide +kernel⟩, by decide +kernel, by decide +kernel, by decide +kernel⟩
theorem d_shows_lost {P : Program} {w : World} {K : PySem.W.Frag} {mg : Str → Option Value} {base : Heap} {f : Addr} : Der P w K mg base T0 ["contest", "table", "rank_of", "row", "state", "_", "rank"] ["contest", "table", "rank_of", "row"] ["_has_right_states", "_forces_down"] s_shows_lost "shows_lost" f j_shows_lost := fun J _ cdv A₀ outer s H E _ _ =>
  b_cons (s_if (c_not (c_val (e_fn 5 rfl (l_cons (e_nm rfl) (l_cons (e_lc (own := [("state", 4), ("_", 5)]) (U' := ["state", "_"]) (S' := ["state", "_"]) (G' := []) (sc := defScope s_shows_lost) rfl ⟨by decide +kernel, by decide +kernel, by decide +kernel, by decide +kernel, by decide +kernel⟩ (i_seq (e_nm rfl)) (fun Y _ _ _ _ => tw_tup (tsw_cons (tw_nm rfl (by decide)) (tsw_cons (tw_nm rfl (by decide)) (tsw_cons (tw_nm rfl (by decide)) (tsw_nil) rfl) rfl) rfl) rfl rfl rfl) (fun Y _ _ _ _ => oo_none) (fun Y _ _ _ _ => e_nm rfl) (fun _ => rfl)) (l_nil) rfl) rfl) rfl rfl) (fun _ => rfl))) (b_cons (s_ret (e_bl)) (b_nil)) (b_nil)) (b_cons (s_setDc rfl (own := [("state", 4), ("_", 5), ("rank", 6)]) (U' := ["state", "_", "rank"]) (S' := ["state", "_", "rank"]) (G' := []) (sc := defScope s_shows_lost) rfl ⟨by decide +kernel, by decide +kernel, by decide +kernel, by decide +kernel, by decide +kernel⟩ (i_seq (e_nm rfl)) (fun Y _ _ _ _ => tw_tup (tsw_cons (tw_nm rfl (by decide)) (tsw_cons (tw_nm rfl (by decide)) (tsw_cons (tw_nm rfl (by decide)) (tsw_nil) rfl) rfl) rfl) rfl rfl rfl) (fun Y _ _ _ _ => oo_none) (fun Y _ _ _ _ => e_nm rfl) (fun Y _ _ _ _ => e_nm rfl) (fun _ => rfl) rfl rfl) (b_cons (s_for (i_seq (e_nm rfl)) (t_nm rfl) (b_cons (s_if (c_of (v_or (c_not (c_chn (e_int) (e_ix (e_nm rfl) (e_int) (fun _ _ => rfl)) (e_fld 2 rfl (e_nm rfl) rfl) rfl)) (v_or1 (c_cmp (e_ix (e_nm rfl) (e_int) (fun _ _ => rfl)) (e_int) rfl)))) (b_cons (s_ret (e_bl)) (b_nil)) (b_nil)) (b_cons (s_if (c_not (c_val (e_fn 8 rfl (l_cons (e_nm rfl) (l_cons (e_nm rfl) (l_cons (e_nm rfl) (l_nil) rfl) rfl) rfl) rfl rfl) (fun _ => rfl))) (b_cons (s_ret (e_bl)) (b_nil)) (b_nil)) (b_nil))) (fun _ => rfl)) (b_cons (s_ret (e_bl)) (b_nil))))
abbrev s_is_entry : Stmt := top 43
theorem sc_is_entry : ScA ["entry", "states", "replies", "following", "reply"] ["entry", "states", "replies"] ["entry", "states", "replies", "following", "reply"] [] s_is_entry :=
  ⟨⟨rfl, rfl, rfl, by decide +kernel, rfl, by decide +kernel, by decide +kernel⟩, by decide +kernel, by decide +kernel, by decide +kernel⟩
theorem d_is_entry {P : Program} {w : World} {K : PySem.W.Frag} {mg : Str → Option Value} {base : Heap} {f : Addr} : Der P w K mg base T0 ["entry", "states", "replies", "following", "reply"] ["entry", "states", "replies", "following", "reply"] [] s_is_entry "_is_entry" f j_is_entry := fun J _ cdv A₀ outer s H E _ _ =>
  b_cons (s_asg (e_nm rfl) (t_tup (ts_cons (t_nm rfl) (ts_cons (t_nm rfl) (ts_nil) rfl) rfl) rfl rfl rfl) rfl rfl rfl) (b_cons (s_ret (e_and (e_chn (e_int) (e_nm rfl) (e_nm rfl) rfl) (e_one (e_chn (e_int) (e_nm rfl) (e_nm rfl) rfl)))) (b_nil))
abbrev s_Control___init : Stmt := cbody 44 3
theorem sc_Control___init : ScA ["self", "cues", "replies", "rows", "start", "states", "state", "row", "entry"] ["self", "cues", "replies", "rows", "start"] ["self", "cues", "replies", "rows", "start", "states", "state", "row"] ["len", "ControlError", "tuple", "enumerate", "all"] s_Control___init :=
  ⟨⟨rfl, rfl, rfl, by decide +kernel, rfl, by decide +kernel, by decide +kernel⟩, by decide +kernel, by decide +kernel, by decide +kernel⟩
theorem d_Control___init {P : Program} {w : World} {K : PySem.W.Frag} {mg : Str → Option Value} {base : Heap} {f : Addr} : Der P w K mg base T0 ["self", "cues", "replies", "rows", "start", "states", "state", "row", "entry"] ["self", "cues", "replies", "rows", "start", "states", "state", "row"] ["len", "ControlError", "tuple", "enumerate", "all"] s_Control___init "Control.__init__" f j_Control___init := fun J _ cdv A₀ outer s H E _ _ =>
  b_cons (s_set rfl (e_callB 1 rfl (l_cons (e_nm rfl) (l_nil) rfl) rfl rfl) rfl) (b_cons (s_if (c_of (v_or (c_not (c_chn (e_int) (e_nm rfl) (e_con 0 rfl (e_nm rfl) rfl) rfl)) (v_or1 (c_not (c_chn (e_int) (e_nm rfl) (e_con 1 rfl (e_nm rfl) rfl) rfl))))) (b_cons (s_raise 1 rfl (e_neg (e_int)) rfl rfl) (b_nil)) (b_nil)) (b_cons (s_if (c_of (v_or (c_not (c_chn (e_int) (e_nm rfl) (e_con 2 rfl (e_nm rfl) rfl) rfl)) (v_or1 (c_not (c_chn (e_int) (e_nm rfl) (e_nm rfl) rfl))))) (b_cons (s_raise 1 rfl (e_neg (e_int)) rfl rfl) (b_nil)) (b_nil)) (b_cons (s_fld 0 rfl (e_nm rfl) (e_nm rfl) rfl) (b_cons (s_fld 1 rfl (e_nm rfl) (e_nm rfl) rfl) (b_cons (s_fld 5 rfl (e_nm rfl) (e_nm rfl) rfl) (b_cons (s_fld 6 rfl (e_nm rfl) (e_nm rfl) rfl) (b_cons (s_fld 7 rfl (e_callT 3 rfl (l_cons (e_nm rfl) (l_nil) rfl) rfl rfl) (e_nm rfl) rfl) (b_cons (s_for (i_en 2 rfl (e_fld 7 rfl (e_nm rfl) rfl) rfl) (t_tup (ts_cons (t_nm rfl) (ts_cons (t_nm rfl) (ts_nil) rfl) rfl) rfl rfl rfl) (b_cons (s_if (c_of (v_or (c_cmp (e_callB 1 rfl (l_cons (e_nm rfl) (l_nil) rfl) rfl rfl) (e_nm rfl) rfl) (v_or1 (c_not (c_val (e_callB 4 rfl (l_cons (e_lc (own := [("entry", 8)]) (U' := ["entry", "states", "replies"]) (S' := ["entry"]) (G' := ["_is_entry"]) (sc := defScope s_Control___init) rfl ⟨by decide +kernel, by decide +kernel, by decide +kernel, by decide +kernel, by decide +kernel⟩ (i_seq (e_nm rfl)) (fun Y _ _ _ _ => tw_nm rfl (by decide)) (fun Y _ _ _ _ => oo_none) (fun Y _ _ _ _ => e_fn 9 rfl (l_cons (e_nm rfl) (l_cons (e_nm rfl) (l_cons (e_nm rfl) (l_nil) rfl) rfl) rfl) rfl rfl) (fun _ => rfl)) (l_nil) rfl) rfl rfl) (fun _ => rfl)))))) (b_cons (s_raise 1 rfl (e_nm rfl) rfl rfl) (b_nil)) (b_nil)) (b_nil)) (fun _ => rfl)) (b_nil)))))))))
abbrev s_Control___eq : Stmt := cbody 44 5
theorem sc_Control___eq : ScA ["self", "other"] ["self", "other"] ["self", "other"] ["isinstance", "Control"] s_Control___eq :=
  ⟨⟨rfl, rfl, rfl, by decide +kernel, rfl, by decide +kernel, by decide +kernel⟩, by decide +kernel, by decide +kernel, by decide +kernel⟩
theorem d_Control___eq {P : Program} {w : World} {K : PySem.W.Frag} {mg : Str → Option Value} {base : Heap} {f : Addr} : Der P w K mg base T0 ["self", "other"] ["self", "other"] ["isinstance", "Control"] s_Control___eq "Control.__eq__" f j_Control___eq := fun J _ cdv A₀ outer s H E _ _ =>
  b_cons (s_ret (e_and (e_isi 5 rfl (l_cons (e_nm rfl) (l_cons (e_cls 0 rfl) (l_nil) rfl) rfl) rfl rfl) (e_and (e_cmp (e_fld 0 rfl (e_nm rfl) rfl) (e_fld 0 rfl (e_nm rfl) rfl) rfl) (e_and (e_cmp (e_fld 1 rfl (e_nm rfl) rfl) (e_fld 1 rfl (e_nm rfl) rfl) rfl) (e_and (e_cmp (e_fld 7 rfl (e_nm rfl) rfl) (e_fld 7 rfl (e_nm rfl) rfl) rfl) (e_one (e_cmp (e_fld 6 rfl (e_nm rfl) rfl) (e_fld 6 rfl (e_nm rfl) rfl) rfl))))))) (b_nil)
abbrev s_Control_entry : Stmt := cbody 44 6
theorem sc_Control_entry : ScA ["self", "state", "cue"] ["self", "state", "cue"] ["self", "state", "cue"] [] s_Control_entry :=
  ⟨⟨rfl, rfl, rfl, by decide +kernel, rfl, by decide +kernel, by decide +kernel⟩, by decide +kernel, by decide +kernel, by decide +kernel⟩
theorem d_Control_entry {P : Program} {w : World} {K : PySem.W.Frag} {mg : Str → Option Value} {base : Heap} {f : Addr} : Der P w K mg base T0 ["self", "state", "cue"] ["self", "state", "cue"] [] s_Control_entry "Control.entry" f j_Control_entry := fun J _ cdv A₀ outer s H E _ _ =>
  b_cons (s_ret (e_ix (e_ix (e_fld 7 rfl (e_nm rfl) rfl) (e_nm rfl) (fun _ _ => rfl)) (e_nm rfl) (fun _ _ => rfl))) (b_nil)
abbrev s_Control_started : Stmt := cbody 44 8
theorem sc_Control_started : ScA ["self", "state"] ["self", "state"] ["self", "state"] ["SizeError", "Control"] s_Control_started :=
  ⟨⟨rfl, rfl, rfl, by decide +kernel, rfl, by decide +kernel, by decide +kernel⟩, by decide +kernel, by decide +kernel, by decide +kernel⟩
theorem d_Control_started {P : Program} {w : World} {K : PySem.W.Frag} {mg : Str → Option Value} {base : Heap} {f : Addr} : Der P w K mg base T0 ["self", "state"] ["self", "state"] ["SizeError", "Control"] s_Control_started "Control.started" f j_Control_started := fun J _ cdv A₀ outer s H E _ _ =>
  b_cons (s_if (c_not (c_chn (e_int) (e_nm rfl) (e_fld 5 rfl (e_nm rfl) rfl) rfl)) (b_cons (s_raise 0 rfl (e_nm rfl) rfl rfl) (b_nil)) (b_nil)) (b_cons (s_ret (e_frz (e_mk 0 rfl rfl rfl (l_cons (e_fld 0 rfl (e_nm rfl) rfl) (l_cons (e_fld 1 rfl (e_nm rfl) rfl) (l_cons (e_fld 7 rfl (e_nm rfl) rfl) (l_nil) rfl) rfl) rfl) (k_cons (e_nm rfl) (k_nil)) rfl rfl rfl rfl))) (b_nil))
abbrev s_L_pool : Stmt := top 46
theorem sc_L_pool : ScA ["script", "place", "cell"] ["script", "place"] ["script", "place", "cell"] ["len", "abs", "int"] s_L_pool :=
  ⟨⟨rfl, rfl, rfl, by decide +kernel, rfl, by decide +kernel, by decide +kernel⟩, by decide +kernel, by decide +kernel, by decide +kernel⟩
theorem d_L_pool {P : Program} {w : World} {K : PySem.W.Frag} {mg : Str → Option Value} {base : Heap} {f : Addr} : Der P w K mg base T0 ["script", "place", "cell"] ["script", "place", "cell"] ["len", "abs", "int"] s_L_pool "_law_pool" f j_L_pool := fun J _ cdv A₀ outer s H E _ _ =>
  b_cons (s_if (c_cmp (e_callB 1 rfl (l_cons (e_nm rfl) (l_nil) rfl) rfl rfl) (e_int) rfl) (b_cons (s_ret (e_lst (l_cons (e_int) (l_cons (e_int) (l_cons (e_int) (l_cons (e_int) (l_nil) rfl) rfl) rfl) rfl))) (b_nil)) (b_nil)) (b_cons (s_set rfl (e_callB 6 rfl (l_cons (e_ix (e_nm rfl) (e_bin (e_callT 7 rfl (l_cons (e_nm rfl) (l_nil) rfl) rfl rfl) (e_callB 1 rfl (l_cons (e_nm rfl) (l_nil) rfl) rfl rfl)) (fun _ _ => rfl)) (l_nil) rfl) rfl rfl) rfl) (b_cons (s_if (c_of (v_and (c_cmp (e_nm rfl) (e_callB 1 rfl (l_cons (e_nm rfl) (l_nil) rfl) rfl rfl) rfl) (v_and1 (c_cmp (e_nm rfl) (e_bin (e_int) (e_int)) rfl)))) (b_cons (s_ret (e_lst (l_cons (e_int) (l_cons (e_nm rfl) (l_cons (e_bin (e_callT 7 rfl (l_cons (e_nm rfl) (l_nil) rfl) rfl rfl) (e_int)) (l_cons (e_int) (l_nil) rfl) rfl) rfl) rfl))) (b_nil)) (b_nil)) (b_cons (s_ret (e_lst (l_cons (e_int) (l_cons (e_int) (l_cons (e_bin (e_callT 7 rfl (l_cons (e_bin (e_nm rfl) (e_bin (e_int) (e_nm rfl))) (l_nil) rfl) rfl rfl) (e_int)) (l_cons (e_int) (l_nil) rfl) rfl) rfl) rfl))) (b_nil))))
abbrev s_L_draw : Stmt := top 47
theorem sc_L_draw : ScA ["pool", "many", "got", "x"] ["pool", "many"] ["pool", "many", "got", "x"] ["int"] s_L_draw :=
  ⟨⟨rfl, rfl, rfl, by decide +kernel, rfl, by decide +kernel, by decide +kernel⟩, by decide +kernel, by decide +kernel, by decide +kernel⟩
theorem d_L_draw {P : Program} {w : World} {K : PySem.W.Frag} {mg : Str → Option Value} {base : Heap} {f : Addr} : Der P w K mg base T0 ["pool", "many", "got", "x"] ["pool", "many", "got", "x"] ["int"] s_L_draw "_law_draw" f j_L_draw := fun J _ cdv A₀ outer s H E _ _ =>
  b_cons (s_ixS (e_bin (e_ix (e_nm rfl) (e_int) (fun _ _ => rfl)) (e_int)) (e_nm rfl) (e_int) rfl rfl rfl (fun _ => rfl)) (b_cons (s_if (c_cmp (e_ix (e_nm rfl) (e_int) (fun _ _ => rfl)) (e_int) rfl) (b_cons (s_ret (e_int)) (b_nil)) (b_nil)) (b_cons (s_if (c_of (v_and (c_cmp (e_ix (e_nm rfl) (e_int) (fun _ _ => rfl)) (e_int) rfl) (v_and (c_cmp (e_ix (e_nm rfl) (e_int) (fun _ _ => rfl)) (e_int) rfl) (v_and1 (c_cmp (e_ix (e_nm rfl) (e_int) (fun _ _ => rfl)) (e_int) rfl))))) (b_cons (s_set rfl (e_bin (e_callT 7 rfl (l_cons (e_ix (e_nm rfl) (e_int) (fun _ _ => rfl)) (l_nil) rfl) rfl rfl) (e_nm rfl)) rfl) (b_cons (s_ixS (e_bin (e_ix (e_nm rfl) (e_int) (fun _ _ => rfl)) (e_nm rfl)) (e_nm rfl) (e_int) rfl rfl rfl (fun _ => rfl)) (b_cons (s_ret (e_nm rfl)) (b_nil)))) (b_nil)) (b_cons (s_set rfl (e_bin (e_callT 7 rfl (l_cons (e_bin (e_bin (e_ix (e_nm rfl) (e_int) (fun _ _ => rfl)) (e_bin (e_int) (e_ix (e_nm rfl) (e_int) (fun _ _ => rfl)))) (e_int)) (l_nil) rfl) rfl rfl) (e_int)) rfl) (b_cons (s_set rfl (e_bin (e_callT 7 rfl (l_cons (e_bin (e_bin (e_bin (e_nm rfl) (e_nm rfl)) (e_bin (e_int) (e_ix (e_nm rfl) (e_int) (fun _ _ => rfl)))) (e_int)) (l_nil) rfl) rfl rfl) (e_int)) rfl) (b_cons (s_set rfl (e_bin (e_callT 7 rfl (l_cons (e_bin (e_bin (e_bin (e_nm rfl) (e_nm rfl)) (e_int)) (e_ix (e_nm rfl) (e_int) (fun _ _ => rfl))) (l_nil) rfl) rfl rfl) (e_int)) rfl) (b_cons (s_ret (e_bin (e_callT 7 rfl (l_cons (e_bin (e_nm rfl) (e_int)) (l_nil) rfl) rfl rfl) (e_nm rfl))) (b_nil)))))))
abbrev s_L_same : Stmt := top 48
theorem sc_L_same : ScA ["told", "due", "name", "k"] ["told", "due"] ["told", "due", "name", "k"] ["isinstance", "int", "bool", "str", "dict", "len", "_law_same", "list", "tuple", "range"] s_L_same :=
  ⟨⟨rfl, rfl, rfl, by decide +kernel, rfl, by decide +kernel, by decide +kernel⟩, by decide +kernel, by decide +kernel, by decide +kernel⟩
theorem d_L_same {P : Program} {w : World} {K : PySem.W.Frag} {mg : Str → Option Value} {base : Heap} {f : Addr} : Der P w K mg base T0 ["told", "due", "name", "k"] ["told", "due", "name", "k"] ["isinstance", "int", "bool", "str", "dict", "len", "_law_same", "list", "tuple", "range"] s_L_same "_law_same" f j_L_same := fun J _ cdv A₀ outer s H E _ _ =>
  b_cons (s_if (c_cmp (e_nm rfl) (e_non) rfl) (b_cons (s_ret (e_cmp (e_nm rfl) (e_non) rfl)) (b_nil)) (b_nil)) (b_cons (s_if (c_cmp (e_nm rfl) (e_bl) rfl) (b_cons (s_ret (e_cmp (e_nm rfl) (e_bl) rfl)) (b_nil)) (b_nil)) (b_cons (s_if (c_cmp (e_nm rfl) (e_bl) rfl) (b_cons (s_ret (e_cmp (e_nm rfl) (e_bl) rfl)) (b_nil)) (b_nil)) (b_cons (s_if (c_val (e_isi 5 rfl (l_cons (e_nm rfl) (l_cons (e_bty 7 rfl) (l_nil) rfl) rfl) rfl rfl) (fun _ => rfl)) (b_cons (s_ret (e_and (e_isi 5 rfl (l_cons (e_nm rfl) (l_cons (e_bty 7 rfl) (l_nil) rfl) rfl) rfl rfl) (e_and (e_not (e_isi 5 rfl (l_cons (e_nm rfl) (l_cons (e_bty 8 rfl) (l_nil) rfl) rfl) rfl rfl)) (e_one (e_cmp (e_nm rfl) (e_nm rfl) rfl))))) (b_nil)) (b_nil)) (b_cons (s_if (c_val (e_isi 5 rfl (l_cons (e_nm rfl) (l_cons (e_bty 9 rfl) (l_nil) rfl) rfl) rfl rfl) (fun _ => rfl)) (b_cons (s_ret (e_and (e_isi 5 rfl (l_cons (e_nm rfl) (l_cons (e_bty 9 rfl) (l_nil) rfl) rfl) rfl rfl) (e_one (e_cmp (e_nm rfl) (e_nm rfl) rfl)))) (b_nil)) (b_nil)) (b_cons (s_if (c_val (e_isi 5 rfl (l_cons (e_nm rfl) (l_cons (e_bty 10 rfl) (l_nil) rfl) rfl) rfl rfl) (fun _ => rfl)) (b_cons (s_if (c_of (v_or (c_not (c_val (e_isi 5 rfl (l_cons (e_nm rfl) (l_cons (e_bty 10 rfl) (l_nil) rfl) rfl) rfl rfl) (fun _ => rfl))) (v_or1 (c_cmp (e_callB 1 rfl (l_cons (e_nm rfl) (l_nil) rfl) rfl rfl) (e_callB 1 rfl (l_cons (e_nm rfl) (l_nil) rfl) rfl rfl) rfl)))) (b_cons (s_ret (e_bl)) (b_nil)) (b_nil)) (b_cons (s_for (i_seq (e_nm rfl)) (t_nm rfl) (b_cons (s_if (c_of (v_or (c_cmp (e_nm rfl) (e_nm rfl) rfl) (v_or1 (c_not (c_val (e_fn 10 rfl (l_cons (e_ix (e_nm rfl) (e_nm rfl) (fun _ _ => rfl)) (l_cons (e_ix (e_nm rfl) (e_nm rfl) (fun _ _ => rfl)) (l_nil) rfl) rfl) rfl rfl) (fun _ => rfl)))))) (b_cons (s_ret (e_bl)) (b_nil)) (b_nil)) (b_nil)) (fun _ => rfl)) (b_cons (s_ret (e_bl)) (b_nil)))) (b_nil)) (b_cons (s_if (c_of (v_and (c_val (e_isi 5 rfl (l_cons (e_nm rfl) (l_cons (e_bty 11 rfl) (l_nil) rfl) rfl) rfl rfl) (fun _ => rfl)) (v_and1 (c_not (c_val (e_isi 5 rfl (l_cons (e_nm rfl) (l_cons (e_bty 11 rfl) (l_nil) rfl) rfl) rfl rfl) (fun _ => rfl)))))) (b_cons (s_ret (e_bl)) (b_nil)) (b_nil)) (b_cons (s_if (c_of (v_and (c_val (e_isi 5 rfl (l_cons (e_nm rfl) (l_cons (e_bty 3 rfl) (l_nil) rfl) rfl) rfl rfl) (fun _ => rfl)) (v_and1 (c_not (c_val (e_isi 5 rfl (l_cons (e_nm rfl) (l_cons (e_bty 3 rfl) (l_nil) rfl) rfl) rfl rfl) (fun _ => rfl)))))) (b_cons (s_ret (e_bl)) (b_nil)) (b_nil)) (b_cons (s_if (c_cmp (e_callB 1 rfl (l_cons (e_nm rfl) (l_nil) rfl) rfl rfl) (e_callB 1 rfl (l_cons (e_nm rfl) (l_nil) rfl) rfl rfl) rfl) (b_cons (s_ret (e_bl)) (b_nil)) (b_nil)) (b_cons (s_for (i_rng1 0 rfl (e_callB 1 rfl (l_cons (e_nm rfl) (l_nil) rfl) rfl rfl) rfl rfl) (t_nm rfl) (b_cons (s_if (c_not (c_val (e_fn 10 rfl (l_cons (e_ix (e_nm rfl) (e_nm rfl) (fun _ _ => rfl)) (l_cons (e_ix (e_nm rfl) (e_nm rfl) (fun _ _ => rfl)) (l_nil) rfl) rfl) rfl rfl) (fun _ => rfl))) (b_cons (s_ret (e_bl)) (b_nil)) (b_nil)) (b_nil)) (fun _ => rfl)) (b_cons (s_ret (e_bl)) (b_nil)))))))))))
abbrev s_L_contest_rows : Stmt := top 49
theorem sc_L_contest_rows : ScA ["script", "place", "pool", "calls", "answers", "states", "way", "often", "rows", "s", "forcing", "row", "cue", "own", "pick"] ["script", "place", "pool", "calls", "answers", "states"] ["script", "place", "pool", "calls", "answers", "states", "way", "often", "rows", "s", "forcing", "row", "cue", "own", "pick"] ["_law_draw", "range", "max", "int", "tuple", "_law_pool"] s_L_contest_rows :=
  ⟨⟨rfl, rfl, rfl, by decide +kernel, rfl, by decide +kernel, by decide +kernel⟩, by decide +kernel, by decide +kernel, by decide +kernel⟩
theorem d_L_contest_rows {P : Program} {w : World} {K : PySem.W.Frag} {mg : Str → Option Value} {base : Heap} {f : Addr} : Der P w K mg base T0 ["script", "place", "pool", "calls", "answers", "states", "way", "often", "rows", "s", "forcing", "row", "cue", "own", "pick"] ["script", "place", "pool", "calls", "answers", "states", "way", "often", "rows", "s", "forcing", "row", "cue", "own", "pick"] ["_law_draw", "range", "max", "int", "tuple", "_law_pool"] s_L_contest_rows "_law_contest_rows" f j_L_contest_rows := fun J _ cdv A₀ outer s H E _ _ =>
  b_cons (s_set rfl (e_fn 11 rfl (l_cons (e_nm rfl) (l_cons (e_int) (l_nil) rfl) rfl) rfl rfl) rfl) (b_cons (s_set rfl (e_bin (e_int) (e_fn 11 rfl (l_cons (e_nm rfl) (l_cons (e_int) (l_nil) rfl) rfl) rfl rfl)) rfl) (b_cons (s_set rfl (e_lst (l_nil)) rfl) (b_cons (s_if (c_cmp (e_nm rfl) (e_int) rfl) (b_cons (s_for (i_rng1 0 rfl (e_nm rfl) rfl rfl) (t_nm rfl) (b_cons (s_set rfl (e_fn 11 rfl (l_cons (e_nm rfl) (l_cons (e_nm rfl) (l_nil) rfl) rfl) rfl rfl) rfl) (b_cons (s_set rfl (e_lst (l_nil)) rfl) (b_cons (s_for (i_rng1 0 rfl (e_bin (e_nm rfl) (e_nm rfl)) rfl rfl) (t_nm rfl) (b_cons (s_if (c_cmp (e_bin (e_nm rfl) (e_nm rfl)) (e_nm rfl) rfl) (b_cons (s_ex (e_mth rfl (e_nm rfl) (l_cons (e_tup (l_cons (e_callB 12 rfl (l_cons (e_int) (l_cons (e_bin (e_nm rfl) (e_int)) (l_nil) rfl) rfl) rfl rfl) (l_cons (e_callT 7 rfl (l_cons (e_cmp (e_nm rfl) (e_int) rfl) (l_nil) rfl) rfl rfl) (l_nil) rfl) rfl)) (l_nil) rfl) rfl rfl rfl rfl rfl) rfl) (b_nil)) (b_cons (s_ex (e_mth rfl (e_nm rfl) (l_cons (e_tup (l_cons (e_fn 11 rfl (l_cons (e_nm rfl) (l_cons (e_nm rfl) (l_nil) rfl) rfl) rfl rfl) (l_cons (e_int) (l_nil) rfl) rfl)) (l_nil) rfl) rfl rfl rfl rfl rfl) rfl) (b_nil))) (b_nil)) (fun _ => rfl)) (b_cons (s_ex (e_mth rfl (e_nm rfl) (l_cons (e_callT 3 rfl (l_cons (e_nm rfl) (l_nil) rfl) rfl rfl) (l_nil) rfl) rfl rfl rfl rfl rfl) rfl) (b_nil))))) (fun _ => rfl)) (b_cons (s_ret (e_nm rfl)) (b_nil))) (b_nil)) (b_cons (s_for (i_rng1 0 rfl (e_nm rfl) rfl rfl) (t_nm rfl) (b_cons (s_set rfl (e_fn 12 rfl (l_cons (e_nm rfl) (l_cons (e_bin (e_nm rfl) (e_nm rfl)) (l_nil) rfl) rfl) rfl rfl) rfl) (b_cons (s_set rfl (e_lst (l_nil)) rfl) (b_cons (s_for (i_rng1 0 rfl (e_bin (e_nm rfl) (e_nm rfl)) rfl rfl) (t_nm rfl) (b_cons (s_set rfl (e_fn 11 rfl (l_cons (e_nm rfl) (l_cons (e_bin (e_bin (e_nm rfl) (e_nm rfl)) (e_int)) (l_nil) rfl) rfl) rfl rfl) rfl) (b_cons (s_ex (e_mth rfl (e_nm rfl) (l_cons (e_tup (l_cons (e_bin (e_callT 7 rfl (l_cons (e_nm rfl) (l_nil) rfl) rfl rfl) (e_nm rfl)) (l_cons (e_callT 7 rfl (l_cons (e_cmp (e_bin (e_nm rfl) (e_nm rfl)) (e_int) rfl) (l_nil) rfl) rfl rfl) (l_nil) rfl) rfl)) (l_nil) rfl) rfl rfl rfl rfl rfl) rfl) (b_nil))) (fun _ => rfl)) (b_cons (s_ex (e_mth rfl (e_nm rfl) (l_cons (e_callT 3 rfl (l_cons (e_nm rfl) (l_nil) rfl) rfl rfl) (l_nil) rfl) rfl rfl rfl rfl rfl) rfl) (b_nil))))) (fun _ => rfl)) (b_cons (s_ret (e_nm rfl)) (b_nil))))))
abbrev s_L_ranks : Stmt := top 50
theorem sc_L_ranks : ScA ["rows", "calls", "answers", "told", "best", "k", "found", "s", "call", "outs", "free", "out"] ["rows", "calls", "answers"] ["rows", "calls", "answers", "told", "best", "k", "found", "s", "call", "outs", "free"] ["len", "range"] s_L_ranks :=
  ⟨⟨rfl, rfl, rfl, by decide +kernel, rfl, by decide +kernel, by decide +kernel⟩, by decide +kernel, by decide +kernel, by decide +kernel⟩
theorem d_L_ranks {P : Program} {w : World} {K : PySem.W.Frag} {mg : Str → Option Value} {base : Heap} {f : Addr} : Der P w K mg base T0 ["rows", "calls", "answers", "told", "best", "k", "found", "s", "call", "outs", "free", "out"] ["rows", "calls", "answers", "told", "best", "k", "found", "s", "call", "outs", "free"] ["len", "range"] s_L_ranks "_law_ranks" f j_L_ranks := fun J _ cdv A₀ outer s H E _ _ =>
  b_cons (s_set rfl (e_bin (e_lst (l_cons (e_non) (l_nil) rfl)) (e_callB 1 rfl (l_cons (e_nm rfl) (l_nil) rfl) rfl rfl)) rfl) (b_cons (s_set rfl (e_bin (e_lst (l_cons (e_non) (l_nil) rfl)) (e_callB 1 rfl (l_cons (e_nm rfl) (l_nil) rfl) rfl rfl)) rfl) (b_cons (s_for (i_rng1 0 rfl (e_callB 1 rfl (l_cons (e_nm rfl) (l_nil) rfl) rfl rfl) rfl rfl) (t_nm rfl) (b_cons (s_set rfl (e_dnew) rfl) (b_cons (s_for (i_rng1 0 rfl (e_callB 1 rfl (l_cons (e_nm rfl) (l_nil) rfl) rfl rfl) rfl rfl) (t_nm rfl) (b_cons (s_if (c_cmp (e_ix (e_nm rfl) (e_nm rfl) (fun _ _ => rfl)) (e_non) rfl) (b_cons (s_cont) (b_nil)) (b_nil)) (b_cons (s_for (i_rng1 0 rfl (e_nm rfl) rfl rfl) (t_nm rfl) (b_cons (s_set rfl (e_sli (e_ix (e_nm rfl) (e_nm rfl) (fun _ _ => rfl)) (o_some (e_bin (e_nm rfl) (e_nm rfl))) (o_some (e_bin (e_bin (e_nm rfl) (e_nm rfl)) (e_nm rfl)))) rfl) (b_cons (s_setLc rfl (own := [("out", 11)]) (U' := ["out", "told"]) (S' := ["out"]) (G' := []) (sc := defScope s_L_ranks) rfl ⟨by decide +kernel, by decide +kernel, by decide +kernel, by decide +kernel, by decide +kernel⟩ (i_seq (e_nm rfl)) (fun Y _ _ _ _ => tw_nm rfl (by decide)) (fun Y _ _ _ _ => oo_some (c_of (v_and (c_cmp (e_ix (e_nm rfl) (e_int) (fun _ _ => rfl)) (e_int) rfl) (v_and1 (c_cmp (e_ix (e_nm rfl) (e_ix (e_nm rfl) (e_int) (fun _ _ => rfl)) (fun _ _ => rfl)) (e_non) rfl))))) (fun Y _ _ _ _ => e_nm rfl) (fun _ => rfl) rfl rfl) (b_cons (s_if (c_of (v_and (c_cmp (e_callB 1 rfl (l_cons (e_nm rfl) (l_nil) rfl) rfl rfl) (e_int) rfl) (v_and1 (c_cmp (e_nm rfl) (e_nm rfl) rfl)))) (b_cons (s_ixS (e_nm rfl) (e_nm rfl) (e_nm rfl) rfl rfl rfl (fun _ => rfl)) (b_nil)) (b_nil)) (b_nil)))) (fun _ => rfl)) (b_nil))) (fun _ => rfl)) (b_cons (s_forL (i_keys (e_nm rfl)) (t_nm rfl) (b_cons (s_ixS (e_nm rfl) (e_nm rfl) (e_nm rfl) rfl rfl rfl (fun _ => rfl)) (b_cons (s_ixS (e_ix (e_nm rfl) (e_nm rfl) (fun _ _ => rfl)) (e_nm rfl) (e_nm rfl) rfl rfl rfl (fun _ => rfl)) (b_nil))) (fun _ => rfl)) (b_nil)))) (fun _ => rfl)) (b_cons (s_ret (e_tup (l_cons (e_nm rfl) (l_cons (e_nm rfl) (l_nil) rfl) rfl))) (b_nil))))
abbrev s_L_settled : Stmt := top 51
theorem sc_L_settled : ScA ["rows", "calls", "answers", "origin", "told", "table", "s", "row", "call", "outs", "a"] ["rows", "calls", "answers", "origin"] ["rows", "calls", "answers", "origin", "told", "table", "s", "row", "call", "outs"] ["_law_ranks", "range", "len", "tuple"] s_L_settled :=
  ⟨⟨rfl, rfl, rfl, by decide +kernel, rfl, by decide +kernel, by decide +kernel⟩, by decide +kernel, by decide +kernel, by decide +kernel⟩
theorem d_L_settled {P : Program} {w : World} {K : PySem.W.Frag} {mg : Str → Option Value} {base : Heap} {f : Addr} : Der P w K mg base T0 ["rows", "calls", "answers", "origin", "told", "table", "s", "row", "call", "outs", "a"] ["rows", "calls", "answers", "origin", "told", "table", "s", "row", "call", "outs"] ["_law_ranks", "range", "len", "tuple"] s_L_settled "_law_settled" f j_L_settled := fun J _ cdv A₀ outer s H E _ _ =>
  b_cons (s_set rfl (e_fn 13 rfl (l_cons (e_nm rfl) (l_cons (e_nm rfl) (l_cons (e_nm rfl) (l_nil) rfl) rfl) rfl) rfl rfl) rfl) (b_cons (s_set rfl (e_lst (l_nil)) rfl) (b_cons (s_for (i_rng1 0 rfl (e_callB 1 rfl (l_cons (e_nm rfl) (l_nil) rfl) rfl rfl) rfl rfl) (t_nm rfl) (b_cons (s_if (c_of (v_and (c_cmp (e_ix (e_ix (e_nm rfl) (e_int) (fun _ _ => rfl)) (e_nm rfl) (fun _ _ => rfl)) (e_non) rfl) (v_and1 (c_cmp (e_ix (e_ix (e_nm rfl) (e_int) (fun _ _ => rfl)) (e_nm rfl) (fun _ _ => rfl)) (e_non) rfl)))) (b_cons (s_set rfl (e_lst (l_nil)) rfl) (b_cons (s_for (i_rng1 0 rfl (e_nm rfl) rfl rfl) (t_nm rfl) (b_cons (s_set rfl (e_sli (e_ix (e_nm rfl) (e_nm rfl) (fun _ _ => rfl)) (o_some (e_bin (e_nm rfl) (e_nm rfl))) (o_some (e_bin (e_bin (e_nm rfl) (e_nm rfl)) (e_nm rfl)))) rfl) (b_cons (s_ex (e_mth rfl (e_nm rfl) (l_cons (e_ix (e_lc (own := [("a", 10)]) (U' := ["a", "outs", "told"]) (S' := ["a"]) (G' := []) (sc := defScope s_L_settled) rfl ⟨by decide +kernel, by decide +kernel, by decide +kernel, by decide +kernel, by decide +kernel⟩ (i_rng1 0 rfl (e_nm rfl) rfl rfl) (fun Y _ _ _ _ => tw_nm rfl (by decide)) (fun Y _ _ _ _ => oo_some (c_of (v_and (c_cmp (e_ix (e_ix (e_nm rfl) (e_nm rfl) (fun _ _ => rfl)) (e_int) (fun _ _ => rfl)) (e_int) rfl) (v_and1 (c_cmp (e_ix (e_ix (e_nm rfl) (e_int) (fun _ _ => rfl)) (e_ix (e_ix (e_nm rfl) (e_nm rfl) (fun _ _ => rfl)) (e_int) (fun _ _ => rfl)) (fun _ _ => rfl)) (e_non) rfl))))) (fun Y _ _ _ _ => e_nm rfl) (fun _ => rfl)) (e_int) (fun _ _ => rfl)) (l_nil) rfl) rfl rfl rfl rfl rfl) rfl) (b_nil))) (fun _ => rfl)) (b_cons (s_ex (e_mth rfl (e_nm rfl) (l_cons (e_tup (l_cons (e_nm rfl) (l_cons (e_callT 3 rfl (l_cons (e_nm rfl) (l_nil) rfl) rfl rfl) (l_nil) rfl) rfl)) (l_nil) rfl) rfl rfl rfl rfl rfl) rfl) (b_nil)))) (b_nil)) (b_cons (s_if (c_of (v_and (c_cmp (e_ix (e_ix (e_nm rfl) (e_int) (fun _ _ => rfl)) (e_nm rfl) (fun _ _ => rfl)) (e_non) rfl) (v_and1 (c_cmp (e_ix (e_ix (e_nm rfl) (e_int) (fun _ _ => rfl)) (e_nm rfl) (fun _ _ => rfl)) (e_non) rfl)))) (b_cons (s_ex (e_mth rfl (e_nm rfl) (l_cons (e_tup (l_cons (e_nm rfl) (l_cons (e_ix (e_ix (e_nm rfl) (e_int) (fun _ _ => rfl)) (e_nm rfl) (fun _ _ => rfl)) (l_cons (e_ix (e_ix (e_nm rfl) (e_int) (fun _ _ => rfl)) (e_nm rfl) (fun _ _ => rfl)) (l_nil) rfl) rfl) rfl)) (l_nil) rfl) rfl rfl rfl rfl rfl) rfl) (b_nil)) (b_nil)) (b_nil))) (fun _ => rfl)) (b_cons (s_if (c_cmp (e_ix (e_ix (e_nm rfl) (e_int) (fun _ _ => rfl)) (e_nm rfl) (fun _ _ => rfl)) (e_non) rfl) (b_cons (s_ret (e_tup (l_cons (e_str) (l_cons (e_callT 3 rfl (l_cons (e_nm rfl) (l_nil) rfl) rfl rfl) (l_nil) rfl) rfl))) (b_nil)) (b_nil)) (b_cons (s_ret (e_tup (l_cons (e_str) (l_cons (e_callT 3 rfl (l_cons (e_nm rfl) (l_nil) rfl) rfl rfl) (l_nil) rfl) rfl))) (b_nil)))))
abbrev s_L_asked : Stmt := top 52
theorem sc_L_asked : ScA ["calls", "answers", "control", "got", "e", "kinds"] ["calls", "answers", "control"] ["calls", "answers", "control", "got", "e", "kinds"] ["Contest", "FabricError", "int", "isinstance", "SizeError", "ControlError", "FeedError", "ExchangeError", "BitsError", "MachineError", "ProgramError", "CircuitError", "NetlistError", "FanoutError", "ColouringError", "EdgeError", "PathError", "TapeError", "StoreError", "HistoryError", "CommandError", "ValueError"] s_L_asked :=
  ⟨⟨rfl, rfl, rfl, by decide +kernel, rfl, by decide +kernel, by decide +kernel⟩, by decide +kernel, by decide +kernel, by decide +kernel⟩
theorem d_L_asked {P : Program} {w : World} {K : PySem.W.Frag} {mg : Str → Option Value} {base : Heap} {f : Addr} : Der P w K mg base T0 ["calls", "answers", "control", "got", "e", "kinds"] ["calls", "answers", "control", "got", "e", "kinds"] ["Contest", "FabricError", "int", "isinstance", "SizeError", "ControlError", "FeedError", "ExchangeError", "BitsError", "MachineError", "ProgramError", "CircuitError", "NetlistError", "FanoutError", "ColouringError", "EdgeError", "PathError", "TapeError", "StoreError", "HistoryError", "CommandError", "ValueError"] s_L_asked "_law_asked" f j_L_asked := fun J _ cdv A₀ outer s H E _ _ =>
  b_cons (s_set rfl (e_tup (l_cons (e_str) (l_cons (e_int) (l_nil) rfl) rfl)) rfl) (b_cons (s_try 1 rfl rfl rfl rfl rfl (fun Y _ _ _ => b_cons (s_set rfl (e_tup (l_cons (e_str) (l_cons (e_frz (e_mk 1 rfl rfl rfl (l_cons (e_nm rfl) (l_cons (e_nm rfl) (l_cons (e_nm rfl) (l_nil) rfl) rfl) rfl) (k_nil) rfl rfl rfl rfl)) (l_nil) rfl) rfl)) rfl) (b_nil)) (fun Y a C dx _ _ _ _ => b_cons (s_set rfl (e_tup (l_cons (e_str) (l_cons (e_int) (l_nil) rfl) rfl)) rfl) (b_cons (s_set rfl (e_bin (e_bin (e_callT 7 rfl (l_cons (e_isi 5 rfl (l_cons (e_nm rfl) (l_cons (e_cls 2 rfl) (l_nil) rfl) rfl) rfl rfl) (l_nil) rfl) rfl rfl) (e_callT 7 rfl (l_cons (e_isi 5 rfl (l_cons (e_nm rfl) (l_cons (e_cls 3 rfl) (l_nil) rfl) rfl) rfl rfl) (l_nil) rfl) rfl rfl)) (e_callT 7 rfl (l_cons (e_isi 5 rfl (l_cons (e_nm rfl) (l_cons (e_cls 4 rfl) (l_nil) rfl) rfl) rfl rfl) (l_nil) rfl) rfl rfl)) rfl) (b_cons (s_set rfl (e_bin (e_bin (e_nm rfl) (e_callT 7 rfl (l_cons (e_isi 5 rfl (l_cons (e_nm rfl) (l_cons (e_cls 5 rfl) (l_nil) rfl) rfl) rfl rfl) (l_nil) rfl) rfl rfl)) (e_callT 7 rfl (l_cons (e_isi 5 rfl (l_cons (e_nm rfl) (l_cons (e_tup (l_cons (e_cls 6 rfl) (l_cons (e_cls 7 rfl) (l_cons (e_cls 8 rfl) (l_nil) rfl) rfl) rfl)) (l_nil) rfl) rfl) rfl rfl) (l_nil) rfl) rfl rfl)) rfl) (b_cons (s_set rfl (e_bin (e_nm rfl) (e_callT 7 rfl (l_cons (e_isi 5 rfl (l_cons (e_nm rfl) (l_cons (e_tup (l_cons (e_cls 9 rfl) (l_cons (e_cls 10 rfl) (l_cons (e_cls 11 rfl) (l_cons (e_cls 12 rfl) (l_cons (e_cls 13 rfl) (l_nil) rfl) rfl) rfl) rfl) rfl)) (l_nil) rfl) rfl) rfl rfl) (l_nil) rfl) rfl rfl)) rfl) (b_cons (s_set rfl (e_bin (e_nm rfl) (e_callT 7 rfl (l_cons (e_isi 5 rfl (l_cons (e_nm rfl) (l_cons (e_tup (l_cons (e_cls 14 rfl) (l_cons (e_cls 15 rfl) (l_cons (e_cls 16 rfl) (l_cons (e_cls 17 rfl) (l_cons (e_cls 18 rfl) (l_nil) rfl) rfl) rfl) rfl) rfl)) (l_nil) rfl) rfl) rfl rfl) (l_nil) rfl) rfl rfl)) rfl) (b_cons (s_if (c_of (v_and (c_cmp (e_nm rfl) (e_int) rfl) (v_and (c_val (e_isi 5 rfl (l_cons (e_nm rfl) (l_cons (e_bty 13 rfl) (l_nil) rfl) rfl) rfl rfl) (fun _ => rfl)) (v_and1 (c_val (e_isi 5 rfl (l_cons (e_nm rfl) (l_cons (e_cls 2 rfl) (l_nil) rfl) rfl) rfl rfl) (fun _ => rfl)))))) (b_cons (s_set rfl (e_tup (l_cons (e_str) (l_cons (e_exf 0 rfl (e_nm rfl) rfl) (l_nil) rfl) rfl)) rfl) (b_nil)) (b_nil)) (b_cons (s_if (c_of (v_and (c_cmp (e_nm rfl) (e_int) rfl) (v_and (c_val (e_isi 5 rfl (l_cons (e_nm rfl) (l_cons (e_bty 13 rfl) (l_nil) rfl) rfl) rfl rfl) (fun _ => rfl)) (v_and1 (c_val (e_isi 5 rfl (l_cons (e_nm rfl) (l_cons (e_cls 3 rfl) (l_nil) rfl) rfl) rfl rfl) (fun _ => rfl)))))) (b_cons (s_set rfl (e_tup (l_cons (e_str) (l_cons (e_exf 1 rfl (e_nm rfl) rfl) (l_nil) rfl) rfl)) rfl) (b_nil)) (b_nil)) (b_cons (s_if (c_of (v_and (c_cmp (e_nm rfl) (e_int) rfl) (v_and (c_val (e_isi 5 rfl (l_cons (e_nm rfl) (l_cons (e_bty 13 rfl) (l_nil) rfl) rfl) rfl rfl) (fun _ => rfl)) (v_and1 (c_val (e_isi 5 rfl (l_cons (e_nm rfl) (l_cons (e_cls 4 rfl) (l_nil) rfl) rfl) rfl rfl) (fun _ => rfl)))))) (b_cons (s_set rfl (e_tup (l_cons (e_str) (l_cons (e_exf 2 rfl (e_nm rfl) rfl) (l_nil) rfl) rfl)) rfl) (b_nil)) (b_nil)) (b_cons (s_if (c_of (v_and (c_cmp (e_nm rfl) (e_int) rfl) (v_and (c_val (e_isi 5 rfl (l_cons (e_nm rfl) (l_cons (e_bty 13 rfl) (l_nil) rfl) rfl) rfl rfl) (fun _ => rfl)) (v_and1 (c_val (e_isi 5 rfl (l_cons (e_nm rfl) (l_cons (e_cls 5 rfl) (l_nil) rfl) rfl) rfl rfl) (fun _ => rfl)))))) (b_cons (s_set rfl (e_tup (l_cons (e_str) (l_cons (e_exf 1 rfl (e_nm rfl) rfl) (l_nil) rfl) rfl)) rfl) (b_nil)) (b_nil)) (b_nil))))))))))) (b_cons (s_ret (e_nm rfl)) (b_nil)))
abbrev s_L_forced : Stmt := top 53
theorem sc_L_forced : ScA ["rows", "calls", "answers", "s", "many", "call", "free", "out"] ["rows", "calls", "answers", "s", "many"] ["rows", "calls", "answers", "s", "many", "call", "free", "out"] ["range", "_law_forced"] s_L_forced :=
  ⟨⟨rfl, rfl, rfl, by decide +kernel, rfl, by decide +kernel, by decide +kernel⟩, by decide +kernel, by decide +kernel, by decide +kernel⟩
theorem d_L_forced {P : Program} {w : World} {K : PySem.W.Frag} {mg : Str → Option Value} {base : Heap} {f : Addr} : Der P w K mg base T0 ["rows", "calls", "answers", "s", "many", "call", "free", "out"] ["rows", "calls", "answers", "s", "many", "call", "free", "out"] ["range", "_law_forced"] s_L_forced "_law_forced" f j_L_forced := fun J _ cdv A₀ outer s H E _ _ =>
  b_cons (s_if (c_cmp (e_nm rfl) (e_int) rfl) (b_cons (s_ret (e_bl)) (b_nil)) (b_nil)) (b_cons (s_for (i_rng1 0 rfl (e_nm rfl) rfl rfl) (t_nm rfl) (b_cons (s_set rfl (e_int) rfl) (b_cons (s_for (i_seq (e_sli (e_ix (e_nm rfl) (e_nm rfl) (fun _ _ => rfl)) (o_some (e_bin (e_nm rfl) (e_nm rfl))) (o_some (e_bin (e_bin (e_nm rfl) (e_nm rfl)) (e_nm rfl))))) (t_nm rfl) (b_cons (s_if (c_of (v_and (c_cmp (e_ix (e_nm rfl) (e_int) (fun _ _ => rfl)) (e_int) rfl) (v_and1 (c_not (c_val (e_fn 14 rfl (l_cons (e_nm rfl) (l_cons (e_nm rfl) (l_cons (e_nm rfl) (l_cons (e_ix (e_nm rfl) (e_int) (fun _ _ => rfl)) (l_cons (e_bin (e_nm rfl) (e_int)) (l_nil) rfl) rfl) rfl) rfl) rfl) rfl rfl) (fun _ => rfl)))))) (b_cons (s_set rfl (e_bin (e_nm rfl) (e_int)) rfl) (b_nil)) (b_nil)) (b_nil)) (fun _ => rfl)) (b_cons (s_if (c_cmp (e_nm rfl) (e_int) rfl) (b_cons (s_ret (e_bl)) (b_nil)) (b_nil)) (b_nil)))) (fun _ => rfl)) (b_cons (s_ret (e_bl)) (b_nil)))
abbrev s_L_ranks_right : Stmt := top 54
theorem sc_L_ranks_right : ScA ["told", "rows", "calls", "answers", "s", "many", "forced"] ["told", "rows", "calls", "answers"] ["told", "rows", "calls", "answers", "s", "many", "forced"] ["range", "min", "len", "_law_forced"] s_L_ranks_right :=
  ⟨⟨rfl, rfl, rfl, by decide +kernel, rfl, by decide +kernel, by decide +kernel⟩, by decide +kernel, by decide +kernel, by decide +kernel⟩
theorem d_L_ranks_right {P : Program} {w : World} {K : PySem.W.Frag} {mg : Str → Option Value} {base : Heap} {f : Addr} : Der P w K mg base T0 ["told", "rows", "calls", "answers", "s", "many", "forced"] ["told", "rows", "calls", "answers", "s", "many", "forced"] ["range", "min", "len", "_law_forced"] s_L_ranks_right "_law_ranks_right" f j_L_ranks_right := fun J _ cdv A₀ outer s H E _ _ =>
  b_cons (s_for (i_rng1 0 rfl (e_callB 14 rfl (l_cons (e_callB 1 rfl (l_cons (e_nm rfl) (l_nil) rfl) rfl rfl) (l_cons (e_int) (l_nil) rfl) rfl) rfl rfl) rfl rfl) (t_nm rfl) (b_cons (s_for (i_rng1 0 rfl (e_int) rfl rfl) (t_nm rfl) (b_cons (s_set rfl (e_and (e_cmp (e_ix (e_nm rfl) (e_nm rfl) (fun _ _ => rfl)) (e_non) rfl) (e_one (e_cmp (e_ix (e_nm rfl) (e_nm rfl) (fun _ _ => rfl)) (e_nm rfl) rfl))) rfl) (b_cons (s_if (c_cmp (e_nm rfl) (e_fn 14 rfl (l_cons (e_nm rfl) (l_cons (e_nm rfl) (l_cons (e_nm rfl) (l_cons (e_nm rfl) (l_cons (e_nm rfl) (l_nil) rfl) rfl) rfl) rfl) rfl) rfl rfl) rfl) (b_cons (s_ret (e_bl)) (b_nil)) (b_nil)) (b_nil))) (fun _ => rfl)) (b_nil)) (fun _ => rfl)) (b_cons (s_ret (e_bl)) (b_nil))
abbrev s_L_refusals : Stmt := top 55
theorem sc_L_refusals : ScA ["pool", "calls", "answers", "control", "flags", "numbers", "due", "k", "other", "got"] ["pool", "calls", "answers", "control"] ["pool", "calls", "answers", "control", "flags", "numbers", "due", "k", "other", "got"] ["_law_draw", "int", "Control", "_law_asked", "_law_same"] s_L_refusals :=
  ⟨⟨rfl, rfl, rfl, by decide +kernel, rfl, by decide +kernel, by decide +kernel⟩, by decide +kernel, by decide +kernel, by decide +kernel⟩
theorem d_L_refusals {P : Program} {w : World} {K : PySem.W.Frag} {mg : Str → Option Value} {base : Heap} {f : Addr} : Der P w K mg base T0 ["pool", "calls", "answers", "control", "flags", "numbers", "due", "k", "other", "got"] ["pool", "calls", "answers", "control", "flags", "numbers", "due", "k", "other", "got"] ["_law_draw", "int", "Control", "_law_asked", "_law_same"] s_L_refusals "_law_refusals" f j_L_refusals := fun J _ cdv A₀ outer s H E _ _ =>
  b_cons (s_set rfl (e_bin (e_int) (e_fn 11 rfl (l_cons (e_nm rfl) (l_cons (e_int) (l_nil) rfl) rfl) rfl rfl)) rfl) (b_cons (s_set rfl (e_lst (l_cons (e_nm rfl) (l_cons (e_nm rfl) (l_cons (e_fld 0 rfl (e_nm rfl) rfl) (l_cons (e_fld 1 rfl (e_nm rfl) rfl) (l_nil) rfl) rfl) rfl) rfl)) rfl) (b_cons (s_set rfl (e_non) rfl) (b_cons (s_if (c_cmp (e_bin (e_nm rfl) (e_int)) (e_int) rfl) (b_cons (s_ixS (e_ix (e_lst (l_cons (e_int) (l_cons (e_int) (l_cons (e_bin (e_int) (e_fn 11 rfl (l_cons (e_nm rfl) (l_cons (e_int) (l_nil) rfl) rfl) rfl rfl)) (l_nil) rfl) rfl) rfl)) (e_fn 11 rfl (l_cons (e_nm rfl) (l_cons (e_int) (l_nil) rfl) rfl) rfl rfl) (fun _ _ => rfl)) (e_nm rfl) (e_int) rfl rfl rfl (fun _ => rfl)) (b_cons (s_if (c_cmp (e_ix (e_nm rfl) (e_int) (fun _ _ => rfl)) (e_int) rfl) (b_cons (s_set rfl (e_ix (e_nm rfl) (e_int) (fun _ _ => rfl)) rfl) (b_nil)) (b_nil)) (b_nil))) (b_nil)) (b_cons (s_if (c_cmp (e_bin (e_nm rfl) (e_int)) (e_int) rfl) (b_cons (s_ixS (e_bin (e_int) (e_bin (e_callT 7 rfl (l_cons (e_bin (e_fld 0 rfl (e_nm rfl) rfl) (e_fn 11 rfl (l_cons (e_nm rfl) (l_cons (e_int) (l_nil) rfl) rfl) rfl rfl)) (l_nil) rfl) rfl rfl) (e_int))) (e_nm rfl) (e_int) rfl rfl rfl (fun _ => rfl)) (b_nil)) (b_nil)) (b_cons (s_for (i_seq (e_lst (l_cons (e_int) (l_cons (e_int) (l_nil) rfl) rfl))) (t_nm rfl) (b_cons (s_if (c_cmp (e_bin (e_nm rfl) (e_bin (e_int) (e_nm rfl))) (e_int) rfl) (b_cons (s_ixS (e_ix (e_lst (l_cons (e_int) (l_cons (e_int) (l_cons (e_bin (e_neg (e_int)) (e_fn 11 rfl (l_cons (e_nm rfl) (l_cons (e_bin (e_int) (e_int)) (l_nil) rfl) rfl) rfl rfl)) (l_cons (e_bin (e_int) (e_fn 11 rfl (l_cons (e_nm rfl) (l_cons (e_bin (e_int) (e_int)) (l_nil) rfl) rfl) rfl rfl)) (l_nil) rfl) rfl) rfl) rfl)) (e_fn 11 rfl (l_cons (e_nm rfl) (l_cons (e_int) (l_nil) rfl) rfl) rfl rfl) (fun _ _ => rfl)) (e_nm rfl) (e_nm rfl) rfl rfl rfl (fun _ => rfl)) (b_nil)) (b_nil)) (b_nil)) (fun _ => rfl)) (b_cons (s_if (c_cmp (e_ix (e_nm rfl) (e_int) (fun _ _ => rfl)) (e_bin (e_ix (e_nm rfl) (e_int) (fun _ _ => rfl)) (e_ix (e_nm rfl) (e_int) (fun _ _ => rfl))) rfl) (b_cons (s_set rfl (e_ix (e_nm rfl) (e_int) (fun _ _ => rfl)) rfl) (b_nil)) (b_nil)) (b_cons (s_for (i_seq (e_lst (l_cons (e_int) (l_cons (e_int) (l_nil) rfl) rfl))) (t_nm rfl) (b_cons (s_if (c_of (v_or (c_cmp (e_ix (e_nm rfl) (e_nm rfl) (fun _ _ => rfl)) (e_int) rfl) (v_or1 (c_cmp (e_ix (e_nm rfl) (e_nm rfl) (fun _ _ => rfl)) (e_int) rfl)))) (b_cons (s_set rfl (e_ix (e_nm rfl) (e_nm rfl) (fun _ _ => rfl)) rfl) (b_nil)) (b_nil)) (b_nil)) (fun _ => rfl)) (b_cons (s_set rfl (e_frz (e_mk 2 rfl rfl rfl (l_cons (e_ix (e_nm rfl) (e_int) (fun _ _ => rfl)) (l_cons (e_ix (e_nm rfl) (e_int) (fun _ _ => rfl)) (l_cons (e_frz (e_bin (e_lst (l_cons (e_bin (e_tup (l_cons (e_tup (l_cons (e_int) (l_cons (e_int) (l_nil) rfl) rfl)) (l_nil) rfl)) (e_ix (e_nm rfl) (e_int) (fun _ _ => rfl))) (l_nil) rfl)) (e_fld 5 rfl (e_nm rfl) rfl))) (l_nil) rfl) rfl) rfl) (k_nil) rfl rfl rfl rfl)) rfl) (b_cons (s_set rfl (e_fn 15 rfl (l_cons (e_ix (e_nm rfl) (e_int) (fun _ _ => rfl)) (l_cons (e_ix (e_nm rfl) (e_int) (fun _ _ => rfl)) (l_cons (e_nm rfl) (l_nil) rfl) rfl) rfl) rfl rfl) rfl) (b_cons (s_if (c_cmp (e_nm rfl) (e_non) rfl) (b_cons (s_ret (e_cmp (e_ix (e_nm rfl) (e_int) (fun _ _ => rfl)) (e_str) rfl)) (b_nil)) (b_nil)) (b_cons (s_ret (e_fn 10 rfl (l_cons (e_nm rfl) (l_cons (e_tup (l_cons (e_str) (l_cons (e_nm rfl) (l_nil) rfl) rfl)) (l_nil) rfl) rfl) rfl rfl)) (b_nil))))))))))))
abbrev s_law : Stmt := top 56
theorem sc_law : ScA ["script", "pool", "calls", "answers", "states", "rare", "rows", "origin", "control", "contest", "k", "s", "call", "answer", "due", "told", "other", "verdict", "kept"] ["script"] ["script", "pool", "calls", "answers", "states", "rare", "rows", "origin", "control", "contest", "k", "s", "call", "answer", "due", "told", "other", "verdict", "kept"] ["_law_pool", "_law_draw", "_law_contest_rows", "Control", "list", "Contest", "_law_same", "range", "_law_ranks", "ranks", "_law_ranks_right", "settle", "_law_settled", "shows_kept", "shows_lost", "_law_refusals"] s_law :=
  ⟨⟨rfl, rfl, rfl, by decide +kernel, rfl, by decide +kernel, by decide +kernel⟩, by decide +kernel, by decide +kernel, by decide +kernel⟩
theorem d_law {P : Program} {w : World} {K : PySem.W.Frag} {mg : Str → Option Value} {base : Heap} {f : Addr} : Der P w K mg base T0 ["script", "pool", "calls", "answers", "states", "rare", "rows", "origin", "control", "contest", "k", "s", "call", "answer", "due", "told", "other", "verdict", "kept"] ["script", "pool", "calls", "answers", "states", "rare", "rows", "origin", "control", "contest", "k", "s", "call", "answer", "due", "told", "other", "verdict", "kept"] ["_law_pool", "_law_draw", "_law_contest_rows", "Control", "list", "Contest", "_law_same", "range", "_law_ranks", "ranks", "_law_ranks_right", "settle", "_law_settled", "shows_kept", "shows_lost", "_law_refusals"] s_law "law" f j_law := fun J _ cdv A₀ outer s H E _ _ =>
  b_cons (s_set rfl (e_fn 12 rfl (l_cons (e_nm rfl) (l_cons (e_int) (l_nil) rfl) rfl) rfl rfl) rfl) (b_cons (s_set rfl (e_bin (e_int) (e_fn 11 rfl (l_cons (e_nm rfl) (l_cons (e_int) (l_nil) rfl) rfl) rfl rfl)) rfl) (b_cons (s_set rfl (e_bin (e_int) (e_fn 11 rfl (l_cons (e_nm rfl) (l_cons (e_int) (l_nil) rfl) rfl) rfl rfl)) rfl) (b_cons (s_set rfl (e_bin (e_int) (e_fn 11 rfl (l_cons (e_nm rfl) (l_cons (e_int) (l_nil) rfl) rfl) rfl rfl)) rfl) (b_cons (s_set rfl (e_fn 11 rfl (l_cons (e_nm rfl) (l_cons (e_int) (l_nil) rfl) rfl) rfl rfl) rfl) (b_cons (s_if (c_cmp (e_nm rfl) (e_int) rfl) (b_cons (s_set rfl (e_bin (e_int) (e_fn 11 rfl (l_cons (e_nm rfl) (l_cons (e_int) (l_nil) rfl) rfl) rfl rfl)) rfl) (b_cons (s_if (c_cmp (e_fn 11 rfl (l_cons (e_nm rfl) (l_cons (e_int) (l_nil) rfl) rfl) rfl rfl) (e_int) rfl) (b_cons (s_set rfl (e_int) rfl) (b_nil)) (b_nil)) (b_nil))) (b_nil)) (b_cons (s_if (c_cmp (e_nm rfl) (e_int) rfl) (b_cons (s_set rfl (e_ix (e_lst (l_cons (e_int) (l_cons (e_int) (l_cons (e_int) (l_cons (e_int) (l_nil) rfl) rfl) rfl) rfl)) (e_fn 11 rfl (l_cons (e_nm rfl) (l_cons (e_int) (l_nil) rfl) rfl) rfl rfl) (fun _ _ => rfl)) rfl) (b_cons (s_set rfl (e_bin (e_int) (e_nm rfl)) rfl) (b_nil))) (b_nil)) (b_cons (s_set rfl (e_fn 16 rfl (l_cons (e_nm rfl) (l_cons (e_int) (l_cons (e_nm rfl) (l_cons (e_nm rfl) (l_cons (e_nm rfl) (l_cons (e_nm rfl) (l_nil) rfl) rfl) rfl) rfl) rfl) rfl) rfl rfl) rfl) (b_cons (s_set rfl (e_fn 11 rfl (l_cons (e_nm rfl) (l_cons (e_nm rfl) (l_nil) rfl) rfl) rfl rfl) rfl) (b_cons (s_set rfl (e_frz (e_mk 0 rfl rfl rfl (l_cons (e_bin (e_nm rfl) (e_nm rfl)) (l_cons (e_int) (l_cons (e_frz (e_callT 11 rfl (l_cons (e_nm rfl) (l_nil) rfl) rfl rfl)) (l_nil) rfl) rfl) rfl) (k_cons (e_nm rfl) (k_nil)) rfl rfl rfl rfl)) rfl) (b_cons (s_set rfl (e_frz (e_mk 1 rfl rfl rfl (l_cons (e_nm rfl) (l_cons (e_nm rfl) (l_cons (e_nm rfl) (l_nil) rfl) rfl) rfl) (k_nil) rfl rfl rfl rfl)) rfl) (b_cons (s_if (c_of (v_or (c_not (c_val (e_fn 10 rfl (l_cons (e_frz (e_lst (l_cons (e_fld 2 rfl (e_nm rfl) rfl) (l_cons (e_fld 3 rfl (e_nm rfl) rfl) (l_nil) rfl) rfl))) (l_cons (e_frz (e_lst (l_cons (e_nm rfl) (l_cons (e_nm rfl) (l_nil) rfl) rfl))) (l_nil) rfl) rfl) rfl rfl) (fun _ => rfl))) (v_or1 (c_cmp (e_cmp (e_fld 4 rfl (e_nm rfl) rfl) (e_nm rfl) rfl) (e_bl) rfl)))) (b_cons (s_ret (e_bl)) (b_nil)) (b_nil)) (b_cons (s_for (i_rng1 0 rfl (e_int) rfl rfl) (t_nm rfl) (b_cons (s_set rfl (e_fn 11 rfl (l_cons (e_nm rfl) (l_cons (e_nm rfl) (l_nil) rfl) rfl) rfl rfl) rfl) (b_cons (s_set rfl (e_fn 11 rfl (l_cons (e_nm rfl) (l_cons (e_nm rfl) (l_nil) rfl) rfl) rfl rfl) rfl) (b_cons (s_set rfl (e_fn 11 rfl (l_cons (e_nm rfl) (l_cons (e_nm rfl) (l_nil) rfl) rfl) rfl rfl) rfl) (b_cons (s_if (c_not (c_val (e_fn 10 rfl (l_cons (e_own 1 rfl rfl (e_nm rfl) (l_cons (e_nm rfl) (l_cons (e_nm rfl) (l_cons (e_nm rfl) (l_nil) rfl) rfl) rfl) rfl rfl rfl) (l_cons (e_ix (e_ix (e_nm rfl) (e_nm rfl) (fun _ _ => rfl)) (e_bin (e_bin (e_nm rfl) (e_nm rfl)) (e_nm rfl)) (fun _ _ => rfl)) (l_nil) rfl) rfl) rfl rfl) (fun _ => rfl))) (b_cons (s_ret (e_bl)) (b_nil)) (b_nil)) (b_nil))))) (fun _ => rfl)) (b_cons (s_set rfl (e_ix (e_fn 13 rfl (l_cons (e_nm rfl) (l_cons (e_nm rfl) (l_cons (e_nm rfl) (l_nil) rfl) rfl) rfl) rfl rfl) (e_int) (fun _ _ => rfl)) rfl) (b_cons (s_set rfl (e_fn 17 rfl (l_cons (e_nm rfl) (l_nil) rfl) rfl rfl) rfl) (b_cons (s_if (c_not (c_val (e_fn 10 rfl (l_cons (e_nm rfl) (l_cons (e_frz (e_callT 11 rfl (l_cons (e_nm rfl) (l_nil) rfl) rfl rfl)) (l_nil) rfl) rfl) rfl rfl) (fun _ => rfl))) (b_cons (s_ret (e_bl)) (b_nil)) (b_nil)) (b_cons (s_if (c_of (v_and (c_cmp (e_bin (e_nm rfl) (e_nm rfl)) (e_int) rfl) (v_and1 (c_not (c_val (e_fn 18 rfl (l_cons (e_nm rfl) (l_cons (e_nm rfl) (l_cons (e_nm rfl) (l_cons (e_nm rfl) (l_nil) rfl) rfl) rfl) rfl) rfl rfl) (fun _ => rfl)))))) (b_cons (s_ret (e_bl)) (b_nil)) (b_nil)) (b_cons (s_ex (e_mth rfl (e_nm rfl) (l_cons (e_int) (l_nil) rfl) rfl rfl rfl rfl rfl) rfl) (b_cons (s_for (i_seq (e_lst (l_cons (e_nm rfl) (l_cons (e_int) (l_cons (e_bin (e_nm rfl) (e_int)) (l_nil) rfl) rfl) rfl))) (t_nm rfl) (b_cons (s_set rfl (e_frz (e_mk 1 rfl rfl rfl (l_cons (e_nm rfl) (l_cons (e_nm rfl) (l_cons (e_own 3 rfl rfl (e_nm rfl) (l_cons (e_nm rfl) (l_nil) rfl) rfl rfl rfl) (l_nil) rfl) rfl) rfl) (k_nil) rfl rfl rfl rfl)) rfl) (b_cons (s_set rfl (e_fn 19 rfl (l_cons (e_nm rfl) (l_nil) rfl) rfl rfl) rfl) (b_cons (s_if (c_not (c_val (e_fn 10 rfl (l_cons (e_nm rfl) (l_cons (e_fn 20 rfl (l_cons (e_nm rfl) (l_cons (e_nm rfl) (l_cons (e_nm rfl) (l_cons (e_nm rfl) (l_nil) rfl) rfl) rfl) rfl) rfl rfl) (l_nil) rfl) rfl) rfl rfl) (fun _ => rfl))) (b_cons (s_ret (e_bl)) (b_nil)) (b_nil)) (b_cons (s_set rfl (e_cmp (e_ix (e_nm rfl) (e_int) (fun _ _ => rfl)) (e_str) rfl) rfl) (b_cons (s_if (c_of (v_and (c_val (e_nm rfl) (fun _ => rfl)) (v_and1 (c_not (c_val (e_fn 10 rfl (l_cons (e_fn 21 rfl (l_cons (e_nm rfl) (l_cons (e_ix (e_nm rfl) (e_int) (fun _ _ => rfl)) (l_nil) rfl) rfl) rfl rfl) (l_cons (e_bl) (l_nil) rfl) rfl) rfl rfl) (fun _ => rfl)))))) (b_cons (s_ret (e_bl)) (b_nil)) (b_nil)) (b_cons (s_if (c_of (v_and (c_not (c_val (e_nm rfl) (fun _ => rfl))) (v_and1 (c_not (c_val (e_fn 10 rfl (l_cons (e_fn 22 rfl (l_cons (e_nm rfl) (l_cons (e_ix (e_nm rfl) (e_int) (fun _ _ => rfl)) (l_nil) rfl) rfl) rfl rfl) (l_cons (e_bl) (l_nil) rfl) rfl) rfl rfl) (fun _ => rfl)))))) (b_cons (s_ret (e_bl)) (b_nil)) (b_nil)) (b_cons (s_if (c_not (c_val (e_fn 10 rfl (l_cons (e_fn 17 rfl (l_cons (e_nm rfl) (l_nil) rfl) rfl rfl) (l_cons (e_frz (e_callT 11 rfl (l_cons (e_nm rfl) (l_nil) rfl) rfl rfl)) (l_nil) rfl) rfl) rfl rfl) (fun _ => rfl))) (b_cons (s_ret (e_bl)) (b_nil)) (b_nil)) (b_nil)))))))) (fun _ => rfl)) (b_cons (s_for (i_rng1 0 rfl (e_int) rfl rfl) (t_nm rfl) (b_cons (s_if (c_not (c_val (e_fn 23 rfl (l_cons (e_nm rfl) (l_cons (e_nm rfl) (l_cons (e_nm rfl) (l_cons (e_nm rfl) (l_nil) rfl) rfl) rfl) rfl) rfl rfl) (fun _ => rfl))) (b_cons (s_ret (e_bl)) (b_nil)) (b_nil)) (b_nil)) (fun _ => rfl)) (b_cons (s_ret (e_bl)) (b_nil)))))))))))))))))))))
end Y
set_option Elab.async false
set_option linter.all false
set_option maxRecDepth 100000
set_option maxHeartbeats 0
set_option autoImplicit false
namespace Y
open PySem PySem.Spec PyProof.Rows L2 He
abbrev R0 : PySem.W.OpenRow := PySem.W.OpenLaw.row PySem.Challenge.rw_gatesofcloth_k95_whole_contests_settled
def W0 : LawD := ⟨[(0, "FabricError"), (1, "SizeError"), (2, "BitsError"), (3, "MachineError"), (4, "ProgramError"), (5, "CircuitError"), (6, "NetlistError"), (7, "FanoutError"), (8, "ColouringError"), (9, "EdgeError"), (10, "PathError"), (11, "TapeError"), (12, "StoreError"), (13, "HistoryError"), (14, "CommandError"), (15, "ControlError"), (16, "FeedError"), (17, "ExchangeError"), (33, "Contest"), (32, "Control")], eqt, T0, PySem.Challenge.pw_gatesofcloth_k95_whole_contests_settled.main.file⟩
def dd_Contest___init : He.DefD := ⟨("Contest", some "__init__"), "__init__", "Contest.__init__", defArgs s_Contest___init, defBody s_Contest___init, defScope s_Contest___init, [], []⟩
def dd_Contest_outcome : He.DefD := ⟨("Contest", some "outcome"), "outcome", "Contest.outcome", defArgs s_Contest_outcome, defBody s_Contest_outcome, defScope s_Contest_outcome, [], []⟩
def dd_Contest_outcomes : He.DefD := ⟨("Contest", some "outcomes"), "outcomes", "Contest.outcomes", defArgs s_Contest_outcomes, defBody s_Contest_outcomes, defScope s_Contest_outcomes, [], []⟩
def dd_forces : He.DefD := ⟨("_forces", none), "_forces", "_forces", defArgs s_forces, defBody s_forces, defScope s_forces, [], []⟩
def dd_forcing_call : He.DefD := ⟨("_forcing_call", none), "_forcing_call", "_forcing_call", defArgs s_forcing_call, defBody s_forcing_call, defScope s_forcing_call, [], []⟩
def dd_forced_calls : He.DefD := ⟨("_forced_calls", none), "_forced_calls", "_forced_calls", defArgs s_forced_calls, defBody s_forced_calls, defScope s_forced_calls, [], []⟩
def dd_ranked_calls : He.DefD := ⟨("ranked_calls", none), "ranked_calls", "ranked_calls", defArgs s_ranked_calls, defBody s_ranked_calls, defScope s_ranked_calls, [], []⟩
def dd_ranks : He.DefD := ⟨("ranks", none), "ranks", "ranks", defArgs s_ranks, defBody s_ranks, defScope s_ranks, [], []⟩
def dd_safe_answer : He.DefD := ⟨("_safe_answer", none), "_safe_answer", "_safe_answer", defArgs s_safe_answer, defBody s_safe_answer, defScope s_safe_answer, [], []⟩
def dd_settle : He.DefD := ⟨("settle", none), "settle", "settle", defArgs s_settle, defBody s_settle, defScope s_settle, [], []⟩
def dd_has_right_states : He.DefD := ⟨("_has_right_states", none), "_has_right_states", "_has_right_states", defArgs s_has_right_states, defBody s_has_right_states, defScope s_has_right_states, [], []⟩
def dd_are_answers : He.DefD := ⟨("_are_answers", none), "_are_answers", "_are_answers", defArgs s_are_answers, defBody s_are_answers, defScope s_are_answers, [], []⟩
def dd_keeps : He.DefD := ⟨("_keeps", none), "_keeps", "_keeps", defArgs s_keeps, defBody s_keeps, defScope s_keeps, [], []⟩
def dd_shows_kept : He.DefD := ⟨("shows_kept", none), "shows_kept", "shows_kept", defArgs s_shows_kept, defBody s_shows_kept, defScope s_shows_kept, [], []⟩
def dd_forces_down : He.DefD := ⟨("_forces_down", none), "_forces_down", "_forces_down", defArgs s_forces_down, defBody s_forces_down, defScope s_forces_down, [], []⟩
def dd_shows_lost : He.DefD := ⟨("shows_lost", none), "shows_lost", "shows_lost", defArgs s_shows_lost, defBody s_shows_lost, defScope s_shows_lost, [], []⟩
def dd_is_entry : He.DefD := ⟨("_is_entry", none), "_is_entry", "_is_entry", defArgs s_is_entry, defBody s_is_entry, defScope s_is_entry, [], []⟩
def dd_Control___init : He.DefD := ⟨("Control", some "__init__"), "__init__", "Control.__init__", defArgs s_Control___init, defBody s_Control___init, defScope s_Control___init, [], [("start", .int 0)]⟩
def dd_Control___eq : He.DefD := ⟨("Control", some "__eq__"), "__eq__", "Control.__eq__", defArgs s_Control___eq, defBody s_Control___eq, defScope s_Control___eq, [], []⟩
def dd_Control_entry : He.DefD := ⟨("Control", some "entry"), "entry", "Control.entry", defArgs s_Control_entry, defBody s_Control_entry, defScope s_Control_entry, [], []⟩
def dd_Control_started : He.DefD := ⟨("Control", some "started"), "started", "Control.started", defArgs s_Control_started, defBody s_Control_started, defScope s_Control_started, [], []⟩
def dd_L_pool : He.DefD := ⟨("_law_pool", none), "_law_pool", "_law_pool", defArgs s_L_pool, defBody s_L_pool, defScope s_L_pool, [], []⟩
def dd_L_draw : He.DefD := ⟨("_law_draw", none), "_law_draw", "_law_draw", defArgs s_L_draw, defBody s_L_draw, defScope s_L_draw, [], []⟩
def dd_L_same : He.DefD := ⟨("_law_same", none), "_law_same", "_law_same", defArgs s_L_same, defBody s_L_same, defScope s_L_same, [], []⟩
def dd_L_contest_rows : He.DefD := ⟨("_law_contest_rows", none), "_law_contest_rows", "_law_contest_rows", defArgs s_L_contest_rows, defBody s_L_contest_rows, defScope s_L_contest_rows, [], []⟩
def dd_L_ranks : He.DefD := ⟨("_law_ranks", none), "_law_ranks", "_law_ranks", defArgs s_L_ranks, defBody s_L_ranks, defScope s_L_ranks, [], []⟩
def dd_L_settled : He.DefD := ⟨("_law_settled", none), "_law_settled", "_law_settled", defArgs s_L_settled, defBody s_L_settled, defScope s_L_settled, [], []⟩
def dd_L_asked : He.DefD := ⟨("_law_asked", none), "_law_asked", "_law_asked", defArgs s_L_asked, defBody s_L_asked, defScope s_L_asked, [], []⟩
def dd_L_forced : He.DefD := ⟨("_law_forced", none), "_law_forced", "_law_forced", defArgs s_L_forced, defBody s_L_forced, defScope s_L_forced, [], []⟩
def dd_L_ranks_right : He.DefD := ⟨("_law_ranks_right", none), "_law_ranks_right", "_law_ranks_right", defArgs s_L_ranks_right, defBody s_L_ranks_right, defScope s_L_ranks_right, [], []⟩
def dd_L_refusals : He.DefD := ⟨("_law_refusals", none), "_law_refusals", "_law_refusals", defArgs s_L_refusals, defBody s_L_refusals, defScope s_L_refusals, [], []⟩
def dd_law : He.DefD := ⟨("law", none), "law", "law", defArgs s_law, defBody s_law, defScope s_law, [], []⟩
def fn0 : List He.DefD := [dd_Contest___init, dd_Contest_outcome, dd_Contest_outcomes, dd_forces, dd_forcing_call, dd_forced_calls, dd_ranked_calls, dd_ranks, dd_safe_answer, dd_settle, dd_has_right_states, dd_are_answers, dd_keeps, dd_shows_kept, dd_forces_down, dd_shows_lost, dd_is_entry, dd_Control___init, dd_Control___eq, dd_Control_entry, dd_Control_started, dd_L_pool, dd_L_draw, dd_L_same, dd_L_contest_rows, dd_L_ranks, dd_L_settled, dd_L_asked, dd_L_forced, dd_L_ranks_right, dd_L_refusals, dd_law]
def sup0 : List (Nat × Arguments × List Stmt × Scope) := [(1, defArgs (cbody 3 0), defBody (cbody 3 0), defScope (cbody 3 0)), (15, defArgs (cbody 17 0), defBody (cbody 17 0), defScope (cbody 17 0))]
def loose0 : List PySem.Str := ["_wall", "__name__", "FabricError", "SizeError", "BitsError", "MachineError", "ProgramError", "CircuitError", "NetlistError", "FanoutError", "ColouringError", "EdgeError"]
def loose1 : List PySem.Str := ["PathError", "TapeError", "StoreError", "HistoryError", "CommandError", "ControlError", "FeedError", "ExchangeError", "MOST_CALLS", "MOST_ANSWERS", "LOST", "Contest"]
def loose2 : List PySem.Str := ["KEPT_WORD", "LOST_WORD", "_forces", "_forcing_call", "_forced_calls", "ranked_calls", "ranks", "_safe_answer", "settle", "_has_right_states", "_are_answers", "_keeps"]
def loose3 : List PySem.Str := ["shows_kept", "_forces_down", "shows_lost", "_is_entry", "Control", "_law_pool", "_law_draw", "_law_same", "_law_contest_rows", "_law_ranks", "_law_settled", "_law_asked"]
def loose4 : List PySem.Str := ["_law_forced", "_law_ranks_right", "_law_refusals"]
abbrev loose : List PySem.Str := loose0 ++ (loose1 ++ (loose2 ++ (loose3 ++ (loose4))))
abbrev hk : PySem.W.Hook := hookY 5 fn0 W0 sup0
def obs0 (s : PySem.W.SharedT) : AlY := obsYG 5 fn0 W0 sup0 (HandSHeadRun.getT s)
theorem ob_eq (s : PySem.W.SharedT) : obs0 s = hk.obs s.abs := obsYG_eq (HandSHeadRun.getT_eq s)
theorem run (w : World) : HandSHeadRun.RunEq R0 (PySem.W.view R0.prog [56]) hk obs0 30000 loose w := by
  intro os
  kernel_rfl
end Y
set_option Elab.async false
set_option linter.all false
set_option maxRecDepth 100000
set_option maxHeartbeats 0
set_option autoImplicit false
namespace Y
open PySem PySem.Spec PyProof.Rows L2 He
section
variable {P : Program} {w : World} {K : PySem.W.Frag} {mg : Str → Option Value} {base h : Heap}
theorem fok_Contest___init (c : SaysY fn0 W0 sup0 K) : ∃ fd, FunD K "__init__" "Contest.__init__" (defArgs s_Contest___init) (defBody s_Contest___init) (defScope s_Contest___init) [] (dd_Contest___init.kws K) (He.fAd K ("Contest", some "__init__")) fd ∧ PySem.W.keepIn K (.ref (He.fAd K ("Contest", some "__init__"))) = true ∧ Binds K fd ["self", "calls", "answers", "control"] [] ∧ ∀ k, LkB P w K mg base T0 (cmK K W0) k (jFn (cmK K W0) tab k) (jFm (cmK K W0) tab k) → FnOk P w K mg base (L2.CX P w) (k + 1) (He.fAd K ("Contest", some "__init__")) fd ["self", "calls", "answers", "control"] (spOf K (jFn (cmK K W0) tab (k + 1) i_Contest___init)) := by
  obtain ⟨fd, F, h⟩ := def_ok (tab := tab) (P := P) (w := w) (mg := mg) (base := base) c 0 (d := dd_Contest___init) rfl rfl rfl rfl rfl (id := i_Contest___init) (j := j_Contest___init) rfl sc_Contest___init rfl rfl (fun {f} => d_Contest___init)
  exact ⟨fd, F, F.kp, F.bindsN fun _ _ _ _ _ _ us hl => match us, hl with | [_, _, _, _], _ => rfl, h⟩
theorem fo_Contest___init (c : SaysY fn0 W0 sup0 K) : DefOk P w K mg base T0 (cmK K W0) tab i_Contest___init (He.fAd K ("Contest", some "__init__")) := by
  obtain ⟨fd, F, kp, b, h⟩ := fok_Contest___init (P := P) (w := w) (mg := mg) (base := base) c
  exact ⟨fd, _, b, h⟩
theorem fok_Contest_outcome (c : SaysY fn0 W0 sup0 K) : ∃ fd, FunD K "outcome" "Contest.outcome" (defArgs s_Contest_outcome) (defBody s_Contest_outcome) (defScope s_Contest_outcome) [] (dd_Contest_outcome.kws K) (He.fAd K ("Contest", some "outcome")) fd ∧ PySem.W.keepIn K (.ref (He.fAd K ("Contest", some "outcome"))) = true ∧ Binds K fd ["self", "state", "call", "answer"] [] ∧ ∀ k, LkB P w K mg base T0 (cmK K W0) k (jFn (cmK K W0) tab k) (jFm (cmK K W0) tab k) → FnOk P w K mg base (L2.CX P w) (k + 1) (He.fAd K ("Contest", some "outcome")) fd ["self", "state", "call", "answer"] (spOf K (jFn (cmK K W0) tab (k + 1) i_Contest_outcome)) := by
  obtain ⟨fd, F, h⟩ := def_ok (tab := tab) (P := P) (w := w) (mg := mg) (base := base) c 1 (d := dd_Contest_outcome) rfl rfl rfl rfl rfl (id := i_Contest_outcome) (j := j_Contest_outcome) rfl sc_Contest_outcome rfl rfl (fun {f} => d_Contest_outcome)
  exact ⟨fd, F, F.kp, F.bindsN fun _ _ _ _ _ _ us hl => match us, hl with | [_, _, _, _], _ => rfl, h⟩
theorem fo_Contest_outcome (c : SaysY fn0 W0 sup0 K) : DefOk P w K mg base T0 (cmK K W0) tab i_Contest_outcome (He.fAd K ("Contest", some "outcome")) := by
  obtain ⟨fd, F, kp, b, h⟩ := fok_Contest_outcome (P := P) (w := w) (mg := mg) (base := base) c
  exact ⟨fd, _, b, h⟩
theorem fok_Contest_outcomes (c : SaysY fn0 W0 sup0 K) : ∃ fd, FunD K "outcomes" "Contest.outcomes" (defArgs s_Contest_outcomes) (defBody s_Contest_outcomes) (defScope s_Contest_outcomes) [] (dd_Contest_outcomes.kws K) (He.fAd K ("Contest", some "outcomes")) fd ∧ PySem.W.keepIn K (.ref (He.fAd K ("Contest", some "outcomes"))) = true ∧ Binds K fd ["self", "state", "call"] [] ∧ ∀ k, LkB P w K mg base T0 (cmK K W0) k (jFn (cmK K W0) tab k) (jFm (cmK K W0) tab k) → FnOk P w K mg base (L2.CX P w) (k + 1) (He.fAd K ("Contest", some "outcomes")) fd ["self", "state", "call"] (spOf K (jFn (cmK K W0) tab (k + 1) i_Contest_outcomes)) := by
  obtain ⟨fd, F, h⟩ := def_ok (tab := tab) (P := P) (w := w) (mg := mg) (base := base) c 2 (d := dd_Contest_outcomes) rfl rfl rfl rfl rfl (id := i_Contest_outcomes) (j := j_Contest_outcomes) rfl sc_Contest_outcomes rfl rfl (fun {f} => d_Contest_outcomes)
  exact ⟨fd, F, F.kp, F.bindsN fun _ _ _ _ _ _ us hl => match us, hl with | [_, _, _], _ => rfl, h⟩
theorem fo_Contest_outcomes (c : SaysY fn0 W0 sup0 K) : DefOk P w K mg base T0 (cmK K W0) tab i_Contest_outcomes (He.fAd K ("Contest", some "outcomes")) := by
  obtain ⟨fd, F, kp, b, h⟩ := fok_Contest_outcomes (P := P) (w := w) (mg := mg) (base := base) c
  exact ⟨fd, _, b, h⟩
theorem fok_forces (c : SaysY fn0 W0 sup0 K) : ∃ fd, FunD K "_forces" "_forces" (defArgs s_forces) (defBody s_forces) (defScope s_forces) [] (dd_forces.kws K) (He.fAd K ("_forces", none)) fd ∧ PySem.W.keepIn K (.ref (He.fAd K ("_forces", none))) = true ∧ Binds K fd ["contest", "state", "call", "found"] [] ∧ ∀ k, LkB P w K mg base T0 (cmK K W0) k (jFn (cmK K W0) tab k) (jFm (cmK K W0) tab k) → FnOk P w K mg base (L2.CX P w) (k + 1) (He.fAd K ("_forces", none)) fd ["contest", "state", "call", "found"] (spOf K (jFn (cmK K W0) tab (k + 1) i_forces)) := by
  obtain ⟨fd, F, h⟩ := def_ok (tab := tab) (P := P) (w := w) (mg := mg) (base := base) c 3 (d := dd_forces) rfl rfl rfl rfl rfl (id := i_forces) (j := j_forces) rfl sc_forces rfl rfl (fun {f} => d_forces)
  exact ⟨fd, F, F.kp, F.bindsN fun _ _ _ _ _ _ us hl => match us, hl with | [_, _, _, _], _ => rfl, h⟩
theorem fo_forces (c : SaysY fn0 W0 sup0 K) : DefOk P w K mg base T0 (cmK K W0) tab i_forces (He.fAd K ("_forces", none)) := by
  obtain ⟨fd, F, kp, b, h⟩ := fok_forces (P := P) (w := w) (mg := mg) (base := base) c
  exact ⟨fd, _, b, h⟩
theorem fok_forcing_call (c : SaysY fn0 W0 sup0 K) : ∃ fd, FunD K "_forcing_call" "_forcing_call" (defArgs s_forcing_call) (defBody s_forcing_call) (defScope s_forcing_call) [] (dd_forcing_call.kws K) (He.fAd K ("_forcing_call", none)) fd ∧ PySem.W.keepIn K (.ref (He.fAd K ("_forcing_call", none))) = true ∧ Binds K fd ["contest", "state", "found"] [] ∧ ∀ k, LkB P w K mg base T0 (cmK K W0) k (jFn (cmK K W0) tab k) (jFm (cmK K W0) tab k) → FnOk P w K mg base (L2.CX P w) (k + 1) (He.fAd K ("_forcing_call", none)) fd ["contest", "state", "found"] (spOf K (jFn (cmK K W0) tab (k + 1) i_forcing_call)) := by
  obtain ⟨fd, F, h⟩ := def_ok (tab := tab) (P := P) (w := w) (mg := mg) (base := base) c 4 (d := dd_forcing_call) rfl rfl rfl rfl rfl (id := i_forcing_call) (j := j_forcing_call) rfl sc_forcing_call rfl rfl (fun {f} => d_forcing_call)
  exact ⟨fd, F, F.kp, F.bindsN fun _ _ _ _ _ _ us hl => match us, hl with | [_, _, _], _ => rfl, h⟩
theorem fo_forcing_call (c : SaysY fn0 W0 sup0 K) : DefOk P w K mg base T0 (cmK K W0) tab i_forcing_call (He.fAd K ("_forcing_call", none)) := by
  obtain ⟨fd, F, kp, b, h⟩ := fok_forcing_call (P := P) (w := w) (mg := mg) (base := base) c
  exact ⟨fd, _, b, h⟩
theorem fok_forced_calls (c : SaysY fn0 W0 sup0 K) : ∃ fd, FunD K "_forced_calls" "_forced_calls" (defArgs s_forced_calls) (defBody s_forced_calls) (defScope s_forced_calls) [] (dd_forced_calls.kws K) (He.fAd K ("_forced_calls", none)) fd ∧ PySem.W.keepIn K (.ref (He.fAd K ("_forced_calls", none))) = true ∧ Binds K fd ["contest", "found"] [] ∧ ∀ k, LkB P w K mg base T0 (cmK K W0) k (jFn (cmK K W0) tab k) (jFm (cmK K W0) tab k) → FnOk P w K mg base (L2.CX P w) (k + 1) (He.fAd K ("_forced_calls", none)) fd ["contest", "found"] (spOf K (jFn (cmK K W0) tab (k + 1) i_forced_calls)) := by
  obtain ⟨fd, F, h⟩ := def_ok (tab := tab) (P := P) (w := w) (mg := mg) (base := base) c 5 (d := dd_forced_calls) rfl rfl rfl rfl rfl (id := i_forced_calls) (j := j_forced_calls) rfl sc_forced_calls rfl rfl (fun {f} => d_forced_calls)
  exact ⟨fd, F, F.kp, F.bindsN fun _ _ _ _ _ _ us hl => match us, hl with | [_, _], _ => rfl, h⟩
theorem fo_forced_calls (c : SaysY fn0 W0 sup0 K) : DefOk P w K mg base T0 (cmK K W0) tab i_forced_calls (He.fAd K ("_forced_calls", none)) := by
  obtain ⟨fd, F, kp, b, h⟩ := fok_forced_calls (P := P) (w := w) (mg := mg) (base := base) c
  exact ⟨fd, _, b, h⟩
theorem fok_ranked_calls (c : SaysY fn0 W0 sup0 K) : ∃ fd, FunD K "ranked_calls" "ranked_calls" (defArgs s_ranked_calls) (defBody s_ranked_calls) (defScope s_ranked_calls) [] (dd_ranked_calls.kws K) (He.fAd K ("ranked_calls", none)) fd ∧ PySem.W.keepIn K (.ref (He.fAd K ("ranked_calls", none))) = true ∧ Binds K fd ["contest"] [] ∧ ∀ k, LkB P w K mg base T0 (cmK K W0) k (jFn (cmK K W0) tab k) (jFm (cmK K W0) tab k) → FnOk P w K mg base (L2.CX P w) (k + 1) (He.fAd K ("ranked_calls", none)) fd ["contest"] (spOf K (jFn (cmK K W0) tab (k + 1) i_ranked_calls)) := by
  obtain ⟨fd, F, h⟩ := def_ok (tab := tab) (P := P) (w := w) (mg := mg) (base := base) c 6 (d := dd_ranked_calls) rfl rfl rfl rfl rfl (id := i_ranked_calls) (j := j_ranked_calls) rfl sc_ranked_calls rfl rfl (fun {f} => d_ranked_calls)
  exact ⟨fd, F, F.kp, F.bindsN fun _ _ _ _ _ _ us hl => match us, hl with | [_], _ => rfl, h⟩
theorem fo_ranked_calls (c : SaysY fn0 W0 sup0 K) : DefOk P w K mg base T0 (cmK K W0) tab i_ranked_calls (He.fAd K ("ranked_calls", none)) := by
  obtain ⟨fd, F, kp, b, h⟩ := fok_ranked_calls (P := P) (w := w) (mg := mg) (base := base) c
  exact ⟨fd, _, b, h⟩
theorem fok_ranks (c : SaysY fn0 W0 sup0 K) : ∃ fd, FunD K "ranks" "ranks" (defArgs s_ranks) (defBody s_ranks) (defScope s_ranks) [] (dd_ranks.kws K) (He.fAd K ("ranks", none)) fd ∧ PySem.W.keepIn K (.ref (He.fAd K ("ranks", none))) = true ∧ Binds K fd ["contest"] [] ∧ ∀ k, LkB P w K mg base T0 (cmK K W0) k (jFn (cmK K W0) tab k) (jFm (cmK K W0) tab k) → FnOk P w K mg base (L2.CX P w) (k + 1) (He.fAd K ("ranks", none)) fd ["contest"] (spOf K (jFn (cmK K W0) tab (k + 1) i_ranks)) := by
  obtain ⟨fd, F, h⟩ := def_ok (tab := tab) (P := P) (w := w) (mg := mg) (base := base) c 7 (d := dd_ranks) rfl rfl rfl rfl rfl (id := i_ranks) (j := j_ranks) rfl sc_ranks rfl rfl (fun {f} => d_ranks)
  exact ⟨fd, F, F.kp, F.bindsN fun _ _ _ _ _ _ us hl => match us, hl with | [_], _ => rfl, h⟩
theorem fo_ranks (c : SaysY fn0 W0 sup0 K) : DefOk P w K mg base T0 (cmK K W0) tab i_ranks (He.fAd K ("ranks", none)) := by
  obtain ⟨fd, F, kp, b, h⟩ := fok_ranks (P := P) (w := w) (mg := mg) (base := base) c
  exact ⟨fd, _, b, h⟩
theorem fok_safe_answer (c : SaysY fn0 W0 sup0 K) : ∃ fd, FunD K "_safe_answer" "_safe_answer" (defArgs s_safe_answer) (defBody s_safe_answer) (defScope s_safe_answer) [] (dd_safe_answer.kws K) (He.fAd K ("_safe_answer", none)) fd ∧ PySem.W.keepIn K (.ref (He.fAd K ("_safe_answer", none))) = true ∧ Binds K fd ["contest", "state", "call", "found"] [] ∧ ∀ k, LkB P w K mg base T0 (cmK K W0) k (jFn (cmK K W0) tab k) (jFm (cmK K W0) tab k) → FnOk P w K mg base (L2.CX P w) (k + 1) (He.fAd K ("_safe_answer", none)) fd ["contest", "state", "call", "found"] (spOf K (jFn (cmK K W0) tab (k + 1) i_safe_answer)) := by
  obtain ⟨fd, F, h⟩ := def_ok (tab := tab) (P := P) (w := w) (mg := mg) (base := base) c 8 (d := dd_safe_answer) rfl rfl rfl rfl rfl (id := i_safe_answer) (j := j_safe_answer) rfl sc_safe_answer rfl rfl (fun {f} => d_safe_answer)
  exact ⟨fd, F, F.kp, F.bindsN fun _ _ _ _ _ _ us hl => match us, hl with | [_, _, _, _], _ => rfl, h⟩
theorem fo_safe_answer (c : SaysY fn0 W0 sup0 K) : DefOk P w K mg base T0 (cmK K W0) tab i_safe_answer (He.fAd K ("_safe_answer", none)) := by
  obtain ⟨fd, F, kp, b, h⟩ := fok_safe_answer (P := P) (w := w) (mg := mg) (base := base) c
  exact ⟨fd, _, b, h⟩
theorem fok_settle (c : SaysY fn0 W0 sup0 K) : ∃ fd, FunD K "settle" "settle" (defArgs s_settle) (defBody s_settle) (defScope s_settle) [] (dd_settle.kws K) (He.fAd K ("settle", none)) fd ∧ PySem.W.keepIn K (.ref (He.fAd K ("settle", none))) = true ∧ Binds K fd ["contest"] [] ∧ ∀ k, LkB P w K mg base T0 (cmK K W0) k (jFn (cmK K W0) tab k) (jFm (cmK K W0) tab k) → FnOk P w K mg base (L2.CX P w) (k + 1) (He.fAd K ("settle", none)) fd ["contest"] (spOf K (jFn (cmK K W0) tab (k + 1) i_settle)) := by
  obtain ⟨fd, F, h⟩ := def_ok (tab := tab) (P := P) (w := w) (mg := mg) (base := base) c 9 (d := dd_settle) rfl rfl rfl rfl rfl (id := i_settle) (j := j_settle) rfl sc_settle rfl rfl (fun {f} => d_settle)
  exact ⟨fd, F, F.kp, F.bindsN fun _ _ _ _ _ _ us hl => match us, hl with | [_], _ => rfl, h⟩
theorem fo_settle (c : SaysY fn0 W0 sup0 K) : DefOk P w K mg base T0 (cmK K W0) tab i_settle (He.fAd K ("settle", none)) := by
  obtain ⟨fd, F, kp, b, h⟩ := fok_settle (P := P) (w := w) (mg := mg) (base := base) c
  exact ⟨fd, _, b, h⟩
theorem fok_has_right_states (c : SaysY fn0 W0 sup0 K) : ∃ fd, FunD K "_has_right_states" "_has_right_states" (defArgs s_has_right_states) (defBody s_has_right_states) (defScope s_has_right_states) [] (dd_has_right_states.kws K) (He.fAd K ("_has_right_states", none)) fd ∧ PySem.W.keepIn K (.ref (He.fAd K ("_has_right_states", none))) = true ∧ Binds K fd ["contest", "states"] [] ∧ ∀ k, LkB P w K mg base T0 (cmK K W0) k (jFn (cmK K W0) tab k) (jFm (cmK K W0) tab k) → FnOk P w K mg base (L2.CX P w) (k + 1) (He.fAd K ("_has_right_states", none)) fd ["contest", "states"] (spOf K (jFn (cmK K W0) tab (k + 1) i_has_right_states)) := by
  obtain ⟨fd, F, h⟩ := def_ok (tab := tab) (P := P) (w := w) (mg := mg) (base := base) c 10 (d := dd_has_right_states) rfl rfl rfl rfl rfl (id := i_has_right_states) (j := j_has_right_states) rfl sc_has_right_states rfl rfl (fun {f} => d_has_right_states)
  exact ⟨fd, F, F.kp, F.bindsN fun _ _ _ _ _ _ us hl => match us, hl with | [_, _], _ => rfl, h⟩
theorem fo_has_right_states (c : SaysY fn0 W0 sup0 K) : DefOk P w K mg base T0 (cmK K W0) tab i_has_right_states (He.fAd K ("_has_right_states", none)) := by
  obtain ⟨fd, F, kp, b, h⟩ := fok_has_right_states (P := P) (w := w) (mg := mg) (base := base) c
  exact ⟨fd, _, b, h⟩
theorem fok_are_answers (c : SaysY fn0 W0 sup0 K) : ∃ fd, FunD K "_are_answers" "_are_answers" (defArgs s_are_answers) (defBody s_are_answers) (defScope s_are_answers) [] (dd_are_answers.kws K) (He.fAd K ("_are_answers", none)) fd ∧ PySem.W.keepIn K (.ref (He.fAd K ("_are_answers", none))) = true ∧ Binds K fd ["contest", "answers"] [] ∧ ∀ k, LkB P w K mg base T0 (cmK K W0) k (jFn (cmK K W0) tab k) (jFm (cmK K W0) tab k) → FnOk P w K mg base (L2.CX P w) (k + 1) (He.fAd K ("_are_answers", none)) fd ["contest", "answers"] (spOf K (jFn (cmK K W0) tab (k + 1) i_are_answers)) := by
  obtain ⟨fd, F, h⟩ := def_ok (tab := tab) (P := P) (w := w) (mg := mg) (base := base) c 11 (d := dd_are_answers) rfl rfl rfl rfl rfl (id := i_are_answers) (j := j_are_answers) rfl sc_are_answers rfl rfl (fun {f} => d_are_answers)
  exact ⟨fd, F, F.kp, F.bindsN fun _ _ _ _ _ _ us hl => match us, hl with | [_, _], _ => rfl, h⟩
theorem fo_are_answers (c : SaysY fn0 W0 sup0 K) : DefOk P w K mg base T0 (cmK K W0) tab i_are_answers (He.fAd K ("_are_answers", none)) := by
  obtain ⟨fd, F, kp, b, h⟩ := fok_are_answers (P := P) (w := w) (mg := mg) (base := base) c
  exact ⟨fd, _, b, h⟩
theorem fok_keeps (c : SaysY fn0 W0 sup0 K) : ∃ fd, FunD K "_keeps" "_keeps" (defArgs s_keeps) (defBody s_keeps) (defScope s_keeps) [] (dd_keeps.kws K) (He.fAd K ("_keeps", none)) fd ∧ PySem.W.keepIn K (.ref (He.fAd K ("_keeps", none))) = true ∧ Binds K fd ["contest", "state", "answers", "known"] [] ∧ ∀ k, LkB P w K mg base T0 (cmK K W0) k (jFn (cmK K W0) tab k) (jFm (cmK K W0) tab k) → FnOk P w K mg base (L2.CX P w) (k + 1) (He.fAd K ("_keeps", none)) fd ["contest", "state", "answers", "known"] (spOf K (jFn (cmK K W0) tab (k + 1) i_keeps)) := by
  obtain ⟨fd, F, h⟩ := def_ok (tab := tab) (P := P) (w := w) (mg := mg) (base := base) c 12 (d := dd_keeps) rfl rfl rfl rfl rfl (id := i_keeps) (j := j_keeps) rfl sc_keeps rfl rfl (fun {f} => d_keeps)
  exact ⟨fd, F, F.kp, F.bindsN fun _ _ _ _ _ _ us hl => match us, hl with | [_, _, _, _], _ => rfl, h⟩
theorem fo_keeps (c : SaysY fn0 W0 sup0 K) : DefOk P w K mg base T0 (cmK K W0) tab i_keeps (He.fAd K ("_keeps", none)) := by
  obtain ⟨fd, F, kp, b, h⟩ := fok_keeps (P := P) (w := w) (mg := mg) (base := base) c
  exact ⟨fd, _, b, h⟩
theorem fok_shows_kept (c : SaysY fn0 W0 sup0 K) : ∃ fd, FunD K "shows_kept" "shows_kept" (defArgs s_shows_kept) (defBody s_shows_kept) (defScope s_shows_kept) [] (dd_shows_kept.kws K) (He.fAd K ("shows_kept", none)) fd ∧ PySem.W.keepIn K (.ref (He.fAd K ("shows_kept", none))) = true ∧ Binds K fd ["contest", "table"] [] ∧ ∀ k, LkB P w K mg base T0 (cmK K W0) k (jFn (cmK K W0) tab k) (jFm (cmK K W0) tab k) → FnOk P w K mg base (L2.CX P w) (k + 1) (He.fAd K ("shows_kept", none)) fd ["contest", "table"] (spOf K (jFn (cmK K W0) tab (k + 1) i_shows_kept)) := by
  obtain ⟨fd, F, h⟩ := def_ok (tab := tab) (P := P) (w := w) (mg := mg) (base := base) c 13 (d := dd_shows_kept) rfl rfl rfl rfl rfl (id := i_shows_kept) (j := j_shows_kept) rfl sc_shows_kept rfl rfl (fun {f} => d_shows_kept)
  exact ⟨fd, F, F.kp, F.bindsN fun _ _ _ _ _ _ us hl => match us, hl with | [_, _], _ => rfl, h⟩
theorem fo_shows_kept (c : SaysY fn0 W0 sup0 K) : DefOk P w K mg base T0 (cmK K W0) tab i_shows_kept (He.fAd K ("shows_kept", none)) := by
  obtain ⟨fd, F, kp, b, h⟩ := fok_shows_kept (P := P) (w := w) (mg := mg) (base := base) c
  exact ⟨fd, _, b, h⟩
theorem fok_forces_down (c : SaysY fn0 W0 sup0 K) : ∃ fd, FunD K "_forces_down" "_forces_down" (defArgs s_forces_down) (defBody s_forces_down) (defScope s_forces_down) [] (dd_forces_down.kws K) (He.fAd K ("_forces_down", none)) fd ∧ PySem.W.keepIn K (.ref (He.fAd K ("_forces_down", none))) = true ∧ Binds K fd ["contest", "row", "rank_of"] [] ∧ ∀ k, LkB P w K mg base T0 (cmK K W0) k (jFn (cmK K W0) tab k) (jFm (cmK K W0) tab k) → FnOk P w K mg base (L2.CX P w) (k + 1) (He.fAd K ("_forces_down", none)) fd ["contest", "row", "rank_of"] (spOf K (jFn (cmK K W0) tab (k + 1) i_forces_down)) := by
  obtain ⟨fd, F, h⟩ := def_ok (tab := tab) (P := P) (w := w) (mg := mg) (base := base) c 14 (d := dd_forces_down) rfl rfl rfl rfl rfl (id := i_forces_down) (j := j_forces_down) rfl sc_forces_down rfl rfl (fun {f} => d_forces_down)
  exact ⟨fd, F, F.kp, F.bindsN fun _ _ _ _ _ _ us hl => match us, hl with | [_, _, _], _ => rfl, h⟩
theorem fo_forces_down (c : SaysY fn0 W0 sup0 K) : DefOk P w K mg base T0 (cmK K W0) tab i_forces_down (He.fAd K ("_forces_down", none)) := by
  obtain ⟨fd, F, kp, b, h⟩ := fok_forces_down (P := P) (w := w) (mg := mg) (base := base) c
  exact ⟨fd, _, b, h⟩
theorem fok_shows_lost (c : SaysY fn0 W0 sup0 K) : ∃ fd, FunD K "shows_lost" "shows_lost" (defArgs s_shows_lost) (defBody s_shows_lost) (defScope s_shows_lost) [] (dd_shows_lost.kws K) (He.fAd K ("shows_lost", none)) fd ∧ PySem.W.keepIn K (.ref (He.fAd K ("shows_lost", none))) = true ∧ Binds K fd ["contest", "table"] [] ∧ ∀ k, LkB P w K mg base T0 (cmK K W0) k (jFn (cmK K W0) tab k) (jFm (cmK K W0) tab k) → FnOk P w K mg base (L2.CX P w) (k + 1) (He.fAd K ("shows_lost", none)) fd ["contest", "table"] (spOf K (jFn (cmK K W0) tab (k + 1) i_shows_lost)) := by
  obtain ⟨fd, F, h⟩ := def_ok (tab := tab) (P := P) (w := w) (mg := mg) (base := base) c 15 (d := dd_shows_lost) rfl rfl rfl rfl rfl (id := i_shows_lost) (j := j_shows_lost) rfl sc_shows_lost rfl rfl (fun {f} => d_shows_lost)
  exact ⟨fd, F, F.kp, F.bindsN fun _ _ _ _ _ _ us hl => match us, hl with | [_, _], _ => rfl, h⟩
theorem fo_shows_lost (c : SaysY fn0 W0 sup0 K) : DefOk P w K mg base T0 (cmK K W0) tab i_shows_lost (He.fAd K ("shows_lost", none)) := by
  obtain ⟨fd, F, kp, b, h⟩ := fok_shows_lost (P := P) (w := w) (mg := mg) (base := base) c
  exact ⟨fd, _, b, h⟩
theorem fok_is_entry (c : SaysY fn0 W0 sup0 K) : ∃ fd, FunD K "_is_entry" "_is_entry" (defArgs s_is_entry) (defBody s_is_entry) (defScope s_is_entry) [] (dd_is_entry.kws K) (He.fAd K ("_is_entry", none)) fd ∧ PySem.W.keepIn K (.ref (He.fAd K ("_is_entry", none))) = true ∧ Binds K fd ["entry", "states", "replies"] [] ∧ ∀ k, LkB P w K mg base T0 (cmK K W0) k (jFn (cmK K W0) tab k) (jFm (cmK K W0) tab k) → FnOk P w K mg base (L2.CX P w) (k + 1) (He.fAd K ("_is_entry", none)) fd ["entry", "states", "replies"] (spOf K (jFn (cmK K W0) tab (k + 1) i_is_entry)) := by
  obtain ⟨fd, F, h⟩ := def_ok (tab := tab) (P := P) (w := w) (mg := mg) (base := base) c 16 (d := dd_is_entry) rfl rfl rfl rfl rfl (id := i_is_entry) (j := j_is_entry) rfl sc_is_entry rfl rfl (fun {f} => d_is_entry)
  exact ⟨fd, F, F.kp, F.bindsN fun _ _ _ _ _ _ us hl => match us, hl with | [_, _, _], _ => rfl, h⟩
theorem fo_is_entry (c : SaysY fn0 W0 sup0 K) : DefOk P w K mg base T0 (cmK K W0) tab i_is_entry (He.fAd K ("_is_entry", none)) := by
  obtain ⟨fd, F, kp, b, h⟩ := fok_is_entry (P := P) (w := w) (mg := mg) (base := base) c
  exact ⟨fd, _, b, h⟩
theorem fok_Control___eq (c : SaysY fn0 W0 sup0 K) : ∃ fd, FunD K "__eq__" "Control.__eq__" (defArgs s_Control___eq) (defBody s_Control___eq) (defScope s_Control___eq) [] (dd_Control___eq.kws K) (He.fAd K ("Control", some "__eq__")) fd ∧ PySem.W.keepIn K (.ref (He.fAd K ("Control", some "__eq__"))) = true ∧ Binds K fd ["self", "other"] [] ∧ ∀ k, LkB P w K mg base T0 (cmK K W0) k (jFn (cmK K W0) tab k) (jFm (cmK K W0) tab k) → FnOk P w K mg base (L2.CX P w) (k + 1) (He.fAd K ("Control", some "__eq__")) fd ["self", "other"] (spOf K (jFn (cmK K W0) tab (k + 1) i_Control___eq)) := by
  obtain ⟨fd, F, h⟩ := def_ok (tab := tab) (P := P) (w := w) (mg := mg) (base := base) c 18 (d := dd_Control___eq) rfl rfl rfl rfl rfl (id := i_Control___eq) (j := j_Control___eq) rfl sc_Control___eq rfl rfl (fun {f} => d_Control___eq)
  exact ⟨fd, F, F.kp, F.bindsN fun _ _ _ _ _ _ us hl => match us, hl with | [_, _], _ => rfl, h⟩
theorem fo_Control___eq (c : SaysY fn0 W0 sup0 K) : DefOk P w K mg base T0 (cmK K W0) tab i_Control___eq (He.fAd K ("Control", some "__eq__")) := by
  obtain ⟨fd, F, kp, b, h⟩ := fok_Control___eq (P := P) (w := w) (mg := mg) (base := base) c
  exact ⟨fd, _, b, h⟩
theorem fok_Control_entry (c : SaysY fn0 W0 sup0 K) : ∃ fd, FunD K "entry" "Control.entry" (defArgs s_Control_entry) (defBody s_Control_entry) (defScope s_Control_entry) [] (dd_Control_entry.kws K) (He.fAd K ("Control", some "entry")) fd ∧ PySem.W.keepIn K (.ref (He.fAd K ("Control", some "entry"))) = true ∧ Binds K fd ["self", "state", "cue"] [] ∧ ∀ k, LkB P w K mg base T0 (cmK K W0) k (jFn (cmK K W0) tab k) (jFm (cmK K W0) tab k) → FnOk P w K mg base (L2.CX P w) (k + 1) (He.fAd K ("Control", some "entry")) fd ["self", "state", "cue"] (spOf K (jFn (cmK K W0) tab (k + 1) i_Control_entry)) := by
  obtain ⟨fd, F, h⟩ := def_ok (tab := tab) (P := P) (w := w) (mg := mg) (base := base) c 19 (d := dd_Control_entry) rfl rfl rfl rfl rfl (id := i_Control_entry) (j := j_Control_entry) rfl sc_Control_entry rfl rfl (fun {f} => d_Control_entry)
  exact ⟨fd, F, F.kp, F.bindsN fun _ _ _ _ _ _ us hl => match us, hl with | [_, _, _], _ => rfl, h⟩
theorem fo_Control_entry (c : SaysY fn0 W0 sup0 K) : DefOk P w K mg base T0 (cmK K W0) tab i_Control_entry (He.fAd K ("Control", some "entry")) := by
  obtain ⟨fd, F, kp, b, h⟩ := fok_Control_entry (P := P) (w := w) (mg := mg) (base := base) c
  exact ⟨fd, _, b, h⟩
theorem fok_Control_started (c : SaysY fn0 W0 sup0 K) : ∃ fd, FunD K "started" "Control.started" (defArgs s_Control_started) (defBody s_Control_started) (defScope s_Control_started) [] (dd_Control_started.kws K) (He.fAd K ("Control", some "started")) fd ∧ PySem.W.keepIn K (.ref (He.fAd K ("Control", some "started"))) = true ∧ Binds K fd ["self", "state"] [] ∧ ∀ k, LkB P w K mg base T0 (cmK K W0) k (jFn (cmK K W0) tab k) (jFm (cmK K W0) tab k) → FnOk P w K mg base (L2.CX P w) (k + 1) (He.fAd K ("Control", some "started")) fd ["self", "state"] (spOf K (jFn (cmK K W0) tab (k + 1) i_Control_started)) := by
  obtain ⟨fd, F, h⟩ := def_ok (tab := tab) (P := P) (w := w) (mg := mg) (base := base) c 20 (d := dd_Control_started) rfl rfl rfl rfl rfl (id := i_Control_started) (j := j_Control_started) rfl sc_Control_started rfl rfl (fun {f} => d_Control_started)
  exact ⟨fd, F, F.kp, F.bindsN fun _ _ _ _ _ _ us hl => match us, hl with | [_, _], _ => rfl, h⟩
theorem fo_Control_started (c : SaysY fn0 W0 sup0 K) : DefOk P w K mg base T0 (cmK K W0) tab i_Control_started (He.fAd K ("Control", some "started")) := by
  obtain ⟨fd, F, kp, b, h⟩ := fok_Control_started (P := P) (w := w) (mg := mg) (base := base) c
  exact ⟨fd, _, b, h⟩
theorem fok_L_pool (c : SaysY fn0 W0 sup0 K) : ∃ fd, FunD K "_law_pool" "_law_pool" (defArgs s_L_pool) (defBody s_L_pool) (defScope s_L_pool) [] (dd_L_pool.kws K) (He.fAd K ("_law_pool", none)) fd ∧ PySem.W.keepIn K (.ref (He.fAd K ("_law_pool", none))) = true ∧ Binds K fd ["script", "place"] [] ∧ ∀ k, LkB P w K mg base T0 (cmK K W0) k (jFn (cmK K W0) tab k) (jFm (cmK K W0) tab k) → FnOk P w K mg base (L2.CX P w) (k + 1) (He.fAd K ("_law_pool", none)) fd ["script", "place"] (spOf K (jFn (cmK K W0) tab (k + 1) i_L_pool)) := by
  obtain ⟨fd, F, h⟩ := def_ok (tab := tab) (P := P) (w := w) (mg := mg) (base := base) c 21 (d := dd_L_pool) rfl rfl rfl rfl rfl (id := i_L_pool) (j := j_L_pool) rfl sc_L_pool rfl rfl (fun {f} => d_L_pool)
  exact ⟨fd, F, F.kp, F.bindsN fun _ _ _ _ _ _ us hl => match us, hl with | [_, _], _ => rfl, h⟩
theorem fo_L_pool (c : SaysY fn0 W0 sup0 K) : DefOk P w K mg base T0 (cmK K W0) tab i_L_pool (He.fAd K ("_law_pool", none)) := by
  obtain ⟨fd, F, kp, b, h⟩ := fok_L_pool (P := P) (w := w) (mg := mg) (base := base) c
  exact ⟨fd, _, b, h⟩
theorem fok_L_draw (c : SaysY fn0 W0 sup0 K) : ∃ fd, FunD K "_law_draw" "_law_draw" (defArgs s_L_draw) (defBody s_L_draw) (defScope s_L_draw) [] (dd_L_draw.kws K) (He.fAd K ("_law_draw", none)) fd ∧ PySem.W.keepIn K (.ref (He.fAd K ("_law_draw", none))) = true ∧ Binds K fd ["pool", "many"] [] ∧ ∀ k, LkB P w K mg base T0 (cmK K W0) k (jFn (cmK K W0) tab k) (jFm (cmK K W0) tab k) → FnOk P w K mg base (L2.CX P w) (k + 1) (He.fAd K ("_law_draw", none)) fd ["pool", "many"] (spOf K (jFn (cmK K W0) tab (k + 1) i_L_draw)) := by
  obtain ⟨fd, F, h⟩ := def_ok (tab := tab) (P := P) (w := w) (mg := mg) (base := base) c 22 (d := dd_L_draw) rfl rfl rfl rfl rfl (id := i_L_draw) (j := j_L_draw) rfl sc_L_draw rfl rfl (fun {f} => d_L_draw)
  exact ⟨fd, F, F.kp, F.bindsN fun _ _ _ _ _ _ us hl => match us, hl with | [_, _], _ => rfl, h⟩
theorem fo_L_draw (c : SaysY fn0 W0 sup0 K) : DefOk P w K mg base T0 (cmK K W0) tab i_L_draw (He.fAd K ("_law_draw", none)) := by
  obtain ⟨fd, F, kp, b, h⟩ := fok_L_draw (P := P) (w := w) (mg := mg) (base := base) c
  exact ⟨fd, _, b, h⟩
theorem fok_L_same (c : SaysY fn0 W0 sup0 K) : ∃ fd, FunD K "_law_same" "_law_same" (defArgs s_L_same) (defBody s_L_same) (defScope s_L_same) [] (dd_L_same.kws K) (He.fAd K ("_law_same", none)) fd ∧ PySem.W.keepIn K (.ref (He.fAd K ("_law_same", none))) = true ∧ Binds K fd ["told", "due"] [] ∧ ∀ k, LkB P w K mg base T0 (cmK K W0) k (jFn (cmK K W0) tab k) (jFm (cmK K W0) tab k) → FnOk P w K mg base (L2.CX P w) (k + 1) (He.fAd K ("_law_same", none)) fd ["told", "due"] (spOf K (jFn (cmK K W0) tab (k + 1) i_L_same)) := by
  obtain ⟨fd, F, h⟩ := def_ok (tab := tab) (P := P) (w := w) (mg := mg) (base := base) c 23 (d := dd_L_same) rfl rfl rfl rfl rfl (id := i_L_same) (j := j_L_same) rfl sc_L_same rfl rfl (fun {f} => d_L_same)
  exact ⟨fd, F, F.kp, F.bindsN fun _ _ _ _ _ _ us hl => match us, hl with | [_, _], _ => rfl, h⟩
theorem fo_L_same (c : SaysY fn0 W0 sup0 K) : DefOk P w K mg base T0 (cmK K W0) tab i_L_same (He.fAd K ("_law_same", none)) := by
  obtain ⟨fd, F, kp, b, h⟩ := fok_L_same (P := P) (w := w) (mg := mg) (base := base) c
  exact ⟨fd, _, b, h⟩
theorem fok_L_contest_rows (c : SaysY fn0 W0 sup0 K) : ∃ fd, FunD K "_law_contest_rows" "_law_contest_rows" (defArgs s_L_contest_rows) (defBody s_L_contest_rows) (defScope s_L_contest_rows) [] (dd_L_contest_rows.kws K) (He.fAd K ("_law_contest_rows", none)) fd ∧ PySem.W.keepIn K (.ref (He.fAd K ("_law_contest_rows", none))) = true ∧ Binds K fd ["script", "place", "pool", "calls", "answers", "states"] [] ∧ ∀ k, LkB P w K mg base T0 (cmK K W0) k (jFn (cmK K W0) tab k) (jFm (cmK K W0) tab k) → FnOk P w K mg base (L2.CX P w) (k + 1) (He.fAd K ("_law_contest_rows", none)) fd ["script", "place", "pool", "calls", "answers", "states"] (spOf K (jFn (cmK K W0) tab (k + 1) i_L_contest_rows)) := by
  obtain ⟨fd, F, h⟩ := def_ok (tab := tab) (P := P) (w := w) (mg := mg) (base := base) c 24 (d := dd_L_contest_rows) rfl rfl rfl rfl rfl (id := i_L_contest_rows) (j := j_L_contest_rows) rfl sc_L_contest_rows rfl rfl (fun {f} => d_L_contest_rows)
  exact ⟨fd, F, F.kp, F.bindsN fun _ _ _ _ _ _ us hl => match us, hl with | [_, _, _, _, _, _], _ => rfl, h⟩
theorem fo_L_contest_rows (c : SaysY fn0 W0 sup0 K) : DefOk P w K mg base T0 (cmK K W0) tab i_L_contest_rows (He.fAd K ("_law_contest_rows", none)) := by
  obtain ⟨fd, F, kp, b, h⟩ := fok_L_contest_rows (P := P) (w := w) (mg := mg) (base := base) c
  exact ⟨fd, _, b, h⟩
theorem fok_L_ranks (c : SaysY fn0 W0 sup0 K) : ∃ fd, FunD K "_law_ranks" "_law_ranks" (defArgs s_L_ranks) (defBody s_L_ranks) (defScope s_L_ranks) [] (dd_L_ranks.kws K) (He.fAd K ("_law_ranks", none)) fd ∧ PySem.W.keepIn K (.ref (He.fAd K ("_law_ranks", none))) = true ∧ Binds K fd ["rows", "calls", "answers"] [] ∧ ∀ k, LkB P w K mg base T0 (cmK K W0) k (jFn (cmK K W0) tab k) (jFm (cmK K W0) tab k) → FnOk P w K mg base (L2.CX P w) (k + 1) (He.fAd K ("_law_ranks", none)) fd ["rows", "calls", "answers"] (spOf K (jFn (cmK K W0) tab (k + 1) i_L_ranks)) := by
  obtain ⟨fd, F, h⟩ := def_ok (tab := tab) (P := P) (w := w) (mg := mg) (base := base) c 25 (d := dd_L_ranks) rfl rfl rfl rfl rfl (id := i_L_ranks) (j := j_L_ranks) rfl sc_L_ranks rfl rfl (fun {f} => d_L_ranks)
  exact ⟨fd, F, F.kp, F.bindsN fun _ _ _ _ _ _ us hl => match us, hl with | [_, _, _], _ => rfl, h⟩
theorem fo_L_ranks (c : SaysY fn0 W0 sup0 K) : DefOk P w K mg base T0 (cmK K W0) tab i_L_ranks (He.fAd K ("_law_ranks", none)) := by
  obtain ⟨fd, F, kp, b, h⟩ := fok_L_ranks (P := P) (w := w) (mg := mg) (base := base) c
  exact ⟨fd, _, b, h⟩
theorem fok_L_settled (c : SaysY fn0 W0 sup0 K) : ∃ fd, FunD K "_law_settled" "_law_settled" (defArgs s_L_settled) (defBody s_L_settled) (defScope s_L_settled) [] (dd_L_settled.kws K) (He.fAd K ("_law_settled", none)) fd ∧ PySem.W.keepIn K (.ref (He.fAd K ("_law_settled", none))) = true ∧ Binds K fd ["rows", "calls", "answers", "origin"] [] ∧ ∀ k, LkB P w K mg base T0 (cmK K W0) k (jFn (cmK K W0) tab k) (jFm (cmK K W0) tab k) → FnOk P w K mg base (L2.CX P w) (k + 1) (He.fAd K ("_law_settled", none)) fd ["rows", "calls", "answers", "origin"] (spOf K (jFn (cmK K W0) tab (k + 1) i_L_settled)) := by
  obtain ⟨fd, F, h⟩ := def_ok (tab := tab) (P := P) (w := w) (mg := mg) (base := base) c 26 (d := dd_L_settled) rfl rfl rfl rfl rfl (id := i_L_settled) (j := j_L_settled) rfl sc_L_settled rfl rfl (fun {f} => d_L_settled)
  exact ⟨fd, F, F.kp, F.bindsN fun _ _ _ _ _ _ us hl => match us, hl with | [_, _, _, _], _ => rfl, h⟩
theorem fo_L_settled (c : SaysY fn0 W0 sup0 K) : DefOk P w K mg base T0 (cmK K W0) tab i_L_settled (He.fAd K ("_law_settled", none)) := by
  obtain ⟨fd, F, kp, b, h⟩ := fok_L_settled (P := P) (w := w) (mg := mg) (base := base) c
  exact ⟨fd, _, b, h⟩
theorem fok_L_asked (c : SaysY fn0 W0 sup0 K) : ∃ fd, FunD K "_law_asked" "_law_asked" (defArgs s_L_asked) (defBody s_L_asked) (defScope s_L_asked) [] (dd_L_asked.kws K) (He.fAd K ("_law_asked", none)) fd ∧ PySem.W.keepIn K (.ref (He.fAd K ("_law_asked", none))) = true ∧ Binds K fd ["calls", "answers", "control"] [] ∧ ∀ k, LkB P w K mg base T0 (cmK K W0) k (jFn (cmK K W0) tab k) (jFm (cmK K W0) tab k) → FnOk P w K mg base (L2.CX P w) (k + 1) (He.fAd K ("_law_asked", none)) fd ["calls", "answers", "control"] (spOf K (jFn (cmK K W0) tab (k + 1) i_L_asked)) := by
  obtain ⟨fd, F, h⟩ := def_ok (tab := tab) (P := P) (w := w) (mg := mg) (base := base) c 27 (d := dd_L_asked) rfl rfl rfl rfl rfl (id := i_L_asked) (j := j_L_asked) rfl sc_L_asked rfl rfl (fun {f} => d_L_asked)
  exact ⟨fd, F, F.kp, F.bindsN fun _ _ _ _ _ _ us hl => match us, hl with | [_, _, _], _ => rfl, h⟩
theorem fo_L_asked (c : SaysY fn0 W0 sup0 K) : DefOk P w K mg base T0 (cmK K W0) tab i_L_asked (He.fAd K ("_law_asked", none)) := by
  obtain ⟨fd, F, kp, b, h⟩ := fok_L_asked (P := P) (w := w) (mg := mg) (base := base) c
  exact ⟨fd, _, b, h⟩
theorem fok_L_forced (c : SaysY fn0 W0 sup0 K) : ∃ fd, FunD K "_law_forced" "_law_forced" (defArgs s_L_forced) (defBody s_L_forced) (defScope s_L_forced) [] (dd_L_forced.kws K) (He.fAd K ("_law_forced", none)) fd ∧ PySem.W.keepIn K (.ref (He.fAd K ("_law_forced", none))) = true ∧ Binds K fd ["rows", "calls", "answers", "s", "many"] [] ∧ ∀ k, LkB P w K mg base T0 (cmK K W0) k (jFn (cmK K W0) tab k) (jFm (cmK K W0) tab k) → FnOk P w K mg base (L2.CX P w) (k + 1) (He.fAd K ("_law_forced", none)) fd ["rows", "calls", "answers", "s", "many"] (spOf K (jFn (cmK K W0) tab (k + 1) i_L_forced)) := by
  obtain ⟨fd, F, h⟩ := def_ok (tab := tab) (P := P) (w := w) (mg := mg) (base := base) c 28 (d := dd_L_forced) rfl rfl rfl rfl rfl (id := i_L_forced) (j := j_L_forced) rfl sc_L_forced rfl rfl (fun {f} => d_L_forced)
  exact ⟨fd, F, F.kp, F.bindsN fun _ _ _ _ _ _ us hl => match us, hl with | [_, _, _, _, _], _ => rfl, h⟩
theorem fo_L_forced (c : SaysY fn0 W0 sup0 K) : DefOk P w K mg base T0 (cmK K W0) tab i_L_forced (He.fAd K ("_law_forced", none)) := by
  obtain ⟨fd, F, kp, b, h⟩ := fok_L_forced (P := P) (w := w) (mg := mg) (base := base) c
  exact ⟨fd, _, b, h⟩
theorem fok_L_ranks_right (c : SaysY fn0 W0 sup0 K) : ∃ fd, FunD K "_law_ranks_right" "_law_ranks_right" (defArgs s_L_ranks_right) (defBody s_L_ranks_right) (defScope s_L_ranks_right) [] (dd_L_ranks_right.kws K) (He.fAd K ("_law_ranks_right", none)) fd ∧ PySem.W.keepIn K (.ref (He.fAd K ("_law_ranks_right", none))) = true ∧ Binds K fd ["told", "rows", "calls", "answers"] [] ∧ ∀ k, LkB P w K mg base T0 (cmK K W0) k (jFn (cmK K W0) tab k) (jFm (cmK K W0) tab k) → FnOk P w K mg base (L2.CX P w) (k + 1) (He.fAd K ("_law_ranks_right", none)) fd ["told", "rows", "calls", "answers"] (spOf K (jFn (cmK K W0) tab (k + 1) i_L_ranks_right)) := by
  obtain ⟨fd, F, h⟩ := def_ok (tab := tab) (P := P) (w := w) (mg := mg) (base := base) c 29 (d := dd_L_ranks_right) rfl rfl rfl rfl rfl (id := i_L_ranks_right) (j := j_L_ranks_right) rfl sc_L_ranks_right rfl rfl (fun {f} => d_L_ranks_right)
  exact ⟨fd, F, F.kp, F.bindsN fun _ _ _ _ _ _ us hl => match us, hl with | [_, _, _, _], _ => rfl, h⟩
theorem fo_L_ranks_right (c : SaysY fn0 W0 sup0 K) : DefOk P w K mg base T0 (cmK K W0) tab i_L_ranks_right (He.fAd K ("_law_ranks_right", none)) := by
  obtain ⟨fd, F, kp, b, h⟩ := fok_L_ranks_right (P := P) (w := w) (mg := mg) (base := base) c
  exact ⟨fd, _, b, h⟩
theorem fok_L_refusals (c : SaysY fn0 W0 sup0 K) : ∃ fd, FunD K "_law_refusals" "_law_refusals" (defArgs s_L_refusals) (defBody s_L_refusals) (defScope s_L_refusals) [] (dd_L_refusals.kws K) (He.fAd K ("_law_refusals", none)) fd ∧ PySem.W.keepIn K (.ref (He.fAd K ("_law_refusals", none))) = true ∧ Binds K fd ["pool", "calls", "answers", "control"] [] ∧ ∀ k, LkB P w K mg base T0 (cmK K W0) k (jFn (cmK K W0) tab k) (jFm (cmK K W0) tab k) → FnOk P w K mg base (L2.CX P w) (k + 1) (He.fAd K ("_law_refusals", none)) fd ["pool", "calls", "answers", "control"] (spOf K (jFn (cmK K W0) tab (k + 1) i_L_refusals)) := by
  obtain ⟨fd, F, h⟩ := def_ok (tab := tab) (P := P) (w := w) (mg := mg) (base := base) c 30 (d := dd_L_refusals) rfl rfl rfl rfl rfl (id := i_L_refusals) (j := j_L_refusals) rfl sc_L_refusals rfl rfl (fun {f} => d_L_refusals)
  exact ⟨fd, F, F.kp, F.bindsN fun _ _ _ _ _ _ us hl => match us, hl with | [_, _, _, _], _ => rfl, h⟩
theorem fo_L_refusals (c : SaysY fn0 W0 sup0 K) : DefOk P w K mg base T0 (cmK K W0) tab i_L_refusals (He.fAd K ("_law_refusals", none)) := by
  obtain ⟨fd, F, kp, b, h⟩ := fok_L_refusals (P := P) (w := w) (mg := mg) (base := base) c
  exact ⟨fd, _, b, h⟩
theorem fok_law (c : SaysY fn0 W0 sup0 K) : ∃ fd, FunD K "law" "law" (defArgs s_law) (defBody s_law) (defScope s_law) [] (dd_law.kws K) (He.fAd K ("law", none)) fd ∧ PySem.W.keepIn K (.ref (He.fAd K ("law", none))) = true ∧ Binds K fd ["script"] [] ∧ ∀ k, LkB P w K mg base T0 (cmK K W0) k (jFn (cmK K W0) tab k) (jFm (cmK K W0) tab k) → FnOk P w K mg base (L2.CX P w) (k + 1) (He.fAd K ("law", none)) fd ["script"] (spOf K (jFn (cmK K W0) tab (k + 1) i_law)) := by
  obtain ⟨fd, F, h⟩ := def_ok (tab := tab) (P := P) (w := w) (mg := mg) (base := base) c 31 (d := dd_law) rfl rfl rfl rfl rfl (id := i_law) (j := j_law) rfl sc_law rfl rfl (fun {f} => d_law)
  exact ⟨fd, F, F.kp, F.bindsN fun _ _ _ _ _ _ us hl => match us, hl with | [_], _ => rfl, h⟩
theorem fo_law (c : SaysY fn0 W0 sup0 K) : DefOk P w K mg base T0 (cmK K W0) tab i_law (He.fAd K ("law", none)) := by
  obtain ⟨fd, F, kp, b, h⟩ := fok_law (P := P) (w := w) (mg := mg) (base := base) c
  exact ⟨fd, _, b, h⟩
theorem mk_0 (c : SaysY fn0 W0 sup0 K) : MkOk P w K mg base T0 (cmK K W0) tab i_Control___init (He.fAd K ("Control", some "__init__")) 3 ["start"] [.inl 0] := by
  obtain ⟨fd, F, h⟩ := def_ok (tab := tab) (P := P) (w := w) (mg := mg) (base := base) c 17 (d := dd_Control___init) rfl rfl rfl rfl rfl (id := i_Control___init) (j := j_Control___init) rfl sc_Control___init rfl rfl (fun {f} => d_Control___init)
  obtain ⟨mv, hb⟩ := FunD.kbinds0 (ps := ["self", "cues", "replies", "rows", "start"]) F 4 ["start"] [] (fun vs mz zs => vs ++ zs) (by intro z; cases z) (fun q hq => by cases hq) (fun r1 _ r3 => Vals.append r1 r3) (fun D doc pm an cdv ct us mv ws l1 l2 l3 => match us, mv, ws, l1, l2, l3 with | [_, _, _, _], [], [_], _, _, _ => rfl)
  exact ⟨fd, _, ka_given hb fun _ _ => rfl, h⟩
theorem mk_1 (c : SaysY fn0 W0 sup0 K) : MkOk P w K mg base T0 (cmK K W0) tab i_Contest___init (He.fAd K ("Contest", some "__init__")) 3 [] [] := by
  obtain ⟨fd, F, kp, b, h⟩ := fok_Contest___init (P := P) (w := w) (mg := mg) (base := base) c
  exact ⟨fd, _, ka_plain rfl b, h⟩
theorem mk_2 (c : SaysY fn0 W0 sup0 K) : MkOk P w K mg base T0 (cmK K W0) tab i_Control___init (He.fAd K ("Control", some "__init__")) 3 [] [.inr (.int 0)] := by
  obtain ⟨fd, F, h⟩ := def_ok (tab := tab) (P := P) (w := w) (mg := mg) (base := base) c 17 (d := dd_Control___init) rfl rfl rfl rfl rfl (id := i_Control___init) (j := j_Control___init) rfl sc_Control___init rfl rfl (fun {f} => d_Control___init)
  obtain ⟨mv, hb⟩ := FunD.kbinds0 (ps := ["self", "cues", "replies", "rows", "start"]) F 4 [] [("start", .int 0)] (fun vs mz zs => vs ++ mz) (by intro z; cases z) (fun q hq => hq) (fun r1 r2 _ => Vals.append r1 r2) (fun D doc pm an cdv ct us mv ws l1 l2 l3 => match us, mv, ws, l1, l2, l3 with | [_, _, _, _], [_], [], _, _, _ => ⟨_, _, _, _, _, _, rfl, rfl, rfl⟩)
  exact ⟨fd, _, ka_lacks hb fun _ _ => rfl, h⟩
theorem ex_0 (hP1 : P.main.file = W0.file) (hP2 : (P.main.scope.names.lookup ("super" : Str)).isSome = false) (X : K.In h) (G : h.Ns mainGlobals mg) (c : SaysY fn0 W0 sup0 K) : ∃ fd ps, FnOk P w K mg base (L2.CX P w) 1 (ma K (clsK K W0 1) "__init__") fd ps (spSup (clsK K W0 1) "size") ∧ Binds K fd ps [] := by
  have hs := sup_b c 0 rfl
  rw [← hP1] at hs
  obtain ⟨fd, qual, S, h1, h2, h3⟩ := supB_ok (P := P) X G hs (c.sup 0 rfl) rfl hP2 rfl rfl rfl rfl
  refine ⟨fd, ["self", "size"], sup_ok (fun _ => rfl) rfl S rfl (by decide) (by decide +kernel) rfl rfl (by decide) (sup_f c 0 1 rfl rfl rfl (by decide)), ?_⟩
  obtain ⟨oc, od, dV, kV, doc, pm, an, cda, ct, cc, osl, vs, ccl, cdd, ccs, file, tf, cl, cld, csl, cdD, rfl, _⟩ := S.fn
  have h3 : dV = .none := h3
  subst h3
  exact .all fun us hl => match us, hl with | [_, _], _ => rfl
theorem ex_1 (hP1 : P.main.file = W0.file) (hP2 : (P.main.scope.names.lookup ("super" : Str)).isSome = false) (X : K.In h) (G : h.Ns mainGlobals mg) (c : SaysY fn0 W0 sup0 K) : ∃ fd ps, FnOk P w K mg base (L2.CX P w) 1 (ma K (clsK K W0 15) "__init__") fd ps (spSup (clsK K W0 15) "state") ∧ Binds K fd ps [] := by
  have hs := sup_b c 1 rfl
  rw [← hP1] at hs
  obtain ⟨fd, qual, S, h1, h2, h3⟩ := supB_ok (P := P) X G hs (c.sup 1 rfl) rfl hP2 rfl rfl rfl rfl
  refine ⟨fd, ["self", "state"], sup_ok (fun _ => rfl) rfl S rfl (by decide) (by decide +kernel) rfl rfl (by decide) (sup_f c 1 15 rfl rfl rfl (by decide)), ?_⟩
  obtain ⟨oc, od, dV, kV, doc, pm, an, cda, ct, cc, osl, vs, ccl, cdd, ccs, file, tf, cl, cld, csl, cdD, rfl, _⟩ := S.fn
  have h3 : dV = .none := h3
  subst h3
  exact .all fun us hl => match us, hl with | [_, _], _ => rfl
theorem lk_all (hP1 : P.main.file = W0.file) (hP2 : (P.main.scope.names.lookup ("super" : Str)).isSome = false) (X : K.In h) (G : h.Ns mainGlobals mg) (c : SaysY fn0 W0 sup0 K) (k : Nat) : LkB P w K mg base T0 (cmK K W0) k (jFn (cmK K W0) tab k) (jFm (cmK K W0) tab k) := by
  refine lkb_of (W := W0) X G c.ok.1 c.ok.2 (fun i n f e => ?_) (fun i cc m n f e => ?_) (fun i x cc n ks f g e => ?_) (fun i n cc fl e => ?_) ?_ k
  · refine fm_get (l := W0.T.fns) (p := fun q => PySem.W.keepIn K (.ref (ga K q.1)) = true ∧ DefOk P w K mg base T0 (cmK K W0) tab q.2 (ga K q.1)) ?_ i (n, f) e
    exact (fm_cons (by obtain ⟨fd, F, kp, b, h⟩ := fok_forces (P := P) (w := w) (mg := mg) (base := base) c; exact ⟨kp, fd, _, b, h⟩) <| fm_cons (by obtain ⟨fd, F, kp, b, h⟩ := fok_forcing_call (P := P) (w := w) (mg := mg) (base := base) c; exact ⟨kp, fd, _, b, h⟩) <| fm_cons (by obtain ⟨fd, F, kp, b, h⟩ := fok_forced_calls (P := P) (w := w) (mg := mg) (base := base) c; exact ⟨kp, fd, _, b, h⟩) <| fm_cons (by obtain ⟨fd, F, kp, b, h⟩ := fok_ranked_calls (P := P) (w := w) (mg := mg) (base := base) c; exact ⟨kp, fd, _, b, h⟩) <| fm_cons (by obtain ⟨fd, F, kp, b, h⟩ := fok_safe_answer (P := P) (w := w) (mg := mg) (base := base) c; exact ⟨kp, fd, _, b, h⟩) <| fm_cons (by obtain ⟨fd, F, kp, b, h⟩ := fok_has_right_states (P := P) (w := w) (mg := mg) (base := base) c; exact ⟨kp, fd, _, b, h⟩) <| fm_cons (by obtain ⟨fd, F, kp, b, h⟩ := fok_are_answers (P := P) (w := w) (mg := mg) (base := base) c; exact ⟨kp, fd, _, b, h⟩) <| fm_cons (by obtain ⟨fd, F, kp, b, h⟩ := fok_keeps (P := P) (w := w) (mg := mg) (base := base) c; exact ⟨kp, fd, _, b, h⟩) <| fm_cons (by obtain ⟨fd, F, kp, b, h⟩ := fok_forces_down (P := P) (w := w) (mg := mg) (base := base) c; exact ⟨kp, fd, _, b, h⟩) <| fm_cons (by obtain ⟨fd, F, kp, b, h⟩ := fok_is_entry (P := P) (w := w) (mg := mg) (base := base) c; exact ⟨kp, fd, _, b, h⟩) <| fm_cons (by obtain ⟨fd, F, kp, b, h⟩ := fok_L_same (P := P) (w := w) (mg := mg) (base := base) c; exact ⟨kp, fd, _, b, h⟩) <| fm_cons (by obtain ⟨fd, F, kp, b, h⟩ := fok_L_draw (P := P) (w := w) (mg := mg) (base := base) c; exact ⟨kp, fd, _, b, h⟩) <| fm_cons (by obtain ⟨fd, F, kp, b, h⟩ := fok_L_pool (P := P) (w := w) (mg := mg) (base := base) c; exact ⟨kp, fd, _, b, h⟩) <| fm_cons (by obtain ⟨fd, F, kp, b, h⟩ := fok_L_ranks (P := P) (w := w) (mg := mg) (base := base) c; exact ⟨kp, fd, _, b, h⟩) <| fm_cons (by obtain ⟨fd, F, kp, b, h⟩ := fok_L_forced (P := P) (w := w) (mg := mg) (base := base) c; exact ⟨kp, fd, _, b, h⟩) <| fm_cons (by obtain ⟨fd, F, kp, b, h⟩ := fok_L_asked (P := P) (w := w) (mg := mg) (base := base) c; exact ⟨kp, fd, _, b, h⟩) <| fm_cons (by obtain ⟨fd, F, kp, b, h⟩ := fok_L_contest_rows (P := P) (w := w) (mg := mg) (base := base) c; exact ⟨kp, fd, _, b, h⟩) <| fm_cons (by obtain ⟨fd, F, kp, b, h⟩ := fok_ranks (P := P) (w := w) (mg := mg) (base := base) c; exact ⟨kp, fd, _, b, h⟩) <| fm_cons (by obtain ⟨fd, F, kp, b, h⟩ := fok_L_ranks_right (P := P) (w := w) (mg := mg) (base := base) c; exact ⟨kp, fd, _, b, h⟩) <| fm_cons (by obtain ⟨fd, F, kp, b, h⟩ := fok_settle (P := P) (w := w) (mg := mg) (base := base) c; exact ⟨kp, fd, _, b, h⟩) <| fm_cons (by obtain ⟨fd, F, kp, b, h⟩ := fok_L_settled (P := P) (w := w) (mg := mg) (base := base) c; exact ⟨kp, fd, _, b, h⟩) <| fm_cons (by obtain ⟨fd, F, kp, b, h⟩ := fok_shows_kept (P := P) (w := w) (mg := mg) (base := base) c; exact ⟨kp, fd, _, b, h⟩) <| fm_cons (by obtain ⟨fd, F, kp, b, h⟩ := fok_shows_lost (P := P) (w := w) (mg := mg) (base := base) c; exact ⟨kp, fd, _, b, h⟩) <| fm_cons (by obtain ⟨fd, F, kp, b, h⟩ := fok_L_refusals (P := P) (w := w) (mg := mg) (base := base) c; exact ⟨kp, fd, _, b, h⟩) <| fm_cons (by obtain ⟨fd, F, kp, b, h⟩ := fok_law (P := P) (w := w) (mg := mg) (base := base) c; exact ⟨kp, fd, _, b, h⟩) <| fm_nil)
  · refine fm_get (l := W0.T.mts) (p := fun q => DefOk P w K mg base T0 (cmK K W0) tab q.2.2.2 (ma K (clsK K W0 q.1) q.2.1)) ?_ i (cc, m, n, f) e
    exact (fm_cons (fo_Control_entry c) <| fm_cons (fo_Contest_outcome c) <| fm_cons (fo_Contest_outcomes c) <| fm_cons (fo_Control_started c) <| fm_nil)
  · refine fm_get (l := W0.T.mks) (p := fun q => MkOk P w K mg base T0 (cmK K W0) tab q.2.2.2.2.1 (ma K (clsK K W0 q.2.1) "__init__") q.2.2.1 q.2.2.2.1 q.2.2.2.2.2) ?_ i (x, cc, n, ks, f, g) e
    exact (fm_cons (mk_0 c) <| fm_cons (mk_1 c) <| fm_cons (mk_2 c) <| fm_nil)
  · refine fm_get (l := W0.T.exs) (p := fun q => ∃ fd ps, FnOk P w K mg base (L2.CX P w) 1 (ma K (clsK K W0 q.2.1) "__init__") fd ps (spSup (clsK K W0 q.2.1) q.2.2) ∧ Binds K fd ps []) ?_ i (n, cc, fl) e
    exact (fm_cons (ex_0 hP1 hP2 X G c) <| fm_cons (ex_1 hP1 hP2 X G c) <| fm_nil)
  · exact (fm_cons (fo_Control___eq c) <| fm_nil)
theorem cm_ok (c : SaysY fn0 W0 sup0 K) : CmOk (cmK K W0) where
  ix := (fm_cons (cls_ix (W := W0) c 0 (p := (0, "FabricError")) rfl rfl) <| fm_cons (cls_ix (W := W0) c 1 (p := (1, "SizeError")) rfl rfl) <| fm_cons (cls_ix (W := W0) c 2 (p := (2, "BitsError")) rfl rfl) <| fm_cons (cls_ix (W := W0) c 3 (p := (3, "MachineError")) rfl rfl) <| fm_cons (cls_ix (W := W0) c 4 (p := (4, "ProgramError")) rfl rfl) <| fm_cons (cls_ix (W := W0) c 5 (p := (5, "CircuitError")) rfl rfl) <| fm_cons (cls_ix (W := W0) c 6 (p := (6, "NetlistError")) rfl rfl) <| fm_cons (cls_ix (W := W0) c 7 (p := (7, "FanoutError")) rfl rfl) <| fm_cons (cls_ix (W := W0) c 8 (p := (8, "ColouringError")) rfl rfl) <| fm_cons (cls_ix (W := W0) c 9 (p := (9, "EdgeError")) rfl rfl) <| fm_cons (cls_ix (W := W0) c 10 (p := (10, "PathError")) rfl rfl) <| fm_cons (cls_ix (W := W0) c 11 (p := (11, "TapeError")) rfl rfl) <| fm_cons (cls_ix (W := W0) c 12 (p := (12, "StoreError")) rfl rfl) <| fm_cons (cls_ix (W := W0) c 13 (p := (13, "HistoryError")) rfl rfl) <| fm_cons (cls_ix (W := W0) c 14 (p := (14, "CommandError")) rfl rfl) <| fm_cons (cls_ix (W := W0) c 15 (p := (15, "ControlError")) rfl rfl) <| fm_cons (cls_ix (W := W0) c 16 (p := (16, "FeedError")) rfl rfl) <| fm_cons (cls_ix (W := W0) c 17 (p := (17, "ExchangeError")) rfl rfl) <| fm_cons (cls_ix (W := W0) c 18 (p := (33, "Contest")) rfl rfl) <| fm_cons (cls_ix (W := W0) c 19 (p := (32, "Control")) rfl rfl) <| fm_nil)
  eq := (fm_cons (by show Option.map _ (List.find? _ [(32, i_Control___eq)]) = _; rw [List.find?_cons_of_pos (by simp [cmK])]; rfl) <| fm_nil)
theorem law_fact (hP1 : P.main.file = W0.file) (hP2 : (P.main.scope.names.lookup ("super" : Str)).isSome = false) (X : K.In h) (G : h.Ns mainGlobals mg) (c : SaysY fn0 W0 sup0 K) : ∃ fd, (∀ (s : Shared) (v : Value), BindsTo s fd ⟨[v], []⟩ [("script", v)]) ∧ ∀ base : Heap, FnOk P w K mg base (L2.CX P w) 12 (ga K "law") fd ["script"] (spOf K (jFn (cmK K W0) tab 12 i_law)) := by
  obtain ⟨fd, F, kp, b, _⟩ := fok_law (P := P) (w := w) (mg := mg) (base := h) c
  refine ⟨fd, fun s v => FunD.bindsA (ps := ["script"]) F (fun _ _ _ _ _ _ us hl => match us, hl with | [_], _ => rfl) s [v] rfl, fun base => ?_⟩
  obtain ⟨fd', F', _, _, h'⟩ := fok_law (P := P) (w := w) (mg := mg) (base := base) c
  obtain rfl : fd = fd' := by
    obtain ⟨_, _, _, _, _, _, _, _, _, _, rfl, l1, _⟩ := F.ex
    obtain ⟨_, _, _, _, _, _, _, _, _, _, rfl, l2, _⟩ := F'.ex
    rw [l1] at l2
    injection l2 with l2
    injection l2 with _ _ l3
    injection l3
  exact h' 11 (lk_all hP1 hP2 X G c 11)
end
end Y
open PySem PySem.W PySem.Calls PyProof.Rows
theorem PySem.Challenge.cw_gatesofcloth_k95_whole_contests_settled_holds : PySem.Challenge.rw_gatesofcloth_k95_whole_contests_settled.Holds := by
  w_on; o_law
  refine HandSHeadRun.head_any (r := OpenLaw.row PySem.Challenge.rw_gatesofcloth_k95_whole_contests_settled) (q := view (OpenLaw.row PySem.Challenge.rw_gatesofcloth_k95_whole_contests_settled).prog [56]) (H := Y.hk) (ob := Y.obs0) (M := 30000) (loose := Y.loose) (d := HandSHeadRun.topDef (OpenLaw.row PySem.Challenge.rw_gatesofcloth_k95_whole_contests_settled).prog 56) (kwd := []) Y.ob_eq
    (by kernel_rfl) (fun s => by kernel_rfl) Y.run (by kernel_rfl) (by kernel_rfl) (by kernel_rfl) (by rfl) (by first | assumption | decide +kernel) (by decide +kernel) ⟨rfl, rfl, rfl, rfl, rfl, by decide +kernel⟩ ?hw ?hc
  case hw => w_witness2
  case hc =>
    refine L2.walk_ofE (l := PySem.Challenge.rw_gatesofcloth_k95_whole_contests_settled) (n := 63) (k := 12) (x := "script") (CX := Y.CXw (PySem.Challenge.rw_gatesofcloth_k95_whole_contests_settled).prog) rfl (by decide) (by kernel_rfl) ⟨rfl, by decide, by decide⟩ ?F (fun _ _ _ _ z => by obtain ⟨w, z⟩ := z; exact Y.cx_false z)
    intro w mg fa h Y0 G hmg0
    obtain ⟨K, KX, c⟩ := Y0
    have hmg : mg ("law" : PySem.Str) = some (.ref fa) := by
      have e : (HandSHeadRun.topDef (OpenLaw.row PySem.Challenge.rw_gatesofcloth_k95_whole_contests_settled).prog 56).name = ("law" : PySem.Str) := by kernel_rfl
      rw [← e]
      exact hmg0
    obtain ⟨fd, hb, hF⟩ := Y.law_fact (P := (PySem.Challenge.rw_gatesofcloth_k95_whole_contests_settled).prog) (w := w) (by kernel_rfl) (by kernel_rfl) KX G c
    have hfa := hmg.symm.trans (Y.fn_glo KX G c 24 (q := ("law", Y.i_law)) rfl)
    cases hfa
    have : Y.CmOk (Y.cmK K Y.W0) := Y.cm_ok c
    exact ⟨K, fd, _, KX, hb, fun H a ns hl _ hS => Y.law_sp hS fun Q E q => Y.law_j (k := 0) q, fun base _ _ => Y.fnok_cx (fun _ _ _ _ _ _ z => ⟨w, z⟩) (hF base)⟩
