import PyProof.Rows.All
import Wide.All
import OpenK.AllK
import Wide.FinOn
import HandS.Conv
import HandS.Defaults
import HandS.Exc
import HandS.ExcOwn
import HandS.ForMost
import HandS.Head0
import HandS.Head1
import HandS.Head2
import HandS.HeadEnd
import HandS.HeadHook1
import HandS.HeadHook2
import HandS.IsInst
import HandS.Small
import HandS.Style
import HandS.TryOnly
import HandS.TupAny
import HandS.TupLe
import HandS.TupMul
import HandS.Wide
import HandS.WordsExc
import HandS.Zip
import KE.GoesEnum
import KE.GoesZip
import KE.KStateDown
import PySem.Challenge.RW_nowherebelow_k40_whole_straight_equation
set_option Elab.async false
set_option linter.all false
set_option maxRecDepth 100000
set_option maxHeartbeats 4000000
section
/-! Plain data, a store of mutable cells, and how a heap of the hand layer bears them. -/
namespace NB
open PySem PySem.Spec PyProof.Rows L2

/-- plain data; lst: a list that no one changes any more; scr: the script (locked); ptr n: the n-th mutable cell -/
inductive D where
  | non | bl (b : Bool) | int (i : Int) | str (x : Str) | tup (ds : List D) | lst (ds : List D) | scr (ds : List D) | ptr (n : Nat)
  deriving Inhabited

/-- a mutable cell -/
inductive MO where
  | lst (ds : List D)
  | ins (fs : List (Str × D))
  deriving Inhabited

mutual
def D.eqb : D → D → Bool
  | .non, .non => true
  | .bl a, .bl b => decide (a = b)
  | .int a, .int b => decide (a = b)
  | .str a, .str b => decide (a = b)
  | .tup a, .tup b => eqbs a b
  | .lst a, .lst b => eqbs a b
  | .scr a, .scr b => eqbs a b
  | .ptr a, .ptr b => decide (a = b)
  | _, _ => false
def eqbs : List D → List D → Bool
  | [], [] => true
  | a :: as, b :: bs => D.eqb a b && eqbs as bs
  | _, _ => false
end
mutual
theorem D.eqb_iff : ∀ a b : D, D.eqb a b = true ↔ a = b
  | .non, b => by cases b <;> simp [D.eqb]
  | .bl x, b => by cases b <;> simp [D.eqb]
  | .int x, b => by cases b <;> simp [D.eqb]
  | .str x, b => by cases b <;> simp [D.eqb]
  | .tup x, b => by
    cases b with
    | tup y => simp [D.eqb, eqbs_iff x y]
    | _ => simp [D.eqb]
  | .lst x, b => by
    cases b with
    | lst y => simp [D.eqb, eqbs_iff x y]
    | _ => simp [D.eqb]
  | .scr x, b => by
    cases b with
    | scr y => simp [D.eqb, eqbs_iff x y]
    | _ => simp [D.eqb]
  | .ptr x, b => by cases b <;> simp [D.eqb]
theorem eqbs_iff : ∀ a b : List D, eqbs a b = true ↔ a = b
  | [], b => by cases b <;> simp [eqbs]
  | a :: as, b => by
    cases b with
    | nil => simp [eqbs]
    | cons b bs => simp [eqbs, D.eqb_iff a b, eqbs_iff as bs]
end
instance : DecidableEq D := fun a b => if h : D.eqb a b = true then isTrue ((D.eqb_iff a b).mp h) else isFalse fun e => h ((D.eqb_iff a b).mpr e)
instance : DecidableEq MO := fun a b => match a, b with
  | .lst x, .lst y => if h : x = y then isTrue (by rw [h]) else isFalse fun e => h (MO.lst.inj e)
  | .ins x, .ins y => if h : x = y then isTrue (by rw [h]) else isFalse fun e => h (MO.ins.inj e)
  | .lst _, .ins _ => isFalse fun e => by cases e
  | .ins _, .lst _ => isFalse fun e => by cases e

theorem nodup_at {α : Type} : ∀ {l : List α} {i j : Nat} {x : α}, l.Nodup → l[i]? = some x → l[j]? = some x → i = j
  | [], i, j, x, _, h, _ => by simp at h
  | y :: l, 0, 0, x, _, _, _ => rfl
  | y :: l, 0, j + 1, x, nd, h, g => by
    rw [List.getElem?_cons_zero, Option.some.injEq] at h
    rw [List.getElem?_cons_succ] at g
    subst h
    exact absurd (List.mem_of_getElem? g) (List.nodup_cons.mp nd).1
  | y :: l, i + 1, 0, x, nd, h, g => by
    rw [List.getElem?_cons_zero, Option.some.injEq] at g
    rw [List.getElem?_cons_succ] at h
    subst g
    exact absurd (List.mem_of_getElem? h) (List.nodup_cons.mp nd).1
  | y :: l, i + 1, j + 1, x, nd, h, g => by
    rw [List.getElem?_cons_succ] at h g
    rw [nodup_at (List.nodup_cons.mp nd).2 h g]

/-! ### worlds -/
/-- H: the abstract heap; F: its part that no one changes; ρ: where the cells lie -/
structure Wd where
  H : Hp
  F : Hp
  ρ : List Addr

mutual
def Rep (K : PySem.W.Frag) (F : Hp) (ρ : List Addr) : D → V → Prop
  | .non, v => v = .non
  | .bl b, v => v = .bl b
  | .int i, v => v = .int i
  | .str x, v => v = .str x
  | .tup ds, v => ∃ a vs, v = .ref a ∧ SqT K F a vs ∧ Reps K F ρ ds vs
  | .lst ds, v => ∃ a vs, v = .ref a ∧ F a = some (.lst vs) ∧ Reps K F ρ ds vs
  | .scr ds, v => ∃ a vs, v = .ref a ∧ SqL K F a vs ∧ Reps K F ρ ds vs
  | .ptr n, v => ∃ a, ρ[n]? = some a ∧ v = .ref a
def Reps (K : PySem.W.Frag) (F : Hp) (ρ : List Addr) : List D → List V → Prop
  | [], vs => vs = []
  | d :: ds, vs => ∃ v r, vs = v :: r ∧ Rep K F ρ d v ∧ Reps K F ρ ds r
end
section
variable {K : PySem.W.Frag} {F F' : Hp} {ρ ρ' : List Addr}
theorem SqT.same {a : Addr} {xs : List V} (e : Same F F') (h : SqT K F a xs) : SqT K F' a xs := by
  rcases h with (h | ⟨o, h⟩) | h
  · exact .inl (.inl (e _ _ h))
  · exact .inl (.inr ⟨o, e _ _ h⟩)
  · exact .inr h
mutual
theorem Rep.mono (e : Same F F') (p : ∀ (n : Nat) (a : Addr), ρ[n]? = some a → ρ'[n]? = some a) : ∀ (d : D) (v : V), Rep K F ρ d v → Rep K F' ρ' d v
  | .non, _, h => h
  | .bl _, _, h => h
  | .int _, _, h => h
  | .str _, _, h => h
  | .tup ds, v, h => by
    simp only [Rep] at h ⊢
    obtain ⟨a, vs, e1, e2, e3⟩ := h
    exact ⟨a, vs, e1, SqT.same e e2, Reps.mono e p ds vs e3⟩
  | .lst ds, v, h => by
    simp only [Rep] at h ⊢
    obtain ⟨a, vs, e1, e2, e3⟩ := h
    exact ⟨a, vs, e1, e _ _ e2, Reps.mono e p ds vs e3⟩
  | .scr ds, v, h => by
    simp only [Rep] at h ⊢
    obtain ⟨a, vs, e1, e2, e3⟩ := h
    exact ⟨a, vs, e1, e.seq e2, Reps.mono e p ds vs e3⟩
  | .ptr n, v, h => by
    simp only [Rep] at h ⊢
    obtain ⟨a, e1, e2⟩ := h
    exact ⟨a, p n a e1, e2⟩
theorem Reps.mono (e : Same F F') (p : ∀ (n : Nat) (a : Addr), ρ[n]? = some a → ρ'[n]? = some a) : ∀ (ds : List D) (vs : List V), Reps K F ρ ds vs → Reps K F' ρ' ds vs
  | [], _, h => h
  | d :: ds, vs, h => by
    simp only [Reps] at h ⊢
    obtain ⟨v, r, e1, e2, e3⟩ := h
    exact ⟨v, r, e1, Rep.mono e p d v e2, Reps.mono e p ds r e3⟩
end
theorem Reps.length : ∀ {ds : List D} {vs : List V}, Reps K F ρ ds vs → ds.length = vs.length
  | [], vs, h => by
    simp only [Reps] at h
    subst h
    rfl
  | d :: ds, vs, h => by
    simp only [Reps] at h
    obtain ⟨v, r, rfl, _, h⟩ := h
    simp [Reps.length h]
theorem Reps.get : ∀ {ds : List D} {vs : List V} {i : Nat} {d : D}, Reps K F ρ ds vs → ds[i]? = some d → ∃ v, vs[i]? = some v ∧ Rep K F ρ d v
  | [], vs, i, d, h, e => by simp at e
  | d0 :: ds, vs, i, d, h, e => by
    simp only [Reps] at h
    obtain ⟨v, r, rfl, h1, h2⟩ := h
    cases i with
    | zero =>
      simp only [List.getElem?_cons_zero, Option.some.injEq] at e
      subst e
      exact ⟨v, rfl, h1⟩
    | succ i =>
      simp only [List.getElem?_cons_succ] at e
      obtain ⟨w, h3, h4⟩ := Reps.get h2 e
      exact ⟨w, by simpa using h3, h4⟩
theorem Reps.get' {ds : List D} {vs : List V} {i : Nat} {v : V} (h : Reps K F ρ ds vs) (e : vs[i]? = some v) : ∃ d, ds[i]? = some d ∧ Rep K F ρ d v := by
  have hl := h.length
  have hi : i < vs.length := (List.getElem?_eq_some_iff.mp e).1
  obtain ⟨w, h1, h2⟩ := Reps.get h (List.getElem?_eq_getElem (show i < ds.length by omega))
  rw [e] at h1
  cases h1
  exact ⟨_, List.getElem?_eq_getElem (show i < ds.length by omega), h2⟩
theorem Reps.append : ∀ {ds es : List D} {vs us : List V}, Reps K F ρ ds vs → Reps K F ρ es us → Reps K F ρ (ds ++ es) (vs ++ us)
  | [], es, vs, us, h, g => by
    simp only [Reps] at h
    subst h
    exact g
  | d :: ds, es, vs, us, h, g => by
    simp only [Reps] at h
    obtain ⟨v, r, rfl, h1, h2⟩ := h
    simp only [List.cons_append, Reps]
    exact ⟨v, r ++ us, rfl, h1, Reps.append h2 g⟩
theorem Reps.one {d : D} {v : V} (h : Rep K F ρ d v) : Reps K F ρ [d] [v] := by
  simp only [Reps]
  exact ⟨v, [], rfl, h, rfl⟩
theorem Reps.cons {d : D} {v : V} {ds : List D} {vs : List V} (h : Rep K F ρ d v) (g : Reps K F ρ ds vs) : Reps K F ρ (d :: ds) (v :: vs) := by
  simp only [Reps]
  exact ⟨v, vs, rfl, h, g⟩
theorem Reps.nil : Reps K F ρ [] [] := by simp only [Reps]
theorem Reps.take : ∀ {ds : List D} {vs : List V} (n : Nat), Reps K F ρ ds vs → Reps K F ρ (ds.take n) (vs.take n)
  | [], vs, n, h => by
    simp only [Reps] at h
    subst h
    simp [Reps]
  | d :: ds, vs, 0, h => by simp [Reps]
  | d :: ds, vs, n + 1, h => by
    simp only [Reps] at h
    obtain ⟨v, r, rfl, h1, h2⟩ := h
    simp only [List.take_succ_cons]
    exact .cons h1 (Reps.take n h2)
theorem Reps.drop : ∀ {ds : List D} {vs : List V} (n : Nat), Reps K F ρ ds vs → Reps K F ρ (ds.drop n) (vs.drop n)
  | [], vs, n, h => by
    simp only [Reps] at h
    subst h
    simp [Reps]
  | d :: ds, vs, 0, h => by simpa using h
  | d :: ds, vs, n + 1, h => by
    simp only [Reps] at h
    obtain ⟨v, r, rfl, h1, h2⟩ := h
    simp only [List.drop_succ_cons]
    exact Reps.drop n h2
theorem Reps.set {d : D} {v : V} (q : Rep K F ρ d v) : ∀ {ds : List D} {vs : List V} (i : Nat), Reps K F ρ ds vs → Reps K F ρ (ds.set i d) (vs.set i v)
  | [], vs, i, h => by
    simp only [Reps] at h
    subst h
    simp [Reps]
  | d0 :: ds, vs, 0, h => by
    simp only [Reps] at h
    obtain ⟨v0, r, rfl, h1, h2⟩ := h
    exact .cons q h2
  | d0 :: ds, vs, i + 1, h => by
    simp only [Reps] at h
    obtain ⟨v0, r, rfl, h1, h2⟩ := h
    exact .cons h1 (Reps.set q i h2)
theorem Reps.eraseIdx : ∀ {ds : List D} {vs : List V} (i : Nat), Reps K F ρ ds vs → Reps K F ρ (ds.eraseIdx i) (vs.eraseIdx i)
  | [], vs, i, h => by
    simp only [Reps] at h
    subst h
    simp [Reps]
  | d0 :: ds, vs, 0, h => by
    simp only [Reps] at h
    obtain ⟨v0, r, rfl, h1, h2⟩ := h
    exact h2
  | d0 :: ds, vs, i + 1, h => by
    simp only [Reps] at h
    obtain ⟨v0, r, rfl, h1, h2⟩ := h
    exact .cons h1 (Reps.eraseIdx i h2)
theorem Reps.rep {d : D} {v : V} (q : Rep K F ρ d v) : ∀ n, Reps K F ρ (List.replicate n d) (List.replicate n v)
  | 0 => by simp [Reps]
  | n + 1 => by
    rw [List.replicate_succ, List.replicate_succ]
    exact .cons q (Reps.rep q n)
end

def CellOk (K : PySem.W.Frag) (C : Addr) (w : Wd) (a : Addr) : MO → Prop
  | .lst ds => ∃ vs, w.H a = some (.lst vs) ∧ Reps K w.F w.ρ ds vs
  | .ins fs => ∃ dx vs, w.H a = some (.ins C dx vs) ∧ vs.map (·.1) = fs.map (·.1) ∧ Reps K w.F w.ρ (fs.map (·.2)) (vs.map (·.2))

structure Wok (K : PySem.W.Frag) (C : Addr) (w : Wd) (μ : List MO) : Prop where
  fh : Same w.F w.H
  nd : w.ρ.Nodup
  len : w.ρ.length = μ.length
  fn : ∀ a ∈ w.ρ, w.F a = none
  ce : ∀ (n : Nat) (a : Addr) (m : MO), w.ρ[n]? = some a → μ[n]? = some m → CellOk K C w a m

/-- what may come between two worlds of one def: the cells change, all else stays; new things are new -/
structure Wle (w w' : Wd) : Prop where
  keep : ∀ a o, w.H a = some o → a ∉ w.ρ → w'.H a = some o
  fle : Same w.F w'.F
  fold : ∀ a, w.H a ≠ none → w'.F a = w.F a
  pre : ∃ s, w'.ρ = w.ρ ++ s ∧ ∀ a ∈ s, w.H a = none
  dom : ∀ a, w.H a ≠ none → w'.H a ≠ none

theorem Wle.refl (w : Wd) : Wle w w := ⟨fun _ _ h _ => h, fun _ _ h => h, fun _ _ => rfl, ⟨[], by simp, by simp⟩, fun _ h => h⟩
theorem Wle.trans {w w1 w2 : Wd} (a : Wle w w1) (b : Wle w1 w2) : Wle w w2 := by
  obtain ⟨s, e1, n1⟩ := a.pre
  obtain ⟨t, e2, n2⟩ := b.pre
  have nt : ∀ x ∈ t, w.H x = none := fun x hx => by
    cases q : w.H x with
    | none => rfl
    | some o => exact absurd (n2 x hx) (a.dom x (by rw [q]; exact fun z => by cases z))
  refine ⟨fun x o h hn => b.keep x o (a.keep x o h hn) ?_, fun x o h => b.fle x o (a.fle x o h), fun x h => (b.fold x (a.dom x h)).trans (a.fold x h), ⟨s ++ t, by rw [e2, e1, List.append_assoc], fun x hx => ?_⟩, fun x h => b.dom x (a.dom x h)⟩
  · rw [e1]
    intro hm
    rcases List.mem_append.mp hm with z | z
    · exact hn z
    · rw [n1 x z] at h
      cases h
  · rcases List.mem_append.mp hx with z | z
    · exact n1 x z
    · exact nt x z
theorem Wle.get {w w' : Wd} (l : Wle w w') : ∀ (n : Nat) (a : Addr), w.ρ[n]? = some a → w'.ρ[n]? = some a := fun n a h => by
  obtain ⟨s, e, _⟩ := l.pre
  rw [e, List.getElem?_append_left (List.getElem?_eq_some_iff.mp h).1]
  exact h
section
variable {K : PySem.W.Frag} {C : Addr} {w w' : Wd} {μ μ' : List MO}
abbrev RepW (K : PySem.W.Frag) (w : Wd) : D → V → Prop := Rep K w.F w.ρ
abbrev RepsW (K : PySem.W.Frag) (w : Wd) : List D → List V → Prop := Reps K w.F w.ρ
theorem Wle.rep (l : Wle w w') {d : D} {v : V} (h : RepW K w d v) : RepW K w' d v := Rep.mono l.fle l.get d v h
theorem Wle.reps (l : Wle w w') {d : List D} {v : List V} (h : RepsW K w d v) : RepsW K w' d v := Reps.mono l.fle l.get d v h
theorem Wok.has (k : Wok K C w μ) {a : Addr} (h : a ∈ w.ρ) : w.H a ≠ none := by
  obtain ⟨n, hn, e⟩ := List.getElem_of_mem h
  have h1 : w.ρ[n]? = some a := by rw [List.getElem?_eq_getElem hn, e]
  have h2 : n < μ.length := by rw [← k.len]; exact hn
  have := k.ce n a μ[n] h1 (List.getElem?_eq_getElem h2)
  cases q : μ[n] with
  | lst ds =>
    rw [q] at this
    obtain ⟨vs, e, _⟩ := this
    rw [e]
    exact fun z => by cases z
  | ins fs =>
    rw [q] at this
    obtain ⟨dx, vs, e, _⟩ := this
    rw [e]
    exact fun z => by cases z
theorem Wok.nin (k : Wok K C w μ) {p : Addr} (h : w.H p = none) : p ∉ w.ρ := fun z => k.has z h
theorem Wok.fnone (k : Wok K C w μ) {p : Addr} (h : w.H p = none) : w.F p = none := by
  cases q : w.F p with
  | none => rfl
  | some o =>
    have := k.fh p o q
    rw [h] at this
    cases this
theorem CellOk.mono {a : Addr} {m : MO} (h : CellOk K C w a m) (e : w'.H a = w.H a) (f : Same w.F w'.F) (p : ∀ (n : Nat) (a : Addr), w.ρ[n]? = some a → w'.ρ[n]? = some a) : CellOk K C w' a m := by
  cases m with
  | lst ds =>
    obtain ⟨vs, e1, r⟩ := h
    exact ⟨vs, e.trans e1, Reps.mono f p _ _ r⟩
  | ins fs =>
    obtain ⟨dx, vs, e1, n, r⟩ := h
    exact ⟨dx, vs, e.trans e1, n, Reps.mono f p _ _ r⟩
/-- a new thing that no one changes -/
theorem Wok.laidF (k : Wok K C w μ) {p : Addr} {o : HO} (h : w.H p = none) : Wok K C ⟨upd w.H p o, upd w.F p o, w.ρ⟩ μ := by
  have hf := k.fnone h
  have sf : Same w.F (upd w.F p o) := fun a u e => by rw [upd_ne (ne_of_none e hf)]; exact e
  refine ⟨fun a u e => ?_, k.nd, k.len, fun a ha => ?_, fun n a m h1 h2 => ?_⟩
  · by_cases hp : a = p
    · subst hp
      have e' : (upd w.F a o) a = some u := e
      rw [upd_same] at e'
      show (upd w.H a o) a = some u
      rw [upd_same]
      exact e'
    · have e' : (upd w.F p o) a = some u := e
      rw [upd_ne hp] at e'
      show (upd w.H p o) a = some u
      rw [upd_ne hp]
      exact k.fh a u e'
  · have : a ≠ p := fun z => k.nin h (z ▸ ha)
    show (upd w.F p o) a = none
    rw [upd_ne this]
    exact k.fn a ha
  · have hm : a ∈ w.ρ := List.mem_of_getElem? h1
    have : a ≠ p := fun z => k.nin h (z ▸ hm)
    exact CellOk.mono (k.ce n a m h1 h2) (upd_ne this) sf fun _ _ z => z
theorem Wle.laidF (k : Wok K C w μ) {p : Addr} {o : HO} (h : w.H p = none) : Wle w ⟨upd w.H p o, upd w.F p o, w.ρ⟩ := by
  have hf := k.fnone h
  refine ⟨fun a u e _ => ?_, fun a u e => ?_, fun a e => ?_, ⟨[], by simp, by simp⟩, fun a e => ?_⟩
  · show (upd w.H p o) a = some u
    rw [upd_ne (ne_of_none e h)]; exact e
  · show (upd w.F p o) a = some u
    rw [upd_ne (ne_of_none e hf)]; exact e
  · show (upd w.F p o) a = _
    rw [upd_ne (fun z => e (by rw [z]; exact h))]
  · show (upd w.H p o) a ≠ none
    rw [upd_ne (fun z => e (by rw [z]; exact h))]; exact e
/-- a new cell -/
theorem Wok.laidM (k : Wok K C w μ) {p : Addr} {o : HO} {m : MO} (h : w.H p = none) (ok : CellOk K C ⟨upd w.H p o, w.F, w.ρ ++ [p]⟩ p m) : Wok K C ⟨upd w.H p o, w.F, w.ρ ++ [p]⟩ (μ ++ [m]) := by
  have hf := k.fnone h
  refine ⟨fun a u e => ?_, ?_, ?_, fun a ha => ?_, fun n a m' h1 h2 => ?_⟩
  · have : a ≠ p := fun z => by rw [z] at e; rw [hf] at e; cases e
    show (upd w.H p o) a = some u
    rw [upd_ne this]; exact k.fh a u e
  · show (w.ρ ++ [p]).Nodup
    rw [List.nodup_append]
    refine ⟨k.nd, by simp, fun a ha b hb => ?_⟩
    have : b = p := by simpa using hb
    subst this
    exact fun z => k.nin h (z ▸ ha)
  · show (w.ρ ++ [p]).length = _
    simp [k.len]
  · rcases List.mem_append.mp ha with z | z
    · exact k.fn a z
    · have : a = p := by simpa using z
      subst this
      exact hf
  · have h1 : (w.ρ ++ [p])[n]? = some a := h1
    by_cases hn : n < w.ρ.length
    · rw [List.getElem?_append_left hn] at h1
      rw [List.getElem?_append_left (by rw [← k.len]; exact hn)] at h2
      have hm : a ∈ w.ρ := List.mem_of_getElem? h1
      have : a ≠ p := fun z => k.nin h (z ▸ hm)
      refine CellOk.mono (k.ce n a m' h1 h2) (upd_ne this) (fun _ _ z => z) fun i b z => ?_
      show (w.ρ ++ [p])[i]? = some b
      rw [List.getElem?_append_left (List.getElem?_eq_some_iff.mp z).1]; exact z
    · have hn2 : n = w.ρ.length := by
        have := (List.getElem?_eq_some_iff.mp h1).1
        simp at this
        omega
      subst hn2
      rw [List.getElem?_append_right (Nat.le_refl _)] at h1
      rw [k.len, List.getElem?_append_right (Nat.le_refl _)] at h2
      simp at h1 h2
      subst h1 h2
      exact ok
theorem Wle.laidM (k : Wok K C w μ) {p : Addr} {o : HO} (h : w.H p = none) : Wle w ⟨upd w.H p o, w.F, w.ρ ++ [p]⟩ := by
  refine ⟨fun a u e _ => ?_, fun a u e => e, fun a e => rfl, ⟨[p], rfl, fun a ha => ?_⟩, fun a e => ?_⟩
  · show (upd w.H p o) a = some u
    rw [upd_ne (ne_of_none e h)]; exact e
  · have : a = p := by simpa using ha
    subst this; exact h
  · show (upd w.H p o) a ≠ none
    rw [upd_ne (fun z => e (by rw [z]; exact h))]; exact e
/-- a cell is changed -/
theorem Wok.write (k : Wok K C w μ) {n : Nat} {a : Addr} {o : HO} {m : MO} (ha : w.ρ[n]? = some a) (ok : CellOk K C ⟨upd w.H a o, w.F, w.ρ⟩ a m) : Wok K C ⟨upd w.H a o, w.F, w.ρ⟩ (μ.set n m) := by
  have hm : a ∈ w.ρ := List.mem_of_getElem? ha
  have hf := k.fn a hm
  refine ⟨fun b u e => ?_, k.nd, by simp [k.len], k.fn, fun i b m' h1 h2 => ?_⟩
  · have : b ≠ a := fun z => by rw [z] at e; rw [hf] at e; cases e
    show (upd w.H a o) b = some u
    rw [upd_ne this]; exact k.fh b u e
  · by_cases hi : i = n
    · subst hi
      have h1 : w.ρ[i]? = some b := h1
      rw [ha] at h1
      cases h1
      have hl : i < μ.length := by rw [← k.len]; exact (List.getElem?_eq_some_iff.mp ha).1
      rw [List.getElem?_set_self hl] at h2
      cases h2
      exact ok
    · rw [List.getElem?_set_ne (Ne.symm hi)] at h2
      have hb : b ≠ a := fun z => by
        subst z
        exact hi (nodup_at k.nd h1 ha)
      exact CellOk.mono (k.ce i b m' h1 h2) (upd_ne hb) (fun _ _ z => z) fun _ _ z => z
theorem Wle.write (k : Wok K C w μ) {n : Nat} {a : Addr} {o : HO} (ha : w.ρ[n]? = some a) : Wle w ⟨upd w.H a o, w.F, w.ρ⟩ := by
  have hm : a ∈ w.ρ := List.mem_of_getElem? ha
  refine ⟨fun b u e hn => ?_, fun a u e => e, fun a e => rfl, ⟨[], by simp, by simp⟩, fun b e => ?_⟩
  · have : b ≠ a := fun z => hn (z ▸ hm)
    show (upd w.H a o) b = some u
    rw [upd_ne this]; exact e
  · show (upd w.H a o) b ≠ none
    by_cases hb : b = a
    · subst hb; rw [upd_same]; exact fun z => by cases z
    · rw [upd_ne hb]; exact e
end
end NB
end
set_option maxHeartbeats 4000000
section
/-! A small language over plain data, and what its texts do. -/
namespace NB
open PySem PySem.Spec PyProof.Rows L2

/-! ### runs: nothing known | an error of a class | a value; the cells behind -/
abbrev M (α : Type) := List MO → Option (Except Str α × List MO)
def M.ok {α : Type} (a : α) : M α := fun μ => some (.ok a, μ)
def M.bad {α : Type} : M α := fun _ => none
def M.exc {α : Type} (c : Str) : M α := fun μ => some (.error c, μ)
def M.bind {α β : Type} (x : M α) (f : α → M β) : M β := fun μ =>
  match x μ with
  | none => none
  | some (.error c, μ') => some (.error c, μ')
  | some (.ok a, μ') => f a μ'
/-- where nothing may be raised -/
def M.calm {α : Type} (x : M α) : M α := fun μ =>
  match x μ with
  | some (.ok a, μ') => some (.ok a, μ')
  | _ => none
def M.opt {α : Type} : Option α → M α
  | some a => M.ok a
  | none => M.bad

/-! ### the syntax -/
inductive BOp where | add | sub | mul | fdiv | mod
inductive COp where | eq | ne | lt | le | gt | ge | is_ | isn
inductive Ty where | int | bool | str | tup | lst
inductive Tg where
  | nm (i : Nat)
  | nil
  | cons (t : Tg) (ts : Tg)
mutual
inductive Ex where
  | var (i : Nat) | int (i : Int) | str (x : Str) | bl (b : Bool) | non | glb (x : Str)
  | bin (o : BOp) (a b : Ex) | binL (o : BOp) (a b : Ex) | neg (a : Ex) | not_ (a : Ex) | cmp (o : COp) (a b : Ex) | and_ (a b : Ex) | or_ (a b : Ex) | ite (c a b : Ex)
  | tup (es : Exs) | lst (m : Bool) (es : Exs)
  | idx (a i : Ex) | slc (a : Ex) (lo hi : Cn) | fld (a : Ex) (f : Str)
  | call (f : Nat) (es : Exs) | mth (f : Nat) (m : Str) (o : Ex) (es : Exs) | mk (f : Nat) (es : Exs)
  | len (a : Ex) | abs (a : Ex) | all (a : Ex) | any (a : Ex) | tupl (a : Ex) | list (m : Bool) (a : Ex) | int_ (a : Ex) | isi (t : Ty) (a : Ex)
  | comp (m : Bool) (own : List Nat) (t : Tg) (i : It) (c : Cn) (e : Ex)
  | app (o e : Ex) | pop (o i : Ex)
inductive Exs where
  | nil
  | cons (e : Ex) (es : Exs)
inductive It where
  | seq (a : Ex) | rng (a : Ex) | rng2 (a b : Ex) | zip (a b : Ex) | enm (a : Ex) | ezip (a b : Ex)
inductive Cn where
  | no
  | yes (e : Ex)
end
mutual
inductive Sx where
  | expr (e : Ex) | asg (t : Tg) (e : Ex) | par (i j : Nat) (a b : Ex) | setI (o i e : Ex) | setF (o : Ex) (f : Str) (e : Ex)
  | ite (c : Ex) (a b : Sxs) | for_ (t : Tg) (i : It) (b : Sxs) | whl (c : Ex) (b : Sxs)
  | ret (e : Ex) | retN | brk | cnt | pass | raise (x : Str) | try_ (b : Sxs) (x : Str) (h : Sxs)
inductive Sxs where
  | nil
  | cons (s : Sx) (r : Sxs)
end

/-! ### values -/
def lim : Nat := 1000000
/-- the size of intsD -/
def big : Nat := 2 ^ 8000
def seqOf (μ : List MO) : D → Option (List D)
  | .tup ds => some ds
  | .lst ds => some ds
  | .scr ds => some ds
  | .ptr n => match μ[n]? with
    | some (.lst ds) => some ds
    | _ => none
  | _ => none
def lstOf (μ : List MO) : D → Option (List D)
  | .lst ds => some ds
  | .ptr n => match μ[n]? with
    | some (.lst ds) => some ds
    | _ => none
  | _ => none
def fresh (m : Bool) (ds : List D) : M D := fun μ => if m then some (.ok (.ptr μ.length), μ ++ [.lst ds]) else some (.ok (.lst ds), μ)
def okInt (i : Int) : Bool := decide (i.natAbs < big)
/-- the size of the factors of a product -/
def huge : Nat := 2 ^ 400000
def okBig (i : Int) : Bool := decide (i.natAbs < huge)
def sIx (n d : Nat) : Option Int → Nat := HT.sIx n d
def cutD (xs : List D) (lo hi : Option Int) : List D := (xs.drop (HT.sIx xs.length 0 lo)).take (HT.sIx xs.length xs.length hi - HT.sIx xs.length 0 lo)
def repl (k : Nat) (xs : List D) : List D := (List.replicate k xs).flatten
def addD (x y : D) : M D := fun μ =>
  match x, y with
  | .int a, .int b => some (.ok (.int (a + b)), μ)
  | .tup a, .tup b => if a.length + b.length ≤ lim then some (.ok (.tup (a ++ b)), μ) else none
  | x, y => match lstOf μ x, lstOf μ y with
    | some a, some b => if a.length + b.length ≤ lim then some (.ok (.lst (a ++ b)), μ) else none
    | _, _ => none
def subD (x y : D) : M D := fun μ =>
  match x, y with
  | .int a, .int b => some (.ok (.int (a - b)), μ)
  | _, _ => none
def mulD (x y : D) : M D := fun μ =>
  match x, y with
  | .int a, .int b => if okBig a && okBig b then some (.ok (.int (a * b)), μ) else none
  | .tup a, .int k => if 1 ≤ a.length ∧ a.length ≤ 1000 ∧ 1 ≤ k ∧ k ≤ 1000 then some (.ok (.tup (repl k.toNat a)), μ) else none
  | x, .int k => match lstOf μ x with
    | some a => if a.length * k.toNat ≤ lim ∧ -1000000000 ≤ k ∧ k ≤ 1000000000 then some (.ok (.lst (repl k.toNat a)), μ) else none
    | none => none
  | _, _ => none
def fdivD (x y : D) : M D := fun μ =>
  match x, y with
  | .int a, .int b => if okInt b ∧ b ≠ 0 then some (.ok (.int (a.fdiv b)), μ) else none
  | _, _ => none
def modD (x y : D) : M D := fun μ =>
  match x, y with
  | .int a, .int b => if b ≠ 0 then some (.ok (.int (a.fmod b)), μ) else none
  | _, _ => none
def opB : BOp → D → D → M D
  | .add => addD
  | .sub => subD
  | .mul => mulD
  | .fdiv => fdivD
  | .mod => modD
/-- a new list that is changed later -/
def opBL : BOp → D → D → M D
  | .add, x, y => fun μ => match lstOf μ x, lstOf μ y with
    | some a, some b => if a.length + b.length ≤ lim then fresh true (a ++ b) μ else none
    | _, _ => none
  | .mul, x, y => fun μ => match y with
    | .int k => match lstOf μ x with
      | some a => if a.length * k.toNat ≤ lim ∧ -1000000000 ≤ k ∧ k ≤ 1000000000 then fresh true (repl k.toNat a) μ else none
      | none => none
    | _ => none
  | _, _, _ => M.bad
/-! Python ==, of data without cells -/
mutual
def peq : D → D → Bool
  | .non, .non => true
  | .bl a, .bl b => a == b
  | .bl a, .int j => (if a then 1 else 0) == j
  | .int i, .bl b => i == (if b then 1 else 0)
  | .int i, .int j => i == j
  | .str x, .str y => x == y
  | .tup xs, .tup ys => peqs xs ys
  | .lst xs, .lst ys => peqs xs ys
  | _, _ => false
def peqs : List D → List D → Bool
  | [], [] => true
  | x :: xs, y :: ys => peq x y && peqs xs ys
  | _, _ => false
end
/-! data without cells, texts of a bounded size, at most n deep -/
mutual
def flat : Nat → D → Bool
  | _, .non => true
  | _, .bl _ => true
  | _, .int _ => true
  | _, .str x => PySem.PyData.strOk x
  | n + 1, .tup ds => flats n ds
  | n + 1, .lst ds => flats n ds
  | _, _ => false
def flats : Nat → List D → Bool
  | _, [] => true
  | n, d :: ds => flat n d && flats n ds
end
def open1 (μ : List MO) (d : D) : D :=
  match d with
  | .ptr n => match μ[n]? with
    | some (.lst ds) => .lst ds
    | _ => d
  | _ => d
def eqD (x y : D) : M D := fun μ => if flat 60 (open1 μ x) && flat 60 (open1 μ y) then some (.ok (.bl (peq (open1 μ x) (open1 μ y))), μ) else none
def neD (x y : D) : M D := fun μ => if flat 60 (open1 μ x) && flat 60 (open1 μ y) then some (.ok (.bl (!peq (open1 μ x) (open1 μ y))), μ) else none
def ordD (f : Int → Int → Bool) (x y : D) : M D := fun μ =>
  match x, y with
  | .int a, .int b => some (.ok (.bl (f a b)), μ)
  | _, _ => none
def isD (x y : D) : M D := fun μ =>
  match x, y with
  | .bl a, .bl b => some (.ok (.bl (decide (a = b))), μ)
  | .non, .non => some (.ok (.bl true), μ)
  | .ptr _, .non => some (.ok (.bl false), μ)
  | .bl _, .non => some (.ok (.bl false), μ)
  | .int _, .non => some (.ok (.bl false), μ)
  | .str _, .non => some (.ok (.bl false), μ)
  | .tup _, .non => some (.ok (.bl false), μ)
  | .lst _, .non => some (.ok (.bl false), μ)
  | _, _ => none
def isnD (x y : D) : M D := fun μ =>
  match x, y with
  | .bl a, .bl b => some (.ok (.bl (!decide (a = b))), μ)
  | .non, .non => some (.ok (.bl false), μ)
  | .ptr _, .non => some (.ok (.bl true), μ)
  | .bl _, .non => some (.ok (.bl true), μ)
  | .int _, .non => some (.ok (.bl true), μ)
  | .str _, .non => some (.ok (.bl true), μ)
  | .tup _, .non => some (.ok (.bl true), μ)
  | .lst _, .non => some (.ok (.bl true), μ)
  | _, _ => none
def opC : COp → D → D → M D
  | .eq => eqD
  | .ne => neD
  | .lt => ordD fun a b => decide (a < b)
  | .le => ordD fun a b => decide (a ≤ b)
  | .gt => ordD fun a b => decide (b < a)
  | .ge => ordD fun a b => decide (b ≤ a)
  | .is_ => isD
  | .isn => isnD
def isT (μ : List MO) (t : Ty) (d : D) : Option Bool :=
  match d, t with
  | .non, _ => some false
  | .bl _, .int => some true
  | .bl _, .bool => some true
  | .bl _, _ => some false
  | .int _, .int => some true
  | .int _, _ => some false
  | .str _, .str => some true
  | .str _, _ => some false
  | .tup _, .tup => some true
  | .tup _, _ => some false
  | .lst _, .lst => some true
  | .lst _, _ => some false
  | .ptr n, t => match μ[n]?, t with
    | some (.lst _), .lst => some true
    | some (.lst _), _ => some false
    | _, _ => none
  | _, _ => none
def bls : List D → Option (List Bool)
  | [] => some []
  | .bl b :: ds => (bls ds).map (b :: ·)
  | _ :: _ => none
/-- a target takes a value -/
def bindT : Tg → D → List (Option D) → Option (List (Option D))
  | .nm i, d, δ => if i < δ.length then some (δ.set i (some d)) else none
  | .nil, .tup [], δ => some δ
  | .cons t ts, .tup (d :: ds), δ => match bindT t d δ with
    | some δ' => bindT ts (.tup ds) δ'
    | none => none
  | _, _, _ => none
def wipeD (δ : List (Option D)) : List Nat → List (Option D)
  | [] => δ
  | v :: vs => (wipeD δ vs).set v none
def putD (f : Str) (v : D) : List (Str × D) → List (Str × D)
  | [] => [(f, v)]
  | (g, x) :: r => if g = f then (g, v) :: r else (g, x) :: putD f v r
/-- what a loop walks: its items; the cells that must stand meanwhile -/
structure Its where
  items : List D
  src : List (Nat × MO)
def srcOk (src : List (Nat × MO)) (μ : List MO) : Bool := src.all fun p => decide (μ[p.1]? = some p.2)
def guard {α : Type} (src : List (Nat × MO)) (x : M α) : M α := fun μ => if srcOk src μ then x μ else none
def srcOf (μ : List MO) : D → List (Nat × MO)
  | .ptr n => match μ[n]? with
    | some m => [(n, m)]
    | none => []
  | _ => []
def pairs : List D → List D → List D
  | x :: xs, y :: ys => .tup [x, y] :: pairs xs ys
  | _, _ => []
def enums : Nat → List D → List D
  | _, [] => []
  | n, x :: xs => .tup [.int n, x] :: enums (n + 1) xs
def intsD (lo : Int) : Nat → List D
  | 0 => []
  | n + 1 => .int lo :: intsD (lo + 1) n
/-- the items that are kept, each by f -/
def compL (src : List (Nat × MO)) (f : D → M (Option D)) : List D → M (List D)
  | [] => M.ok []
  | d :: ds => M.bind (M.calm (f d)) fun r => guard src (M.bind (compL src f ds) fun rs => M.ok (match r with
    | some x => x :: rs
    | none => rs))
inductive Fl where
  | nx (δ : List (Option D)) | rt (d : D) | bk (δ : List (Option D)) | ct (δ : List (Option D))
def forL (src : List (Nat × MO)) (t : Tg) (body : List (Option D) → M Fl) : List D → List (Option D) → M Fl
  | [], δ => M.ok (.nx δ)
  | d :: ds, δ => match bindT t d δ with
    | none => M.bad
    | some δ1 => M.bind (body δ1) fun f => match f with
      | .nx δ' => guard src (forL src t body ds δ')
      | .ct δ' => guard src (forL src t body ds δ')
      | .bk δ' => M.ok (.nx δ')
      | .rt d => M.ok (.rt d)
def whileL (c : List (Option D) → M Bool) (body : List (Option D) → M Fl) : Nat → List (Option D) → M Fl
  | 0, _ => M.bad
  | n + 1, δ => M.bind (c δ) fun b => if b then M.bind (body δ) fun f => match f with
      | .nx δ' => whileL c body n δ'
      | .ct δ' => whileL c body n δ'
      | .bk δ' => M.ok (.nx δ')
      | .rt d => M.ok (.rt d)
    else M.ok (.nx δ)
/-- more turns than any loop takes -/
def fuel : Nat := huge
def asBl : D → M Bool
  | .bl b => M.ok b
  | _ => M.bad

def isLst (μ : List MO) (x : D) : Bool :=
  match x with
  | .ptr n => match μ[n]? with
    | some (.lst _) => true
    | _ => false
  | _ => false
def appD (x y : D) : M D := fun μ =>
  match x with
  | .ptr n => match μ[n]? with
    | some (.lst ds) => if ds.length ≤ lim then some (.ok .non, μ.set n (.lst (ds ++ [y]))) else none
    | _ => none
  | _ => none
def popD (x y : D) : M D := fun μ =>
  match x, y with
  | .ptr n, .int k => match μ[n]? with
    | some (.lst ds) => match ixN ds.length k with
      | some j => match ds[j]? with
        | some d => if -1000000000 ≤ k ∧ k ≤ 1000000000 then some (.ok d, μ.set n (.lst (ds.eraseIdx j))) else none
        | none => none
      | none => none
    | _ => none
  | _, _ => none

/-! ### what the texts do; G: the constants of the top; Φ: the defs -/
section
variable (G : Str → Option D) (Φ : Nat → List D → M D)
mutual
def evE : Ex → List (Option D) → M D
  | .var i, δ => match δ[i]? with
    | some (some d) => M.ok d
    | _ => M.bad
  | .int i, _ => M.ok (.int i)
  | .str x, _ => M.ok (.str x)
  | .bl b, _ => M.ok (.bl b)
  | .non, _ => M.ok .non
  | .glb x, _ => M.opt (G x)
  | .bin o a b, δ => M.bind (evE a δ) fun x => M.bind (evE b δ) fun y => opB o x y
  | .binL o a b, δ => M.bind (evE a δ) fun x => M.bind (evE b δ) fun y => opBL o x y
  | .neg a, δ => M.bind (evE a δ) fun x => match x with
    | .int i => M.ok (.int (-i))
    | _ => M.bad
  | .not_ a, δ => M.bind (evE a δ) fun x => M.bind (asBl x) fun b => M.ok (.bl (!b))
  | .cmp o a b, δ => M.bind (evE a δ) fun x => M.bind (evE b δ) fun y => opC o x y
  | .and_ a b, δ => M.bind (evE a δ) fun x => M.bind (asBl x) fun c => if c then evE b δ else M.ok (.bl false)
  | .or_ a b, δ => M.bind (evE a δ) fun x => M.bind (asBl x) fun c => if c then M.ok (.bl true) else evE b δ
  | .ite c a b, δ => M.bind (evE c δ) fun x => M.bind (asBl x) fun k => if k then evE a δ else evE b δ
  | .tup es, δ => M.bind (evA es δ) fun ds => if ds.length ≤ lim then M.ok (.tup ds) else M.bad
  | .lst m es, δ => M.bind (evA es δ) fun ds => if ds.length ≤ lim then fresh m ds else M.bad
  | .idx a i, δ => M.bind (evE a δ) fun x => M.bind (evE i δ) fun y => fun μ => match seqOf μ x, y with
    | some ds, .int k => match atI ds k with
      | some d => some (.ok d, μ)
      | none => none
    | _, _ => none
  | .slc a lo hi, δ => M.bind (evE a δ) fun x => M.bind (evC lo δ) fun l => M.bind (evC hi δ) fun h => fun μ => match x with
    | .tup ds => some (.ok (.tup (cutD ds l h)), μ)
    | x => match lstOf μ x with
      | some ds => some (.ok (.lst (cutD ds l h)), μ)
      | none => none
  | .fld a f, δ => M.bind (evE a δ) fun x => fun μ => match x with
    | .ptr n => match μ[n]? with
      | some (.ins fs) => match fs.lookup f with
        | some d => some (.ok d, μ)
        | none => none
      | _ => none
    | _ => none
  | .call f es, δ => M.bind (evA es δ) fun ds => Φ f ds
  | .mth f m o es, δ => M.bind (evE o δ) fun x => fun μ => match x with
    | .ptr n => match μ[n]? with
      | some (.ins fs) => match fs.lookup m with
        | none => M.bind (evA es δ) (fun ds => M.calm (Φ f (.ptr n :: ds))) μ
        | some _ => none
      | _ => none
    | _ => none
  | .mk f es, δ => M.bind (evA es δ) fun ds => fun μ => match Φ f (.ptr μ.length :: ds) (μ ++ [.ins []]) with
    | some (.ok .non, μ') => some (.ok (.ptr μ.length), μ')
    | _ => none
  | .len a, δ => M.bind (evE a δ) fun x => fun μ => match seqOf μ x with
    | some ds => some (.ok (.int ds.length), μ)
    | none => none
  | .abs a, δ => M.bind (evE a δ) fun x => match x with
    | .int i => M.ok (.int (if i < 0 then -i else i))
    | _ => M.bad
  | .all a, δ => M.bind (evE a δ) fun x => fun μ => match lstOf μ x with
    | some ds => match bls ds with
      | some bs => some (.ok (.bl (bs.all id)), μ)
      | none => none
    | none => none
  | .any a, δ => M.bind (evE a δ) fun x => fun μ => match lstOf μ x with
    | some ds => match bls ds with
      | some bs => some (.ok (.bl (bs.any id)), μ)
      | none => none
    | none => none
  | .tupl a, δ => M.bind (evE a δ) fun x => fun μ => match seqOf μ x with
    | some ds => some (.ok (.tup ds), μ)
    | none => none
  | .list m a, δ => M.bind (evE a δ) fun x => fun μ => match seqOf μ x with
    | some ds => fresh m ds μ
    | none => none
  | .int_ a, δ => M.bind (evE a δ) fun x => match x with
    | .int i => M.ok (.int i)
    | _ => M.bad
  | .isi t a, δ => M.bind (evE a δ) fun x => fun μ => match isT μ t x with
    | some b => some (.ok (.bl b), μ)
    | none => none
  | .comp m own t i c e, δ => M.bind (evI i δ) fun its => if its.items.length ≤ lim then
      M.bind (compL its.src (fun d => match bindT t d (wipeD δ own) with
        | none => M.bad
        | some δ1 => M.bind (evT c δ1) fun b => if b then M.bind (evE e δ1) fun x => M.ok (some x) else M.ok none) its.items) fun ds => fresh m ds
    else M.bad
  | .app o e, δ => M.bind (evE o δ) fun x => fun μ => if isLst μ x then M.bind (evE e δ) (fun y => appD x y) μ else none
  | .pop o i, δ => M.bind (evE o δ) fun x => fun μ => if isLst μ x then M.bind (evE i δ) (fun y => popD x y) μ else none
def evA : Exs → List (Option D) → M (List D)
  | .nil, _ => M.ok []
  | .cons e es, δ => M.bind (evE e δ) fun d => M.bind (evA es δ) fun ds => M.ok (d :: ds)
def evI : It → List (Option D) → M Its
  | .seq a, δ => M.bind (evE a δ) fun x => fun μ => match seqOf μ x with
    | some ds => some (.ok ⟨ds, srcOf μ x⟩, μ)
    | none => none
  | .rng a, δ => M.bind (evE a δ) fun x => match x with
    | .int n => if -1000000000 ≤ n ∧ n ≤ 1000000000 then M.ok ⟨intsD 0 n.toNat, []⟩ else M.bad
    | _ => M.bad
  | .rng2 a b, δ => M.bind (evE a δ) fun x => M.bind (evE b δ) fun y => match x, y with
    | .int m, .int n => if (-1000000000 ≤ m ∧ m ≤ 1000000000) ∧ (-1000000000 ≤ n ∧ n ≤ 1000000000) then M.ok ⟨intsD m (n - m).toNat, []⟩ else M.bad
    | _, _ => M.bad
  | .zip a b, δ => M.bind (evE a δ) fun x => M.bind (evE b δ) fun y => fun μ => match seqOf μ x, seqOf μ y with
    | some xs, some ys => some (.ok ⟨pairs xs ys, srcOf μ x ++ srcOf μ y⟩, μ)
    | _, _ => none
  | .enm a, δ => M.bind (evE a δ) fun x => fun μ => match seqOf μ x with
    | some ds => some (.ok ⟨enums 0 ds, srcOf μ x⟩, μ)
    | none => none
  | .ezip a b, δ => M.bind (evE a δ) fun x => M.bind (evE b δ) fun y => fun μ => match seqOf μ x, seqOf μ y with
    | some xs, some ys => some (.ok ⟨enums 0 (pairs xs ys), srcOf μ x ++ srcOf μ y⟩, μ)
    | _, _ => none
/-- an optional int (of a slice) -/
def evC : Cn → List (Option D) → M (Option Int)
  | .no, _ => M.ok none
  | .yes e, δ => M.bind (evE e δ) fun x => match x with
    | .int i => M.ok (some i)
    | _ => M.bad
/-- an optional test (of a comprehension) -/
def evT : Cn → List (Option D) → M Bool
  | .no, _ => M.ok true
  | .yes e, δ => M.bind (evE e δ) asBl
end
mutual
def exS : Sx → List (Option D) → M Fl
  | .expr e, δ => M.bind (evE G Φ e δ) fun _ => M.ok (.nx δ)
  | .asg t e, δ => M.bind (evE G Φ e δ) fun d => match bindT t d δ with
    | some δ' => M.ok (.nx δ')
    | none => M.bad
  | .par i j a b, δ => M.bind (evE G Φ a δ) fun x => M.bind (evE G Φ b δ) fun y =>
    if i < δ.length ∧ j < δ.length then M.ok (.nx ((δ.set i (some x)).set j (some y))) else M.bad
  | .setI o i e, δ => M.bind (evE G Φ e δ) fun d => M.bind (evE G Φ o δ) fun x => M.bind (evE G Φ i δ) fun y => fun μ => match x, y with
    | .ptr n, .int k => match μ[n]? with
      | some (.lst ds) => match ixN ds.length k with
        | some j => some (.ok (.nx δ), μ.set n (.lst (ds.set j d)))
        | none => none
      | _ => none
    | _, _ => none
  | .setF o f e, δ => M.bind (evE G Φ e δ) fun d => M.bind (evE G Φ o δ) fun x => fun μ => match x with
    | .ptr n => match μ[n]? with
      | some (.ins fs) => if fs.length ≤ 100 then some (.ok (.nx δ), μ.set n (.ins (putD f d fs))) else none
      | _ => none
    | _ => none
  | .ite c a b, δ => M.bind (evE G Φ c δ) fun x => M.bind (asBl x) fun k => if k then exB a δ else exB b δ
  | .for_ t i b, δ => M.bind (evI G Φ i δ) fun its => forL its.src t (fun δ' => exB b δ') its.items δ
  | .whl c b, δ => whileL (fun δ' => M.bind (evE G Φ c δ') asBl) (fun δ' => exB b δ') fuel δ
  | .ret e, δ => M.bind (evE G Φ e δ) fun d => M.ok (.rt d)
  | .retN, _ => M.ok (.rt .non)
  | .brk, δ => M.ok (.bk δ)
  | .cnt, δ => M.ok (.ct δ)
  | .pass, δ => M.ok (.nx δ)
  | .raise x, _ => M.exc x
  | .try_ b x h, δ => fun μ => match exB b δ μ with
    | some (.error c, μ') => if c = x then exB h (List.replicate δ.length none) μ' else none
    | r => r
def exB : Sxs → List (Option D) → M Fl
  | .nil, δ => M.ok (.nx δ)
  | .cons s r, δ => M.bind (exS s δ) fun f => match f with
    | .nx δ' => exB r δ'
    | f => M.ok f
end
end

/-! ### defs -/
structure Fn where
  np : Nat
  nl : Nat
  frz : Bool
  body : Sxs
mutual
/-- no cell from n0 on -/
def below (n0 : Nat) : D → Bool
  | .tup ds => belows n0 ds
  | .lst ds => belows n0 ds
  | .scr ds => belows n0 ds
  | .ptr n => decide (n < n0)
  | _ => true
def belows (n0 : Nat) : List D → Bool
  | [] => true
  | d :: ds => below n0 d && belows n0 ds
end
def belowM (n0 : Nat) : MO → Bool
  | .lst ds => belows n0 ds
  | .ins fs => belows n0 (fs.map (·.2))
mutual
/-- the cells from n0 on are closed -/
def frzD (μ : List MO) (n0 : Nat) : D → Option D
  | .tup ds => (frzDs μ n0 ds).map .tup
  | .lst ds => (frzDs μ n0 ds).map .lst
  | .ptr n => if n < n0 then some (.ptr n) else match μ[n]? with
    | some (.lst ds) => if belows n0 ds then some (.lst ds) else none
    | _ => none
  | .scr _ => none
  | .non => some .non
  | .bl b => some (.bl b)
  | .int i => some (.int i)
  | .str x => some (.str x)
def frzDs (μ : List MO) (n0 : Nat) : List D → Option (List D)
  | [] => some []
  | d :: ds => match frzD μ n0 d, frzDs μ n0 ds with
    | some x, some xs => some (x :: xs)
    | _, _ => none
end
/-- the cells that a def made are forgotten -/
def back (μ μ' : List MO) (r : Except Str D) : Option (Except Str D × List MO) :=
  if μ'.length = μ.length then some (r, μ') else if μ'.take μ.length = μ then some (r, μ) else if (μ'.take μ.length).all (belowM μ.length) then some (r, μ'.take μ.length) else none
def runFn (G : Str → Option D) (Φ : Nat → List D → M D) (f : Fn) (ds : List D) : M D := fun μ =>
  if ds.length = f.np then
    match exB G Φ f.body (ds.map some ++ List.replicate (f.nl - ds.length) none) μ with
    | some (.ok (.rt d), μ') => if f.frz then (match frzD μ' μ.length d with
      | some d' => back μ μ' (.ok d')
      | none => none) else some (.ok d, μ')
    | some (.ok (.nx _), μ') => if f.frz then back μ μ' (.ok .non) else some (.ok .non, μ')
    | some (.error c, μ') => back μ μ' (.error c)
    | _ => none
  else none
/-- the defs to a depth of calls -/
def run (G : Str → Option D) (fns : List Fn) : Nat → Nat → List D → M D
  | 0, _, _ => M.bad
  | k + 1, i, ds => match fns[i]? with
    | some f => runFn G (run G fns k) f ds
    | none => M.bad
end NB
end
set_option maxHeartbeats 4000000
section
/-! The readings of the hand layer, answered by runs of my language: expressions. -/
namespace NB
open PySem PySem.Spec L2
open PyProof.Rows hiding St

/-- the class of an error by its name -/
def exV (mg : Str → Option Value) (c : Str) : Value := (mg c).getD .none
section
variable (X : Cx) (W : WX) (C : Addr) (σ : St)
def Post {α : Type} (w : Wd) (r : Except Str α × List MO) (R : α → Wd → List MO → Prop) : Prop :=
  ∀ w', Wle w w' → Wok X.K C w' r.2 → match r.1 with
    | .ok a => R a w' r.2
    | .error c => W (exV X.mg c) none σ w'.H
def Does {α : Type} (w : Wd) (μ : List MO) (x : M α) (R : α → Wd → List MO → Prop) : Prop := ∃ r, x μ = some r ∧ Post X W C σ w r R
end
section
variable {X : Cx} {W : WX} {C : Addr} {σ : St}
theorem Does.bind {α β : Type} {w : Wd} {μ : List MO} {x : M α} {f : α → M β} {R : β → Wd → List MO → Prop} (h : Does X W C σ w μ (M.bind x f) R) :
    Does X W C σ w μ x fun a w1 μ1 => Does X W C σ w1 μ1 (f a) R := by
  obtain ⟨r, e, p⟩ := h
  unfold M.bind at e
  cases q : x μ with
  | none => rw [q] at e; cases e
  | some r1 =>
    obtain ⟨r1, μ1⟩ := r1
    rw [q] at e
    refine ⟨(r1, μ1), q, fun w1 l1 k1 => ?_⟩
    cases r1 with
    | error c =>
      simp only at e
      cases e
      exact p w1 l1 k1
    | ok a =>
      simp only at e
      exact ⟨r, e, fun w2 l2 k2 => p w2 (l1.trans l2) k2⟩
theorem Does.mono {α : Type} {w : Wd} {μ : List MO} {x : M α} {R R' : α → Wd → List MO → Prop} (h : Does X W C σ w μ x R) (f : ∀ a w' μ', Wle w w' → Wok X.K C w' μ' → R a w' μ' → R' a w' μ') : Does X W C σ w μ x R' := by
  obtain ⟨⟨r, μ1⟩, e, p⟩ := h
  refine ⟨(r, μ1), e, fun w1 l1 k1 => ?_⟩
  have := p w1 l1 k1
  cases r with
  | error c => exact this
  | ok a => exact f a w1 μ1 l1 k1 this
theorem Does.of_ok {α : Type} {w : Wd} {μ : List MO} {a : α} {R : α → Wd → List MO → Prop} (h : Does X W C σ w μ (M.ok a) R) (k : Wok X.K C w μ) : R a w μ := by
  obtain ⟨r, e, p⟩ := h
  have e' : some (Except.ok a, μ) = some r := e
  cases e'
  exact p w (.refl w) k
theorem Does.ok {α : Type} {w : Wd} {μ : List MO} {a : α} {R : α → Wd → List MO → Prop} (h : ∀ w', Wle w w' → Wok X.K C w' μ → R a w' μ) : Does X W C σ w μ (M.ok a) R := ⟨_, rfl, h⟩
theorem Does.of_bad {α : Type} {w : Wd} {μ : List MO} {R : α → Wd → List MO → Prop} (h : Does X W C σ w μ (M.bad : M α) R) : False := by
  obtain ⟨r, e, _⟩ := h
  cases e
/-- a run that is known -/
theorem Does.of_some {α : Type} {w w' : Wd} {μ μ' : List MO} {x : M α} {a : α} {R : α → Wd → List MO → Prop} (h : Does X W C σ w μ x R) (e : x μ = some (.ok a, μ')) (l : Wle w w') (k : Wok X.K C w' μ') : R a w' μ' := by
  obtain ⟨r, e', p⟩ := h
  rw [e] at e'
  cases e'
  exact p w' l k
theorem Does.of_none {α : Type} {w : Wd} {μ : List MO} {x : M α} {R : α → Wd → List MO → Prop} (h : Does X W C σ w μ x R) (e : x μ = none) : False := by
  obtain ⟨r, e', p⟩ := h
  rw [e] at e'
  cases e'
/-- a run by its value at the cells -/
theorem Does.at_ {α : Type} {w : Wd} {μ : List MO} {x y : M α} {R : α → Wd → List MO → Prop} (h : Does X W C σ w μ x R) (e : x μ = y μ) : Does X W C σ w μ y R := by
  obtain ⟨r, e', p⟩ := h
  exact ⟨r, e ▸ e', p⟩
end

def Slots (K : PySem.W.Frag) (w : Wd) (σ : St) (δ : List (Option D)) : Prop :=
  δ.length = σ.length ∧ ∀ (i : Nat) (d : D), δ[i]? = some (some d) → ∃ v, σ[i]? = some (some v) ∧ RepW K w d v
theorem Slots.mono {K : PySem.W.Frag} {w w' : Wd} {σ : St} {δ : List (Option D)} (h : Slots K w σ δ) (l : Wle w w') : Slots K w' σ δ :=
  ⟨h.1, fun i d e => let ⟨v, a, b⟩ := h.2 i d e; ⟨v, a, l.rep b⟩⟩
theorem Slots.set {K : PySem.W.Frag} {w : Wd} {σ : St} {δ : List (Option D)} (h : Slots K w σ δ) {i : Nat} {d : D} {v : V} (r : RepW K w d v) (hi : i < δ.length) : Slots K w (σ.set i (some v)) (δ.set i (some d)) := by
  refine ⟨by simp [h.1], fun j e q => ?_⟩
  by_cases hj : i = j
  · subst hj
    rw [List.getElem?_set_self hi] at q
    cases q
    exact ⟨v, by rw [List.getElem?_set_self (by rw [← h.1]; exact hi)], r⟩
  · rw [List.getElem?_set_ne hj] at q
    obtain ⟨u, a, b⟩ := h.2 j e q
    exact ⟨u, by rw [List.getElem?_set_ne hj]; exact a, b⟩
theorem Slots.unset {K : PySem.W.Frag} {w : Wd} {σ : St} {δ : List (Option D)} (h : Slots K w σ δ) {i : Nat} : Slots K w (σ.set i none) (δ.set i none) := by
  refine ⟨by simp [h.1], fun j e q => ?_⟩
  by_cases hj : i = j
  · subst hj
    by_cases hi : i < δ.length
    · rw [List.getElem?_set_self hi] at q
      cases q
    · rw [List.getElem?_eq_none (by simpa using hi)] at q
      cases q
  · rw [List.getElem?_set_ne hj] at q
    obtain ⟨u, a, b⟩ := h.2 j e q
    exact ⟨u, by rw [List.getElem?_set_ne hj]; exact a, b⟩
theorem Slots.wipe {K : PySem.W.Frag} {w : Wd} {σ : St} {δ : List (Option D)} (h : Slots K w σ δ) : ∀ vs : List Nat, Slots K w (wipe σ vs) (wipeD δ vs)
  | [] => h
  | v :: vs => Slots.unset (Slots.wipe h vs)
theorem Slots.forget {K : PySem.W.Frag} {w : Wd} {σ : St} {n : Nat} (h : n = σ.length) : Slots K w σ (List.replicate n none) :=
  ⟨by simp [h], fun i d e => by
    rw [List.getElem?_replicate] at e
    split at e <;> cases e⟩

/-- an expression does what m says -/
def SE (X : Cx) (W : WX) (C : Addr) (e : Expr) (m : List (Option D) → M D) : Prop :=
  ∃ t, PE X e t ∧ ∀ w σ δ μ Q, Wok X.K C w μ → Slots X.K w σ δ → Does X W C σ w μ (m δ) (fun d w' _ => ∀ v, RepW X.K w' d v → Q v w'.H) → t σ w.H Q
/-- a test -/
def ST (X : Cx) (W : WX) (C : Addr) (e : Expr) (m : List (Option D) → M Bool) : Prop :=
  ∃ t, PT X e t ∧ ∀ w σ δ μ Q, Wok X.K C w μ → Slots X.K w σ δ → Does X W C σ w μ (m δ) (fun b w' _ => Q b w'.H) → t σ w.H Q
def SW (X : Cx) (W : WX) (C : Addr) (e : Expr) (m : List (Option D) → M Bool) : Prop :=
  ∃ t, PW X e t ∧ ∀ w σ δ μ Q, Wok X.K C w μ → Slots X.K w σ δ → Does X W C σ w μ (m δ) (fun b w' _ => Q b w'.H) → t σ w.H Q
/-- arguments -/
def SA (X : Cx) (W : WX) (C : Addr) (es : List Expr) (m : List (Option D) → M (List D)) : Prop :=
  ∃ t, PA X es t ∧ ∀ w σ δ μ Q, Wok X.K C w μ → Slots X.K w σ δ → Does X W C σ w μ (m δ) (fun ds w' _ => ∀ vs, RepsW X.K w' ds vs → Q vs w'.H) → t σ w.H Q

section
variable {X : Cx} {W : WX} {C : Addr}

/-! ### names and constants -/
theorem se_var {i : Nat} {x : Str} {pos : Pos} (hN : X.N[i]? = some x) (hv : Vis X.env.scope x) (hd : (x == ("__debug__" : Str)) = false) (hcd : (x == ("__classdict__" : Str)) = false) :
    SE X W C (.Name x pos) (fun δ => match δ[i]? with
      | some (some d) => M.ok d
      | _ => M.bad) := by
  refine ⟨tVar i, pe_var hN hv hd hcd, fun w σ δ μ Q k s h => ?_⟩
  cases q : δ[i]? with
  | none => simp only [q] at h; exact h.of_bad.elim
  | some o =>
    cases o with
    | none => simp only [q] at h; exact h.of_bad.elim
    | some d =>
      simp only [q] at h
      obtain ⟨v, a, b⟩ := s.2 i d q
      exact ⟨v, a, h.of_ok k v b⟩
theorem se_tC {e : Expr} {d : D} {v : V} (h : PE X e (tC v)) (r : ∀ F ρ, Rep X.K F ρ d v) : SE X W C e (fun _ => M.ok d) :=
  ⟨tC v, h, fun w σ δ μ Q k s h => h.of_ok k v (r _ _)⟩
theorem se_int {i : Int} {j : Nat} {pos : Pos} : SE X W C (.Constant (.int i) j pos) (fun _ => M.ok (.int i)) := se_tC pe_int fun _ _ => by simp [Rep]
theorem se_str {x : Str} {j : Nat} {pos : Pos} : SE X W C (.Constant (.str x) j pos) (fun _ => M.ok (.str x)) := se_tC pe_str fun _ _ => by simp [Rep]
theorem se_bl {b : Bool} {j : Nat} {pos : Pos} : SE X W C (.Constant (.bool b) j pos) (fun _ => M.ok (.bl b)) := se_tC pe_bl fun _ _ => by simp [Rep]
theorem se_non {j : Nat} {pos : Pos} : SE X W C (.Constant .none j pos) (fun _ => M.ok .non) := se_tC pe_non fun _ _ => by simp [Rep]
/-- what the written part bears, every world bears -/
theorem Rep.writ {K : PySem.W.Frag} {d : D} {v : V} (h : Rep K (fun _ => none) [] d v) (F : Hp) (ρ : List Addr) : Rep K F ρ d v :=
  Rep.mono (fun _ _ z => by cases z) (fun _ _ z => by simp at z) d v h

/-! ### operators -/
/-- a binary operator by values -/
def OpOk (X : Cx) (W : WX) (C : Addr) (f : Value → Value → Sem Value) (m : D → D → M D) : Prop :=
  ∃ r, OpR X f r ∧ ∀ w σ μ x y vx vy Q, Wok X.K C w μ → RepW X.K w x vx → RepW X.K w y vy → Does X W C σ w μ (m x y) (fun d w' _ => ∀ v, RepW X.K w' d v → Q v w'.H) → r vx vy w.H Q
theorem se_op {op : Operator} {m : D → D → M D} {a b : Expr} {ma mb : List (Option D) → M D} {pos : Pos} (ho : OpOk X W C (binaryOp op) m) (ha : SE X W C a ma) (hb : SE X W C b mb) :
    SE X W C (.BinOp a op b pos) (fun δ => M.bind (ma δ) fun x => M.bind (mb δ) fun y => m x y) := by
  obtain ⟨r, hr, po⟩ := ho
  obtain ⟨ta, pa, qa⟩ := ha
  obtain ⟨tb, pb, qb⟩ := hb
  refine ⟨tOp r ta tb, pe_op hr pa pb, fun w σ δ μ Q k s h => ?_⟩
  refine qa w σ δ μ _ k s (h.bind.mono fun x w1 μ1 l1 k1 h1 vx rx => ?_)
  refine qb w1 σ δ μ1 _ k1 (s.mono l1) (h1.bind.mono fun y w2 μ2 l2 k2 h2 vy ry => ?_)
  exact po w2 σ μ2 x y vx vy Q k2 (l2.rep rx) ry h2
theorem se_cmp {op : CmpOp} {m : D → D → M D} {a b : Expr} {ma mb : List (Option D) → M D} {pos : Pos} (ho : OpOk X W C (compareOp op) m) (ha : SE X W C a ma) (hb : SE X W C b mb) (hm : behindInMarks op b = false) :
    SE X W C (.Compare a [op] [b] pos) (fun δ => M.bind (ma δ) fun x => M.bind (mb δ) fun y => m x y) := by
  obtain ⟨r, hr, po⟩ := ho
  obtain ⟨ta, pa, qa⟩ := ha
  obtain ⟨tb, pb, qb⟩ := hb
  refine ⟨tOp r ta tb, pe_cmpR hr pa pb hm, fun w σ δ μ Q k s h => ?_⟩
  refine qa w σ δ μ _ k s (h.bind.mono fun x w1 μ1 l1 k1 h1 vx rx => ?_)
  refine qb w1 σ δ μ1 _ k1 (s.mono l1) (h1.bind.mono fun y w2 μ2 l2 k2 h2 vy ry => ?_)
  exact po w2 σ μ2 x y vx vy Q k2 (l2.rep rx) ry h2
theorem st_cmp {op : CmpOp} {m : D → D → M D} {a b : Expr} {ma mb : List (Option D) → M D} {pos : Pos} (ho : OpOk X W C (compareOp op) m) (ha : SE X W C a ma) (hb : SE X W C b mb) (hm : behindInMarks op b = false) :
    ST X W C (.Compare a [op] [b] pos) (fun δ => M.bind (M.bind (ma δ) fun x => M.bind (mb δ) fun y => m x y) asBl) := by
  obtain ⟨r, hr, po⟩ := ho
  obtain ⟨ta, pa, qa⟩ := ha
  obtain ⟨tb, pb, qb⟩ := hb
  refine ⟨_, pt_cmpR hr pa pb hm, fun w σ δ μ Q k s h => ?_⟩
  refine qa w σ δ μ _ k s (h.bind.bind.mono fun x w1 μ1 l1 k1 h1 vx rx => ?_)
  refine qb w1 σ δ μ1 _ k1 (s.mono l1) (h1.bind.mono fun y w2 μ2 l2 k2 h2 vy ry => ?_)
  refine po w2 σ μ2 x y vx vy _ k2 (l2.rep rx) ry (h2.mono fun d w3 μ3 l3 k3 h3 v rv => ?_)
  cases d with
  | bl b =>
    have e : v = .bl b := by simpa [Rep] using rv
    exact ⟨b, e, h3.of_ok k3⟩
  | _ => exact (Does.of_bad (X := X) (W := W) (C := C) (σ := σ) h3).elim

/-! ### and, or, not, if -/
theorem asBl_of {σ : St} {d : D} {w : Wd} {μ : List MO} {R : Bool → Wd → List MO → Prop} {v : V} (h : Does X W C σ w μ (asBl d) R) (k : Wok X.K C w μ) (r : RepW X.K w d v) : ∃ b, d = .bl b ∧ v = .bl b ∧ R b w μ := by
  cases d with
  | bl b => exact ⟨b, rfl, by simpa [Rep] using r, h.of_ok k⟩
  | _ => exact (Does.of_bad (X := X) (W := W) (C := C) (σ := σ) h).elim
theorem st_val {e : Expr} {m : List (Option D) → M D} (h : SE X W C e m) (he : ∀ whole, isTrue e X.env whole = (do let v ← whole; standAt e.pos; holding [v] (truthy v))) : ST X W C e (fun δ => M.bind (m δ) asBl) := by
  obtain ⟨t, p, q⟩ := h
  refine ⟨tB t, pt_val p he, fun w σ δ μ Q k s h => ?_⟩
  refine q w σ δ μ _ k s (h.bind.mono fun d w1 μ1 l1 k1 h1 v rv => ?_)
  obtain ⟨b, e1, e2, h2⟩ := asBl_of h1 k1 rv
  exact ⟨b, e2, h2⟩
theorem sw_pt {e : Expr} {m : List (Option D) → M Bool} (h : SW X W C e m) : ST X W C e m := by
  obtain ⟨t, p, q⟩ := h
  exact ⟨t, p.pt, q⟩
theorem st_not {a : Expr} {m : List (Option D) → M Bool} {pos : Pos} (h : ST X W C a m) : ST X W C (.UnaryOp .Not a pos) (fun δ => M.bind (m δ) fun b => M.ok (!b)) := by
  obtain ⟨t, p, q⟩ := h
  refine ⟨tNot t, pt_not p, fun w σ δ μ Q k s h => ?_⟩
  exact q w σ δ μ _ k s (h.bind.mono fun b w1 μ1 l1 k1 h1 => h1.of_ok k1)
theorem sw_and1 {a : Expr} {m : List (Option D) → M Bool} {pos : Pos} (h : ST X W C a m) : SW X W C (.BoolOp .And [a] pos) m := by
  obtain ⟨t, p, q⟩ := h
  exact ⟨t, pw_and1 p, q⟩
theorem sw_or1 {a : Expr} {m : List (Option D) → M Bool} {pos : Pos} (h : ST X W C a m) : SW X W C (.BoolOp .Or [a] pos) m := by
  obtain ⟨t, p, q⟩ := h
  exact ⟨t, pw_or1 p, q⟩
theorem sw_and {a b : Expr} {rest : List Expr} {ma mb : List (Option D) → M Bool} {pos : Pos} (ha : ST X W C a ma) (hb : SW X W C (.BoolOp .And (b :: rest) pos) mb) :
    SW X W C (.BoolOp .And (a :: b :: rest) pos) (fun δ => M.bind (ma δ) fun c => if c then mb δ else M.ok false) := by
  obtain ⟨ta, pa, qa⟩ := ha
  obtain ⟨tb, pb, qb⟩ := hb
  refine ⟨tAnd ta tb, pw_and pa pb, fun w σ δ μ Q k s h => ?_⟩
  refine qa w σ δ μ _ k s (h.bind.mono fun c w1 μ1 l1 k1 h1 => ?_)
  cases c with
  | true => exact iteT (qb w1 σ δ μ1 Q k1 (s.mono l1) h1)
  | false => exact iteF (h1.of_ok k1)
theorem sw_or {a b : Expr} {rest : List Expr} {ma mb : List (Option D) → M Bool} {pos : Pos} (ha : ST X W C a ma) (hb : SW X W C (.BoolOp .Or (b :: rest) pos) mb) :
    SW X W C (.BoolOp .Or (a :: b :: rest) pos) (fun δ => M.bind (ma δ) fun c => if c then M.ok true else mb δ) := by
  obtain ⟨ta, pa, qa⟩ := ha
  obtain ⟨tb, pb, qb⟩ := hb
  refine ⟨tOr ta tb, pw_or pa pb, fun w σ δ μ Q k s h => ?_⟩
  refine qa w σ δ μ _ k s (h.bind.mono fun c w1 μ1 l1 k1 h1 => ?_)
  cases c with
  | true => exact iteT (h1.of_ok k1)
  | false => exact iteF (qb w1 σ δ μ1 Q k1 (s.mono l1) h1)
theorem se_and {a b : Expr} {rest : List Expr} {ma mb : List (Option D) → M D} {pos : Pos} (ha : SE X W C a ma) (hb : SE X W C (.BoolOp .And (b :: rest) pos) mb) :
    SE X W C (.BoolOp .And (a :: b :: rest) pos) (fun δ => M.bind (ma δ) fun x => M.bind (asBl x) fun c => if c then mb δ else M.ok (.bl false)) := by
  obtain ⟨ta, pa, qa⟩ := ha
  obtain ⟨tb, pb, qb⟩ := hb
  refine ⟨tAndV ta tb, pe_and pa pb, fun w σ δ μ Q k s h => ?_⟩
  refine qa w σ δ μ _ k s (h.bind.mono fun x w1 μ1 l1 k1 h1 v rv => ?_)
  obtain ⟨c, e1, e2, h2⟩ := asBl_of h1.bind k1 rv
  refine ⟨c, e2, ?_⟩
  cases c with
  | true => exact iteT (qb w1 σ δ μ1 Q k1 (s.mono l1) h2)
  | false => exact iteF (h2.of_ok k1 _ (by simp [Rep]))
theorem se_or {a b : Expr} {rest : List Expr} {ma mb : List (Option D) → M D} {pos : Pos} (ha : SE X W C a ma) (hb : SE X W C (.BoolOp .Or (b :: rest) pos) mb) :
    SE X W C (.BoolOp .Or (a :: b :: rest) pos) (fun δ => M.bind (ma δ) fun x => M.bind (asBl x) fun c => if c then M.ok (.bl true) else mb δ) := by
  obtain ⟨ta, pa, qa⟩ := ha
  obtain ⟨tb, pb, qb⟩ := hb
  refine ⟨tOrV ta tb, pe_or pa pb, fun w σ δ μ Q k s h => ?_⟩
  refine qa w σ δ μ _ k s (h.bind.mono fun x w1 μ1 l1 k1 h1 v rv => ?_)
  obtain ⟨c, e1, e2, h2⟩ := asBl_of h1.bind k1 rv
  refine ⟨c, e2, ?_⟩
  cases c with
  | true => exact iteT (h2.of_ok k1 _ (by simp [Rep]))
  | false => exact iteF (qb w1 σ δ μ1 Q k1 (s.mono l1) h2)
theorem se_one {op : BoolOp} {a : Expr} {m : List (Option D) → M D} {pos : Pos} (h : SE X W C a m) : SE X W C (.BoolOp op [a] pos) m := by
  obtain ⟨t, p, q⟩ := h
  exact ⟨t, pe_one p, q⟩
theorem se_not {a : Expr} {m : List (Option D) → M D} {pos : Pos} (h : SE X W C a m) : SE X W C (.UnaryOp .Not a pos) (fun δ => M.bind (m δ) fun x => M.bind (asBl x) fun b => M.ok (.bl (!b))) := by
  obtain ⟨t, p, q⟩ := h
  refine ⟨tNotV t, pe_not p, fun w σ δ μ Q k s h => ?_⟩
  refine q w σ δ μ _ k s (h.bind.mono fun x w1 μ1 l1 k1 h1 v rv => ?_)
  obtain ⟨c, e1, e2, h2⟩ := asBl_of h1.bind k1 rv
  exact ⟨c, e2, h2.of_ok k1 _ (by simp [Rep])⟩
theorem se_ite {c a b : Expr} {mc : List (Option D) → M Bool} {ma mb : List (Option D) → M D} {pos : Pos} (hc : ST X W C c mc) (ha : SE X W C a ma) (hb : SE X W C b mb) :
    SE X W C (.IfExp c a b pos) (fun δ => M.bind (mc δ) fun k => if k then ma δ else mb δ) := by
  obtain ⟨tc, pc, qc⟩ := hc
  obtain ⟨ta, pa, qa⟩ := ha
  obtain ⟨tb, pb, qb⟩ := hb
  refine ⟨tIf tc ta tb, pe_ifExp pc pa pb, fun w σ δ μ Q k s h => ?_⟩
  refine qc w σ δ μ _ k s (h.bind.mono fun x w1 μ1 l1 k1 h1 => ?_)
  cases x with
  | true => exact iteT (qa w1 σ δ μ1 Q k1 (s.mono l1) h1)
  | false => exact iteF (qb w1 σ δ μ1 Q k1 (s.mono l1) h1)
theorem se_neg {a : Expr} {m : List (Option D) → M D} {pos : Pos} (h : SE X W C a m) : SE X W C (.UnaryOp .USub a pos) (fun δ => M.bind (m δ) fun x => match x with
    | .int i => M.ok (.int (-i))
    | _ => M.bad) := by
  obtain ⟨t, p, q⟩ := h
  refine ⟨_, pe_un un_neg p, fun w σ δ μ Q k s h => ?_⟩
  refine q w σ δ μ _ k s (h.bind.mono fun x w1 μ1 l1 k1 h1 v rv => ?_)
  cases x with
  | int i =>
    have e : v = .int i := by simpa [Rep] using rv
    exact ⟨i, e, h1.of_ok k1 _ (by simp [Rep])⟩
  | _ => exact (Does.of_bad (X := X) (W := W) (C := C) (σ := σ) h1).elim

/-! ### arguments and displays -/
theorem sa_nil : SA X W C [] (fun _ => M.ok []) := ⟨tNil, pa_nil, fun w σ δ μ Q k s h => h.of_ok k [] Reps.nil⟩
theorem sa_cons {e : Expr} {es : List Expr} {m : List (Option D) → M D} {ms : List (Option D) → M (List D)} (he : SE X W C e m) (hs : SA X W C es ms) (hst : starEach (e :: es) X.env = (false, eval e X.env) :: starEach es X.env) :
    SA X W C (e :: es) (fun δ => M.bind (m δ) fun d => M.bind (ms δ) fun ds => M.ok (d :: ds)) := by
  obtain ⟨t, p, q⟩ := he
  obtain ⟨ts, ps, qs⟩ := hs
  refine ⟨tCons t ts, pa_cons p ps hst, fun w σ δ μ Q k s h => ?_⟩
  refine q w σ δ μ _ k s (h.bind.mono fun x w1 μ1 l1 k1 h1 v rv => ?_)
  refine qs w1 σ δ μ1 _ k1 (s.mono l1) (h1.bind.mono fun xs w2 μ2 l2 k2 h2 vs rvs => ?_)
  exact h2.of_ok k2 _ (.cons (l2.rep rv) rvs)
theorem lim_line : lim ≤ sizeLine := by rw [sizeLine_eq]; decide
theorem rep_new_tup {w : Wd} {μ : List MO} {p : Addr} {ds : List D} {vs : List V} (k : Wok X.K C w μ) (h : w.H p = none) (r : RepsW X.K w ds vs) : RepW X.K ⟨upd w.H p (.tup vs), upd w.F p (.tup vs), w.ρ⟩ (.tup ds) (.ref p) := by
  show Rep X.K _ _ (.tup ds) _
  simp only [Rep]
  exact ⟨p, vs, rfl, .inl (.inl upd_same), (Wle.laidF k h).reps r⟩
theorem rep_new_lst {w : Wd} {μ : List MO} {p : Addr} {ds : List D} {vs : List V} (k : Wok X.K C w μ) (h : w.H p = none) (r : RepsW X.K w ds vs) : RepW X.K ⟨upd w.H p (.lst vs), upd w.F p (.lst vs), w.ρ⟩ (.lst ds) (.ref p) := by
  show Rep X.K _ _ (.lst ds) _
  simp only [Rep]
  exact ⟨p, vs, rfl, upd_same, (Wle.laidF k h).reps r⟩
/-- a new list, kept or to be changed -/
theorem fresh_of {σ : St} {w : Wd} {μ : List MO} {m : Bool} {ds : List D} {vs : List V} {Q : VK} (k : Wok X.K C w μ) (r : RepsW X.K w ds vs) (h : Does X W C σ w μ (fresh m ds) (fun d w' _ => ∀ v, RepW X.K w' d v → Q v w'.H)) {p : Addr} (hp : w.H p = none) : Q (.ref p) (upd w.H p (.lst vs)) := by
  cases m with
  | false => exact h.of_some (w' := ⟨upd w.H p (.lst vs), upd w.F p (.lst vs), w.ρ⟩) (a := .lst ds) (μ' := μ) rfl (.laidF k hp) (k.laidF hp) _ (rep_new_lst k hp r)
  | true =>
    refine h.of_some (w' := ⟨upd w.H p (.lst vs), w.F, w.ρ ++ [p]⟩) (a := .ptr μ.length) (μ' := μ ++ [.lst ds]) rfl (.laidM k hp) (k.laidM hp ?_) _ ?_
    · exact ⟨vs, upd_same, (Wle.laidM k hp (o := .lst vs)).reps r⟩
    · show Rep X.K _ _ (.ptr μ.length) _
      simp only [Rep]
      exact ⟨p, by rw [← k.len]; simp, rfl⟩
theorem se_tup {es : List Expr} {m : List (Option D) → M (List D)} {x1 : Nat} {pos : Pos} (h : SA X W C es m) : SE X W C (.Tuple es x1 pos) (fun δ => M.bind (m δ) fun ds => if ds.length ≤ lim then M.ok (.tup ds) else M.bad) := by
  obtain ⟨t, p, q⟩ := h
  refine ⟨tTup t, pe_tup p, fun w σ δ μ Q k s h => ?_⟩
  refine q w σ δ μ _ k s (h.bind.mono fun ds w1 μ1 l1 k1 h1 vs rv => ?_)
  by_cases hl : ds.length ≤ lim
  · rw [if_pos hl] at h1
    refine ⟨by rw [← rv.length]; exact Nat.le_trans hl lim_line, fun p hp => ?_⟩
    exact h1.of_some (w' := ⟨upd w1.H p (.tup vs), upd w1.F p (.tup vs), w1.ρ⟩) rfl (.laidF k1 hp) (k1.laidF hp) _ (rep_new_tup k1 hp rv)
  · rw [if_neg hl] at h1
    exact h1.of_bad.elim
theorem se_lst {b : Bool} {es : List Expr} {m : List (Option D) → M (List D)} {pos : Pos} (h : SA X W C es m) : SE X W C (.List es pos) (fun δ => M.bind (m δ) fun ds => if ds.length ≤ lim then fresh b ds else M.bad) := by
  obtain ⟨t, p, q⟩ := h
  refine ⟨tLst t, pe_lst p, fun w σ δ μ Q k s h => ?_⟩
  refine q w σ δ μ _ k s (h.bind.mono fun ds w1 μ1 l1 k1 h1 vs rv => ?_)
  by_cases hl : ds.length ≤ lim
  · rw [if_pos hl] at h1
    exact ⟨by rw [← rv.length]; exact Nat.le_trans hl lim_line, fun p hp => fresh_of k1 rv h1 hp⟩
  · rw [if_neg hl] at h1
    exact h1.of_bad.elim
end
end NB
end
set_option maxHeartbeats 4000000
section
/-! Operators, comparisons, subscripts, built-ins. -/
namespace NB
open PySem PySem.Spec L2
open PyProof.Rows hiding St
section
variable {X : Cx} {W : WX} {C : Addr}
theorem rep_int {w : Wd} {i : Int} {v : V} : RepW X.K w (.int i) v ↔ v = .int i := by
  show Rep X.K _ _ (.int i) v ↔ _
  simp [Rep]
theorem rep_bl {w : Wd} {b : Bool} {v : V} : RepW X.K w (.bl b) v ↔ v = .bl b := by
  show Rep X.K _ _ (.bl b) v ↔ _
  simp [Rep]
theorem rep_non {w : Wd} {v : V} : RepW X.K w .non v ↔ v = .non := by
  show Rep X.K _ _ .non v ↔ _
  simp [Rep]
theorem rep_str {w : Wd} {x : Str} {v : V} : RepW X.K w (.str x) v ↔ v = .str x := by
  show Rep X.K _ _ (.str x) v ↔ _
  simp [Rep]
theorem rep_tup {w : Wd} {ds : List D} {v : V} : RepW X.K w (.tup ds) v ↔ ∃ a vs, v = .ref a ∧ SqT X.K w.F a vs ∧ RepsW X.K w ds vs := by
  show Rep X.K _ _ (.tup ds) v ↔ _
  simp only [Rep]
theorem rep_lst {w : Wd} {ds : List D} {v : V} : RepW X.K w (.lst ds) v ↔ ∃ a vs, v = .ref a ∧ w.F a = some (.lst vs) ∧ RepsW X.K w ds vs := by
  show Rep X.K _ _ (.lst ds) v ↔ _
  simp only [Rep]
theorem rep_scr {w : Wd} {ds : List D} {v : V} : RepW X.K w (.scr ds) v ↔ ∃ a vs, v = .ref a ∧ SqL X.K w.F a vs ∧ RepsW X.K w ds vs := by
  show Rep X.K _ _ (.scr ds) v ↔ _
  simp only [Rep]
theorem rep_ptr {w : Wd} {n : Nat} {v : V} : RepW X.K w (.ptr n) v ↔ ∃ a, w.ρ[n]? = some a ∧ v = .ref a := by
  show Rep X.K _ _ (.ptr n) v ↔ _
  simp only [Rep]

/-- a list that is tracked: where it stands, its items -/
theorem lst_at {w : Wd} {μ : List MO} {x : D} {v : V} {ds : List D} (k : Wok X.K C w μ) (r : RepW X.K w x v) (e : lstOf μ x = some ds) : ∃ a vs, v = .ref a ∧ w.H a = some (.lst vs) ∧ RepsW X.K w ds vs := by
  unfold lstOf at e
  split at e
  · cases e
    obtain ⟨a, vs, h1, h2, h3⟩ := rep_lst.mp r
    exact ⟨a, vs, h1, k.fh a _ h2, h3⟩
  · rename_i n
    split at e
    · rename_i ds' q
      cases e
      obtain ⟨a, h1, h2⟩ := rep_ptr.mp r
      obtain ⟨vs, h3, h4⟩ := k.ce n a _ h1 q
      exact ⟨a, vs, h2, h3, h4⟩
    · cases e
  · cases e
/-- .. a list or a tuple -/
theorem seq_at' {w : Wd} {μ : List MO} {x : D} {v : V} {ds : List D} (k : Wok X.K C w μ) (r : RepW X.K w x v) (e : seqOf μ x = some ds) :
    ∃ a vs, v = .ref a ∧ (((∀ es, x ≠ .tup es) ∧ SqL X.K w.H a vs) ∨ (x = .tup ds ∧ SqT X.K w.H a vs)) ∧ RepsW X.K w ds vs := by
  unfold seqOf at e
  split at e
  · cases e
    obtain ⟨a, vs, h1, h2, h3⟩ := rep_tup.mp r
    exact ⟨a, vs, h1, .inr ⟨rfl, SqT.same k.fh h2⟩, h3⟩
  · cases e
    obtain ⟨a, vs, h1, h2, h3⟩ := rep_lst.mp r
    exact ⟨a, vs, h1, .inl ⟨fun _ z => D.noConfusion z, .of (k.fh a _ h2)⟩, h3⟩
  · cases e
    obtain ⟨a, vs, h1, h2, h3⟩ := rep_scr.mp r
    exact ⟨a, vs, h1, .inl ⟨fun _ z => D.noConfusion z, k.fh.seq h2⟩, h3⟩
  · rename_i n
    split at e
    · rename_i ds' q
      cases e
      obtain ⟨a, h1, h2⟩ := rep_ptr.mp r
      obtain ⟨vs, h3, h4⟩ := k.ce n a _ h1 q
      exact ⟨a, vs, h2, .inl ⟨fun _ z => D.noConfusion z, .of h3⟩, h4⟩
    · cases e
  · cases e
theorem seq_at {w : Wd} {μ : List MO} {x : D} {v : V} {ds : List D} (k : Wok X.K C w μ) (r : RepW X.K w x v) (e : seqOf μ x = some ds) :
    ∃ a vs, v = .ref a ∧ (SqL X.K w.H a vs ∨ SqT X.K w.H a vs) ∧ RepsW X.K w ds vs := by
  obtain ⟨a, vs, h1, h2, h3⟩ := seq_at' k r e
  exact ⟨a, vs, h1, h2.elim (fun z => .inl z.2) fun z => .inr z.2, h3⟩
theorem Does.iff {σ : St} {α : Type} {w : Wd} {μ : List MO} {x : M α} {R : α → Wd → List MO → Prop} (h : Does X W C σ w μ x R) {r : Except Str α × List MO} (e : x μ = some r) : Post X W C σ w r R := by
  obtain ⟨r', e', p⟩ := h
  rw [e] at e'
  cases e'
  exact p
theorem natAbs_log {i : Int} (h : okInt i = true) : i.natAbs.log2 < 9000 := by
  have h1 : i.natAbs < 2 ^ 8000 := by
    have := of_decide_eq_true h
    unfold big at this
    exact this
  have := PySem.Flt.log2_lt_of (show 0 < 8000 by decide) h1
  omega
theorem op_fdivZ : OpR X (binaryOp .FloorDiv) (rI (fun _ j => j ≠ 0 ∧ j.natAbs.log2 < 9000) fun i j => .int (i.fdiv j)) := opI fun i j _ _ _ _ _ hc q => by
  exact floordiv_int hc.1 q (.inl (PyProof.noPylong_of_log2 hc.2))
theorem rep_cat {w : Wd} {xs ys : List D} {us vs : List V} (h : RepsW X.K w xs us) (g : RepsW X.K w ys vs) : RepsW X.K w (xs ++ ys) (us ++ vs) := Reps.append h g
theorem Reps.repl {K : PySem.W.Frag} {F : Hp} {ρ : List Addr} {ds : List D} {vs : List V} (h : Reps K F ρ ds vs) : ∀ k, Reps K F ρ (repl k ds) (List.replicate k vs).flatten
  | 0 => by simp [NB.repl, Reps]
  | k + 1 => by
    unfold NB.repl
    rw [List.replicate_succ, List.replicate_succ, List.flatten_cons, List.flatten_cons]
    exact Reps.append h (Reps.repl h k)

theorem opok_add : OpOk X W C (binaryOp .Add) (opB .add) := by
  refine ⟨_, OpR.or op_add (OpR.or op_catA op_cat), fun w σ μ x y vx vy Q k rx ry h => ?_⟩
  obtain ⟨r, e, p⟩ := h
  replace e : addD x y μ = some r := e
  unfold addD at e
  split at e
  · cases e
    exact .inl ⟨_, _, rep_int.mp rx, rep_int.mp ry, p w (.refl w) k _ (rep_int.mpr rfl)⟩
  · rename_i a b
    split at e
    · rename_i hl
      cases e
      obtain ⟨a1, us, e1, s1, r1⟩ := rep_tup.mp rx
      obtain ⟨a2, vs, e2, s2, r2⟩ := rep_tup.mp ry
      refine .inr (.inl ⟨a1, a2, us, vs, e1, e2, SqT.same k.fh s1, SqT.same k.fh s2, ?_, fun z => ?_, fun z1 z2 => ?_, fun z1 z2 q hq => ?_⟩)
      · rw [← r1.length, ← r2.length]; exact Nat.le_trans hl lim_line
      · subst z
        have : a = [] := List.eq_nil_of_length_eq_zero (by rw [r1.length]; rfl)
        subst this
        exact p w (.refl w) k _ (by rw [← e2]; exact ry)
      · subst z2
        have : b = [] := List.eq_nil_of_length_eq_zero (by rw [r2.length]; rfl)
        subst this
        rw [List.append_nil] at p
        exact p w (.refl w) k _ (by rw [← e1]; exact rx)
      · exact p ⟨upd w.H q (.tup (us ++ vs)), upd w.F q (.tup (us ++ vs)), w.ρ⟩ (.laidF k hq) (k.laidF hq) _ (rep_new_tup k hq (rep_cat r1 r2))
    · cases e
  · split at e
    · rename_i xs ys h1 h2
      split at e
      · rename_i hl
        cases e
        obtain ⟨a1, us, e1, s1, r1⟩ := lst_at k rx h1
        obtain ⟨a2, vs, e2, s2, r2⟩ := lst_at k ry h2
        refine .inr (.inr ⟨a1, a2, us, vs, e1, e2, s1, s2, ?_, fun q hq => ?_⟩)
        · rw [← r1.length, ← r2.length]; exact Nat.le_trans hl lim_line
        · exact p ⟨upd w.H q (.lst (us ++ vs)), upd w.F q (.lst (us ++ vs)), w.ρ⟩ (.laidF k hq) (k.laidF hq) _ (rep_new_lst k hq (rep_cat r1 r2))
      · cases e
    · cases e
theorem opok_sub : OpOk X W C (binaryOp .Sub) (opB .sub) := by
  refine ⟨_, op_sub, fun w σ μ x y vx vy Q k rx ry h => ?_⟩
  obtain ⟨r, e, p⟩ := h
  replace e : subD x y μ = some r := e
  unfold subD at e
  split at e
  · cases e
    exact ⟨_, _, rep_int.mp rx, rep_int.mp ry, p w (.refl w) k _ (rep_int.mpr rfl)⟩
  · cases e
theorem opok_fdiv : OpOk X W C (binaryOp .FloorDiv) (opB .fdiv) := by
  refine ⟨_, op_fdivZ, fun w σ μ x y vx vy Q k rx ry h => ?_⟩
  obtain ⟨r, e, p⟩ := h
  replace e : fdivD x y μ = some r := e
  unfold fdivD at e
  split at e
  · split at e
    · rename_i hc
      cases e
      exact ⟨_, _, rep_int.mp rx, rep_int.mp ry, ⟨hc.2, natAbs_log hc.1⟩, p w (.refl w) k _ (rep_int.mpr rfl)⟩
    · cases e
  · cases e
theorem opok_mod : OpOk X W C (binaryOp .Mod) (opB .mod) := by
  refine ⟨_, op_modN, fun w σ μ x y vx vy Q k rx ry h => ?_⟩
  obtain ⟨r, e, p⟩ := h
  replace e : modD x y μ = some r := e
  unfold modD at e
  split at e
  · split at e
    · rename_i hc
      cases e
      exact ⟨_, _, rep_int.mp rx, rep_int.mp ry, hc, p w (.refl w) k _ (rep_int.mpr rfl)⟩
    · cases e
  · cases e
/-- tuple * 1 is the tuple itself -/
theorem tuple_mul_one (l : Addr) (items : Array Value) (n : Nat) (dd : Option Addr) (sl : Array (Option Value)) (u : Tok) :
    Meets (Builtin.«tuple.__mul__» ⟨[.ref l, .int 1 u], []⟩) (fun _ R s => s.heap.get? l = some { cls := .type "tuple", dict := dd, data := .seq items n, slots := sl } ∧
      R (.ok (.ret (Value.ref l))) s) :=
  .of_wp fun prog w A R s h => by
    obtain ⟨hp, g, d, tk, os⟩ := s
    obtain ⟨hl, h⟩ := h
    have f1 := AutoSeq1.idx_int
    wp_walk using AutoSeq1.wpAny_loadPart' hl
    exact ⟨_, rfl, h⟩
theorem op_repT1 : OpR X (binaryOp .Mult) (fun x y H Q => ∃ l xs, x = .ref l ∧ y = .int 1 ∧ SqT X.K H l xs ∧ Q (.ref l) H) := by
  intro pins s σ H x y v u Q I rx ry h
  obtain ⟨l, xs, rfl, rfl, hT, q⟩ := h
  cases rx
  obtain ⟨t, rfl⟩ := ry
  obtain ⟨its, r, ⟨⟨cls, dd, data, sl⟩, ho, hc, n, hd⟩, hs⟩ := I.tuple hT
  simp only at hc hd
  subst hc hd
  refine wpAny_binaryOp_repeat_ref (T := "tuple") (U := "int") (by decide) ⟨_, ho, rfl⟩ (fun s' => typeIs_int s' 1 t) noFill_tuple_mul F.fills_int_mul F.slot_int_rmul repeat_tuple F.slot_int_index.lookup
    (call_meets F.slot_int_rmul (typeIs_int s 1 t) F.entry_int_rmul (F.args_int_rmul_2 _ _) (int_rmul_tuple 1 t l its.toArray n dd sl)
      ⟨ho, rfl, ⟨_, ho, rfl⟩, call_meets F.slot_tuple_mul ⟨_, ho, rfl⟩ F.entry_tuple_mul (F.args_tuple_mul_2 _ _) (tuple_mul_one l its.toArray n dd sl t) ⟨ho, ?_⟩⟩)
  exact ⟨.ref l, H, I, rfl, q⟩
theorem natAbs_logB {i : Int} (h : okBig i = true) : i.natAbs.log2 < 400000 := by
  have h1 : i.natAbs < 2 ^ 400000 := by
    have := of_decide_eq_true h
    unfold huge at this
    exact this
  exact PySem.Flt.log2_lt_of (show 0 < 400000 by decide) h1
theorem mulW_of {i j : Int} (h : okBig i = true) (g : okBig j = true) : CMulW i j := by
  have a := natAbs_logB h
  have b := natAbs_logB g
  unfold CMulW
  omega
theorem opok_mul : OpOk X W C (binaryOp .Mult) (opB .mul) := by
  refine ⟨_, OpR.or op_mulW (OpR.or op_repT (OpR.or op_repT1 op_rep)), fun w σ μ x y vx vy Q k rx ry h => ?_⟩
  obtain ⟨r, e, p⟩ := h
  replace e : mulD x y μ = some r := e
  unfold mulD at e
  split at e
  · split at e
    · rename_i hc
      cases e
      rw [Bool.and_eq_true] at hc
      exact .inl ⟨_, _, rep_int.mp rx, rep_int.mp ry, mulW_of hc.1 hc.2, p w (.refl w) k _ (rep_int.mpr rfl)⟩
    · cases e
  · rename_i a n
    split at e
    · rename_i hc
      cases e
      obtain ⟨a1, us, e1, s1, r1⟩ := rep_tup.mp rx
      have hl := r1.length
      by_cases h1 : n = 1
      · subst h1
        refine .inr (.inr (.inl ⟨a1, us, e1, rep_int.mp ry, SqT.same k.fh s1, ?_⟩))
        have e2 : repl (1 : Int).toNat a = a := by simp [repl]
        rw [e2] at p
        exact p w (.refl w) k _ (by rw [← e1]; exact rx)
      · refine .inr (.inl ⟨a1, n, us, e1, rep_int.mp ry, SqT.same k.fh s1, fun z => ?_, by omega, by omega, by omega, fun q hq => ?_⟩)
        · subst z
          have hl0 : a.length = 0 := hl
          omega
        · exact p ⟨upd w.H q (.tup (List.replicate n.toNat us).flatten), upd w.F q (.tup (List.replicate n.toNat us).flatten), w.ρ⟩ (.laidF k hq) (k.laidF hq) _ (rep_new_tup k hq (Reps.repl r1 _))
    · cases e
  · split at e
    · rename_i a1 h1
      split at e
      · rename_i hc
        cases e
        obtain ⟨a1, us, e1, s1, r1⟩ := lst_at k rx h1
        have hl := r1.length
        refine .inr (.inr (.inr ⟨a1, _, us, e1, rep_int.mp ry, s1, by omega, by omega, ?_, fun q hq => ?_⟩))
        · rw [← hl]; exact Nat.le_trans hc.1 lim_line
        · exact p ⟨upd w.H q (.lst (List.replicate _ us).flatten), upd w.F q (.lst (List.replicate _ us).flatten), w.ρ⟩ (.laidF k hq) (k.laidF hq) _ (rep_new_lst k hq (Reps.repl r1 _))
      · cases e
    · cases e
  · cases e
/-! ### comparisons -/
theorem opok_ord {op : CmpOp} {f : Int → Int → Bool} (h : OpR X (compareOp op) (rI0 fun i j => .bl (f i j))) : OpOk X W C (compareOp op) (ordD f) := by
  refine ⟨_, h, fun w σ μ x y vx vy Q k rx ry h => ?_⟩
  obtain ⟨r, e, p⟩ := h
  unfold ordD at e
  split at e
  · cases e
    exact ⟨_, _, rep_int.mp rx, rep_int.mp ry, p w (.refl w) k _ (rep_bl.mpr rfl)⟩
  · cases e
theorem rep_notnon {w : Wd} {x : D} {v : V} (r : RepW X.K w x v) (h : isnD x .non [] = some (.ok (.bl true), [])) : v ≠ .non := by
  intro e
  subst e
  cases x with
  | non => simp [isnD] at h
  | bl b => have := rep_bl.mp r; cases this
  | int i => have := rep_int.mp r; cases this
  | str i => have := rep_str.mp r; cases this
  | tup i => obtain ⟨_, _, z, _⟩ := rep_tup.mp r; cases z
  | lst i => obtain ⟨_, _, z, _⟩ := rep_lst.mp r; cases z
  | scr i => obtain ⟨_, _, z, _⟩ := rep_scr.mp r; cases z
  | ptr i => obtain ⟨_, _, z⟩ := rep_ptr.mp r; cases z
theorem opok_is : OpOk X W C (compareOp .Is) isD := by
  refine ⟨_, OpR.or op_isN op_is_bl, fun w σ μ x y vx vy Q k rx ry h => ?_⟩
  obtain ⟨r, e, p⟩ := h
  unfold isD at e
  have no : ∀ {x : D}, RepW X.K w x vx → isnD x .non [] = some (.ok (.bl true), []) → RepW X.K w .non vy → (∀ v, RepW X.K w (.bl false) v → Q v w.H) → (vy = .non ∧ Q (.bl (decide (vx = .non))) w.H) ∨ ∃ a b, vx = .bl a ∧ vy = .bl b ∧ Q (.bl (decide (a = b))) w.H := fun {x} rx' hx ry' q => by
    refine .inl ⟨rep_non.mp ry', ?_⟩
    rw [decide_eq_false (rep_notnon rx' hx)]
    exact q _ (rep_bl.mpr rfl)
  split at e
  · cases e
    exact .inr ⟨_, _, rep_bl.mp rx, rep_bl.mp ry, p w (.refl w) k _ (rep_bl.mpr rfl)⟩
  · cases e
    refine .inl ⟨rep_non.mp ry, ?_⟩
    rw [decide_eq_true (rep_non.mp rx)]
    exact p w (.refl w) k _ (rep_bl.mpr rfl)
  all_goals first
    | (cases e; done)
    | (cases e; exact no rx rfl ry (p w (.refl w) k))
theorem opok_isn : OpOk X W C (compareOp .IsNot) isnD := by
  refine ⟨_, OpR.or op_notN op_isnot_bl, fun w σ μ x y vx vy Q k rx ry h => ?_⟩
  obtain ⟨r, e, p⟩ := h
  unfold isnD at e
  have no : ∀ {x : D}, RepW X.K w x vx → isnD x .non [] = some (.ok (.bl true), []) → RepW X.K w .non vy → (∀ v, RepW X.K w (.bl true) v → Q v w.H) → (vy = .non ∧ Q (.bl (!decide (vx = .non))) w.H) ∨ ∃ a b, vx = .bl a ∧ vy = .bl b ∧ Q (.bl (!decide (a = b))) w.H := fun {x} rx' hx ry' q => by
    refine .inl ⟨rep_non.mp ry', ?_⟩
    rw [decide_eq_false (rep_notnon rx' hx)]
    exact q _ (rep_bl.mpr rfl)
  split at e
  · cases e
    exact .inr ⟨_, _, rep_bl.mp rx, rep_bl.mp ry, p w (.refl w) k _ (rep_bl.mpr rfl)⟩
  · cases e
    refine .inl ⟨rep_non.mp ry, ?_⟩
    rw [decide_eq_true (rep_non.mp rx)]
    exact p w (.refl w) k _ (rep_bl.mpr rfl)
  all_goals first
    | (cases e; done)
    | (cases e; exact no rx rfl ry (p w (.refl w) k))
/-! ### == and != -/
mutual
def toPy : D → PyData
  | .non => .none
  | .bl b => .bool b
  | .int i => .int i
  | .str x => .str x
  | .tup ds => .tuple (toPys ds)
  | .lst ds => .list (toPys ds)
  | .scr _ => .none
  | .ptr _ => .none
def toPys : List D → List PyData
  | [] => []
  | d :: ds => toPy d :: toPys ds
end
mutual
theorem eqv_peq : ∀ (n : Nat) (x y : D), flat n x = true → flat n y = true → PyData.eqv (toPy x) (toPy y) = peq x y
  | n, .scr _, _, h, _ => by cases n <;> simp [flat] at h
  | n, .ptr _, _, h, _ => by cases n <;> simp [flat] at h
  | n, .non, y, _, g => by cases y <;> first | (cases n <;> simp [flat] at g; done) | simp [toPy, PyData.eqv, peq]
  | n, .bl b, y, _, g => by cases y <;> first | (cases n <;> simp [flat] at g; done) | simp [toPy, PyData.eqv, peq]
  | n, .int b, y, _, g => by cases y <;> first | (cases n <;> simp [flat] at g; done) | simp [toPy, PyData.eqv, peq]
  | n, .str b, y, _, g => by cases y <;> first | (cases n <;> simp [flat] at g; done) | simp [toPy, PyData.eqv, peq]
  | 0, .tup _, _, h, _ => by simp [flat] at h
  | 0, .lst _, _, h, _ => by simp [flat] at h
  | n + 1, .tup xs, y, h, g => by
    cases y with
    | tup ys => simpa [toPy, PyData.eqv, peq] using eqv_peqs n xs ys (by simpa [flat] using h) (by simpa [flat] using g)
    | scr _ => simp [flat] at g
    | ptr _ => simp [flat] at g
    | _ => simp [toPy, PyData.eqv, peq]
  | n + 1, .lst xs, y, h, g => by
    cases y with
    | lst ys => simpa [toPy, PyData.eqv, peq] using eqv_peqs n xs ys (by simpa [flat] using h) (by simpa [flat] using g)
    | scr _ => simp [flat] at g
    | ptr _ => simp [flat] at g
    | _ => simp [toPy, PyData.eqv, peq]
theorem eqv_peqs : ∀ (n : Nat) (x y : List D), flats n x = true → flats n y = true → PyData.eqvAll (toPys x) (toPys y) = peqs x y
  | n, [], y, _, _ => by cases y <;> simp [toPys, PyData.eqvAll, peqs]
  | n, x :: xs, y, h, g => by
    cases y with
    | nil => simp [toPys, PyData.eqvAll, peqs]
    | cons y ys =>
      simp only [flats, Bool.and_eq_true] at h g
      simp [toPys, PyData.eqvAll, peqs, eqv_peq n x y h.1 g.1, eqv_peqs n xs ys h.2 g.2]
end
mutual
theorem flat_lay : ∀ (n : Nat) (x : D), flat n x = true → (toPy x).canLay0 = true ∧ (toPy x).depth ≤ n
  | n, .scr _, h => by cases n <;> simp [flat] at h
  | n, .ptr _, h => by cases n <;> simp [flat] at h
  | n, .non, _ => by simp [toPy, PyData.canLay0, PyData.depth]
  | n, .bl b, _ => by simp [toPy, PyData.canLay0, PyData.depth]
  | n, .int b, _ => by simp [toPy, PyData.canLay0, PyData.depth]
  | n, .str b, h => by
    have h' : PyData.strOk b = true := by cases n <;> simpa [flat] using h
    simp [toPy, PyData.canLay0, PyData.depth, h']
  | 0, .tup _, h => by simp [flat] at h
  | 0, .lst _, h => by simp [flat] at h
  | n + 1, .tup xs, h => by
    have := flat_lays n xs (by simpa [flat] using h)
    simp [toPy, PyData.canLay0, PyData.depth, this.1]
    exact this.2
  | n + 1, .lst xs, h => by
    have := flat_lays n xs (by simpa [flat] using h)
    simp [toPy, PyData.canLay0, PyData.depth, this.1]
    exact this.2
theorem flat_lays : ∀ (n : Nat) (x : List D), flats n x = true → PyData.canLayAll0 (toPys x) = true ∧ PyData.depthAll (toPys x) ≤ n
  | n, [], _ => by simp [toPys, PyData.canLayAll0, PyData.depthAll]
  | n, x :: xs, h => by
    simp only [flats, Bool.and_eq_true] at h
    have a := flat_lay n x h.1
    have b := flat_lays n xs h.2
    simp [toPys, PyData.canLayAll0, PyData.depthAll, a.1, b.1]
    exact Nat.max_le.mpr ⟨a.2, b.2⟩
end
theorem flat_shaped {x : D} (h : flat 60 x = true) : SeqAt.shaped (toPy x) = true := by
  have := flat_lay 60 x h
  unfold SeqAt.shaped
  rw [this.1, Bool.true_and]
  exact decide_eq_true (by omega)
section
variable {K : PySem.W.Frag} {F H : Hp} {ρ : List Addr}
mutual
theorem rep_dp (s : Same F H) : ∀ (n : Nat) (x : D) (v : V), flat n x = true → Rep K F ρ x v → Dp K H v (toPy x)
  | n, .scr _, _, h, _ => by cases n <;> simp [flat] at h
  | n, .ptr _, _, h, _ => by cases n <;> simp [flat] at h
  | n, .non, v, _, r => by
    simp only [Rep] at r
    subst r
    simp only [toPy]
    exact .non
  | n, .bl b, v, _, r => by
    simp only [Rep] at r
    subst r
    simp only [toPy]
    exact .bl b
  | n, .int b, v, _, r => by
    simp only [Rep] at r
    subst r
    simp only [toPy]
    exact .int b
  | n, .str b, v, _, r => by
    simp only [Rep] at r
    subst r
    simp only [toPy]
    exact .str b
  | 0, .tup _, _, h, _ => by simp [flat] at h
  | 0, .lst _, _, h, _ => by simp [flat] at h
  | n + 1, .tup xs, v, h, r => by
    simp only [Rep] at r
    obtain ⟨a, vs, rfl, q, r⟩ := r
    simp only [toPy]
    exact .tup (SqT.same s q) (rep_dps s n xs vs (by simpa [flat] using h) r)
  | n + 1, .lst xs, v, h, r => by
    simp only [Rep] at r
    obtain ⟨a, vs, rfl, q, r⟩ := r
    simp only [toPy]
    exact .lst (.of (s _ _ q)) (rep_dps s n xs vs (by simpa [flat] using h) r)
theorem rep_dps (s : Same F H) : ∀ (n : Nat) (x : List D) (v : List V), flats n x = true → Reps K F ρ x v → DpAll K H v (toPys x)
  | n, [], v, _, r => by
    simp only [Reps] at r
    subst r
    simp only [toPys]
    exact .nil
  | n, x :: xs, v, h, r => by
    simp only [Reps] at r
    obtain ⟨u, us, rfl, r1, r2⟩ := r
    simp only [flats, Bool.and_eq_true] at h
    simp only [toPys]
    exact .cons (rep_dp s n x u h.1 r1) (rep_dps s n xs us h.2 r2)
end
end
theorem open1_dp {w : Wd} {μ : List MO} {x : D} {v : V} (k : Wok X.K C w μ) (r : RepW X.K w x v) (h : flat 60 (open1 μ x) = true) : Dp X.K w.H v (toPy (open1 μ x)) := by
  have gen : ∀ {y : D}, RepW X.K w y v → flat 60 y = true → Dp X.K w.H v (toPy y) := fun {y} r' h' => rep_dp k.fh 60 y v h' r'
  unfold open1 at h ⊢
  split at h
  · rename_i n
    split at h
    · rename_i ds q
      obtain ⟨a, h1, rfl⟩ := rep_ptr.mp r
      obtain ⟨vs, h3, h4⟩ := k.ce n a _ h1 q
      simp only [q, toPy]
      exact .lst (.of h3) (rep_dps k.fh 59 ds vs (by simpa [flat] using h) h4)
    · simp [flat] at h
  · exact gen r h
theorem opok_eq (hu : X.A.units + 64 < cLine) : OpOk X W C (compareOp .Eq) eqD := by
  refine ⟨_, op_eqD hu, fun w σ μ x y vx vy Q k rx ry h => ?_⟩
  obtain ⟨r, e, p⟩ := h
  unfold eqD at e
  split at e
  · rename_i hf
    rw [Bool.and_eq_true] at hf
    cases e
    refine ⟨_, _, open1_dp k rx hf.1, open1_dp k ry hf.2, flat_shaped hf.1, flat_shaped hf.2, ?_⟩
    rw [eqv_peq 60 _ _ hf.1 hf.2]
    exact p w (.refl w) k _ (rep_bl.mpr rfl)
  · cases e
theorem opok_ne (hu : X.A.units + 64 < cLine) : OpOk X W C (compareOp .NotEq) neD := by
  refine ⟨_, op_neD hu, fun w σ μ x y vx vy Q k rx ry h => ?_⟩
  obtain ⟨r, e, p⟩ := h
  unfold neD at e
  split at e
  · rename_i hf
    rw [Bool.and_eq_true] at hf
    cases e
    refine ⟨_, _, open1_dp k rx hf.1, open1_dp k ry hf.2, flat_shaped hf.1, flat_shaped hf.2, ?_⟩
    rw [eqv_peq 60 _ _ hf.1 hf.2]
    exact p w (.refl w) k _ (rep_bl.mpr rfl)
  · cases e
def copOf : COp → CmpOp
  | .eq => .Eq
  | .ne => .NotEq
  | .lt => .Lt
  | .le => .LtE
  | .gt => .Gt
  | .ge => .GtE
  | .is_ => .Is
  | .isn => .IsNot
def bopOf : BOp → Operator
  | .add => .Add
  | .sub => .Sub
  | .mul => .Mult
  | .fdiv => .FloorDiv
  | .mod => .Mod
theorem bop_ok : ∀ o : BOp, OpOk X W C (binaryOp (bopOf o)) (opB o)
  | .add => opok_add
  | .sub => opok_sub
  | .mul => opok_mul
  | .fdiv => opok_fdiv
  | .mod => opok_mod
theorem cop_ok (hu : X.A.units + 64 < cLine) : ∀ o : COp, OpOk X W C (compareOp (copOf o)) (opC o)
  | .eq => opok_eq hu
  | .ne => opok_ne hu
  | .lt => opok_ord op_lt
  | .le => opok_ord op_le
  | .gt => opok_ord op_gt
  | .ge => opok_ord op_ge
  | .is_ => opok_is
  | .isn => opok_isn
theorem cop_mark (o : COp) (b : Expr) : behindInMarks (copOf o) b = false := by cases o <;> exact nomark b
theorem bopL_ok : ∀ o : BOp, OpOk X W C (binaryOp (bopOf o)) (opBL o)
  | .add => by
    refine ⟨_, op_cat, fun w σ μ x y vx vy Q k rx ry h => ?_⟩
    obtain ⟨r, e, p⟩ := h
    simp only [opBL] at e
    split at e
    · rename_i a b h1 h2
      split at e
      · rename_i hl
        obtain ⟨a1, us, e1, s1, r1⟩ := lst_at k rx h1
        obtain ⟨a2, vs, e2, s2, r2⟩ := lst_at k ry h2
        refine ⟨a1, a2, us, vs, e1, e2, s1, s2, ?_, fun q hq => ?_⟩
        · rw [← r1.length, ← r2.length]; exact Nat.le_trans hl lim_line
        · exact fresh_of (X := X) (W := W) (C := C) (σ := σ) k (rep_cat r1 r2) ⟨r, e, p⟩ hq
      · cases e
    · cases e
  | .mul => by
    refine ⟨_, op_rep, fun w σ μ x y vx vy Q k rx ry h => ?_⟩
    obtain ⟨r, e, p⟩ := h
    simp only [opBL] at e
    split at e
    · rename_i n
      split at e
      · rename_i a h1
        split at e
        · rename_i hc
          obtain ⟨a1, us, e1, s1, r1⟩ := lst_at k rx h1
          have hl := r1.length
          refine ⟨a1, _, us, e1, rep_int.mp ry, s1, by omega, by omega, ?_, fun q hq => ?_⟩
          · rw [← hl]; exact Nat.le_trans hc.1 lim_line
          · exact fresh_of (X := X) (W := W) (C := C) (σ := σ) k (Reps.repl r1 _) ⟨r, e, p⟩ hq
        · cases e
      · cases e
    · cases e
  | .sub => by
    obtain ⟨r, hr, _⟩ := opok_sub (X := X) (W := W) (C := C)
    exact ⟨r, hr, fun w σ μ x y vx vy Q k rx ry h => (Does.of_bad (X := X) (W := W) (C := C) (σ := σ) h).elim⟩
  | .fdiv => by
    obtain ⟨r, hr, _⟩ := opok_fdiv (X := X) (W := W) (C := C)
    exact ⟨r, hr, fun w σ μ x y vx vy Q k rx ry h => (Does.of_bad (X := X) (W := W) (C := C) (σ := σ) h).elim⟩
  | .mod => by
    obtain ⟨r, hr, _⟩ := opok_mod (X := X) (W := W) (C := C)
    exact ⟨r, hr, fun w σ μ x y vx vy Q k rx ry h => (Does.of_bad (X := X) (W := W) (C := C) (σ := σ) h).elim⟩
end
end NB
end
set_option maxHeartbeats 4000000
section
/-! Subscripts, slices, fields, calls, built-ins. -/
namespace NB
open PySem PySem.Spec L2
open PyProof.Rows hiding St
section
variable {X : Cx} {W : WX} {C : Addr}
theorem notSlice_plain {b : Expr} (h : (match b with
    | .Slice .. => false
    | _ => true) = true) : PlainIx b := by
  intro o i
  cases b <;> first | rfl | cases h
theorem atI_map {ds : List D} {vs : List V} {w : Wd} {i : Int} {d : D} (r : RepsW X.K w ds vs) (h : atI ds i = some d) : ∃ v, atI vs i = some v ∧ RepW X.K w d v := by
  unfold atI at h ⊢
  rw [← r.length]
  cases q : ixN ds.length i with
  | none => rw [q] at h; cases h
  | some j =>
    rw [q] at h
    exact Reps.get r h
theorem se_idx {a b : Expr} {ma mb : List (Option D) → M D} {pos : Pos} (ha : SE X W C a ma) (hb : SE X W C b mb) (hp : PlainIx b) :
    SE X W C (.Subscript a b pos) (fun δ => M.bind (ma δ) fun x => M.bind (mb δ) fun y => fun μ => match seqOf μ x, y with
      | some ds, .int k => match atI ds k with
        | some d => some (.ok d, μ)
        | none => none
      | _, _ => none) := by
  obtain ⟨ta, pa, qa⟩ := ha
  obtain ⟨tb, pb, qb⟩ := hb
  refine ⟨_, pe_ix (IxR.or ix_list ix_tup) pa pb hp, fun w σ δ μ Q k s h => ?_⟩
  refine qa w σ δ μ _ k s (h.bind.mono fun x w1 μ1 l1 k1 h1 vx rx => ?_)
  refine qb w1 σ δ μ1 _ k1 (s.mono l1) (h1.bind.mono fun y w2 μ2 l2 k2 h2 vy ry => ?_)
  obtain ⟨r, e, p⟩ := h2
  dsimp only at e
  split at e
  · rename_i ds i q
    split at e
    · rename_i d qd
      cases e
      obtain ⟨a, vs, e1, hs, rs⟩ := seq_at k2 (l2.rep rx) q
      obtain ⟨v, hv, rv⟩ := atI_map rs qd
      have fin := p w2 (.refl w2) k2 v rv
      rcases hs with hs | hs
      · exact .inl ⟨a, vs, i, v, e1, rep_int.mp ry, hs, hv, fin⟩
      · exact .inr ⟨a, vs, i, v, e1, rep_int.mp ry, hs, hv, fin⟩
    · cases e
  · cases e
/-- an optional part of a slice -/
def SO (X : Cx) (W : WX) (C : Addr) (e : Option Expr) (m : List (Option D) → M (Option Int)) : Prop :=
  ∃ t, PO X e t ∧ ∀ w σ δ μ Q, Wok X.K C w μ → Slots X.K w σ δ → Does X W C σ w μ (m δ) (fun o w' _ => Q o w'.H) → t σ w.H Q
theorem so_none : SO X W C none (fun _ => M.ok none) := ⟨tNoPart, po_none, fun w σ δ μ Q k s h => h.of_ok k⟩
theorem so_some {e : Expr} {m : List (Option D) → M D} (h : SE X W C e m) : SO X W C (some e) (fun δ => M.bind (m δ) fun x => match x with
    | .int i => M.ok (some i)
    | _ => M.bad) := by
  obtain ⟨t, p, q⟩ := h
  refine ⟨tPart t, po_some p, fun w σ δ μ Q k s h => ?_⟩
  refine q w σ δ μ _ k s (h.bind.mono fun x w1 μ1 l1 k1 h1 v rv => ?_)
  cases x with
  | int i => exact ⟨i, rep_int.mp rv, h1.of_ok k1⟩
  | _ => exact (Does.of_bad (X := X) (W := W) (C := C) (σ := σ) h1).elim
theorem cutD_rep {ds : List D} {vs : List V} {w : Wd} {lo hi : Option Int} (r : RepsW X.K w ds vs) : RepsW X.K w (cutD ds lo hi) (cutV vs lo hi) := by
  unfold cutD cutV
  rw [r.length]
  exact Reps.take _ (Reps.drop _ r)
theorem sl_both : SlR X (fun x lo hi H Q => rSlL X.K x lo hi H Q ∨ rSlA X.K x lo hi H Q) := by
  intro pins s σ H x v vl vu lo hi sl Q I rx hs pl pu h
  rcases h with h | h
  · exact sl_list pins s σ H x v vl vu lo hi sl Q I rx hs pl pu h
  · exact sl_tupA pins s σ H x v vl vu lo hi sl Q I rx hs pl pu h
theorem cut_all {ds : List D} {lo hi : Option Int} (h : HT.sIx ds.length 0 lo = 0 ∧ HT.sIx ds.length ds.length hi = ds.length) : cutD ds lo hi = ds := by
  unfold cutD
  rw [h.1, h.2]
  simp
theorem se_slc {a : Expr} {lo hi : Option Expr} {ma : List (Option D) → M D} {ml mh : List (Option D) → M (Option Int)} {pos p2 : Pos} (ha : SE X W C a ma) (hl : SO X W C lo ml) (hh : SO X W C hi mh) :
    SE X W C (.Subscript a (.Slice lo hi none p2) pos) (fun δ => M.bind (ma δ) fun x => M.bind (ml δ) fun l => M.bind (mh δ) fun h => fun μ => match x with
      | .tup ds => some (.ok (.tup (cutD ds l h)), μ)
      | x => match lstOf μ x with
        | some ds => some (.ok (.lst (cutD ds l h)), μ)
        | none => none) := by
  obtain ⟨ta, pa, qa⟩ := ha
  obtain ⟨tl, pl, ql⟩ := hl
  obtain ⟨th, ph, qh⟩ := hh
  refine ⟨_, pe_slice sl_both pa pl ph, fun w σ δ μ Q k s h => ?_⟩
  refine qa w σ δ μ _ k s (h.bind.mono fun x w1 μ1 l1 k1 h1 vx rx => ?_)
  refine ql w1 σ δ μ1 _ k1 (s.mono l1) (h1.bind.mono fun lo w2 μ2 l2 k2 h2 => ?_)
  refine qh w2 σ δ μ2 _ k2 ((s.mono l1).mono l2) (h2.bind.mono fun hi w3 μ3 l3 k3 h3 => ?_)
  obtain ⟨r, e, p⟩ := h3
  dsimp only at e
  have rx3 := l3.rep (l2.rep rx)
  split at e
  · rename_i ds
    cases e
    obtain ⟨a, vs, e1, hs, rs⟩ := rep_tup.mp rx3
    refine .inr ⟨a, vs, e1, SqT.same k3.fh hs, fun z => ?_, fun _ q hq => ?_⟩
    · rw [← rs.length] at z
      rw [cut_all z] at p
      exact p w3 (.refl w3) k3 _ (by rw [← e1]; exact rx3)
    · exact p ⟨upd w3.H q (.tup (cutV vs lo hi)), upd w3.F q (.tup (cutV vs lo hi)), w3.ρ⟩ (.laidF k3 hq) (k3.laidF hq) _ (rep_new_tup k3 hq (cutD_rep rs))
  · split at e
    · rename_i ds q0
      cases e
      obtain ⟨a, vs, e1, hs, rs⟩ := lst_at k3 rx3 q0
      refine .inl ⟨a, vs, e1, .of hs, fun q hq => ?_⟩
      exact p ⟨upd w3.H q (.lst (cutV vs lo hi)), upd w3.F q (.lst (cutV vs lo hi)), w3.ρ⟩ (.laidF k3 hq) (k3.laidF hq) _ (rep_new_lst k3 hq (cutD_rep rs))
    · cases e

/-! ### fields -/
theorem lookup_pair {K : PySem.W.Frag} {F : Hp} {ρ : List Addr} : ∀ {fs : List (Str × D)} {vs : List (Str × V)} {f : Str} {d : D}, vs.map (·.1) = fs.map (·.1) → Reps K F ρ (fs.map (·.2)) (vs.map (·.2)) → fs.lookup f = some d →
    ∃ v, vs.lookup f = some v ∧ Rep K F ρ d v
  | [], vs, f, d, _, _, h => by cases h
  | (g, x) :: fs, [], f, d, e, _, _ => by simp at e
  | (g, x) :: fs, (g', y) :: vs, f, d, e, r, h => by
    simp only [List.map_cons, List.cons.injEq] at e
    obtain ⟨e1, e2⟩ := e
    simp only [List.map_cons, Reps] at r
    obtain ⟨v, us, e3, r1, r2⟩ := r
    obtain ⟨rfl, rfl⟩ := List.cons.inj e3
    subst e1
    rw [List.lookup_cons] at h ⊢
    cases q : f == g' with
    | true =>
      rw [q] at h
      cases h
      exact ⟨y, rfl, r1⟩
    | false =>
      rw [q] at h
      exact lookup_pair e2 r2 h
theorem lookup_none {α β : Type} : ∀ {fs : List (Str × α)} {vs : List (Str × β)} {f : Str}, vs.map (·.1) = fs.map (·.1) → fs.lookup f = none → vs.lookup f = none
  | [], vs, f, e, _ => by
    have : vs = [] := List.map_eq_nil_iff.mp e
    subst this
    rfl
  | (g, x) :: fs, [], f, e, _ => rfl
  | (g, x) :: fs, (g', y) :: vs, f, e, h => by
    simp only [List.map_cons, List.cons.injEq] at e
    obtain ⟨e1, e2⟩ := e
    subst e1
    rw [List.lookup_cons] at h ⊢
    cases q : f == g' with
    | true => rw [q] at h; cases h
    | false => rw [q] at h; exact lookup_none e2 h
theorem se_fld {a : Expr} {f : Str} {m : List (Option D) → M D} {pos : Pos} (c : Cls X.K C) (n : NoAttr X.K C f) (ha : SE X W C a m) (hb : attributeBase a f X.env (eval a X.env) = eval a X.env) :
    SE X W C (.Attribute a f pos) (fun δ => M.bind (m δ) fun x => fun μ => match x with
      | .ptr n => match μ[n]? with
        | some (.ins fs) => match fs.lookup f with
          | some d => some (.ok d, μ)
          | none => none
        | _ => none
      | _ => none) := by
  obtain ⟨t, p, q⟩ := ha
  refine ⟨_, pe_fld p hb, fun w σ δ μ Q k s h => ?_⟩
  refine q w σ δ μ _ k s (h.bind.mono fun x w1 μ1 l1 k1 h1 v rv => ?_)
  obtain ⟨r, e, p⟩ := h1
  dsimp only at e
  split at e
  · rename_i i
    split at e
    · rename_i fs q1
      split at e
      · rename_i d q2
        cases e
        obtain ⟨a, h1, rfl⟩ := rep_ptr.mp rv
        obtain ⟨dx, vs, h3, h4, h5⟩ := k1.ce i a _ h1 q1
        obtain ⟨u, h6, h7⟩ := lookup_pair h4 h5 q2
        exact ⟨a, C, dx, vs, u, rfl, h3, c, n, h6, p w1 (.refl w1) k1 u h7⟩
      · cases e
    · cases e
  · cases e

/-! ### calls -/
def spM (K : PySem.W.Frag) (C : Addr) (mg : Str → Option Value) (np : Nat) (f : List D → M D) : Sp := fun vs H Q E => vs.length = np ∧ ∃ (w : Wd) (μ : List MO) (ds : List D) (r : Except Str D × List MO),
  w.H = H ∧ Wok K C w μ ∧ RepsW K w ds vs ∧ f ds μ = some r ∧ ∀ w', Wle w w' → Wok K C w' r.2 → match r.1 with
    | .ok d => ∀ v, RepW K w' d v → Q v w'.H
    | .error c => E (exV mg c) none w'.H
theorem se_call {f : Addr} {fd : FuncData} {ps : List Str} {k : Nat} {x : Str} {p pos : Pos} {e : Expr} {es : List Expr} {F : List D → M D} {m : List (Option D) → M (List D)}
    (G : FnOk X.prog X.w X.K X.mg X.base (L2.CX X.prog X.w) k f fd ps (spM X.K C X.mg ps.length F)) (hr : Room k X.A) (tk : Takes X W) (hg : Gl X x) (hm : X.mg x = some (.ref f)) (hk : PySem.W.keepIn X.K (.ref f) = true) (hb : Binds X.K fd ps []) (ha : SA X W C (e :: es) m)
    (hdb : (x == ("__debug__" : Str)) = false) (he : starEach (e :: es) X.env = (false, eval e X.env) :: starEach es X.env) (hpl : (backTo pos (starEach es X.env)).any (·.1) = false) (hl : ∀ δ μ r μ', m δ μ = some (.ok r, μ') → r.length = ps.length) :
    SE X W C (.Call (.Name x p) (e :: es) [] pos) (fun δ => M.bind (m δ) fun ds => F ds) := by
  obtain ⟨t, pa, qa⟩ := ha
  refine ⟨_, pe_callS (E := WE W) G hr hg hm hk hb (fun σ => passAt tk σ) pa hdb he hpl, fun w σ δ μ Q k s h => ?_⟩
  have h0 := h
  obtain ⟨r0, e0, p0⟩ := h0
  have hlen : ∀ ds w1 μ1, Wle w w1 → Wok X.K C w1 μ1 → Does X W C σ w1 μ1 (F ds) (fun d w' _ => ∀ v, RepW X.K w' d v → Q v w'.H) → True := fun _ _ _ _ _ _ => trivial
  refine qa w σ δ μ _ k s ?_
  obtain ⟨r1, e1, p1⟩ := h.bind
  refine ⟨r1, e1, fun w1 l1 k1 => ?_⟩
  obtain ⟨r1, μ1⟩ := r1
  have p1 := p1 w1 l1 k1
  cases r1 with
  | error c => exact p1
  | ok ds =>
    intro vs rv
    obtain ⟨r2, e2, p2⟩ := p1
    exact ⟨by rw [← rv.length]; exact hl δ μ ds μ1 e1, w1, μ1, ds, r2, rfl, k1, rv, e2, fun w3 l3 k3 => by
      have q := p2 w3 l3 k3
      obtain ⟨r2, μ2⟩ := r2
      cases r2 <;> exact q⟩
/-- a method call on one line, few arguments -/
theorem mth_form {o : Expr} {m : Str} {apos pos : Pos} {args : List Expr} {env : Env} (hbase : attributeBase o m env (eval o env) = eval o env) (hf : methodCallForm (args.length + ([] : List Keyword).length) (backTo pos (starEach args env)) (backToKw pos (keywordEach [] env)) = true) (hl : (apos.endLine == pos.line) = true) :
    eval (.Call (.Attribute o m apos) args [] pos) env = (do
      let ov ← eval o env
      standAt apos.atName
      let (f, first) ← holding [ov] (getMethod ov m (do return (← importBound o env).getD true))
      callWith pos f first (backTo pos (starEach args env)) (backToKw pos (keywordEach [] env))) := by
  have e0 : eval (.Call (.Attribute o m apos) args [] pos) env = (do
      let ov ← attributeBase o m env (eval o env)
      standAt apos.atName
      methodCall o m apos pos env ov (args.length + ([] : List Keyword).length) (backTo pos (starEach args env)) (backToKw pos (keywordEach [] env))) := by
    cases o <;> rfl
  rw [e0, hbase]
  have e1 : ∀ ov, methodCall o m apos pos env ov (args.length + ([] : List Keyword).length) (backTo pos (starEach args env)) (backToKw pos (keywordEach [] env)) = (do
      let (f, first) ← holding [ov] (getMethod ov m (do return (← importBound o env).getD true))
      callWith pos f first (backTo pos (starEach args env)) (backToKw pos (keywordEach [] env))) := fun ov => by
    unfold methodCall
    rw [hf]
    have e2 : methodCallPos true o env apos pos = pure pos := by
      unfold methodCallPos
      exact if_pos (by rw [hl, Bool.or_true])
    rw [e2]
    first
      | rfl
      | simp only [pure_bind]
        rfl
  simp only [e1]
theorem se_mth {o : Expr} {mo : List (Option D) → M D} {f : Addr} {fd : FuncData} {ps : List Str} {k : Nat} {m : Str} {apos pos : Pos} {e : Expr} {es : List Expr} {F : List D → M D} {ma : List (Option D) → M (List D)}
    (c : Cls X.K C) (hm : Meth X.K C m f) (G : FnOk X.prog X.w X.K X.mg X.base (L2.CX X.prog X.w) k f fd ps (spM X.K C X.mg ps.length F)) (hr : Room k X.A) (hb : Binds X.K fd ps []) (ho : SE X W C o mo) (ha : SA X W C (e :: es) ma)
    (hst : starEach (e :: es) X.env = (false, eval e X.env) :: starEach es X.env) (hpl : (backTo pos (starEach es X.env)).any (·.1) = false)
    (hbase : attributeBase o m X.env (eval o X.env) = eval o X.env) (hf : methodCallForm ((e :: es).length + ([] : List Keyword).length) (backTo pos (starEach (e :: es) X.env)) (backToKw pos (keywordEach [] X.env)) = true) (hl : (apos.endLine == pos.line) = true)
    (hlen : ∀ δ μ r μ', ma δ μ = some (.ok r, μ') → r.length + 1 = ps.length) :
    SE X W C (.Call (.Attribute o m apos) (e :: es) [] pos) (fun δ => M.bind (mo δ) fun x => fun μ => match x with
      | .ptr n => match μ[n]? with
        | some (.ins fs) => match fs.lookup m with
          | none => M.bind (ma δ) (fun ds => M.calm (F (.ptr n :: ds))) μ
          | some _ => none
        | _ => none
      | _ => none) := by
  obtain ⟨to, po, qo⟩ := ho
  obtain ⟨t, pa, qa⟩ := ha
  refine ⟨_, pe_meth (pl := (do return (← importBound o X.env).getD true)) (E := E0) po c hm G hr hb .nil passL pa hst hpl (mth_form hbase hf hl), fun w σ δ μ Q k s h => ?_⟩
  refine qo w σ δ μ _ k s (h.bind.mono fun x w1 μ1 l1 k1 h1 v rv => ?_)
  cases x with
  | ptr n =>
    simp only at h1
    cases q1 : μ1[n]? with
    | none =>
      refine (Does.of_none (X := X) (W := W) (C := C) (σ := σ) h1 ?_).elim
      simp only [q1]
    | some mo1 =>
      cases mo1 with
      | lst ds =>
        refine (Does.of_none (X := X) (W := W) (C := C) (σ := σ) h1 ?_).elim
        simp only [q1]
      | ins fs =>
        cases q2 : fs.lookup m with
        | some z =>
          refine (Does.of_none (X := X) (W := W) (C := C) (σ := σ) h1 ?_).elim
          simp only [q1, q2]
        | none =>
          have h2 : Does X W C σ w1 μ1 (M.bind (ma δ) (fun ds => M.calm (F (.ptr n :: ds)))) (fun d w' _ => ∀ v, RepW X.K w' d v → Q v w'.H) := by
            obtain ⟨r, e, p⟩ := h1
            simp only [q1, q2] at e
            exact ⟨r, e, p⟩
          obtain ⟨a, g1, rfl⟩ := rep_ptr.mp rv
          obtain ⟨dx, vs, g3, g4, g5⟩ := k1.ce n a _ g1 q1
          refine ⟨a, dx, vs, rfl, g3, lookup_none g4 q2, qa w1 σ δ μ1 _ k1 (s.mono l1) ?_⟩
          obtain ⟨r1, e1, p1⟩ := h2.bind
          refine ⟨r1, e1, fun w2 l2 k2 => ?_⟩
          obtain ⟨r1, μ2⟩ := r1
          have p1 := p1 w2 l2 k2
          cases r1 with
          | error c => exact p1
          | ok ds =>
            intro us rus
            obtain ⟨r2, e2, p2⟩ := p1
            unfold M.calm at e2
            split at e2
            · rename_i d μ3 e3
              cases e2
              refine ⟨?_, w2, μ2, .ptr n :: ds, _, rfl, k2, .cons (l2.rep rv) (by rw [List.append_nil]; exact rus), e3, p2⟩
              simp only [List.length_cons, List.append_nil]
              rw [← rus.length]
              exact hlen δ μ1 ds μ2 e1
            · cases e2
  | _ => exact (Does.of_none (X := X) (W := W) (C := C) (σ := σ) h1 rfl).elim
theorem se_mth0 {o : Expr} {mo : List (Option D) → M D} {f : Addr} {fd : FuncData} {ps : List Str} {k : Nat} {m : Str} {apos pos : Pos} {F : List D → M D}
    (c : Cls X.K C) (hm : Meth X.K C m f) (G : FnOk X.prog X.w X.K X.mg X.base (L2.CX X.prog X.w) k f fd ps (spM X.K C X.mg ps.length F)) (hr : Room k X.A) (hb : Binds X.K fd ps []) (ho : SE X W C o mo)
    (hbase : attributeBase o m X.env (eval o X.env) = eval o X.env) (hl : (apos.endLine == pos.line) = true) (hlen : ps.length = 1) :
    SE X W C (.Call (.Attribute o m apos) [] [] pos) (fun δ => M.bind (mo δ) fun x => fun μ => match x with
      | .ptr n => match μ[n]? with
        | some (.ins fs) => match fs.lookup m with
          | none => M.bind (M.ok []) (fun ds => M.calm (F (.ptr n :: ds))) μ
          | some _ => none
        | _ => none
      | _ => none) := by
  obtain ⟨to, po, qo⟩ := ho
  refine ⟨_, pe_meth0 (pl := (do return (← importBound o X.env).getD true)) (E := E0) po c hm G hr hb .nil passL (mth_form hbase rfl hl), fun w σ δ μ Q k s h => ?_⟩
  refine qo w σ δ μ _ k s (h.bind.mono fun x w1 μ1 l1 k1 h1 v rv => ?_)
  cases x with
  | ptr n =>
    simp only at h1
    cases q1 : μ1[n]? with
    | none =>
      refine (Does.of_none (X := X) (W := W) (C := C) (σ := σ) h1 ?_).elim
      simp only [q1]
    | some mo1 =>
      cases mo1 with
      | lst ds =>
        refine (Does.of_none (X := X) (W := W) (C := C) (σ := σ) h1 ?_).elim
        simp only [q1]
      | ins fs =>
        cases q2 : fs.lookup m with
        | some z =>
          refine (Does.of_none (X := X) (W := W) (C := C) (σ := σ) h1 ?_).elim
          simp only [q1, q2]
        | none =>
          obtain ⟨r, e, p⟩ := h1
          simp only [q1, q2] at e
          obtain ⟨a, g1, rfl⟩ := rep_ptr.mp rv
          obtain ⟨dx, vs, g3, g4, g5⟩ := k1.ce n a _ g1 q1
          replace e : M.calm (F [.ptr n]) μ1 = some r := e
          unfold M.calm at e
          split at e
          · rename_i d μ3 e3
            cases e
            exact ⟨a, dx, vs, rfl, g3, lookup_none g4 q2, hlen.symm, w1, μ1, [.ptr n], _, rfl, k1, .cons rv .nil, e3, p⟩
          · cases e
  | _ => exact (Does.of_none (X := X) (W := W) (C := C) (σ := σ) h1 rfl).elim
theorem se_mk {f : Addr} {fd : FuncData} {ps : List Str} {k : Nat} {x : Str} {p pos : Pos} {e : Expr} {es : List Expr} {F : List D → M D} {ma : List (Option D) → M (List D)}
    (M0 : Mk X.K C f) (G : FnOk X.prog X.w X.K X.mg X.base (L2.CX X.prog X.w) k f fd ps (spM X.K C X.mg ps.length F)) (hr : Room (k + 1) X.A) (hg : Gl X x) (hm : X.mg x = some (.ref C)) (hb : Binds X.K fd ps []) (ha : SA X W C (e :: es) ma)
    (hdb : (x == ("__debug__" : Str)) = false) (he : starEach (e :: es) X.env = (false, eval e X.env) :: starEach es X.env) (hpl : (backTo pos (starEach es X.env)).any (·.1) = false)
    (hlen : ∀ δ μ r μ', ma δ μ = some (.ok r, μ') → r.length + 1 = ps.length) :
    SE X W C (.Call (.Name x p) (e :: es) [] pos) (fun δ => M.bind (ma δ) fun ds => fun μ => match F (.ptr μ.length :: ds) (μ ++ [.ins []]) with
      | some (.ok .non, μ') => some (.ok (.ptr μ.length), μ')
      | _ => none) := by
  obtain ⟨t, pa, qa⟩ := ha
  refine ⟨_, pe_make (E := E0) M0 G hr hg hm hb .nil passL pa hdb he hpl, fun w σ δ μ Q k s h => ?_⟩
  refine qa w σ δ μ _ k s ?_
  obtain ⟨r1, e1, p1⟩ := h.bind
  refine ⟨r1, e1, fun w1 l1 k1 => ?_⟩
  obtain ⟨r1, μ1⟩ := r1
  have p1 := p1 w1 l1 k1
  cases r1 with
  | error c => exact p1
  | ok ds =>
    intro vs rvs x dx hx hdx hne
    obtain ⟨r2, e2, p2⟩ := p1
    dsimp only at e2
    split at e2
    · rename_i μ3 e3
      cases e2
      -- the instance's own dict, then the instance
      have k2 : Wok X.K C ⟨upd w1.H dx (.own x), upd w1.F dx (.own x), w1.ρ⟩ μ1 := k1.laidF hdx
      have l2 : Wle w1 ⟨upd w1.H dx (.own x), upd w1.F dx (.own x), w1.ρ⟩ := .laidF k1 hdx
      have hx2 : (upd w1.H dx (.own x)) x = none := by rw [upd_ne (Ne.symm hne)]; exact hx
      have k3 := k2.laidM (p := x) (o := .ins C dx []) (m := .ins []) hx2 ⟨dx, [], upd_same, rfl, .nil⟩
      have l3 := Wle.laidM k2 (p := x) (o := .ins C dx []) hx2
      have l13 := l2.trans l3
      have hρ : (w1.ρ ++ [x])[μ1.length]? = some x := by rw [← k1.len]; simp
      refine ⟨?_, _, μ1 ++ [.ins []], .ptr μ1.length :: ds, (.ok .non, μ3), rfl, k3, .cons (rep_ptr.mpr ⟨x, hρ, rfl⟩) (by rw [List.append_nil]; exact l13.reps rvs), e3, fun w4 l4 k4 v rv => ?_⟩
      · simp only [List.length_cons, List.append_nil]
        rw [← rvs.length]
        exact hlen δ μ ds μ1 e1
      · refine ⟨rep_non.mp rv, p2 w4 (l13.trans l4) k4 _ (rep_ptr.mpr ⟨x, l4.get _ _ hρ, rfl⟩)⟩
    · cases e2
end
end NB
end
set_option maxHeartbeats 4000000
section
/-! zip and enumerate over lists and tuples, in any mix. -/
namespace PySem
open PySem.Sem (wp)
namespace F
theorem nb_typeCall_enumerate_1 (a : Value) : checkTypeCall "enumerate" ⟨[a], []⟩ = pure () := by kernel_rfl
theorem nb_newCall_enumerate_1 (a : Value) : checkBuiltinCall "enumerate.__new__" ⟨[.type "enumerate", a], []⟩ = pure () := by kernel_rfl
end F
set_option maxHeartbeats 1000000 in
theorem nb_enumerate_newB {v : Value} {o : Obj} {H : Heap → Prop} (B : Begins v o H) :
    Meets (Builtin.«enumerate.__new__» ⟨[.type "enumerate", v], []⟩) (fun _ R s => H s.heap ∧
      R (.ok (.ret (.ref (s.heap.push o).objs.size))) { s with heap := (s.heap.push o).push { cls := .type "enumerate", data := .fields #[.none, .bool false, .ref s.heap.objs.size, rawInt 0, .none, .none] } }) :=
  .of_wp fun prog w A R s h => by
    obtain ⟨hp, g, d, tk, os⟩ := s; obtain ⟨h1, h⟩ := h
    have hsub := sub_enumerate
    have q1 : ∀ {A' : Around} {E : Value → Shared → Prop} {Q : Value → Shared → Prop}, Q (.ref hp.objs.size) ⟨hp.push o, g, d, tk, os⟩ → wpAny (model prog w) A' (pyIter v) Q E ⟨hp, g, d, tk, os⟩ :=
      fun q => B.iter prog w _ _ ⟨hp, g, d, tk, os⟩ _ h1 q
    wp_walk using q1
    refine wpAny_stack_any fun st => wpAny_pure ?_
    split
    · rename_i c _ _ _ _ _
      cases (c == Value.type "enumerate")
      · wp_walk using q1
        exact ⟨_, rfl, h⟩
      · wp_walk using q1
        exact ⟨_, rfl, h⟩
    · wp_walk using q1
      exact ⟨_, rfl, h⟩
section
variable {prog : Program} {w : World} {A : Around} {E : Value → Shared → Prop} {s : Shared}
theorem nb_enum_begins {v : Value} {o : Obj} {H : Heap → Prop} {Q : Value → Shared → Prop} (B : Begins v o H) (h1 : H s.heap)
    (h : ∀ h', IsEnum h' (s.heap.objs.size + 1) s.heap.objs.size 0 .none → h'.get? s.heap.objs.size = some o → h'.objs.size = s.heap.objs.size + 2 →
      (∀ b o, s.heap.get? b = some o → h'.get? b = some o) → Q (.ref (s.heap.objs.size + 1)) { s with heap := h' }) :
    wpAny (model prog w) A (call (.type "enumerate") [v]) Q E s := by
  refine callType_new F.called_enumerate (by decide) (F.nb_typeCall_enumerate_1 _) (F.nb_newCall_enumerate_1 _) (fun obj => F.args_object_init_2 obj _) F.entry_enumerate_new
    (nb_enumerate_newB B) ⟨h1, ?_⟩
  have hz : (s.heap.push o).objs.size = s.heap.objs.size + 1 := Heap.size_push ..
  show _ ∧ _
  rw [hz]
  have he : IsEnum ((s.heap.push o).push { cls := .type "enumerate", data := .fields #[.none, .bool false, .ref s.heap.objs.size, rawInt 0, .none, .none] }) (s.heap.objs.size + 1) s.heap.objs.size 0 .none := by
    have := Heap.get?_push_size (s.heap.push o) (o := { cls := .type "enumerate", data := .fields #[.none, .bool false, .ref s.heap.objs.size, rawInt 0, .none, .none] }) rfl
    rw [hz] at this; exact this
  refine ⟨⟨_, he, rfl⟩, h _ he (Heap.get?_push_of_some _ (Heap.get?_push_size _ B.free)) (by rw [Heap.size_push, hz]) fun b o x => Heap.get?_push_of_some _ (Heap.get?_push_of_some _ x)⟩
end
end PySem

namespace NB
open PySem PySem.Spec L2
open PyProof.Rows hiding St
/-- a list or a tuple -/
inductive SK where | L | T
def SqK (K : PySem.W.Frag) : SK → Hp → Addr → List V → Prop
  | .L => SqL K
  | .T => SqT K
def itK : SK → Heap → Addr → Addr → Nat → Prop
  | .L => Heap.IsListIter
  | .T => Heap.IsTupleIter
def isK : SK → Heap → Addr → Array Value → Prop
  | .L => Heap.IsList
  | .T => Heap.IsTuple
def objK : SK → Addr → Obj
  | .L, a => { cls := .type "list_iterator", data := .fields #[.ref a, .int 0 0] }
  | .T, a => { cls := .type "tuple_iterator", data := .fields #[.ref a, .int 0 0] }
theorem itK_new {k : SK} {h : Heap} {it a : Addr} (e : h.get? it = some (objK k a)) : itK k h it a 0 := by
  cases k <;> exact ⟨_, e, rfl, rfl⟩
theorem itK_at {k : SK} {h h' : Heap} {it a : Addr} {i : Nat} (x : itK k h it a i) (e : ∀ o, h.get? it = some o → h'.get? it = some o) : itK k h' it a i := by
  cases k
  · exact Heap.IsListIter.at x e
  · exact Heap.IsTupleIter.at x e
theorem itK_obj {k : SK} {h : Heap} {it a : Addr} {i : Nat} (x : itK k h it a i) : ∃ o, h.get? it = some o ∧ ∀ v, o.data ≠ .cell v := by
  cases k <;> (obtain ⟨o, e, _, d⟩ := x; exact ⟨o, e, fun v q => by rw [d] at q; cases q⟩)
theorem isK_lt {k : SK} {h : Heap} {a : Addr} {its : Array Value} (x : isK k h a its) : a < h.objs.size := by
  cases k
  · obtain ⟨o, e, _⟩ := x; exact Heap.lt_size e
  · obtain ⟨o, e, _⟩ := x; exact Heap.lt_size e
theorem beginsK (k : SK) (a : Addr) (its : Array Value) : Begins (.ref a) (objK k a) fun h => isK k h a its := by
  cases k
  · exact begins_list a its
  · exact begins_tuple a its
theorem drawsK {prog : Program} {w : World} {A : Around} (k : SK) (hh : A.handled = none) (it l : Addr) (hne : l ≠ it) (items : Array Value) :
    Draws prog w A it [it, l] items.size (fun i v => items[i]? = some v) (fun i h => itK k h it l i ∧ isK k h l items) := by
  cases k
  · exact Draws.list hh it l hne items
  · exact Draws.tuple hh it l hne items
section
variable {X : Cx} {pins : List (Addr × Obj)} {σ : St} {H : Hp} {s : Shared}
theorem seqK {k : SK} {a : Addr} {xs : List V} (I : Inv X pins σ H s) (h : SqK X.K k H a xs) : ∃ its : List Value, Vals xs its ∧ isK k s.heap a its.toArray ∧ xs.length ≤ sizeLine := by
  cases k
  · obtain ⟨its, r, p, z⟩ := I.list h
    exact ⟨its, r, p.isList, z⟩
  · obtain ⟨its, r, p, z⟩ := I.tuple h
    exact ⟨its, r, p, z⟩
theorem seqK_inj {k : SK} {a : Addr} {xs ys : List V} (I : Inv X pins σ H s) (h : SqK X.K k H a xs) (h' : SqK X.K k H a ys) : xs = ys := by
  cases k
  · exact I.list_inj h h'
  · exact I.tuple_inj h h'
end
/-! ### zip -/
def ItzK (K : PySem.W.Frag) (k1 k2 : SK) (a b : Addr) : L2.It :=
  ⟨fun i H => ∃ (xs ys : List V) (x y : V), SqK K k1 H a xs ∧ SqK K k2 H b ys ∧ xs[i]? = some x ∧ ys[i]? = some y,
    fun i H v H' => ∃ T x y, v = .ref T ∧ H T = none ∧ H' = upd H T (.tup [x, y]) ∧ (∀ xs, SqK K k1 H a xs → xs[i]? = some x) ∧ ∀ ys, SqK K k2 H b ys → ys[i]? = some y,
    fun i H => ∃ xs ys : List V, SqK K k1 H a xs ∧ SqK K k2 H b ys ∧ i ≤ xs.length ∧ i ≤ ys.length ∧ (xs.length = i ∨ ys.length = i)⟩
theorem apart_sep {z TI TO i1 i2 a b : Addr} (D : ZipApart z TI TO i1 i2 a b) (hb1 : i1 ≠ b) (ha2 : i2 ≠ a) : ZipSep2 z TI TO i1 i2 [i1, a] [i2, b] :=
  ⟨D.TIz, D.TOz, D.TITO, D.TIi1, by simp, by simp [D.i1z.symm, D.l1z.symm], by simp [D.TOi1, D.l1TO.symm], D.TIi2, by simp, by simp [D.i2z.symm, D.l2z.symm], by simp [D.TOi2, D.l2TO.symm], by simp [D.i12, hb1], by simp [D.i12.symm, ha2]⟩
theorem turn_zipK {P : Program} {w : World} {K : PySem.W.Frag} {k1 k2 : SK} {elts : List Expr} {kk : Nat} {tpos : Pos} {a b z TI TO i1 i2 : Addr} (D : ZipApart z TI TO i1 i2 a b) :
    Turn P w K (.Tuple elts kk tpos) (ItzK K k1 k2 a b) [z, TI, TO, i1, i2] z (fun i h => IsZip h z TI TO .none ∧ IsPair h TI (.ref i1) (.ref i2) ∧ (∃ x y, IsPair h TO x y) ∧ itK k1 h i1 a i ∧ itK k2 h i2 b i) where
  mem := by simp
  obj := fun i h st c hc => by
    obtain ⟨hz, hTI, ⟨x, y, hTO⟩, h1, h2⟩ := st
    have e' : c = z ∨ c = TI ∨ c = TO ∨ c = i1 ∨ c = i2 := by simpa using hc
    rcases e' with q | q | q | q | q
    · rw [q]; exact ⟨_, hz, fun v q => nomatch q⟩
    · rw [q]; exact ⟨_, hTI, fun v q => nomatch q⟩
    · rw [q]; exact ⟨_, hTO, fun v q => nomatch q⟩
    · rw [q]; exact itK_obj h1
    · rw [q]; exact itK_obj h2
  keep := fun i h h' st k => by
    obtain ⟨hz, hTI, ⟨x, y, hTO⟩, h1, h2⟩ := st
    exact ⟨k z (by simp) _ hz, k TI (by simp) _ hTI, ⟨x, y, k TO (by simp) _ hTO⟩, itK_at h1 fun o q => k i1 (by simp) o q, itK_at h2 fun o q => k i2 (by simp) o q⟩
  item := by
    intro X hP hw hK hc i pins s σ H E I hf st hg
    subst hP hw hK
    obtain ⟨hz, hTI, ⟨x0, y0, hTO⟩, h1, h2⟩ := st
    obtain ⟨xs, ys, x, y, hqx, hqy, hx, hy⟩ := hg
    obtain ⟨its, rv, p, _⟩ := seqK I hqx
    obtain ⟨its2, rv2, p2, _⟩ := seqK I hqy
    obtain ⟨u, hu, ru⟩ := rv.get hx
    obtain ⟨u2, hu2, ru2⟩ := rv2.get hy
    have hzl : z < s.heap.objs.size := Heap.lt_size hz
    have n1 := (List.getElem?_eq_some_iff.mp hu).1
    have n2 := (List.getElem?_eq_some_iff.mp hu2).1
    have S := apart_sep D D.l2i1.symm D.l1i2.symm
    refine wpAny_pyNext_zipD2_item S (drawsK (prog := X.prog) (w := X.w) (A := X.A.in1) k1 (show X.A.in1.handled = none from I.ok.hd hc) i1 a D.l1i1 its.toArray) (drawsK (prog := X.prog) (w := X.w) (A := X.A.in1) k2 (show X.A.in1.handled = none from I.ok.hd hc) i2 b D.l2i2 its2.toArray) hz hTI hTO ⟨h1, p⟩ ⟨h2, p2⟩ (by simpa using n1) (by simpa using n2) fun x1 x2 h' tk hx1 hx2 z' TO' h1' h2' hT hsz hk => ?_
    have e1 : x1 = u := by
      have q : its[i]? = some x1 := by simpa using hx1
      rw [hu] at q; exact (Option.some.inj q).symm
    have e2 : x2 = u2 := by
      have q : its2[i]? = some x2 := by simpa using hx2
      rw [hu2] at q; exact (Option.some.inj q).symm
    subst e1 e2
    refine ⟨_, rfl, wpAny_letOwnedTupleGo_zip (s := { s with heap := h', toks := tk }) z' fun h'' z'' sb => ?_⟩
    have hT2 : h''.get? s.heap.objs.size = some { cls := .type "tuple", data := .seq #[x1, x2] } := (sb.2 _ (Nat.ne_of_gt hzl)).trans hT
    have new : ObjOk X.prog X.w (upd H s.heap.objs.size (.tup [x, y])) h'' s.heap.objs.size (.tup [x, y]) :=
      ⟨by show 2 ≤ sizeLine; decide, [x1, x2], .cons ru (.cons ru2 .nil), ⟨_, hT2, rfl, _, rfl⟩⟩
    have I1 : Inv X pins σ (upd H s.heap.objs.size (.tup [x, y])) { s with heap := h'', toks := tk } :=
      I.turnedNew (ch := [z, TI, TO, i1, i2]) (fun c o hb q => (sb.2 c (fun q' => hb (by simp [q']))).trans (hk c o (fun q' => hb (by simp [q'])) (fun q' => hb (by simp [q'])) (fun q' => hb (by simp [q'])) (fun q' => hb (by simp [q'])) q)) hf (Nat.le_refl _) new
    refine ⟨.ref s.heap.objs.size, _, I1, rfl, ⟨_, x, y, rfl, I.hok.fresh (Nat.le_refl _), rfl, fun l hl => by rw [seqK_inj I hl hqx]; exact hx, fun l hl => by rw [seqK_inj I hl hqy]; exact hy⟩, ⟨z'', ?_, ⟨x1, x2, ?_⟩, ?_, ?_⟩, fun c hcm => ?_⟩
    · exact (sb.2 _ D.TIz).trans (hk _ _ D.TIz D.TITO D.TIi1 D.TIi2 hTI)
    · exact (sb.2 _ D.TOz).trans TO'
    · exact itK_at h1'.1 fun o q => (sb.2 _ D.i1z).trans q
    · exact itK_at h2'.1 fun o q => (sb.2 _ D.i2z).trans q
    · have hlt : c < s.heap.objs.size := by
        have e' : c = z ∨ c = TI ∨ c = TO ∨ c = i1 ∨ c = i2 := by simpa using hcm
        rcases e' with q | q | q | q | q
        · rw [q]; exact hzl
        · rw [q]; exact Heap.lt_size hTI
        · rw [q]; exact Heap.lt_size hTO
        · rw [q]; obtain ⟨_, e1, _⟩ := itK_obj h1; exact Heap.lt_size e1
        · rw [q]; obtain ⟨_, e2, _⟩ := itK_obj h2; exact Heap.lt_size e2
      rw [upd_ne (Nat.ne_of_lt hlt)]
      exact (hf c hcm).1
  done := by
    intro X hP hw hK hc i pins s σ H E I hf st hg
    subst hP hw hK
    obtain ⟨hz, hTI, ⟨x0, y0, hTO⟩, h1, h2⟩ := st
    obtain ⟨xs, ys, hqx, hqy, le1, le2, hend⟩ := hg
    obtain ⟨its, rv, p, _⟩ := seqK I hqx
    obtain ⟨its2, rv2, p2, _⟩ := seqK I hqy
    have l1 := rv.length
    have l2 := rv2.length
    have S := apart_sep D D.l2i1.symm D.l1i2.symm
    refine wpAny_pyNext_zipD2_end S (drawsK (prog := X.prog) (w := X.w) (A := X.A.in1) k1 (show X.A.in1.handled = none from I.ok.hd hc) i1 a D.l1i1 its.toArray) (drawsK (prog := X.prog) (w := X.w) (A := X.A.in1) k2 (show X.A.in1.handled = none from I.ok.hd hc) i2 b D.l2i2 its2.toArray) hz hTI hTO ⟨h1, p⟩ ⟨h2, p2⟩ (by simp; omega) (by simp; omega) (by simp; omega) fun h' tk hk => ⟨rfl, ?_⟩
    exact I.turnedL (ch := [z, TI, TO, i1, i2]) (fun c o hb q => hk c o (fun q' => hb (by simp [q'])) (fun q' => hb (by simp [q'])) (fun q' => hb (by simp [q'])) (fun q' => hb (by simp [q'])) q) hf
  self := fun A i s Q E st h => wpAny_pyIter_zip st.1 h
def iZipK (K : PySem.W.Frag) (ta : TA) : TI := fun σ H R => ta σ H fun vs H1 => ∃ k1 k2 a b xs ys, vs = [.ref a, .ref b] ∧ SqK K k1 H1 a xs ∧ SqK K k2 H1 b ys ∧ R (ItzK K k1 k2 a b) H1
theorem pi_zipK {X : Cx} {e e2 : Expr} {ta : TA} {p pos tpos : Pos} {elts : List Expr} {kk : Nat} (hg : Gl X "zip") (hm : X.mg "zip" = none) (ha : PA X [e, e2] ta)
    (hs : starEach [e, e2] X.env = (false, eval e X.env) :: starEach [e2] X.env) (hpl : (backTo pos (starEach [e2] X.env)).any (·.1) = false) :
    PI X (.Tuple elts kk tpos) (.Call (.Name "zip" p) [e, e2] [] pos) (iZipK X.K ta) := by
  refine ⟨fun pins s σ H R I h => ?_⟩
  refine Call_ (ld_blt I hg hm PyProof.Rows.boot_zip (PyProof.Rows.callWith_type1 (thn (ha.run pos pins s σ H _ I h) fun us s1 ⟨vs, H1, I1, r1, q1⟩ => ?_) hs hpl))
  obtain ⟨k1, k2, a, b, xs, ys, ex, hqx, hqy, q⟩ := q1
  subst ex
  cases r1 with
  | cons r rr =>
    cases rr with
    | cons r' rr =>
      cases rr
      cases r
      cases r'
      have fresh5 : ∀ c, c ∈ [s1.heap.objs.size + 4, s1.heap.objs.size + 2, s1.heap.objs.size + 3, s1.heap.objs.size, s1.heap.objs.size + 1] → FpOk X pins H1 c := fun c hcm => by
        have e' : c = s1.heap.objs.size + 4 ∨ c = s1.heap.objs.size + 2 ∨ c = s1.heap.objs.size + 3 ∨ c = s1.heap.objs.size ∨ c = s1.heap.objs.size + 1 := by simpa using hcm
        have hle : s1.heap.objs.size ≤ c := by
          rcases e' with z | z | z | z | z
          · rw [z]; exact Nat.le_add_right _ _
          · rw [z]; exact Nat.le_add_right _ _
          · rw [z]; exact Nat.le_add_right _ _
          · rw [z]; exact Nat.le_refl _
          · rw [z]; exact Nat.le_add_right _ _
        exact I1.fpOk hle (I1.hok.fresh hle)
      obtain ⟨its, rv, p1, _⟩ := seqK I1 hqx
      obtain ⟨its2, rv2, p2, _⟩ := seqK I1 hqy
      refine zip_begins2 (beginsK k1 a its.toArray) (beginsK k2 b its2.toArray) p1 p2 fun h' hz hTI hTO h1 h2 hsz hk => wpAny_pyIter_zip hz ?_
      have I2 : Inv X pins σ H1 { s1 with heap := h' } := I1.kept (t' := s1.toks) hk
      exact ⟨s1.heap.objs.size + 4, [s1.heap.objs.size + 4, s1.heap.objs.size + 2, s1.heap.objs.size + 3, s1.heap.objs.size, s1.heap.objs.size + 1], _, _, H1, rfl, I2, turn_zipK (PySem.W.ktu_apart s1.heap.objs.size a b (isK_lt p1) (isK_lt p2)), ⟨hz, hTI, ⟨_, _, hTO⟩, itK_new h1, itK_new h2⟩, fresh5, q⟩
/-! ### enumerate -/
def IteK (K : PySem.W.Frag) (k : SK) (a : Addr) : L2.It :=
  ⟨fun i H => ∃ (xs : List V) (x : V), SqK K k H a xs ∧ xs[i]? = some x, fun i H v H' => ∃ T x, v = .ref T ∧ H T = none ∧ H' = upd H T (.tup [.int (i : Nat), x]) ∧ ∀ xs, SqK K k H a xs → xs[i]? = some x, fun i H => ∃ xs : List V, SqK K k H a xs ∧ xs.length = i⟩
theorem turn_enumK {P : Program} {w : World} {K : PySem.W.Frag} {k : SK} {elts : List Expr} {kk : Nat} {tpos : Pos} (a e it : Addr) (hae : a ≠ e) (hai : a ≠ it) :
    Turn P w K (.Tuple elts kk tpos) (IteK K k a) [e, it] e (fun i h => (∃ old, IsEnum h e it ((i : Nat) : Int) old) ∧ itK k h it a i ∧ e ≠ it) where
  mem := by simp
  obj := fun i h st b hb => by
    obtain ⟨⟨old, he⟩, hit, _⟩ := st
    have e' : b = e ∨ b = it := by simpa using hb
    rcases e' with z | z
    · rw [z]; exact ⟨_, he, fun v q => nomatch q⟩
    · rw [z]; exact itK_obj hit
  keep := fun i h h' st kp => let ⟨⟨old, he⟩, hi, hne⟩ := st; ⟨⟨old, kp e (by simp) _ he⟩, itK_at hi fun o q => kp it (by simp) o q, hne⟩
  item := by
    intro X hP hw hK hc i pins s σ H E I hf st hg
    subst hP hw hK
    obtain ⟨⟨old, he⟩, hit, hne⟩ := st
    obtain ⟨xs, x, hq, hx⟩ := hg
    obtain ⟨its, rv, p, hz⟩ := seqK I hq
    obtain ⟨u, hu, ru⟩ := rv.get hx
    have n1 := (List.getElem?_eq_some_iff.mp hu).1
    have hel : e < s.heap.objs.size := Heap.lt_size he
    have hil : it < s.heap.objs.size := by obtain ⟨_, q, _⟩ := itK_obj hit; exact Heap.lt_size q
    refine wpAny_pyNext_enum_itemD (drawsK (prog := X.prog) (w := X.w) (A := X.A.in1) k (show X.A.in1.handled = none from I.ok.hd hc) it a hai its.toArray) he ⟨hit, p⟩ (by simpa using n1) hne (by simp [hne, hae.symm]) fun x1 h' tk hx1 ho hit' hT hsz hk => ?_
    have e1 : x1 = u := by
      have q : its[i]? = some x1 := by simpa using hx1
      rw [hu] at q; exact (Option.some.inj q).symm
    subst e1
    refine ⟨_, rfl, wpAny_letOwnedTupleGo_enum (s := { s with heap := h', toks := tk + 1 }) ho fun h'' he' sb => ?_⟩
    have hT2 : h''.get? s.heap.objs.size = some { cls := .type "tuple", data := .seq #[.int i tk, x1] } := (sb.2 _ (Nat.ne_of_gt hel)).trans hT
    have new : ObjOk X.prog X.w (upd H s.heap.objs.size (.tup [.int (i : Nat), x])) h'' s.heap.objs.size (.tup [.int (i : Nat), x]) :=
      ⟨by show 2 ≤ sizeLine; decide, [.int i tk, x1], .cons ⟨_, rfl⟩ (.cons ru .nil), ⟨_, hT2, rfl, _, rfl⟩⟩
    have I1 : Inv X pins σ (upd H s.heap.objs.size (.tup [.int (i : Nat), x])) { s with heap := h'', toks := tk + 1 } :=
      I.turnedNew (ch := [e, it]) (fun b ob hb q => (sb.2 b (fun z => hb (by simp [z]))).trans (hk b ob (fun z => hb (by simp [z])) (fun z => hb (by simp [z])) q)) hf (Nat.le_refl _) new
    refine ⟨.ref s.heap.objs.size, _, I1, rfl, ⟨_, x, rfl, I.hok.fresh (Nat.le_refl _), rfl, fun ys hy => by rw [seqK_inj I hy hq]; exact hx⟩, ⟨⟨x1, ?_⟩, itK_at hit'.1 fun o q => (sb.2 it (Ne.symm hne)).trans q, hne⟩, fun b hb => ?_⟩
    · have e1 : ((i + 1 : Nat) : Int) = (i : Int) + 1 := by omega
      rw [e1]; exact he'
    · have hb' : b < s.heap.objs.size := by
        have e' : b = e ∨ b = it := by simpa using hb
        rcases e' with z | z
        · rw [z]; exact hel
        · rw [z]; exact hil
      rw [upd_ne (Nat.ne_of_lt hb')]
      exact (hf b hb).1
  done := by
    intro X hP hw hK hc i pins s σ H E I hf st hg
    subst hP hw hK
    obtain ⟨⟨old, he⟩, hit, hne⟩ := st
    obtain ⟨xs, hq, hx⟩ := hg
    obtain ⟨its, rv, p, hz⟩ := seqK I hq
    obtain ⟨f0, f1, f2, f3, f4, f5⟩ := hf it (by simp)
    have hl := rv.length
    have ei : its.toArray.size = i := by simp; omega
    refine wpAny_pyNext_enum_endD (drawsK (prog := X.prog) (w := X.w) (A := X.A.in1) k (show X.A.in1.handled = none from I.ok.hd hc) it a hai its.toArray) he (by rw [ei]; exact ⟨hit, p⟩) fun h' eb => ⟨rfl, I.turned (t' := s.toks) (fun b o hb q => eb b o hb q) f0 f1 f3 f4 f5⟩
  self := fun A i s Q E st h => let ⟨⟨_, he⟩, _⟩ := st; wpAny_pyIter_enum he h
def iEnumK (K : PySem.W.Frag) (ta : TA) : TI := fun σ H R => ta σ H fun vs H1 => ∃ k a xs, vs = [.ref a] ∧ SqK K k H1 a xs ∧ R (IteK K k a) H1
theorem pi_enumK {X : Cx} {e : Expr} {ta : TA} {p pos tpos : Pos} {elts : List Expr} {kk : Nat} (hg : Gl X "enumerate") (hm : X.mg "enumerate" = none) (ha : PA X [e] ta) (hs : starEach [e] X.env = [(false, eval e X.env)]) :
    PI X (.Tuple elts kk tpos) (.Call (.Name "enumerate" p) [e] [] pos) (iEnumK X.K ta) := by
  refine ⟨fun pins s σ H R I h => ?_⟩
  refine Call_ (ld_blt I hg hm boot_enumerate (PyProof.Rows.callWith_type1 (thn (ha.run pos pins s σ H _ I h) fun us s1 ⟨vs, H1, I1, r1, q1⟩ => ?_) hs rfl))
  obtain ⟨k, a, xs, ex, hq, q⟩ := q1
  subst ex
  cases r1 with
  | cons r rr =>
    cases rr
    cases r
    obtain ⟨its, rv, p', hz⟩ := seqK I1 hq
    have la := isK_lt p'
    refine nb_enum_begins (beginsK k a its.toArray) p' fun h' he hit hsz hk => wpAny_pyIter_enum he ?_
    have I2 : Inv X pins σ H1 { s1 with heap := h' } := I1.kept (t' := s1.toks) hk
    refine ⟨s1.heap.objs.size + 1, [s1.heap.objs.size + 1, s1.heap.objs.size], _, _, H1, rfl, I2, turn_enumK a (s1.heap.objs.size + 1) s1.heap.objs.size (Nat.ne_of_lt (Nat.lt_succ_of_lt la)) (Nat.ne_of_lt la), ⟨⟨.none, he⟩, itK_new hit, Nat.succ_ne_self _⟩, fun b hb => ?_, q⟩
    have e' : b = s1.heap.objs.size + 1 ∨ b = s1.heap.objs.size := by simpa using hb
    have hle : s1.heap.objs.size ≤ b := by
      rcases e' with z | z
      · rw [z]; exact Nat.le_add_right _ _
      · rw [z]; exact Nat.le_refl _
    exact I1.fpOk hle (I1.hok.fresh hle)
end NB
end
set_option maxHeartbeats 4000000
section
/-! Built-ins, what is walked, targets, comprehensions. -/
namespace NB
open PySem PySem.Spec L2
open PyProof.Rows hiding St
section
variable {X : Cx} {W : WX} {C : Addr}
/-- a call of one argument, by values -/
def Call1 (X : Cx) (W : WX) (C : Addr) (f : Value) (m : D → M D) : Prop :=
  ∃ r, CallR X f r ∧ ∀ w σ μ x vx Q, Wok X.K C w μ → RepW X.K w x vx → Does X W C σ w μ (m x) (fun d w' _ => ∀ v, RepW X.K w' d v → Q v w'.H) → r [vx] w.H Q
theorem se_b1 {id : String} {x : Str} {p pos : Pos} {e : Expr} {me : List (Option D) → M D} {m : D → M D} (hc : Call1 X W C (.builtin id) m) (hg : Gl X x) (hm : X.mg x = none) (hv : bootBuiltins x = some (.builtin id)) (he : SE X W C e me)
    (hn : x ≠ "__name__") (hdb : (x == ("__debug__" : Str)) = false) (hst : starEach [e] X.env = (false, eval e X.env) :: starEach [] X.env) : SE X W C (.Call (.Name x p) [e] [] pos) (fun δ => M.bind (me δ) m) := by
  obtain ⟨r, hr, po⟩ := hc
  obtain ⟨t, pe, q⟩ := he
  refine ⟨_, pe_callB hr hg hm hv (pa_cons pe pa_nil hst) hn hdb hst rfl, fun w σ δ μ Q k s h => ?_⟩
  exact q w σ δ μ _ k s (h.bind.mono fun d w1 μ1 l1 k1 h1 v rv => po w1 σ μ1 d v Q k1 rv h1)
theorem se_t1 {T : String} {x : Str} {p pos : Pos} {e : Expr} {me : List (Option D) → M D} {m : D → M D} (hc : Call1 X W C (.type T) m) (hg : Gl X x) (hm : X.mg x = none) (hv : bootBuiltins x = some (.type T)) (he : SE X W C e me)
    (hn : x ≠ "__name__") (hdb : (x == ("__debug__" : Str)) = false) (hst : starEach [e] X.env = (false, eval e X.env) :: starEach [] X.env) : SE X W C (.Call (.Name x p) [e] [] pos) (fun δ => M.bind (me δ) m) := by
  obtain ⟨r, hr, po⟩ := hc
  obtain ⟨t, pe, q⟩ := he
  refine ⟨_, pe_callTy hr hg hm hv (pa_cons pe pa_nil hst) hn hdb hst rfl, fun w σ δ μ Q k s h => ?_⟩
  exact q w σ δ μ _ k s (h.bind.mono fun d w1 μ1 l1 k1 h1 v rv => po w1 σ μ1 d v Q k1 rv h1)
theorem c_len : Call1 X W C (.builtin "len") (fun x => fun μ => match seqOf μ x with
    | some ds => some (.ok (.int ds.length), μ)
    | none => none) := by
  refine ⟨_, call_len_seq, fun w σ μ x vx Q k rx h => ?_⟩
  obtain ⟨r, e, p⟩ := h
  dsimp only at e
  split at e
  · rename_i ds q
    cases e
    obtain ⟨a, vs, e1, hs, rs⟩ := seq_at k rx q
    refine ⟨a, vs, by rw [e1], hs, p w (.refl w) k _ (rep_int.mpr ?_)⟩
    rw [rs.length]
  · cases e
theorem c_abs : Call1 X W C (.builtin "abs") (fun x => match x with
    | .int i => M.ok (.int (if i < 0 then -i else i))
    | _ => M.bad) := by
  refine ⟨_, call_abs, fun w σ μ x vx Q k rx h => ?_⟩
  cases x with
  | int i => exact ⟨i, by rw [rep_int.mp rx], h.of_ok k _ (rep_int.mpr rfl)⟩
  | _ => exact (Does.of_bad (X := X) (W := W) (C := C) (σ := σ) h).elim
theorem c_int : Call1 X W C (.type "int") (fun x => match x with
    | .int i => M.ok (.int i)
    | _ => M.bad) := by
  refine ⟨_, call_int1, fun w σ μ x vx Q k rx h => ?_⟩
  cases x with
  | int i => exact .inl ⟨i, by rw [rep_int.mp rx], h.of_ok k _ (rep_int.mpr rfl)⟩
  | _ => exact (Does.of_bad (X := X) (W := W) (C := C) (σ := σ) h).elim
theorem bls_rep {w : Wd} : ∀ {ds : List D} {vs : List V} {bs : List Bool}, RepsW X.K w ds vs → bls ds = some bs → vs = bs.map V.bl
  | [], vs, bs, r, e => by
    have r' : Reps X.K w.F w.ρ [] vs := r
    simp only [Reps] at r'
    simp only [bls, Option.some.injEq] at e
    subst e r'
    rfl
  | d :: ds, vs, bs, r, e => by
    have r' : Reps X.K w.F w.ρ (d :: ds) vs := r
    simp only [Reps] at r'
    obtain ⟨v, us, rfl, r1, r2⟩ := r'
    cases d with
    | bl b =>
      simp only [bls, Option.map_eq_some_iff] at e
      obtain ⟨cs, e1, rfl⟩ := e
      rw [bls_rep r2 e1, rep_bl.mp r1]
      rfl
    | _ => simp [bls] at e
theorem c_all (hc : X.calm = true) : Call1 X W C (.builtin "all") (fun x => fun μ => match lstOf μ x with
    | some ds => match bls ds with
      | some bs => some (.ok (.bl (bs.all id)), μ)
      | none => none
    | none => none) := by
  refine ⟨_, cr_all hc, fun w σ μ x vx Q k rx h => ?_⟩
  obtain ⟨r, e, p⟩ := h
  dsimp only at e
  split at e
  · rename_i ds q
    split at e
    · rename_i bs q2
      cases e
      obtain ⟨a, vs, e1, hs, rs⟩ := lst_at k rx q
      refine ⟨a, bs, by rw [e1], ?_, p w (.refl w) k _ (rep_bl.mpr rfl)⟩
      rw [← bls_rep rs q2]
      exact .of hs
    · cases e
  · cases e
theorem c_any (hc : X.calm = true) : Call1 X W C (.builtin "any") (fun x => fun μ => match lstOf μ x with
    | some ds => match bls ds with
      | some bs => some (.ok (.bl (bs.any id)), μ)
      | none => none
    | none => none) := by
  refine ⟨_, cr_any hc, fun w σ μ x vx Q k rx h => ?_⟩
  obtain ⟨r, e, p⟩ := h
  dsimp only at e
  split at e
  · rename_i ds q
    split at e
    · rename_i bs q2
      cases e
      obtain ⟨a, vs, e1, hs, rs⟩ := lst_at k rx q
      refine ⟨a, bs, by rw [e1], ?_, p w (.refl w) k _ (rep_bl.mpr rfl)⟩
      rw [← bls_rep rs q2]
      exact .of hs
    · cases e
  · cases e
theorem c_tup : Call1 X W C (.type "tuple") (fun x => fun μ => match seqOf μ x with
    | some ds => some (.ok (.tup ds), μ)
    | none => none) := by
  refine ⟨_, call_tuple_of, fun w σ μ x vx Q k rx h => ?_⟩
  obtain ⟨r, e, p⟩ := h
  dsimp only at e
  split at e
  · rename_i ds q
    cases e
    obtain ⟨a, vs, e1, hs, rs⟩ := seq_at' k rx q
    refine ⟨a, vs, by rw [e1], ?_⟩
    rcases hs with ⟨_, hs⟩ | ⟨hx, hs⟩
    · exact .inl ⟨hs, fun l hl => p ⟨upd w.H l (.tup vs), upd w.F l (.tup vs), w.ρ⟩ (.laidF k hl) (k.laidF hl) _ (rep_new_tup k hl rs)⟩
    · exact .inr ⟨hs, p w (.refl w) k _ (by rw [← e1, ← hx]; exact rx)⟩
  · cases e
theorem c_list {m : Bool} : Call1 X W C (.type "list") (fun x => fun μ => match seqOf μ x with
    | some ds => fresh m ds μ
    | none => none) := by
  refine ⟨_, call_list_of, fun w σ μ x vx Q k rx h => ?_⟩
  obtain ⟨r, e, p⟩ := h
  dsimp only at e
  split at e
  · rename_i ds q
    obtain ⟨a, vs, e1, hs, rs⟩ := seq_at k rx q
    exact ⟨a, vs, by rw [e1], hs, fun l hl => fresh_of k rs ⟨r, e, p⟩ hl⟩
  · cases e
/-! ### isinstance -/
def tyName : Ty → String
  | .int => "int"
  | .bool => "bool"
  | .str => "str"
  | .tup => "tuple"
  | .lst => "list"
theorem tyx_L {K : PySem.W.Frag} {H : Hp} {a : Addr} {vs : List V} (h : SqL K H a vs) : TyX K H (.ref a) (.type "list") := by
  rcases h with (h | ⟨o, h⟩) | ⟨o, its, n, h, c, _⟩
  · exact .base (.lst h)
  · exact .base (.frz h)
  · exact .kList h c
theorem tyx_T {K : PySem.W.Frag} {H : Hp} {a : Addr} {vs : List V} (h : SqT K H a vs) : TyX K H (.ref a) (.type "tuple") := by
  rcases h with (h | ⟨o, h⟩) | ⟨o, its, n, h, c, _⟩
  · exact .base (.tup h)
  · exact .fTuple h
  · exact .kTuple h c
theorem kit_tab (K : PySem.W.Frag) : (∀ t : Ty, PySem.W.kitOne K (.type "NoneType") (.type (tyName t)) = some false) ∧
    (∀ t : Ty, PySem.W.kitOne K (.type "bool") (.type (tyName t)) = some (match t with | .int => true | .bool => true | _ => false)) ∧
    (∀ t : Ty, PySem.W.kitOne K (.type "int") (.type (tyName t)) = some (match t with | .int => true | _ => false)) ∧
    (∀ t : Ty, PySem.W.kitOne K (.type "str") (.type (tyName t)) = some (match t with | .str => true | _ => false)) ∧
    (∀ t : Ty, PySem.W.kitOne K (.type "tuple") (.type (tyName t)) = some (match t with | .tup => true | _ => false)) ∧
    (∀ t : Ty, PySem.W.kitOne K (.type "list") (.type (tyName t)) = some (match t with | .lst => true | _ => false)) := by
  refine ⟨fun t => ?_, fun t => ?_, fun t => ?_, fun t => ?_, fun t => ?_, fun t => ?_⟩ <;> cases t <;> exact kit_ty (by decide +kernel)
theorem isT_ok {w : Wd} {μ : List MO} {x : D} {v : V} {t : Ty} {b : Bool} (k : Wok X.K C w μ) (r : RepW X.K w x v) (e : isT μ t x = some b) : ∃ ty, TyX X.K w.H v ty ∧ PySem.W.kitOne X.K ty (.type (tyName t)) = some b := by
  obtain ⟨k0, k1, k2, k3, k4, k5⟩ := kit_tab X.K
  cases x with
  | non =>
    simp only [isT, Option.some.injEq] at e
    subst e
    rw [rep_non.mp r]
    exact ⟨_, .base .non, k0 t⟩
  | bl y =>
    rw [rep_bl.mp r]
    refine ⟨_, .base (.bl y), ?_⟩
    rw [k1 t]
    cases t <;> simpa [isT] using e
  | int y =>
    rw [rep_int.mp r]
    refine ⟨_, .base (.int y), ?_⟩
    rw [k2 t]
    cases t <;> simpa [isT] using e
  | str y =>
    rw [rep_str.mp r]
    refine ⟨_, .base (.str y), ?_⟩
    rw [k3 t]
    cases t <;> simpa [isT] using e
  | tup y =>
    obtain ⟨a, vs, rfl, h, _⟩ := rep_tup.mp r
    refine ⟨_, tyx_T (SqT.same k.fh h), ?_⟩
    rw [k4 t]
    cases t <;> simpa [isT] using e
  | lst y =>
    obtain ⟨a, vs, rfl, h, _⟩ := rep_lst.mp r
    refine ⟨_, tyx_L (.of (k.fh _ _ h)), ?_⟩
    rw [k5 t]
    cases t <;> simpa [isT] using e
  | scr y => simp [isT] at e
  | ptr n =>
    obtain ⟨a, h1, rfl⟩ := rep_ptr.mp r
    unfold isT at e
    simp only at e
    cases q : μ[n]? with
    | none => rw [q] at e; cases t <;> simp at e
    | some mo =>
      cases mo with
      | ins fs => rw [q] at e; cases t <;> simp at e
      | lst ds =>
        obtain ⟨vs, h3, h4⟩ := k.ce n a _ h1 q
        refine ⟨_, tyx_L (.of h3), ?_⟩
        rw [k5 t]
        rw [q] at e
        cases t <;> simpa using e
theorem se_isi {x tn : Str} {p p2 pos : Pos} {t : Ty} {a : Expr} {ma : List (Option D) → M D} (ha : SE X W C a ma) (hg : Gl X "isinstance") (hm : X.mg "isinstance" = none) (hgt : Gl X tn) (hmt : X.mg tn = none) (hvt : bootBuiltins tn = some (.type (tyName t))) (hnt : tn ≠ "__name__") (hdt : (tn == ("__debug__" : Str)) = false)
    (h1 : starEach [a, .Name tn p2] X.env = (false, eval a X.env) :: starEach [.Name tn p2] X.env) :
    SE X W C (.Call (.Name "isinstance" p) [a, .Name tn p2] [] pos) (fun δ => M.bind (ma δ) fun x => fun μ => match isT μ t x with
      | some b => some (.ok (.bl b), μ)
      | none => none) := by
  obtain ⟨ta, pa, qa⟩ := ha
  have pt : PE X (.Name tn p2) (tC (.ty (tyName t))) := pe_bltn hgt hmt hvt rfl hnt hdt
  refine ⟨_, pe_callB call_isi hg hm boot_isinstance (pa_cons pa (pa_cons pt pa_nil rfl) h1) (by decide) (by decide) h1 rfl, fun w σ δ μ Q k s h => ?_⟩
  refine qa w σ δ μ _ k s (h.bind.mono fun d w1 μ1 l1 k1 h1 v rv => ?_)
  obtain ⟨r, e, p⟩ := h1
  dsimp only at e
  split at e
  · rename_i b q
    cases e
    obtain ⟨ty, g1, g2⟩ := isT_ok k1 rv q
    exact ⟨v, .ty (tyName t), ty, .type (tyName t), b, rfl, .ty _, g1, g2, p w1 (.refl w1) k1 _ (rep_bl.mpr rfl)⟩
  · cases e
/-! ### append, pop -/
theorem isLst_ty {w : Wd} {μ : List MO} {x : D} {v : V} (k : Wok X.K C w μ) (r : RepW X.K w x v) (h : isLst μ x = true) : tyV X.K "list" v w.H := by
  unfold isLst at h
  split at h
  · rename_i n
    split at h
    · rename_i ds q
      obtain ⟨a, g1, rfl⟩ := rep_ptr.mp r
      obtain ⟨vs, g3, _⟩ := k.ce n a _ g1 q
      exact .inl ⟨rfl, vs, .of g3⟩
    · cases h
  · cases h
theorem se_lm {name : Str} {id : String} {rr : V → List V → Hp → VK → Prop} {F : D → D → M D} {o e : Expr} {mo me : List (Option D) → M D} {apos pos : Pos} (slot : Slot "list" name id) (hty : typeOf (.builtin id) = pure (.type "method_descriptor")) (hmt : MtR X id rr)
    (hF : ∀ w σ μ x y vx vy Q, Wok X.K C w μ → RepW X.K w x vx → RepW X.K w y vy → Does X W C σ w μ (F x y) (fun d w' _ => ∀ v, RepW X.K w' d v → Q v w'.H) → rr vx [vy] w.H Q)
    (ho : SE X W C o mo) (he : SE X W C e me) (hbase : attributeBase o name X.env (eval o X.env) = eval o X.env) (hline : (apos.endLine == pos.line) = true)
    (hs : starEach [e] X.env = (false, eval e X.env) :: starEach [] X.env) :
    SE X W C (.Call (.Attribute o name apos) [e] [] pos) (fun δ => M.bind (mo δ) fun x => fun μ => if isLst μ x then M.bind (me δ) (fun y => F x y) μ else none) := by
  obtain ⟨to, po, qo⟩ := ho
  obtain ⟨te, pe, qe⟩ := he
  refine ⟨_, pe_bm PySem.F.plainAttrs_list slot hty hmt po (pa_cons pe pa_nil hs) hbase (by rw [hs]; rfl) hline hs rfl, fun w σ δ μ Q k s h => ?_⟩
  refine qo w σ δ μ _ k s (h.bind.mono fun x w1 μ1 l1 k1 h1 v rv => ?_)
  obtain ⟨r, e1, p1⟩ := h1
  dsimp only at e1
  split at e1
  · rename_i hl
    refine ⟨isLst_ty k1 rv hl, ?_⟩
    have h2 : Does X W C σ w1 μ1 (M.bind (me δ) fun y => F x y) (fun d w' _ => ∀ v, RepW X.K w' d v → Q v w'.H) := ⟨r, e1, p1⟩
    refine qe w1 σ δ μ1 _ k1 (s.mono l1) (h2.bind.mono fun y w2 μ2 l2 k2 h2 vy ry => ?_)
    exact hF w2 σ μ2 x y v vy Q k2 (l2.rep rv) ry h2
  · cases e1
theorem app_ok : ∀ w σ μ x y vx vy Q, Wok X.K C w μ → RepW X.K w x vx → RepW X.K w y vy → Does X W C σ w μ (appD x y) (fun d w' _ => ∀ v, RepW X.K w' d v → Q v w'.H) → rAppend vx [vy] w.H Q := by
  intro w σ μ x y vx vy Q k rx ry h
  obtain ⟨r, e, p⟩ := h
  unfold appD at e
  split at e
  · rename_i n
    split at e
    · rename_i ds q
      split at e
      · rename_i hl
        cases e
        obtain ⟨a, g1, rfl⟩ := rep_ptr.mp rx
        obtain ⟨vs, g3, g4⟩ := k.ce n a _ g1 q
        refine ⟨a, vs, vy, rfl, rfl, g3, ?_, ?_⟩
        · rw [← Reps.length g4]
          have := lim_line
          have h2 : lim < sizeLine := by rw [sizeLine_eq]; decide
          omega
        · exact p ⟨upd w.H a (.lst (vs ++ [vy])), w.F, w.ρ⟩ (.write k g1) (k.write g1 ⟨_, upd_same, Reps.append g4 (Reps.one ry)⟩) _ (rep_non.mpr rfl)
      · cases e
    · cases e
  · cases e
theorem pop_ok : ∀ w σ μ x y vx vy Q, Wok X.K C w μ → RepW X.K w x vx → RepW X.K w y vy → Does X W C σ w μ (popD x y) (fun d w' _ => ∀ v, RepW X.K w' d v → Q v w'.H) → rPopAt vx [vy] w.H Q := by
  intro w σ μ x y vx vy Q k rx ry h
  obtain ⟨r, e, p⟩ := h
  unfold popD at e
  split at e
  · rename_i n i
    split at e
    · rename_i ds q
      split at e
      · rename_i j q2
        split at e
        · rename_i d q3
          split at e
          · rename_i hb
            cases e
            obtain ⟨a, g1, rfl⟩ := rep_ptr.mp rx
            obtain ⟨vs, g3, g4⟩ := k.ce n a _ g1 q
            obtain ⟨v, g5, g6⟩ := Reps.get g4 q3
            have hl := Reps.length g4
            refine ⟨a, vs, i, j, v, rfl, by rw [rep_int.mp ry], g3, by omega, by omega, by rw [← hl]; exact (ixN_seq q2).1, g5, ?_⟩
            exact p ⟨upd w.H a (.lst (vs.eraseIdx j)), w.F, w.ρ⟩ (.write k g1) (k.write g1 ⟨_, upd_same, Reps.eraseIdx j g4⟩) _ g6
          · cases e
        · cases e
      · cases e
    · cases e
  · cases e
theorem se_app {o e : Expr} {mo me : List (Option D) → M D} {apos pos : Pos} (ho : SE X W C o mo) (he : SE X W C e me) (hbase : attributeBase o "append" X.env (eval o X.env) = eval o X.env) (hline : (apos.endLine == pos.line) = true)
    (hs : starEach [e] X.env = (false, eval e X.env) :: starEach [] X.env) :
    SE X W C (.Call (.Attribute o "append" apos) [e] [] pos) (fun δ => M.bind (mo δ) fun x => fun μ => if isLst μ x then M.bind (me δ) (fun y => appD x y) μ else none) :=
  se_lm PySem.F.slot_list_append PySem.F.type_list_append mt_append app_ok ho he hbase hline hs
theorem se_pop {o e : Expr} {mo me : List (Option D) → M D} {apos pos : Pos} (ho : SE X W C o mo) (he : SE X W C e me) (hbase : attributeBase o "pop" X.env (eval o X.env) = eval o X.env) (hline : (apos.endLine == pos.line) = true)
    (hs : starEach [e] X.env = (false, eval e X.env) :: starEach [] X.env) :
    SE X W C (.Call (.Attribute o "pop" apos) [e] [] pos) (fun δ => M.bind (mo δ) fun x => fun μ => if isLst μ x then M.bind (me δ) (fun y => popD x y) μ else none) :=
  se_lm PySem.F.slot_list_pop PySem.F.type_list_pop mt_popAt pop_ok ho he hbase hline hs
end
end NB
end
set_option maxHeartbeats 4000000
section
/-! What is walked, targets, comprehensions. -/
namespace NB
open PySem PySem.Spec L2
open PyProof.Rows hiding St
section
variable {X : Cx} {W : WX} {C : Addr}
/-! ### the readings told by the runs themselves -/
def tM (X : Cx) (W : WX) (C : Addr) (m : List (Option D) → M D) : TE := fun σ H Q => ∃ w δ μ, w.H = H ∧ Wok X.K C w μ ∧ Slots X.K w σ δ ∧ Does X W C σ w μ (m δ) (fun d w' _ => ∀ v, RepW X.K w' d v → Q v w'.H)
theorem SE.pe {e : Expr} {m : List (Option D) → M D} (h : SE X W C e m) : PE X e (tM X W C m) := by
  obtain ⟨t, p, q⟩ := h
  refine ⟨fun pins s σ H Q I hw => ?_⟩
  obtain ⟨w, δ, μ, rfl, k, sl, d⟩ := hw
  exact p.run pins s σ _ Q I (q w σ δ μ Q k sl d)
def tMT (X : Cx) (W : WX) (C : Addr) (m : List (Option D) → M Bool) : TT := fun σ H Q => ∃ w δ μ, w.H = H ∧ Wok X.K C w μ ∧ Slots X.K w σ δ ∧ Does X W C σ w μ (m δ) (fun b w' _ => Q b w'.H)
theorem ST.pt {e : Expr} {m : List (Option D) → M Bool} (h : ST X W C e m) : PT X e (tMT X W C m) := by
  obtain ⟨t, p, q⟩ := h
  refine ⟨fun pins s σ H Q I hw => ?_⟩
  obtain ⟨w, δ, μ, rfl, k, sl, d⟩ := hw
  exact p.run pins s σ _ Q I (q w σ δ μ Q k sl d)

/-! ### what is walked -/
def Walk (X : Cx) (C : Addr) (J : L2.It) (its : Its) (w0 : Wd) : Prop :=
  ∀ (i : Nat) (w : Wd) (μ : List MO), Wle w0 w → Wok X.K C w μ → srcOk its.src μ = true →
    (∀ d, its.items[i]? = some d → J.go i w.H ∧ ∀ x H', J.yld i w.H x H' → ∃ w', w'.H = H' ∧ Wle w w' ∧ Wok X.K C w' μ ∧ RepW X.K w' d x) ∧ (i = its.items.length → J.stop i w.H)
def SI (X : Cx) (W : WX) (C : Addr) (tg e : Expr) (mi : List (Option D) → M Its) : Prop :=
  ∃ wi, PI X tg e wi ∧ ∀ w σ δ μ R, Wok X.K C w μ → Slots X.K w σ δ → Does X W C σ w μ (mi δ) (fun its w' μ' => srcOk its.src μ' = true → ∀ J, Walk X C J its w' → R J w'.H) → wi σ w.H R
theorem srcOk_of {μ : List MO} {x : D} : srcOk (srcOf μ x) μ = true := by
  unfold srcOf
  split
  · rename_i n
    split
    · rename_i m q
      simp [srcOk, q]
    · rfl
  · rfl
theorem srcOk_app {a b : List (Nat × MO)} {μ : List MO} : srcOk (a ++ b) μ = true ↔ srcOk a μ = true ∧ srcOk b μ = true := by
  unfold srcOk
  rw [List.all_append, Bool.and_eq_true]
theorem seqOf_stays {μ μ' : List MO} {x : D} {ds : List D} (e : seqOf μ x = some ds) (s : srcOk (srcOf μ x) μ' = true) : seqOf μ' x = some ds := by
  cases x with
  | ptr n =>
    unfold seqOf at e ⊢
    simp only at e ⊢
    unfold srcOf at s
    simp only at s
    split at e
    · rename_i ds' q
      rw [q] at s
      simp only [srcOk, List.all_cons, List.all_nil, Bool.and_true, decide_eq_true_eq] at s
      rw [s]
      exact e
    · cases e
  | _ => exact e
/-- a list or a tuple is walked -/
def iSeq (K : PySem.W.Frag) (tl : TE) : TI := fun σ H R => tl σ H fun x H1 => ∃ a, x = .ref a ∧ ((∃ xs, SqL K H1 a xs ∧ R (Itl K a) H1) ∨ ∃ xs, SqT K H1 a xs ∧ R (Itt K a) H1)
theorem pi_seq {tg l : Expr} {tl : TE} (hl : PE X l tl) : PI X tg l (iSeq X.K tl) := by
  refine ⟨fun pins s σ H R I h => ?_⟩
  refine thn (hl.run pins s σ H _ I h) fun v s1 ⟨x, H1, I1, r1, q1⟩ => ?_
  obtain ⟨a, e, q⟩ := q1
  subst e
  cases r1
  rcases q with ⟨xs, hq, q⟩ | ⟨xs, hq, q⟩
  · obtain ⟨its, rv, p, hz⟩ := I1.list hq
    refine wpAny_pyIter_list p.isList ?_
    refine ⟨s1.heap.objs.size, [s1.heap.objs.size], _, _, H1, rfl, I1.kept (t' := s1.toks) fun b o e => Heap.get?_push_of_some _ e, turn_list a _, ⟨_, Heap.get?_push_size _ rfl, rfl, rfl⟩, fun b hb => ?_, q⟩
    have e : b = s1.heap.objs.size := by simpa using hb
    subst e
    exact I1.fpOk (Nat.le_refl _) (I1.hok.fresh (Nat.le_refl _))
  · obtain ⟨its, rv, p, hz⟩ := I1.tuple hq
    refine wpAny_pyIter_tuple (show s1.heap.IsTuple a its.toArray from p) ?_
    refine ⟨s1.heap.objs.size, [s1.heap.objs.size], _, _, H1, rfl, I1.kept (t' := s1.toks) fun b o e => Heap.get?_push_of_some _ e, turn_tuple a _, ⟨_, Heap.get?_push_size _ rfl, rfl, rfl⟩, fun b hb => ?_, q⟩
    have e : b = s1.heap.objs.size := by simpa using hb
    subst e
    exact I1.fpOk (Nat.le_refl _) (I1.hok.fresh (Nat.le_refl _))
theorem si_seq {tg a : Expr} {ma : List (Option D) → M D} (ha : SE X W C a ma) : SI X W C tg a (fun δ => M.bind (ma δ) fun x => fun μ => match seqOf μ x with
    | some ds => some (.ok ⟨ds, srcOf μ x⟩, μ)
    | none => none) := by
  obtain ⟨t, p, q⟩ := ha
  refine ⟨iSeq X.K t, pi_seq p, fun w σ δ μ R k s h => ?_⟩
  refine q w σ δ μ _ k s (h.bind.mono fun x w1 μ1 l1 k1 h1 v rv => ?_)
  obtain ⟨r, e, p1⟩ := h1
  dsimp only at e
  split at e
  · rename_i ds qd
    cases e
    obtain ⟨a, vs, e1, hs, rs⟩ := seq_at' k1 rv qd
    refine ⟨a, e1, ?_⟩
    have fin := p1 w1 (.refl w1) k1 srcOk_of
    -- at each later world
    have later : ∀ (w2 : Wd) (μ2 : List MO), Wle w1 w2 → Wok X.K C w2 μ2 → srcOk (srcOf μ1 x) μ2 = true → ∃ us, (((∀ es, x ≠ .tup es) ∧ SqL X.K w2.H a us) ∨ (x = .tup ds ∧ SqT X.K w2.H a us)) ∧ RepsW X.K w2 ds us := fun w2 μ2 l2 k2 s2 => by
      obtain ⟨a', us, e2, hs2, rs2⟩ := seq_at' k2 (l2.rep rv) (seqOf_stays qd s2)
      rw [e1] at e2
      cases e2
      exact ⟨us, hs2, rs2⟩
    rcases hs with ⟨nt, hs⟩ | ⟨hx, hs⟩
    · refine .inl ⟨vs, hs, fin _ fun i w2 μ2 l2 k2 s2 => ?_⟩
      obtain ⟨us, h2, rs2⟩ := later w2 μ2 l2 k2 s2
      have h2' : SqL X.K w2.H a us := by
        rcases h2 with ⟨_, h2⟩ | ⟨hx, _⟩
        · exact h2
        · exact absurd hx (nt _)
      refine ⟨fun d hd => ⟨?_, fun y H' hy => ?_⟩, fun hi => ⟨us, h2', by rw [hi]; exact Nat.le_of_eq rs2.length.symm⟩⟩
      · obtain ⟨v2, g1, _⟩ := Reps.get rs2 hd
        exact ⟨us, v2, h2', g1⟩
      · obtain ⟨rfl, hy⟩ := hy
        obtain ⟨v2, g1, g2⟩ := Reps.get rs2 hd
        have e5 := hy us h2'
        rw [g1] at e5
        cases e5
        exact ⟨w2, rfl, .refl w2, k2, g2⟩
    · refine .inr ⟨vs, hs, fin _ fun i w2 μ2 l2 k2 s2 => ?_⟩
      subst hx
      obtain ⟨a', us, e3, e4, rs2⟩ := rep_tup.mp (l2.rep rv)
      rw [e1] at e3
      cases e3
      have h2' : SqT X.K w2.H a us := SqT.same k2.fh e4
      refine ⟨fun d hd => ⟨?_, fun y H' hy => ?_⟩, fun hi => ⟨us, h2', by rw [hi]; exact Nat.le_of_eq rs2.length.symm⟩⟩
      · obtain ⟨v2, g1, _⟩ := Reps.get rs2 hd
        exact ⟨us, v2, h2', g1⟩
      · obtain ⟨rfl, hy⟩ := hy
        obtain ⟨v2, g1, g2⟩ := Reps.get rs2 hd
        have e5 := hy us h2'
        rw [g1] at e5
        cases e5
        exact ⟨w2, rfl, .refl w2, k2, g2⟩
  · cases e

theorem intsD_get : ∀ (n : Nat) (lo : Int) (i : Nat), (intsD lo n)[i]? = if i < n then some (.int (lo + i)) else none
  | 0, lo, i => by simp [intsD]
  | n + 1, lo, 0 => by simp [intsD]
  | n + 1, lo, i + 1 => by
    simp only [intsD, List.getElem?_cons_succ]
    rw [intsD_get n (lo + 1) i]
    by_cases h : i < n
    · rw [if_pos h, if_pos (by omega)]
      have : lo + 1 + (i : Int) = lo + ((i + 1 : Nat) : Int) := by omega
      rw [this]
    · rw [if_neg h, if_neg (by omega)]
theorem intsD_len : ∀ (n : Nat) (lo : Int), (intsD lo n).length = n
  | 0, lo => rfl
  | n + 1, lo => by simp [intsD, intsD_len n]
theorem walk_rng {lo : Int} {n : Nat} {w0 : Wd} : Walk X C (Itr lo n) ⟨intsD lo n, []⟩ w0 := by
  intro i w μ l k s
  refine ⟨fun d hd => ?_, fun hi => ?_⟩
  · have hd : (intsD lo n)[i]? = some d := hd
    rw [intsD_get] at hd
    split at hd
    · rename_i hl
      cases hd
      refine ⟨hl, fun x H' hy => ?_⟩
      obtain ⟨rfl, rfl⟩ := hy
      exact ⟨w, rfl, .refl w, k, rep_int.mpr rfl⟩
    · cases hd
  · have : i = n := by rw [hi]; exact intsD_len n lo
    subst this
    exact Nat.le_refl _
theorem si_rng {tg a : Expr} {ma : List (Option D) → M D} {p pos : Pos} (hg : Gl X "range") (hm : X.mg "range" = none) (ha : SE X W C a ma) (hs : starEach [a] X.env = (false, eval a X.env) :: starEach [] X.env) :
    SI X W C tg (.Call (.Name "range" p) [a] [] pos) (fun δ => M.bind (ma δ) fun x => match x with
      | .int n => if -1000000000 ≤ n ∧ n ≤ 1000000000 then M.ok ⟨intsD 0 n.toNat, []⟩ else M.bad
      | _ => M.bad) := by
  obtain ⟨t, pa, q⟩ := ha
  refine ⟨_, pi_range1 hg hm (pa_cons pa pa_nil hs) hs, fun w σ δ μ R k s h => ?_⟩
  refine q w σ δ μ _ k s (h.bind.mono fun x w1 μ1 l1 k1 h1 v rv => ?_)
  cases x with
  | int n =>
    simp only at h1
    split at h1
    · rename_i hb
      refine ⟨n, by rw [rep_int.mp rv], by omega, by omega, ?_⟩
      exact h1.of_ok k1 rfl _ walk_rng
    · exact h1.of_bad.elim
  | _ => exact (Does.of_bad (X := X) (W := W) (C := C) (σ := σ) h1).elim
theorem si_rng2 {tg a b : Expr} {ma mb : List (Option D) → M D} {p pos : Pos} (hg : Gl X "range") (hm : X.mg "range" = none) (ha : SE X W C a ma) (hb : SE X W C b mb)
    (hs1 : starEach [a, b] X.env = (false, eval a X.env) :: starEach [b] X.env) (hs2 : starEach [b] X.env = (false, eval b X.env) :: starEach [] X.env) :
    SI X W C tg (.Call (.Name "range" p) [a, b] [] pos) (fun δ => M.bind (ma δ) fun x => M.bind (mb δ) fun y => match x, y with
      | .int m, .int n => if (-1000000000 ≤ m ∧ m ≤ 1000000000) ∧ (-1000000000 ≤ n ∧ n ≤ 1000000000) then M.ok ⟨intsD m (n - m).toNat, []⟩ else M.bad
      | _, _ => M.bad) := by
  obtain ⟨ta, pa, qa⟩ := ha
  obtain ⟨tb, pb, qb⟩ := hb
  refine ⟨_, pi_range2 hg hm (pa_cons pa (pa_cons pb pa_nil hs2) hs1) (by rw [hs1, hs2]; rfl) (by rw [hs2]; rfl), fun w σ δ μ R k s h => ?_⟩
  refine qa w σ δ μ _ k s (h.bind.mono fun x w1 μ1 l1 k1 h1 vx rx => ?_)
  refine qb w1 σ δ μ1 _ k1 (s.mono l1) (h1.bind.mono fun y w2 μ2 l2 k2 h2 vy ry => ?_)
  cases x with
  | int m =>
    cases y with
    | int n =>
      simp only at h2
      split at h2
      · rename_i hb
        refine ⟨m, n, by rw [rep_int.mp rx, rep_int.mp ry], by omega, ?_⟩
        exact h2.of_ok k2 rfl _ walk_rng
      · exact h2.of_bad.elim
    | _ => exact (Does.of_bad (X := X) (W := W) (C := C) (σ := σ) h2).elim
  | _ => exact (Does.of_bad (X := X) (W := W) (C := C) (σ := σ) h2).elim
/-- a list or a tuple, by its kind -/
theorem seq_kind {w : Wd} {μ : List MO} {x : D} {v : V} {ds : List D} (k : Wok X.K C w μ) (r : RepW X.K w x v) (e : seqOf μ x = some ds) :
    ∃ (kk : SK) (a : Addr), v = .ref a ∧ ∀ w' μ', Wle w w' → Wok X.K C w' μ' → srcOk (srcOf μ x) μ' = true → ∃ vs, SqK X.K kk w'.H a vs ∧ RepsW X.K w' ds vs := by
  obtain ⟨a, vs, e1, hs, rs⟩ := seq_at' k r e
  rcases hs with ⟨nt, hs⟩ | ⟨hx, hs⟩
  · refine ⟨.L, a, e1, fun w' μ' l k' s' => ?_⟩
    obtain ⟨a', us, e2, hs2, rs2⟩ := seq_at' k' (l.rep r) (seqOf_stays e s')
    rw [e1] at e2
    cases e2
    rcases hs2 with ⟨_, h2⟩ | ⟨hx, _⟩
    · exact ⟨us, h2, rs2⟩
    · exact absurd hx (nt _)
  · refine ⟨.T, a, e1, fun w' μ' l k' s' => ?_⟩
    subst hx
    obtain ⟨a', us, e3, e4, rs2⟩ := rep_tup.mp (l.rep r)
    rw [e1] at e3
    cases e3
    exact ⟨us, SqT.same k'.fh e4, rs2⟩
theorem pairs_get : ∀ (xs ys : List D) (i : Nat) (d : D), (pairs xs ys)[i]? = some d → ∃ x y, xs[i]? = some x ∧ ys[i]? = some y ∧ d = .tup [x, y]
  | [], ys, i, d, h => by simp [pairs] at h
  | x :: xs, [], i, d, h => by simp [pairs] at h
  | x :: xs, y :: ys, 0, d, h => by
    simp only [pairs, List.getElem?_cons_zero, Option.some.injEq] at h
    exact ⟨x, y, rfl, rfl, h.symm⟩
  | x :: xs, y :: ys, i + 1, d, h => by
    simp only [pairs, List.getElem?_cons_succ] at h
    obtain ⟨a, b, h1, h2, h3⟩ := pairs_get xs ys i d h
    exact ⟨a, b, by simpa using h1, by simpa using h2, h3⟩
theorem pairs_len : ∀ (xs ys : List D), (pairs xs ys).length = min xs.length ys.length
  | [], ys => by simp [pairs]
  | x :: xs, [] => by simp [pairs]
  | x :: xs, y :: ys => by
    simp only [pairs, List.length_cons, pairs_len xs ys]
    omega
theorem enums_get : ∀ (xs : List D) (n i : Nat) (d : D), (enums n xs)[i]? = some d → ∃ x, xs[i]? = some x ∧ d = .tup [.int ((n + i : Nat) : Int), x]
  | [], n, i, d, h => by simp [enums] at h
  | x :: xs, n, 0, d, h => by
    simp only [enums, List.getElem?_cons_zero, Option.some.injEq] at h
    exact ⟨x, rfl, h.symm⟩
  | x :: xs, n, i + 1, d, h => by
    simp only [enums, List.getElem?_cons_succ] at h
    obtain ⟨y, h1, h2⟩ := enums_get xs (n + 1) i d h
    refine ⟨y, by simpa using h1, ?_⟩
    rw [h2]
    have : n + 1 + i = n + (i + 1) := by omega
    rw [this]
theorem enums_len : ∀ (xs : List D) (n : Nat), (enums n xs).length = xs.length
  | [], n => rfl
  | x :: xs, n => by simp [enums, enums_len xs]
/-- a new tuple of values that are borne -/
theorem new_tup {w : Wd} {μ : List MO} {T : Addr} {ds : List D} {vs : List V} (k : Wok X.K C w μ) (h : w.H T = none) (r : RepsW X.K w ds vs) : ∃ w', w'.H = upd w.H T (.tup vs) ∧ Wle w w' ∧ Wok X.K C w' μ ∧ RepW X.K w' (.tup ds) (.ref T) :=
  ⟨⟨upd w.H T (.tup vs), upd w.F T (.tup vs), w.ρ⟩, rfl, .laidF k h, k.laidF h, rep_new_tup k h r⟩
theorem si_zip {a b : Expr} {ma mb : List (Option D) → M D} {p pos tpos : Pos} {elts : List Expr} {kk : Nat} (hg : Gl X "zip") (hm : X.mg "zip" = none) (ha : SE X W C a ma) (hb : SE X W C b mb)
    (hs1 : starEach [a, b] X.env = (false, eval a X.env) :: starEach [b] X.env) (hs2 : starEach [b] X.env = (false, eval b X.env) :: starEach [] X.env) :
    SI X W C (.Tuple elts kk tpos) (.Call (.Name "zip" p) [a, b] [] pos) (fun δ => M.bind (ma δ) fun x => M.bind (mb δ) fun y => fun μ => match seqOf μ x, seqOf μ y with
      | some xs, some ys => some (.ok ⟨pairs xs ys, srcOf μ x ++ srcOf μ y⟩, μ)
      | _, _ => none) := by
  obtain ⟨ta, pa, qa⟩ := ha
  obtain ⟨tb, pb, qb⟩ := hb
  refine ⟨_, pi_zipK hg hm (pa_cons pa (pa_cons pb pa_nil hs2) hs1) hs1 (by rw [hs2]; rfl), fun w σ δ μ R k s h => ?_⟩
  refine qa w σ δ μ _ k s (h.bind.mono fun x w1 μ1 l1 k1 h1 vx rx => ?_)
  refine qb w1 σ δ μ1 _ k1 (s.mono l1) (h1.bind.mono fun y w2 μ2 l2 k2 h2 vy ry => ?_)
  obtain ⟨r, e, p1⟩ := h2
  dsimp only at e
  split at e
  · rename_i xs ys q1 q2
    cases e
    obtain ⟨c1, a1, e1, f1⟩ := seq_kind k2 (l2.rep rx) q1
    obtain ⟨c2, a2, e2, f2⟩ := seq_kind k2 ry q2
    obtain ⟨us, g1, _⟩ := f1 w2 μ2 (.refl w2) k2 srcOk_of
    obtain ⟨vs, g2, _⟩ := f2 w2 μ2 (.refl w2) k2 srcOk_of
    refine ⟨c1, c2, a1, a2, us, vs, by rw [e1, e2], g1, g2, p1 w2 (.refl w2) k2 (srcOk_app.mpr ⟨srcOk_of, srcOk_of⟩) _ fun i w3 μ3 l3 k3 s3 => ?_⟩
    obtain ⟨s31, s32⟩ := srcOk_app.mp s3
    obtain ⟨us3, h1, r1⟩ := f1 w3 μ3 l3 k3 s31
    obtain ⟨vs3, h2, r2⟩ := f2 w3 μ3 l3 k3 s32
    refine ⟨fun d hd => ?_, fun hi => ?_⟩
    · obtain ⟨x1, y1, i1, i2, rfl⟩ := pairs_get _ _ _ _ hd
      obtain ⟨u1, j1, m1⟩ := Reps.get r1 i1
      obtain ⟨u2, j2, m2⟩ := Reps.get r2 i2
      refine ⟨⟨us3, vs3, u1, u2, h1, h2, j1, j2⟩, fun z H' hy => ?_⟩
      obtain ⟨T, z1, z2, rfl, hT, rfl, n1, n2⟩ := hy
      have o1 := n1 us3 h1
      have o2 := n2 vs3 h2
      rw [j1] at o1
      rw [j2] at o2
      cases o1
      cases o2
      exact new_tup k3 hT (.cons m1 (.cons m2 .nil))
    · have hi : i = (pairs xs ys).length := hi
      rw [pairs_len] at hi
      have e3 := Reps.length r1
      have e4 := Reps.length r2
      exact ⟨us3, vs3, h1, h2, by omega, by omega, by omega⟩
  · cases e
theorem si_enm {a : Expr} {ma : List (Option D) → M D} {p pos tpos : Pos} {elts : List Expr} {kk : Nat} (hg : Gl X "enumerate") (hm : X.mg "enumerate" = none) (ha : SE X W C a ma) (hs : starEach [a] X.env = (false, eval a X.env) :: starEach [] X.env) :
    SI X W C (.Tuple elts kk tpos) (.Call (.Name "enumerate" p) [a] [] pos) (fun δ => M.bind (ma δ) fun x => fun μ => match seqOf μ x with
      | some ds => some (.ok ⟨enums 0 ds, srcOf μ x⟩, μ)
      | none => none) := by
  obtain ⟨ta, pa, qa⟩ := ha
  refine ⟨_, pi_enumK hg hm (pa_cons pa pa_nil hs) (by rw [hs]; rfl), fun w σ δ μ R k s h => ?_⟩
  refine qa w σ δ μ _ k s (h.bind.mono fun x w1 μ1 l1 k1 h1 vx rx => ?_)
  obtain ⟨r, e, p1⟩ := h1
  dsimp only at e
  split at e
  · rename_i xs q1
    cases e
    obtain ⟨c1, a1, e1, f1⟩ := seq_kind k1 rx q1
    obtain ⟨us, g1, _⟩ := f1 w1 μ1 (.refl w1) k1 srcOk_of
    refine ⟨c1, a1, us, by rw [e1], g1, p1 w1 (.refl w1) k1 srcOk_of _ fun i w3 μ3 l3 k3 s3 => ?_⟩
    obtain ⟨us3, h1, r1⟩ := f1 w3 μ3 l3 k3 s3
    refine ⟨fun d hd => ?_, fun hi => ?_⟩
    · obtain ⟨x1, i1, rfl⟩ := enums_get _ _ _ _ hd
      obtain ⟨u1, j1, m1⟩ := Reps.get r1 i1
      refine ⟨⟨us3, u1, h1, j1⟩, fun z H' hy => ?_⟩
      obtain ⟨T, z1, rfl, hT, rfl, n1⟩ := hy
      have o1 := n1 us3 h1
      rw [j1] at o1
      cases o1
      rw [Nat.zero_add]
      exact new_tup k3 hT (.cons (rep_int.mpr rfl) (.cons m1 .nil))
    · have hi : i = (enums 0 xs).length := hi
      rw [enums_len] at hi
      exact ⟨us3, h1, by rw [hi]; exact (Reps.length r1).symm⟩
  · cases e

/-! ### targets -/
def tgSlots : Tg → List Nat
  | .nm i => [i]
  | .nil => []
  | .cons t ts => tgSlots t ++ tgSlots ts
/-- a target takes a value -/
def gM (X : Cx) (C : Addr) (t : Tg) : TG := fun v σ H Q => ∃ w δ d δ', w.H = H ∧ (∃ μ, Wok X.K C w μ) ∧ Slots X.K w σ δ ∧ RepW X.K w d v ∧ bindT t d δ = some δ' ∧
  ∀ σ', Slots X.K w σ' δ' → (∀ vs : List Nat, (∀ i ∈ tgSlots t, i ∈ vs) → wipe σ' vs = wipe σ vs) → Q σ' H
def gMs (X : Cx) (C : Addr) (t : Tg) : TGs := fun vs σ H Q => ∃ w δ ds δ', w.H = H ∧ (∃ μ, Wok X.K C w μ) ∧ Slots X.K w σ δ ∧ RepsW X.K w ds vs ∧ bindT t (.tup ds) δ = some δ' ∧
  ∀ σ', Slots X.K w σ' δ' → (∀ vs : List Nat, (∀ i ∈ tgSlots t, i ∈ vs) → wipe σ' vs = wipe σ vs) → Q σ' H
theorem wipe_set {σ : St} {i : Nat} {v : V} : ∀ {vs : List Nat}, i ∈ vs → wipe (σ.set i (some v)) vs = wipe σ vs
  | [], h => by cases h
  | j :: vs, h => by
    unfold wipe
    by_cases hi : i ∈ vs
    · rw [wipe_set hi]
    · have : i = j := by
        rcases List.mem_cons.mp h with z | z
        · exact z
        · exact absurd z hi
      subst this
      have gen : ∀ {τ : St} {us : List Nat}, i ∉ us → wipe (τ.set i (some v)) us = (wipe τ us).set i (some v) := by
        intro τ us
        induction us with
        | nil => intro _; rfl
        | cons k us ih =>
          intro hk
          simp only [List.mem_cons, not_or] at hk
          unfold wipe
          rw [ih hk.2, List.set_comm _ _ hk.1]
      rw [gen hi, List.set_set]
theorem pg_nm {i : Nat} {x : Str} {pos : Pos} (hN : X.N.Nodup) (hi : X.N[i]? = some x) (hx : Loc X.env.scope x) (hf : X.fn x = true ∨ X.env.scope.names.lookup x = some .local) : PG X (.Name x pos) (gM X C (.nm i)) := by
  refine ⟨fun pins s σ H v u Q I r h => ?_⟩
  refine (pg_name hN hi hx hf).run pins s σ H v u Q I r ?_
  obtain ⟨w, δ, d, δ', rfl, ⟨μ, k⟩, sl, rd, e, q⟩ := h
  unfold bindT at e
  split at e
  · rename_i hl
    cases e
    exact q _ (sl.set rd hl) fun vs hv => wipe_set (hv i (by simp [tgSlots]))
  · cases e
theorem pgs_nilM : PGs X [] (gMs X C .nil) := by
  refine ⟨fun pins s σ H vs us Q I r h => ?_⟩
  refine pgs_nil.run pins s σ H vs us Q I r ?_
  obtain ⟨w, δ, ds, δ', rfl, k, sl, rd, e, q⟩ := h
  cases ds with
  | nil =>
    simp only [bindT, Option.some.injEq] at e
    subst e
    have : vs = [] := by
      have rd' : Reps X.K w.F w.ρ [] vs := rd
      simpa [Reps] using rd'
    exact ⟨this, q σ sl fun _ _ => rfl⟩
  | cons d ds => simp [bindT] at e
theorem pgs_consM {e : Expr} {es : List Expr} {t ts : Tg} (h1 : PG X e (gM X C t)) (h2 : PGs X es (gMs X C ts)) (hs : (assignEach (e :: es) X.env).map (·.2) = assign e X.env :: (assignEach es X.env).map (·.2)) : PGs X (e :: es) (gMs X C (.cons t ts)) := by
  refine ⟨fun pins s σ H vs us Q I r h => ?_⟩
  refine (pgs_cons h1 h2 hs).run pins s σ H vs us Q I r ?_
  obtain ⟨w, δ, ds, δ', rfl, k, sl, rd, eb, q⟩ := h
  cases ds with
  | nil => simp [bindT] at eb
  | cons d ds =>
    have rd' : Reps X.K w.F w.ρ (d :: ds) vs := rd
    simp only [Reps] at rd'
    obtain ⟨v, vr, rfl, r1, r2⟩ := rd'
    unfold bindT at eb
    split at eb
    · rename_i δ1 q1
      refine ⟨v, vr, rfl, w, δ, d, δ1, rfl, k, sl, r1, q1, fun σ1 sl1 wi1 => ⟨w, δ1, ds, δ', rfl, k, sl1, r2, eb, fun σ2 sl2 wi2 => q σ2 sl2 fun us hu => ?_⟩⟩
      rw [wi2 us fun i hi => hu i (by simp [tgSlots, hi]), wi1 us fun i hi => hu i (by simp [tgSlots, hi])]
    · cases eb
theorem pg_tupM {es : List Expr} {k : Nat} {pos : Pos} {t : Tg} (hc : X.calm = true) (ht : ∀ i, t ≠ .nm i) (h : PGs X es (gMs X C t)) (hst : (assignEach es X.env).findIdx? (·.1) = none) (hlen : ∀ ds δ δ', bindT t (.tup ds) δ = some δ' → ds.length = (assignEach es X.env).length) : PG X (.Tuple es k pos) (gM X C t) := by
  refine ⟨fun pins s σ H v u Q I r hw => ?_⟩
  refine (pg_tup hc h rfl hst).run pins s σ H v u Q I r ?_
  obtain ⟨w, δ, d, δ', rfl, k, sl, rd, eb, q⟩ := hw
  cases d with
  | tup ds =>
    obtain ⟨a, vs, rfl, h1, h2⟩ := rep_tup.mp rd
    obtain ⟨μ, k⟩ := k
    exact ⟨a, vs, rfl, SqT.same k.fh h1, by rw [← h2.length]; exact hlen ds δ δ' eb, w, δ, ds, δ', rfl, ⟨μ, k⟩, sl, h2, eb, q⟩
  | _ => cases t <;> first | (exact absurd rfl (ht _)) | simp [bindT] at eb
end
end NB
end
set_option maxHeartbeats 4000000
section
/-! How my texts run: rules for plain reckoning. -/
namespace NB
section
variable {G : PySem.Str → Option D} {Φ : Nat → List D → M D} {δ δ' : List (Option D)} {μ μ' : List MO} {d : D}
theorem srcOk_nil {μ : List MO} : srcOk [] μ = true := rfl
theorem srcOk_at {x : D} : srcOk (srcOf μ x) μ = true := srcOk_of
theorem srcOk_at2 {x y : D} : srcOk (srcOf μ x ++ srcOf μ y) μ = true := srcOk_app.mpr ⟨srcOk_of, srcOk_of⟩
/-- a comprehension whose items leave the cells as they are -/
theorem compL_map {src : List (Nat × MO)} {f : D → M (Option D)} {g : D → Option D} (hs : srcOk src μ = true) : ∀ {ds : List D}, (∀ d, d ∈ ds → f d μ = some (.ok (g d), μ)) → compL src f ds μ = some (.ok (ds.filterMap g), μ)
  | [], _ => rfl
  | d :: ds, h => by
    have h1 := h d List.mem_cons_self
    have ih := compL_map (src := src) (f := f) (g := g) hs fun x hx => h x (List.mem_cons_of_mem _ hx)
    simp only [compL, M.bind, M.calm, h1, guard, hs, if_true, ih, M.ok, List.filterMap_cons]
    cases g d <;> rfl
theorem xE_comp {own : List Nat} {t : Tg} {i : It} {cn : Cn} {a : Ex} {its : Its} {g : D → Option D} (hi : evI G Φ i δ μ = some (.ok its, μ)) (hs : srcOk its.src μ = true) (hl : its.items.length ≤ lim)
    (h : ∀ d, d ∈ its.items → ∃ δ1, bindT t d (wipeD δ own) = some δ1 ∧ ((evT G Φ cn δ1 μ = some (.ok true, μ) ∧ ∃ x, evE G Φ a δ1 μ = some (.ok x, μ) ∧ g d = some x) ∨ (evT G Φ cn δ1 μ = some (.ok false, μ) ∧ g d = none))) :
    evE G Φ (.comp false own t i cn a) δ μ = some (.ok (.lst (its.items.filterMap g)), μ) := by
  have hf : ∀ d, d ∈ its.items → (match bindT t d (wipeD δ own) with
      | none => M.bad
      | some δ1 => M.bind (evT G Φ cn δ1) fun b => if b then M.bind (evE G Φ a δ1) fun x => M.ok (some x) else M.ok none) μ = some (.ok (g d), μ) := fun d hd => by
    obtain ⟨δ1, h1, h2⟩ := h d hd
    rw [h1]
    rcases h2 with ⟨h2, x, h3, h4⟩ | ⟨h2, h4⟩
    · simp only [M.bind, h2, h3, h4, if_true]
      rfl
    · simp only [M.bind, h2, h4]
      rfl
  have hc := compL_map (src := its.src) (g := g) hs hf
  simp only [evE, M.bind, hi, if_pos hl, fresh]
  erw [hc]
  rfl
/-- .. of one name, without a test -/
theorem xE_comp1 {own : List Nat} {t : Tg} {i : It} {a : Ex} {its : Its} {g : D → D} (hi : evI G Φ i δ μ = some (.ok its, μ)) (hs : srcOk its.src μ = true) (hl : its.items.length ≤ lim)
    (h : ∀ d, d ∈ its.items → ∃ δ1, bindT t d (wipeD δ own) = some δ1 ∧ evE G Φ a δ1 μ = some (.ok (g d), μ)) :
    evE G Φ (.comp false own t i .no a) δ μ = some (.ok (.lst (its.items.map g)), μ) := by
  rw [xE_comp (g := fun d => some (g d)) hi hs hl fun d hd => ?_]
  · rw [List.filterMap_eq_map']
  · obtain ⟨δ1, h1, h2⟩ := h d hd
    exact ⟨δ1, h1, .inl ⟨by simp only [evT]; rfl, _, h2, rfl⟩⟩
theorem xI_seq {a : Ex} {ds : List D} (h : evE G Φ a δ μ = some (.ok d, μ)) (hq : seqOf μ d = some ds) : evI G Φ (.seq a) δ μ = some (.ok ⟨ds, srcOf μ d⟩, μ) := by
  simp only [evI, M.bind, h, hq]
theorem xI_rng {a : Ex} {n : Nat} (h : evE G Φ a δ μ = some (.ok (.int n), μ)) (hn : n ≤ 1000000000) : evI G Φ (.rng a) δ μ = some (.ok ⟨intsD 0 n, []⟩, μ) := by
  have : (-1000000000 : Int) ≤ n ∧ (n : Int) ≤ 1000000000 := by omega
  simp only [evI, M.bind, h, if_pos this]
  rfl
theorem xI_zip {a b : Ex} {x y : D} {xs ys : List D} (ha : evE G Φ a δ μ = some (.ok x, μ)) (hb : evE G Φ b δ μ = some (.ok y, μ)) (hx : seqOf μ x = some xs) (hy : seqOf μ y = some ys) :
    evI G Φ (.zip a b) δ μ = some (.ok ⟨pairs xs ys, srcOf μ x ++ srcOf μ y⟩, μ) := by
  simp only [evI, M.bind, ha, hb, hx, hy]
theorem xI_enm {a : Ex} {x : D} {xs : List D} (ha : evE G Φ a δ μ = some (.ok x, μ)) (hx : seqOf μ x = some xs) :
    evI G Φ (.enm a) δ μ = some (.ok ⟨enums 0 xs, srcOf μ x⟩, μ) := by
  simp only [evI, M.bind, ha, hx]
theorem xI_ezip {a b : Ex} {x y : D} {xs ys : List D} (ha : evE G Φ a δ μ = some (.ok x, μ)) (hb : evE G Φ b δ μ = some (.ok y, μ)) (hx : seqOf μ x = some xs) (hy : seqOf μ y = some ys) :
    evI G Φ (.ezip a b) δ μ = some (.ok ⟨enums 0 (pairs xs ys), srcOf μ x ++ srcOf μ y⟩, μ) := by
  simp only [evI, M.bind, ha, hb, hx, hy]
/-! a loop, turn by turn -/
theorem forL_nx {src : List (Nat × MO)} {t : Tg} {body : List (Option D) → M Fl} {ds : List D} {δ1 δ2 : List (Option D)} (hb : bindT t d δ = some δ1) (h : body δ1 μ = some (.ok (.nx δ2), μ')) (hs : srcOk src μ' = true) :
    forL src t body (d :: ds) δ μ = forL src t body ds δ2 μ' := by
  simp only [forL, hb, M.bind, h, guard, hs, if_true]
theorem forL_rt {src : List (Nat × MO)} {t : Tg} {body : List (Option D) → M Fl} {ds : List D} {δ1 : List (Option D)} {x : D} (hb : bindT t d δ = some δ1) (h : body δ1 μ = some (.ok (.rt x), μ')) :
    forL src t body (d :: ds) δ μ = some (.ok (.rt x), μ') := by
  simp only [forL, hb, M.bind, h]
  rfl
theorem forL_nil {src : List (Nat × MO)} {t : Tg} {body : List (Option D) → M Fl} : forL src t body [] δ μ = some (.ok (.nx δ), μ) := rfl
theorem xS_for {t : Tg} {i : It} {b : Sxs} {its : Its} {r : Except PySem.Str Fl × List MO} (hi : evI G Φ i δ μ = some (.ok its, μ)) (h : forL its.src t (fun δ' => exB G Φ b δ') its.items δ μ = some r) :
    exS G Φ (.for_ t i b) δ μ = some r := by
  simp only [exS, M.bind, hi, h]
theorem xB_nx {s : Sx} {r : Sxs} (h : exS G Φ s δ μ = some (.ok (.nx δ'), μ')) : exB G Φ (.cons s r) δ μ = exB G Φ r δ' μ' := by
  simp only [exB, M.bind, h]
theorem xB_rt {s : Sx} {r : Sxs} (h : exS G Φ s δ μ = some (.ok (.rt d), μ')) : exB G Φ (.cons s r) δ μ = some (.ok (.rt d), μ') := by
  simp only [exB, M.bind, h]
  rfl
theorem xB_er {s : Sx} {r : Sxs} {x : PySem.Str} (h : exS G Φ s δ μ = some (.error x, μ')) : exB G Φ (.cons s r) δ μ = some (.error x, μ') := by
  simp only [exB, M.bind, h]
theorem xB_nil : exB G Φ .nil δ μ = some (.ok (.nx δ), μ) := by
  simp only [exB]
  rfl
theorem xS_ret {a : Ex} (h : evE G Φ a δ μ = some (.ok d, μ')) : exS G Φ (.ret a) δ μ = some (.ok (.rt d), μ') := by
  simp only [exS, M.bind, h]
  rfl
theorem xS_expr {a : Ex} (h : evE G Φ a δ μ = some (.ok d, μ')) : exS G Φ (.expr a) δ μ = some (.ok (.nx δ), μ') := by
  simp only [exS, M.bind, h]
  rfl
theorem xS_asg {a : Ex} {t : Tg} (h : evE G Φ a δ μ = some (.ok d, μ')) (hb : bindT t d δ = some δ') : exS G Φ (.asg t a) δ μ = some (.ok (.nx δ'), μ') := by
  simp only [exS, M.bind, h, hb]
  rfl
theorem xS_ite {k : Ex} {a b : Sxs} {c : Bool} (h : evE G Φ k δ μ = some (.ok (.bl c), μ')) : exS G Φ (.ite k a b) δ μ = (if c then exB G Φ a δ else exB G Φ b δ) μ' := by
  simp only [exS, M.bind, h]
  rfl
theorem xE_call {f : Nat} {es : Exs} {ds : List D} (h : evA G Φ es δ μ = some (.ok ds, μ')) : evE G Φ (.call f es) δ μ = Φ f ds μ' := by
  simp only [evE, M.bind, h]
theorem xA_cons {a : Ex} {es : Exs} {ds : List D} {μ'' : List MO} (h : evE G Φ a δ μ = some (.ok d, μ')) (h2 : evA G Φ es δ μ' = some (.ok ds, μ'')) : evA G Φ (.cons a es) δ μ = some (.ok (d :: ds), μ'') := by
  simp only [evA, M.bind, h, h2]
  rfl
theorem xA_nil : evA G Φ .nil δ μ = some (.ok [], μ) := by
  simp only [evA]
  rfl
end
/-! ### defs -/
theorem run_eq {G : PySem.Str → Option D} {fns : List Fn} {i j : Nat} {f : Fn} (h : fns[i]? = some f) (ds : List D) : run G fns (j + 1) i ds = runFn G (run G fns j) f ds := by
  simp only [run, h]
theorem back_same (μ : List MO) (r : Except PySem.Str D) : back μ μ r = some (r, μ) := by simp [back]
mutual
def plain : D → Bool
  | .tup ds => plains ds
  | .lst ds => plains ds
  | .scr _ => false
  | .ptr _ => false
  | _ => true
def plains : List D → Bool
  | [] => true
  | d :: ds => plain d && plains ds
end
mutual
theorem frz_plain (μ : List MO) (n : Nat) : ∀ d : D, plain d = true → frzD μ n d = some d
  | .non, _ => rfl
  | .bl _, _ => rfl
  | .int _, _ => rfl
  | .str _, _ => rfl
  | .tup ds, h => by simp only [frzD, frzs_plain μ n ds h]; rfl
  | .lst ds, h => by simp only [frzD, frzs_plain μ n ds h]; rfl
  | .scr _, h => by cases h
  | .ptr _, h => by cases h
theorem frzs_plain (μ : List MO) (n : Nat) : ∀ ds : List D, plains ds = true → frzDs μ n ds = some ds
  | [], _ => rfl
  | d :: ds, h => by
    simp only [plains, Bool.and_eq_true] at h
    simp only [frzDs, frz_plain μ n d h.1, frzs_plain μ n ds h.2]
end
theorem plains_iff : ∀ {ds : List D}, plains ds = true ↔ ∀ d, d ∈ ds → plain d = true
  | [] => by simp [plains]
  | d :: ds => by simp [plains, plains_iff (ds := ds)]
/-- a def whose body leaves the cells as they are -/
theorem run_pure {G : PySem.Str → Option D} {Φ : Nat → List D → M D} {f : Fn} {ds : List D} {d : D} {μ : List MO} (hn : ds.length = f.np) (hz : f.frz = true) (hd : plain d = true)
    (h : exB G Φ f.body (ds.map some ++ List.replicate (f.nl - ds.length) none) μ = some (.ok (.rt d), μ)) : runFn G Φ f ds μ = some (.ok d, μ) := by
  unfold runFn
  rw [if_pos hn, h]
  simp only [hz, if_true, frz_plain μ μ.length d hd, back_same]
/-- .. that changes cells, but makes none -/
theorem run_cells {G : PySem.Str → Option D} {Φ : Nat → List D → M D} {f : Fn} {ds : List D} {d : D} {μ μ' : List MO} (hn : ds.length = f.np) (hz : f.frz = true) (hd : plain d = true) (hl : μ'.length = μ.length)
    (h : exB G Φ f.body (ds.map some ++ List.replicate (f.nl - ds.length) none) μ = some (.ok (.rt d), μ')) : runFn G Φ f ds μ = some (.ok d, μ') := by
  unfold runFn
  rw [if_pos hn, h]
  simp only [hz, if_true, frz_plain μ' μ.length d hd, back, if_pos hl]
theorem run_cellsN {G : PySem.Str → Option D} {Φ : Nat → List D → M D} {f : Fn} {ds : List D} {δ : List (Option D)} {μ μ' : List MO} (hn : ds.length = f.np) (hz : f.frz = true) (hl : μ'.length = μ.length)
    (h : exB G Φ f.body (ds.map some ++ List.replicate (f.nl - ds.length) none) μ = some (.ok (.nx δ), μ')) : runFn G Φ f ds μ = some (.ok .non, μ') := by
  unfold runFn
  rw [if_pos hn, h]
  simp only [hz, if_true, back, if_pos hl]
/-- .. that makes cells of its own, and leaves the others as they are -/
theorem run_drop {G : PySem.Str → Option D} {Φ : Nat → List D → M D} {f : Fn} {ds : List D} {d : D} {μ μ' : List MO} (hn : ds.length = f.np) (hz : f.frz = true) (hd : plain d = true) (hl : μ'.take μ.length = μ)
    (h : exB G Φ f.body (ds.map some ++ List.replicate (f.nl - ds.length) none) μ = some (.ok (.rt d), μ')) : runFn G Φ f ds μ = some (.ok d, μ) := by
  unfold runFn
  rw [if_pos hn, h]
  simp only [hz, if_true, frz_plain μ' μ.length d hd, back]
  by_cases e : μ'.length = μ.length
  · rw [if_pos e]
    rw [← e, List.take_length] at hl
    rw [hl]
  · rw [if_neg e, if_pos hl]
theorem run_err {G : PySem.Str → Option D} {Φ : Nat → List D → M D} {f : Fn} {ds : List D} {x : PySem.Str} {μ : List MO} (hn : ds.length = f.np)
    (h : exB G Φ f.body (ds.map some ++ List.replicate (f.nl - ds.length) none) μ = some (.error x, μ)) : runFn G Φ f ds μ = some (.error x, μ) := by
  unfold runFn
  rw [if_pos hn, h]
  exact back_same μ _
end NB
end
set_option maxHeartbeats 4000000
section
/-! enumerate(zip(a, b)): the zip's tuple stays in the hands of the enumerate's. -/
namespace NB
open PySem PySem.Spec L2
open PyProof.Rows hiding St
/-- a zip as it lies; f0: what it gave out -/
abbrev ZAt (h : Heap) (z TI TO : Addr) (f0 : Value) (f1 : Bool) : Prop :=
  h.get? z = some { cls := .type "zip", dict := none, data := .fields #[f0, .bool f1, .bool false, .ref TI, .ref TO], slots := #[] }
def ZF (v : Value) : Prop := v = .none ∨ ∃ T : Nat, v = rawInt T
section
variable {prog : Program} {w : World} {A : Around} {E : Value → Shared → Prop} {s : Shared}
theorem z_alive {a : Addr} {Q : Option Obj → Shared → Prop} (h : Q (s.heap.get? a) s) : wpAny (model prog w) A (loadIfAlive a) Q E s := fun _ _ _ => h
theorem z_free {z TI TO : Addr} {f0 : Value} {f1 : Bool} {Q : Bool → Shared → Prop} (hf : ZF f0) (hz : ZAt s.heap z TI TO f0 f1) (h1 : Q true s) (h2 : ∀ h', ZAt h' z TI TO f0 true → Heap.SameBut z s.heap h' → Q false { s with heap := h' }) :
    wpAny (model prog w) A (Builtin.SmallTypes.ownedTupleIsFree (.ref z)) Q E s := by
  unfold Builtin.SmallTypes.ownedTupleIsFree
  refine wpAny_bind (wpAny_field hz rfl (x := f0) rfl ?_)
  rcases hf with e | ⟨T, e⟩
  · subst e
    exact wpAny_pure h1
  · subst e
    show wpAny _ _ (loadIfAlive ((T : Int).toNat) >>= _) _ _ _
    rw [Int.toNat_natCast]
    refine wpAny_bind (z_alive ?_)
    cases q : s.heap.get? T with
    | none =>
      rw [if_pos (show Option.isNone (none : Option Obj) = true from rfl)]
      exact wpAny_pure h1
    | some o =>
      rw [if_neg (show ¬ Option.isNone (some o) = true from Bool.false_ne_true)]
      refine wpAny_bind (wpAny_field hz rfl (x := .bool f1) rfl ?_)
      cases f1 with
      | true =>
        rw [if_neg (show ¬ ((Value.bool true != Value.bool true) = true) from Bool.false_ne_true)]
        exact wpAny_pure (h2 _ hz (Heap.SameBut.refl _ _))
      | false =>
        rw [if_pos (show (Value.bool false != Value.bool true) = true from rfl)]
        exact wpAny_bind (wpAny_setField_rec hz (by simp) fun g r1 r2 => wpAny_pure (h2 g r1 r2))
variable {z TI TO i1 i2 : Addr} {fp1 fp2 : List Addr} {n1 n2 i : Nat} {P1 P2 : Nat → Value → Prop} {St1 St2 : Nat → Heap → Prop} {f0 : Value} {f1 : Bool}
theorem z_next {Q : Value → Shared → Prop} (S : ZipSep2 z TI TO i1 i2 fp1 fp2) (D1 : Draws prog w A i1 fp1 n1 P1 St1) (D2 : Draws prog w A i2 fp2 n2 P2 St2)
    (hf : ZF f0) (hz : ZAt s.heap z TI TO f0 f1) (hI : IsPair s.heap TI (.ref i1) (.ref i2)) {b1 b2 : Value} (hO : IsPair s.heap TO b1 b2) (t1 : St1 i s.heap) (t2 : St2 i s.heap) (lt1 : i < n1) (lt2 : i < n2)
    (hQ : ∀ x1 x2 h' tk g0 g1 c1 c2, P1 i x1 → P2 i x2 → ZF g0 → ZAt h' z TI TO g0 g1 → IsPair h' TO c1 c2 → St1 (i + 1) h' → St2 (i + 1) h' → IsPair h' s.heap.objs.size x1 x2 → h'.objs.size = s.heap.objs.size + 1 →
      (∀ c o, c ≠ z → c ≠ TO → c ≠ i1 → c ≠ i2 → s.heap.get? c = some o → h'.get? c = some o) → Q (.ref s.heap.objs.size) { s with heap := h', toks := tk }) :
    wpAny (model prog w) A (Builtin.«zip.__next__» ⟨[.ref z], []⟩) (fun fin s' => ∃ v, fin = .done (.ret v) ∧ Q v s') E s := by
  obtain ⟨H, gn, dr, u0, os⟩ := s
  show wpAny _ _ (field (.ref z) 2 >>= _) _ _ _
  refine wpAny_bind (wpAny_field hz rfl (x := .bool false) rfl ?_)
  show wpAny _ _ (field (.ref z) 3 >>= _) _ _ _
  refine wpAny_bind (wpAny_field hz rfl (x := .ref TI) rfl ?_)
  refine wpAny_bind (wpAny_seqItems hI rfl ?_)
  show wpAny _ _ (Builtin.SmallTypes.ownedTupleIsFree (.ref z) >>= _) _ _ _
  refine wpAny_bind (z_free hf hz ?_ fun G hzG sG => ?_)
  · -- the tuple is free
    simp only [if_true]
    refine wpAny_bind (wpAny_rule ?_)
    refine wpAny_bind (wpAny_field hz rfl (x := .ref TO) rfl ?_)
    refine wpAny_bind (wpAny_setField_rec hz (by simp) fun G0 z0 s0 => ?_)
    replace z0 : ZAt G0 z TI TO .ellipsis f1 := z0
    replace s0 : Heap.SameBut z H G0 := s0
    refine wpAny_bind ?_
    simp only [List.zipIdx_cons, List.zipIdx_nil, List.forIn_cons, List.forIn_nil]
    refine wpAny_bind (wpAny_bind (wpAny_onRaise ?_))
    show wpAny _ _ (Builtin.SmallTypes.nextOf (.ref i1) >>= _) _ _ ⟨G0, gn, dr, u0, os⟩
    refine wpAny_bind (D1.item i _ _ _ lt1 (D1.over t1 s0 S.zf1) fun x1 p1 u1 y1 m1 k1 => wpAny_pure ?_)
    replace k1 : Heap.SameBut i1 G0 p1 := k1
    have v1 : IsPair p1 TO b1 b2 := k1.extBut _ _ S.Ti1 (s0.extBut _ _ S.TOz hO)
    refine wpAny_bind (wpAny_seqItems (s := ⟨p1, gn, dr, u1, os⟩) v1 rfl ?_)
    refine wpAny_bind (updateSeq_IsTupOf2 (s := ⟨p1, gn, dr, u1, os⟩) v1 fun G1 w1 s1 => ?_)
    replace w1 : IsPair G1 TO x1 b2 := w1
    replace s1 : Heap.SameBut TO p1 G1 := s1
    refine wpAny_bind (wpAny_letGo (wpAny_pure ?_))
    refine wpAny_bind (wpAny_bind (wpAny_onRaise ?_))
    show wpAny _ _ (Builtin.SmallTypes.nextOf (.ref i2) >>= _) _ _ ⟨G1, gn, dr, u1, os⟩
    refine wpAny_bind (D2.item i _ _ _ lt2 (D2.over (D2.over (D2.over t2 s0 S.zf2) k1 S.sep1_2) s1 S.Tf2) fun x2 p2 u2 y2 m2 k2 => wpAny_pure ?_)
    replace k2 : Heap.SameBut i2 G1 p2 := k2
    have v2 : IsPair p2 TO x1 b2 := k2.extBut _ _ S.Ti2 w1
    refine wpAny_bind (wpAny_seqItems (s := ⟨p2, gn, dr, u2, os⟩) v2 rfl ?_)
    refine wpAny_bind (updateSeq_IsTupOf2 (s := ⟨p2, gn, dr, u2, os⟩) v2 fun G2 w2 s2 => ?_)
    replace w2 : IsPair G2 TO x1 x2 := w2
    replace s2 : Heap.SameBut TO p2 G2 := s2
    refine wpAny_bind (wpAny_letGo (wpAny_pure (wpAny_pure ?_)))
    refine wpAny_bind (wpAny_seqItems (s := ⟨G2, gn, dr, u2, os⟩) w2 rfl ?_)
    refine wpAny_bind (wpAny_newTuple ?_)
    have e0 : G2.objs.size = H.objs.size := by rw [s2.1, k2.1, s1.1, k1.1, s0.1]
    have e1 : ZAt G2 z TI TO .ellipsis f1 := s2.extBut _ _ S.TOz.symm (k2.extBut _ _ S.zi2 (s1.extBut _ _ S.TOz.symm (k1.extBut _ _ S.zi1 z0)))
    have e2 : ∀ c o, c ≠ z → c ≠ TO → c ≠ i1 → c ≠ i2 → H.get? c = some o → G2.get? c = some o := fun c o a1 a2 a3 a4 e => s2.extBut _ _ a2 (k2.extBut _ _ a4 (s1.extBut _ _ a2 (k1.extBut _ _ a3 (s0.extBut _ _ a1 e))))
    have e3 : St1 (i + 1) G2 := D1.over (D1.over (D1.over m1 s1 S.Tf1) k2 S.sep2_1) s2 S.Tf1
    have e4 : St2 (i + 1) G2 := D2.over m2 s2 S.Tf2
    have e5 : z < G2.objs.size := Heap.lt_size e1
    have e6 : ZAt (G2.push { cls := .type "tuple", data := .seq #[x1, x2] }) z TI TO .ellipsis f1 := Heap.get?_push_of_some _ e1
    show wpAny _ _ (Builtin.SmallTypes.ownedTupleHandOut (.ref z) (.ref G2.objs.size) >>= _) _ _ ⟨G2.push { cls := .type "tuple", data := .seq #[x1, x2] }, gn, dr, u2, os⟩
    refine wpAny_bind ?_
    unfold Builtin.SmallTypes.ownedTupleHandOut
    refine wpAny_bind (wpAny_setField_rec e6 (by simp) fun G3 z3 s3 => ?_)
    replace z3 : ZAt G3 z TI TO (rawInt G2.objs.size) f1 := z3
    refine wpAny_setField_rec z3 (by simp) fun G4 z4 s4 => ?_
    replace z4 : ZAt G4 z TI TO (rawInt G2.objs.size) false := z4
    replace s3 : Heap.SameBut z (G2.push { cls := .type "tuple", data := .seq #[x1, x2] }) G3 := s3
    replace s4 : Heap.SameBut z G3 G4 := s4
    have up : ∀ c o, c ≠ z → G2.get? c = some o → G4.get? c = some o := fun c o a1 e => s4.extBut _ _ a1 (s3.extBut _ _ a1 (Heap.get?_push_of_some _ e))
    have e7 : IsPair G4 G2.objs.size x1 x2 := s4.extBut _ _ (Nat.ne_of_gt e5) (s3.extBut _ _ (Nat.ne_of_gt e5) (Heap.get?_push_size _ rfl))
    have e8 : G4.objs.size = G2.objs.size + 1 := by rw [s4.1, s3.1, Heap.size_push]
    rw [e0] at z4 e7 e8
    refine wpAny_pure ⟨_, rfl, ?_⟩
    show Q (.ref G2.objs.size) ⟨G4, gn, dr, u2, os⟩
    rw [e0]
    exact hQ x1 x2 G4 u2 _ _ _ _ y1 y2 (.inr ⟨_, rfl⟩) z4 (up _ _ S.TOz w2) (D1.frame _ _ _ e3 fun b hb o e => up b o (fun q => S.zf1 (q ▸ hb)) e) (D2.frame _ _ _ e4 fun b hb o e => up b o (fun q => S.zf2 (q ▸ hb)) e) e7 e8 fun c o a1 a2 a3 a4 e => up c o a1 (e2 c o a1 a2 a3 a4 e)
  · -- the tuple is out
    replace hzG : ZAt G z TI TO f0 true := hzG
    replace sG : Heap.SameBut z H G := sG
    simp only [Bool.false_eq_true, if_false]
    refine wpAny_bind ?_
    rw [← Array.forIn_toList]
    simp only [List.forIn_cons, List.forIn_nil]
    refine wpAny_bind (wpAny_bind (wpAny_holding ?_))
    show wpAny _ _ (Builtin.SmallTypes.nextOf (.ref i1) >>= _) _ _ ⟨G, gn, dr, u0, os⟩
    refine wpAny_bind (D1.item i _ _ _ lt1 (D1.over t1 sG S.zf1) fun x1 p1 u1 y1 m1 k1 => wpAny_pure (wpAny_pure ?_))
    replace k1 : Heap.SameBut i1 G p1 := k1
    refine wpAny_bind (wpAny_bind (wpAny_holding ?_))
    show wpAny _ _ (Builtin.SmallTypes.nextOf (.ref i2) >>= _) _ _ ⟨p1, gn, dr, u1, os⟩
    refine wpAny_bind (D2.item i _ _ _ lt2 (D2.over (D2.over t2 sG S.zf2) k1 S.sep1_2) fun x2 p2 u2 y2 m2 k2 => wpAny_pure (wpAny_pure (wpAny_pure ?_)))
    replace k2 : Heap.SameBut i2 p1 p2 := k2
    show wpAny _ _ (newTuple [x1, x2] >>= _) _ _ _
    refine wpAny_bind (wpAny_newTuple ?_)
    have e0 : p2.objs.size = H.objs.size := by rw [k2.1, k1.1, sG.1]
    have e1 : ZAt p2 z TI TO f0 true := k2.extBut _ _ S.zi2 (k1.extBut _ _ S.zi1 hzG)
    have e2 : ∀ c o, c ≠ z → c ≠ i1 → c ≠ i2 → H.get? c = some o → p2.get? c = some o := fun c o a1 a3 a4 e => k2.extBut _ _ a4 (k1.extBut _ _ a3 (sG.extBut _ _ a1 e))
    have e3 : St1 (i + 1) p2 := D1.over m1 k2 S.sep2_1
    have e7 : IsPair (p2.push { cls := .type "tuple", data := .seq #[x1, x2] }) p2.objs.size x1 x2 := Heap.get?_push_size _ rfl
    have e8 : (p2.push { cls := .type "tuple", data := .seq #[x1, x2] }).objs.size = p2.objs.size + 1 := Heap.size_push ..
    refine wpAny_pure ⟨_, rfl, ?_⟩
    show Q (.ref p2.objs.size) ⟨p2.push { cls := .type "tuple", data := .seq #[x1, x2] }, gn, dr, u2, os⟩
    rw [e0] at e7 e8 ⊢
    have up : ∀ c o, p2.get? c = some o → (p2.push { cls := .type "tuple", data := .seq #[x1, x2] }).get? c = some o := fun c o e => Heap.get?_push_of_some _ e
    exact hQ x1 x2 _ u2 _ _ _ _ y1 y2 hf (up _ _ e1) (up _ _ (e2 _ _ S.TOz S.Ti1 S.Ti2 hO)) (D1.frame _ _ _ e3 fun b hb o e => up b o e) (D2.frame _ _ _ m2 fun b hb o e => up b o e) e7 e8 fun c o a1 a2 a3 a4 e => up c o (e2 c o a1 a3 a4 e)
theorem z_end {Q : Fin → Shared → Prop} (S : ZipSep2 z TI TO i1 i2 fp1 fp2) (D1 : Draws prog w A i1 fp1 n1 P1 St1) (D2 : Draws prog w A i2 fp2 n2 P2 St2)
    (hf : ZF f0) (hz : ZAt s.heap z TI TO f0 f1) (hI : IsPair s.heap TI (.ref i1) (.ref i2)) {b1 b2 : Value} (hO : IsPair s.heap TO b1 b2) (t1 : St1 i s.heap) (t2 : St2 i s.heap) (le1 : i ≤ n1) (le2 : i ≤ n2) (hend : i = n1 ∨ i = n2)
    (hE : ∀ h' tk e, (∀ c o, c ≠ z → c ≠ TO → c ≠ i1 → c ≠ i2 → s.heap.get? c = some o → h'.get? c = some o) → (∃ o, h'.get? e = some o ∧ o.cls = .type "StopIteration") → E (.ref e) { s with heap := h', toks := tk }) :
    wpAny (model prog w) A (Builtin.«zip.__next__» ⟨[.ref z], []⟩) Q E s := by
  obtain ⟨H, gn, dr, u0, os⟩ := s
  show wpAny _ _ (field (.ref z) 2 >>= _) _ _ _
  refine wpAny_bind (wpAny_field hz rfl (x := .bool false) rfl ?_)
  show wpAny _ _ (field (.ref z) 3 >>= _) _ _ _
  refine wpAny_bind (wpAny_field hz rfl (x := .ref TI) rfl ?_)
  refine wpAny_bind (wpAny_seqItems hI rfl ?_)
  show wpAny _ _ (Builtin.SmallTypes.ownedTupleIsFree (.ref z) >>= _) _ _ _
  refine wpAny_bind (z_free hf hz ?_ fun G hzG sG => ?_)
  · simp only [if_true]
    refine wpAny_bind (wpAny_rule ?_)
    refine wpAny_bind (wpAny_field hz rfl (x := .ref TO) rfl ?_)
    refine wpAny_bind (wpAny_setField_rec hz (by simp) fun G0 z0 s0 => ?_)
    replace z0 : ZAt G0 z TI TO .ellipsis f1 := z0
    replace s0 : Heap.SameBut z H G0 := s0
    refine wpAny_bind ?_
    simp only [List.zipIdx_cons, List.zipIdx_nil, List.forIn_cons, List.forIn_nil]
    refine wpAny_bind (wpAny_bind (wpAny_onRaise ?_))
    show wpAny _ _ (Builtin.SmallTypes.nextOf (.ref i1) >>= _) _ _ ⟨G0, gn, dr, u0, os⟩
    by_cases lt1 : i < n1
    · refine wpAny_bind (D1.item i _ _ _ lt1 (D1.over t1 s0 S.zf1) fun x1 p1 u1 y1 m1 k1 => wpAny_pure ?_)
      replace k1 : Heap.SameBut i1 G0 p1 := k1
      have v1 : IsPair p1 TO b1 b2 := k1.extBut _ _ S.Ti1 (s0.extBut _ _ S.TOz hO)
      refine wpAny_bind (wpAny_seqItems (s := ⟨p1, gn, dr, u1, os⟩) v1 rfl ?_)
      refine wpAny_bind (updateSeq_IsTupOf2 (s := ⟨p1, gn, dr, u1, os⟩) v1 fun G1 w1 s1 => ?_)
      replace w1 : IsPair G1 TO x1 b2 := w1
      replace s1 : Heap.SameBut TO p1 G1 := s1
      refine wpAny_bind (wpAny_letGo (wpAny_pure ?_))
      refine wpAny_bind (wpAny_bind (wpAny_onRaise ?_))
      have en2 : i = n2 := by omega
      show wpAny _ _ (Builtin.SmallTypes.nextOf (.ref i2) >>= _) _ _ ⟨G1, gn, dr, u1, os⟩
      refine wpAny_bind (D2.done ⟨G1, gn, dr, u1, os⟩ _ _ (by rw [← en2]; exact D2.over (D2.over (D2.over t2 s0 S.zf2) k1 S.sep1_2) s1 S.Tf2) fun q e a1 a2 => ?_)
      replace a1 : Heap.ExtBut i2 G1 q := a1
      obtain ⟨oe, r1, r2⟩ := a2
      replace r1 : q.get? e = some oe := r1
      have hq : ZAt q z TI TO .ellipsis f1 := a1 _ _ S.zi2 (s1.extBut _ _ S.TOz.symm (k1.extBut _ _ S.zi1 z0))
      have ne : e ≠ z := fun x => by
        subst x
        rw [hq] at r1
        cases r1
        simp at r2
      refine wpAny_setField_rec (s := ⟨q, gn, dr, u1, os⟩) hq (by simp) fun q' _ sq => ?_
      replace sq : Heap.SameBut z q q' := sq
      exact hE q' u1 e (fun c o c1 c2 c3 c4 x => sq.extBut _ _ c1 (a1 _ _ c4 (s1.extBut _ _ c2 (k1.extBut _ _ c3 (s0.extBut _ _ c1 x))))) ⟨oe, sq.extBut _ _ ne r1, r2⟩
    · have en1 : i = n1 := by omega
      refine wpAny_bind (D1.done ⟨G0, gn, dr, u0, os⟩ _ _ (by rw [← en1]; exact D1.over t1 s0 S.zf1) fun q e a1 a2 => ?_)
      replace a1 : Heap.ExtBut i1 G0 q := a1
      obtain ⟨oe, r1, r2⟩ := a2
      replace r1 : q.get? e = some oe := r1
      have hq : ZAt q z TI TO .ellipsis f1 := a1 _ _ S.zi1 z0
      have ne : e ≠ z := fun x => by
        subst x
        rw [hq] at r1
        cases r1
        simp at r2
      refine wpAny_setField_rec (s := ⟨q, gn, dr, u0, os⟩) hq (by simp) fun q' _ sq => ?_
      replace sq : Heap.SameBut z q q' := sq
      exact hE q' u0 e (fun c o c1 c2 c3 c4 x => sq.extBut _ _ c1 (a1 _ _ c3 (s0.extBut _ _ c1 x))) ⟨oe, sq.extBut _ _ ne r1, r2⟩
  · replace hzG : ZAt G z TI TO f0 true := hzG
    replace sG : Heap.SameBut z H G := sG
    simp only [Bool.false_eq_true, if_false]
    refine wpAny_bind ?_
    rw [← Array.forIn_toList]
    simp only [List.forIn_cons, List.forIn_nil]
    refine wpAny_bind (wpAny_bind (wpAny_holding ?_))
    show wpAny _ _ (Builtin.SmallTypes.nextOf (.ref i1) >>= _) _ _ ⟨G, gn, dr, u0, os⟩
    by_cases lt1 : i < n1
    · refine wpAny_bind (D1.item i _ _ _ lt1 (D1.over t1 sG S.zf1) fun x1 p1 u1 y1 m1 k1 => wpAny_pure (wpAny_pure ?_))
      replace k1 : Heap.SameBut i1 G p1 := k1
      refine wpAny_bind (wpAny_bind (wpAny_holding ?_))
      have en2 : i = n2 := by omega
      show wpAny _ _ (Builtin.SmallTypes.nextOf (.ref i2) >>= _) _ _ ⟨p1, gn, dr, u1, os⟩
      refine wpAny_bind (D2.done ⟨p1, gn, dr, u1, os⟩ _ _ (by rw [← en2]; exact D2.over (D2.over t2 sG S.zf2) k1 S.sep1_2) fun q e a1 a2 => ?_)
      replace a1 : Heap.ExtBut i2 p1 q := a1
      exact hE q u1 e (fun c o c1 c2 c3 c4 x => a1 _ _ c4 (k1.extBut _ _ c3 (sG.extBut _ _ c1 x))) a2
    · have en1 : i = n1 := by omega
      refine wpAny_bind (D1.done ⟨G, gn, dr, u0, os⟩ _ _ (by rw [← en1]; exact D1.over t1 sG S.zf1) fun q e a1 a2 => ?_)
      replace a1 : Heap.ExtBut i1 G q := a1
      exact hE q u0 e (fun c o c1 c2 c3 c4 x => a1 _ _ c3 (sG.extBut _ _ c1 x)) a2
/-- the next of an enumerate over anything that draws -/
theorem e_next {e it : Addr} {i : Nat} {old : Value} {W : Value → Heap → Prop} {Q : Value → Shared → Prop} (he : IsEnum s.heap e it i old)
    (draw : ∀ Q' : Value → Shared → Prop, (∀ x h' tk, W x h' → Q' x { s with heap := h', toks := tk }) → wpAny (model prog w) A (Builtin.SmallTypes.nextOf (.ref it)) Q' E s)
    (hW : ∀ x h', W x h' → IsEnum h' e it i old)
    (hQ : ∀ x G h' tk, W x G → IsEnumOut h' e it ((i : Int) + 1) x G.objs.size → IsPair h' G.objs.size (.int i tk) x → h'.objs.size = G.objs.size + 1 →
      (∀ b o, b ≠ e → G.get? b = some o → h'.get? b = some o) → Q (.ref G.objs.size) { s with heap := h', toks := tk + 1 }) :
    wpAny (model prog w) A (Builtin.«enumerate.__next__» ⟨[.ref e], []⟩) (fun fin s' => ∃ v, fin = .done (.ret v) ∧ Q v s') E s := by
  obtain ⟨H, gn, dr, u0, os⟩ := s
  show wpAny _ _ (field (.ref e) 2 >>= _) _ _ _
  refine wpAny_bind (wpAny_field he rfl (x := .ref it) rfl ?_)
  refine wpAny_bind (draw _ fun x G u1 y => ?_)
  have e1 := hW x G y
  show wpAny _ _ (field (.ref e) 3 >>= _) _ _ ⟨G, gn, dr, u1, os⟩
  refine wpAny_bind (wpAny_field e1 rfl (x := rawInt i) rfl ?_)
  show wpAny _ _ (field (.ref e) 4 >>= _) _ _ ⟨G, gn, dr, u1, os⟩
  refine wpAny_bind (wpAny_field e1 rfl (x := .none) rfl ?_)
  show wpAny _ _ (mkInt i >>= _) _ _ ⟨G, gn, dr, u1, os⟩
  refine wpAny_bind (wpAny_mkInt ?_)
  show wpAny _ _ (setField (.ref e) 3 (rawInt ((i : Int) + 1)) >>= _) _ _ ⟨G, gn, dr, u1 + 1, os⟩
  refine wpAny_bind (wpAny_setField_rec e1 (by simp) fun G2 e2 s2 => ?_)
  replace s2 : Heap.SameBut e G G2 := s2
  replace e2 : IsEnum G2 e it ((i : Int) + 1) old := e2
  show wpAny _ _ (setField (.ref e) 4 .none >>= _) _ _ ⟨G2, gn, dr, u1 + 1, os⟩
  refine wpAny_bind (wpAny_setField_rec e2 (by simp) fun G3 e3 s3 => ?_)
  replace s3 : Heap.SameBut e G2 G3 := s3
  replace e3 : IsEnum G3 e it ((i : Int) + 1) old := e3
  show wpAny _ _ (newTuple [.int i u1, x] >>= _) _ _ ⟨G3, gn, dr, u1 + 1, os⟩
  refine wpAny_bind (wpAny_newTuple ?_)
  have e4 : IsEnum (G3.push { cls := .type "tuple", data := .seq #[.int i u1, x] }) e it ((i : Int) + 1) old := Heap.get?_push_of_some _ e3
  have sz : G3.objs.size = G.objs.size := by rw [s3.1, s2.1]
  have el : e < G.objs.size := Heap.lt_size e1
  have t4 : IsPair (G3.push { cls := .type "tuple", data := .seq #[.int i u1, x] }) G.objs.size (.int i u1) x := by
    rw [← sz]
    exact Heap.get?_push_size _ rfl
  have z4 : (G3.push { cls := .type "tuple", data := .seq #[.int i u1, x] }).objs.size = G.objs.size + 1 := by rw [Heap.size_push, sz]
  have k4 : ∀ b o, b ≠ e → G.get? b = some o → (G3.push { cls := .type "tuple", data := .seq #[.int i u1, x] }).get? b = some o := fun b o a1 a2 => Heap.get?_push_of_some _ (s3.extBut b o a1 (s2.extBut b o a1 a2))
  show wpAny _ _ (Builtin.SmallTypes.ownedTupleIsFree (.ref e) >>= _) _ _ ⟨G3.push { cls := .type "tuple", data := .seq #[.int i u1, x] }, gn, dr, u1 + 1, os⟩
  rw [sz]
  generalize G3.push { cls := .type "tuple", data := .seq #[.int i u1, x] } = G4 at e4 t4 z4 k4
  refine wpAny_bind ?_
  unfold Builtin.SmallTypes.ownedTupleIsFree
  refine wpAny_bind (wpAny_field e4 rfl (x := .none) rfl (wpAny_pure ?_))
  simp only [if_true]
  refine wpAny_bind (wpAny_rule ?_)
  refine wpAny_bind (wpAny_field e4 rfl (x := old) rfl ?_)
  refine wpAny_bind (wpAny_setField_rec e4 (by simp) fun G5 e5 s5 => ?_)
  replace s5 : Heap.SameBut e G4 G5 := s5
  replace e5 : IsEnum G5 e it ((i : Int) + 1) x := e5
  show wpAny _ _ (Builtin.SmallTypes.ownedTupleHandOut (.ref e) (.ref G.objs.size) >>= _) _ _ ⟨G5, gn, dr, u1 + 1, os⟩
  refine wpAny_bind ?_
  unfold Builtin.SmallTypes.ownedTupleHandOut
  refine wpAny_bind (wpAny_setField_rec e5 (by simp) fun G6 e6 s6 => ?_)
  replace s6 : Heap.SameBut e G5 G6 := s6
  replace e6 : IsEnumOut G6 e it ((i : Int) + 1) x G.objs.size := e6
  refine wpAny_setField_rec e6 (by simp) fun G7 e7 s7 => ?_
  replace s7 : Heap.SameBut e G6 G7 := s7
  replace e7 : IsEnumOut G7 e it ((i : Int) + 1) x G.objs.size := e7
  have up : ∀ b o, b ≠ e → G4.get? b = some o → G7.get? b = some o := fun b o a1 a2 => s7.extBut b o a1 (s6.extBut b o a1 (s5.extBut b o a1 a2))
  refine wpAny_bind (wpAny_letGo (wpAny_pure ⟨_, rfl, hQ x G G7 u1 y e7 (up _ _ (Nat.ne_of_gt el) t4) ?_ fun b o a1 a2 => up b o a1 (k4 b o a1 a2)⟩))
  rw [s7.1, s6.1, s5.1, z4]
end
/-! ### the turns -/
def ItezK (K : PySem.W.Frag) (k1 k2 : SK) (a b : Addr) : L2.It :=
  ⟨fun i H => ∃ (xs ys : List V) (x y : V), SqK K k1 H a xs ∧ SqK K k2 H b ys ∧ xs[i]? = some x ∧ ys[i]? = some y,
    fun i H v H' => ∃ (T1 T2 : Addr) (x y : V), v = .ref T2 ∧ H T1 = none ∧ upd H T1 (.tup [x, y]) T2 = none ∧ H' = upd (upd H T1 (.tup [x, y])) T2 (.tup [.int (i : Nat), .ref T1]) ∧ (∀ xs, SqK K k1 H a xs → xs[i]? = some x) ∧ ∀ ys, SqK K k2 H b ys → ys[i]? = some y,
    fun i H => ∃ xs ys : List V, SqK K k1 H a xs ∧ SqK K k2 H b ys ∧ i ≤ xs.length ∧ i ≤ ys.length ∧ (xs.length = i ∨ ys.length = i)⟩
theorem turn_ezipK {P : Program} {w : World} {K : PySem.W.Frag} {k1 k2 : SK} {elts : List Expr} {kk : Nat} {tpos : Pos} {a b e z TI TO i1 i2 : Addr} (D : ZipApart z TI TO i1 i2 a b) (hn : e ≠ z ∧ e ≠ TI ∧ e ≠ TO ∧ e ≠ i1 ∧ e ≠ i2 ∧ e ≠ a ∧ e ≠ b) :
    Turn P w K (.Tuple elts kk tpos) (ItezK K k1 k2 a b) [e, z, TI, TO, i1, i2] e (fun i h => (∃ old, IsEnum h e z ((i : Nat) : Int) old) ∧ (∃ f0 f1, ZF f0 ∧ ZAt h z TI TO f0 f1) ∧ IsPair h TI (.ref i1) (.ref i2) ∧ (∃ x y, IsPair h TO x y) ∧ itK k1 h i1 a i ∧ itK k2 h i2 b i) where
  mem := by simp
  obj := fun i h st c hc => by
    obtain ⟨⟨old, he⟩, ⟨f0, f1, _, hz⟩, hI, ⟨x, y, hO⟩, h1, h2⟩ := st
    have e' : c = e ∨ c = z ∨ c = TI ∨ c = TO ∨ c = i1 ∨ c = i2 := by simpa using hc
    rcases e' with q | q | q | q | q | q
    · rw [q]; exact ⟨_, he, fun v q => nomatch q⟩
    · rw [q]; exact ⟨_, hz, fun v q => nomatch q⟩
    · rw [q]; exact ⟨_, hI, fun v q => nomatch q⟩
    · rw [q]; exact ⟨_, hO, fun v q => nomatch q⟩
    · rw [q]; exact itK_obj h1
    · rw [q]; exact itK_obj h2
  keep := fun i h h' st k => by
    obtain ⟨⟨old, he⟩, ⟨f0, f1, q0, hz⟩, hI, ⟨x, y, hO⟩, h1, h2⟩ := st
    exact ⟨⟨old, k e (by simp) _ he⟩, ⟨f0, f1, q0, k z (by simp) _ hz⟩, k TI (by simp) _ hI, ⟨x, y, k TO (by simp) _ hO⟩, itK_at h1 fun o q => k i1 (by simp) o q, itK_at h2 fun o q => k i2 (by simp) o q⟩
  item := by
    intro X hP hw hK hc i pins s σ H E I hf st hg
    subst hP hw hK
    obtain ⟨⟨old, he⟩, ⟨f0, f1, q0, hz⟩, hI, ⟨x0, y0, hO⟩, h1, h2⟩ := st
    obtain ⟨xs, ys, x, y, hqx, hqy, hx, hy⟩ := hg
    obtain ⟨its, rv, p, _⟩ := seqK I hqx
    obtain ⟨its2, rv2, p2, _⟩ := seqK I hqy
    obtain ⟨u, hu, ru⟩ := rv.get hx
    obtain ⟨u2, hu2, ru2⟩ := rv2.get hy
    have n1 := (List.getElem?_eq_some_iff.mp hu).1
    have n2 := (List.getElem?_eq_some_iff.mp hu2).1
    have S := apart_sep D D.l2i1.symm D.l1i2.symm
    obtain ⟨ez, eTI, eTO, ei1, ei2, ea, eb⟩ := hn
    have hh : X.A.handled = none := I.ok.hd hc
    have lt : ∀ {c : Addr} {o : Obj}, s.heap.get? c = some o → c < s.heap.objs.size := fun q => Heap.lt_size q
    have li1 : i1 < s.heap.objs.size := by obtain ⟨_, q, _⟩ := itK_obj h1; exact lt q
    have li2 : i2 < s.heap.objs.size := by obtain ⟨_, q, _⟩ := itK_obj h2; exact lt q
    have hTy : s.TypeIs (.ref e) "enumerate" := ⟨_, he, rfl⟩
    have hTz : s.TypeIs (.ref z) "zip" := ⟨_, hz, rfl⟩
    unfold pyNext
    refine wpAny_bind (wpAny_attempt (wpAny_callSpecial?_slot (name := Str.ofString "__next__") hTy F.slot_enumerate_next (wpAny_call_entry F.slot_enumerate_next hTy F.entry_enumerate_next ?_ (F.args_enumerate_next_1 _))))
    refine e_next (W := fun v G => ∃ x1 x2 g0 g1 c1 c2, v = .ref s.heap.objs.size ∧ its.toArray[i]? = some x1 ∧ its2.toArray[i]? = some x2 ∧ ZF g0 ∧ ZAt G z TI TO g0 g1 ∧ IsPair G TO c1 c2 ∧ (itK k1 G i1 a (i + 1) ∧ isK k1 G a its.toArray) ∧ (itK k2 G i2 b (i + 1) ∧ isK k2 G b its2.toArray) ∧
      IsPair G s.heap.objs.size x1 x2 ∧ G.objs.size = s.heap.objs.size + 1 ∧ ∀ c o, c ≠ z → c ≠ TO → c ≠ i1 → c ≠ i2 → s.heap.get? c = some o → G.get? c = some o) he (fun Q' hQ' => ?_) (fun v G hG => ?_) fun v G h' tk hG ho hp hsz up => wpAny_pure ?_
    · unfold Builtin.SmallTypes.nextOf
      refine wpAny_bind (wpAny_callSpecial?_slot (name := Str.ofString "__next__") hTz F.slot_zip_next (wpAny_call_entry F.slot_zip_next hTz F.entry_zip_next ?_ (F.args_zip_next_1 _)))
      refine z_next S (drawsK k1 (show X.A.in1.in1.handled = none from hh) i1 a D.l1i1 its.toArray) (drawsK k2 (show X.A.in1.in1.handled = none from hh) i2 b D.l2i2 its2.toArray) q0 hz hI hO ⟨h1, p⟩ ⟨h2, p2⟩ (by simpa using n1) (by simpa using n2) fun x1 x2 h' tk g0 g1 c1 c2 a1 a2 a3 a4 a5 a6 a7 a8 a9 a10 => ?_
      exact wpAny_pure (hQ' _ h' tk ⟨x1, x2, g0, g1, c1, c2, rfl, a1, a2, a3, a4, a5, a6, a7, a8, a9, a10⟩)
    · obtain ⟨x1, x2, g0, g1, c1, c2, _, _, _, _, _, _, _, _, _, _, k⟩ := hG
      exact k e _ ez eTO ei1 ei2 he
    · obtain ⟨x1, x2, g0, g1, c1, c2, rfl, y1, y2, q1, z1, o1, ⟨m1, _⟩, ⟨m2, _⟩, t1, sz, k⟩ := hG
      have e1 : x1 = u := by
        have q : its[i]? = some x1 := by simpa using y1
        rw [hu] at q
        exact (Option.some.inj q).symm
      have e2 : x2 = u2 := by
        have q : its2[i]? = some x2 := by simpa using y2
        rw [hu2] at q
        exact (Option.some.inj q).symm
      subst e1 e2
      refine ⟨_, rfl, wpAny_letOwnedTupleGo_enum (s := { s with heap := h', toks := tk + 1 }) ho fun h'' hE sb => ?_⟩
      replace sb : Heap.SameBut e h' h'' := sb
      have le := lt he
      have fin : ∀ (c : Addr) (o : Obj), c ≠ e → G.get? c = some o → h''.get? c = some o := fun c o n1 q => sb.extBut _ _ n1 (up c o n1 q)
      have p2 : IsPair h'' G.objs.size (.int i tk) (.ref s.heap.objs.size) := sb.extBut _ _ (Nat.ne_of_gt (by rw [sz]; exact Nat.lt_succ_of_lt le)) hp
      have new1 : ObjOk X.prog X.w (upd H s.heap.objs.size (.tup [x, y])) G s.heap.objs.size (.tup [x, y]) :=
        ⟨by show 2 ≤ sizeLine; decide, [x1, x2], .cons ru (.cons ru2 .nil), ⟨_, t1, rfl, _, rfl⟩⟩
      have I1 : Inv X pins σ (upd H s.heap.objs.size (.tup [x, y])) { s with heap := G, toks := tk } :=
        I.turnedNew (ch := [e, z, TI, TO, i1, i2]) (fun c o hb q => k c o (fun q' => hb (by simp [q'])) (fun q' => hb (by simp [q'])) (fun q' => hb (by simp [q'])) (fun q' => hb (by simp [q'])) q) hf (Nat.le_refl _) new1
      have hT1 : H s.heap.objs.size = none := I.hok.fresh (Nat.le_refl _)
      have hT2 : upd H s.heap.objs.size (.tup [x, y]) G.objs.size = none := by
        rw [upd_ne (by rw [sz]; exact Nat.succ_ne_self _)]
        exact I.hok.fresh (by rw [sz]; exact Nat.le_succ _)
      have new2 : ObjOk X.prog X.w (upd (upd H s.heap.objs.size (.tup [x, y])) G.objs.size (.tup [.int (i : Nat), .ref s.heap.objs.size])) h'' G.objs.size (.tup [.int (i : Nat), .ref s.heap.objs.size]) :=
        ⟨by show 2 ≤ sizeLine; decide, [.int i tk, .ref s.heap.objs.size], .cons ⟨_, rfl⟩ (.cons rfl .nil), ⟨_, p2, rfl, _, rfl⟩⟩
      have hf2 : ∀ c ∈ [e, z, TI, TO, i1, i2], c < s.heap.objs.size := fun c hc => by
        have e' : c = e ∨ c = z ∨ c = TI ∨ c = TO ∨ c = i1 ∨ c = i2 := by simpa using hc
        rcases e' with q | q | q | q | q | q
        · rw [q]; exact le
        · rw [q]; exact lt hz
        · rw [q]; exact lt hI
        · rw [q]; exact lt hO
        · rw [q]; exact li1
        · rw [q]; exact li2
      have I2 : Inv X pins σ (upd (upd H s.heap.objs.size (.tup [x, y])) G.objs.size (.tup [.int (i : Nat), .ref s.heap.objs.size])) { s with heap := h'', toks := tk + 1 } := by
        refine I1.turnedNew (ch := [e, z, TI, TO, i1, i2]) (t' := tk + 1) (fun c o hb q => fin c o (fun q' => hb (by simp [q'])) q) (fun c hc => ?_) (Nat.le_refl _) new2
        obtain ⟨b1, b2⟩ := hf c hc
        exact ⟨by rw [upd_ne (Nat.ne_of_lt (hf2 c hc))]; exact b1, b2⟩
      refine ⟨.ref G.objs.size, _, I2, rfl, ⟨s.heap.objs.size, G.objs.size, x, y, rfl, hT1, hT2, rfl, fun l hl => by rw [seqK_inj I hl hqx]; exact hx, fun l hl => by rw [seqK_inj I hl hqy]; exact hy⟩, ⟨⟨.ref s.heap.objs.size, ?_⟩, ⟨g0, g1, q1, fin _ _ ez.symm z1⟩, fin _ _ eTI.symm (k _ _ D.TIz D.TITO D.TIi1 D.TIi2 hI), ⟨c1, c2, fin _ _ eTO.symm o1⟩, itK_at m1 fun o q => fin _ _ ei1.symm q, itK_at m2 fun o q => fin _ _ ei2.symm q⟩, fun c hcm => ?_⟩
      · have e1 : ((i + 1 : Nat) : Int) = (i : Int) + 1 := by omega
        rw [e1]
        exact hE
      · have l1 := hf2 c hcm
        rw [upd_ne (Nat.ne_of_lt (by rw [sz]; exact Nat.lt_succ_of_lt l1)), upd_ne (Nat.ne_of_lt l1)]
        exact (hf c hcm).1
  done := by
    intro X hP hw hK hc i pins s σ H E I hf st hg
    subst hP hw hK
    obtain ⟨⟨old, he⟩, ⟨f0, f1, q0, hz⟩, hI, ⟨x0, y0, hO⟩, h1, h2⟩ := st
    obtain ⟨xs, ys, hqx, hqy, le1, le2, hend⟩ := hg
    obtain ⟨its, rv, p, _⟩ := seqK I hqx
    obtain ⟨its2, rv2, p2, _⟩ := seqK I hqy
    have l1 := rv.length
    have l2 := rv2.length
    have S := apart_sep D D.l2i1.symm D.l1i2.symm
    have hh : X.A.handled = none := I.ok.hd hc
    have hTy : s.TypeIs (.ref e) "enumerate" := ⟨_, he, rfl⟩
    have hTz : s.TypeIs (.ref z) "zip" := ⟨_, hz, rfl⟩
    unfold pyNext
    refine wpAny_bind (wpAny_attempt (wpAny_callSpecial?_slot (name := Str.ofString "__next__") hTy F.slot_enumerate_next (wpAny_call_entry F.slot_enumerate_next hTy F.entry_enumerate_next ?_ (F.args_enumerate_next_1 _))))
    show wpAny _ _ (field (.ref e) 2 >>= _) _ _ _
    refine wpAny_bind (wpAny_field he rfl (x := .ref z) rfl ?_)
    unfold Builtin.SmallTypes.nextOf
    refine wpAny_bind (wpAny_bind (wpAny_callSpecial?_slot (name := Str.ofString "__next__") hTz F.slot_zip_next (wpAny_call_entry F.slot_zip_next hTz F.entry_zip_next ?_ (F.args_zip_next_1 _))))
    refine z_end S (drawsK k1 (show X.A.in1.in1.handled = none from hh) i1 a D.l1i1 its.toArray) (drawsK k2 (show X.A.in1.in1.handled = none from hh) i2 b D.l2i2 its2.toArray) q0 hz hI hO ⟨h1, p⟩ ⟨h2, p2⟩ (by simp; omega) (by simp; omega) (by simp; omega) fun h' tk er k hx' => ?_
    obtain ⟨o, ho, hcls⟩ := hx'
    refine wpAny_bind (wpAny_isInstance (T := "StopIteration") (b := true) ⟨o, ho, hcls⟩ isSubtype_stop ?_)
    refine wpAny_pure ⟨rfl, ?_⟩
    exact I.turnedL (ch := [e, z, TI, TO, i1, i2]) (fun c o hb q => k c o (fun q' => hb (by simp [q'])) (fun q' => hb (by simp [q'])) (fun q' => hb (by simp [q'])) (fun q' => hb (by simp [q'])) q) hf
  self := fun A i s Q E st h => let ⟨⟨_, he⟩, _⟩ := st; wpAny_pyIter_enum he h
/-! ### the beginning -/
end NB
namespace PySem
open PySem.Sem (wp)
set_option maxHeartbeats 1000000 in
theorem nb_enumerate_newZ {z TI TO : Addr} :
    Meets (Builtin.«enumerate.__new__» ⟨[.type "enumerate", .ref z], []⟩) (fun _ R s => NB.ZAt s.heap z TI TO .none false ∧
      R (.ok (.ret (.ref s.heap.objs.size))) { s with heap := s.heap.push { cls := .type "enumerate", data := .fields #[.none, .bool false, .ref z, rawInt 0, .none, .none] } }) :=
  .of_wp fun prog w A R s h => by
    obtain ⟨hp, g, d, tk, os⟩ := s; obtain ⟨h1, h⟩ := h
    have hsub := sub_enumerate
    have q1 : ∀ {A' : Around} {E : Value → Shared → Prop} {Q : Value → Shared → Prop}, Q (.ref z) ⟨hp, g, d, tk, os⟩ → wpAny (model prog w) A' (pyIter (.ref z)) Q E ⟨hp, g, d, tk, os⟩ :=
      fun q => wpAny_pyIter_zip h1 q
    wp_walk using q1
    refine wpAny_stack_any fun st => wpAny_pure ?_
    split
    · rename_i c _ _ _ _ _
      cases (c == Value.type "enumerate")
      · wp_walk using q1
        exact ⟨_, rfl, h⟩
      · wp_walk using q1
        exact ⟨_, rfl, h⟩
    · wp_walk using q1
      exact ⟨_, rfl, h⟩
section
variable {prog : Program} {w : World} {A : Around} {E : Value → Shared → Prop} {s : Shared}
theorem nb_ezip_begins {z TI TO : Addr} {Q : Value → Shared → Prop} (h1 : NB.ZAt s.heap z TI TO .none false)
    (h : ∀ h', IsEnum h' s.heap.objs.size z 0 .none → h'.objs.size = s.heap.objs.size + 1 → (∀ b o, s.heap.get? b = some o → h'.get? b = some o) → Q (.ref s.heap.objs.size) { s with heap := h' }) :
    wpAny (model prog w) A (call (.type "enumerate") [.ref z]) Q E s := by
  refine callType_new F.called_enumerate (by decide) (F.nb_typeCall_enumerate_1 _) (F.nb_newCall_enumerate_1 _) (fun obj => F.args_object_init_2 obj _) F.entry_enumerate_new nb_enumerate_newZ ⟨h1, ?_⟩
  have he : IsEnum (s.heap.push { cls := .type "enumerate", data := .fields #[.none, .bool false, .ref z, rawInt 0, .none, .none] }) s.heap.objs.size z 0 .none := Heap.get?_push_size s.heap rfl
  exact ⟨⟨_, he, rfl⟩, h _ he (by rw [Heap.size_push]) fun b o x => Heap.get?_push_of_some _ x⟩
end
end PySem
namespace NB
open PySem PySem.Spec L2
open PyProof.Rows hiding St
def iEzipK (K : PySem.W.Frag) (ta : TA) : TI := fun σ H R => ta σ H fun vs H1 => ∃ k1 k2 a b xs ys, vs = [.ref a, .ref b] ∧ SqK K k1 H1 a xs ∧ SqK K k2 H1 b ys ∧ R (ItezK K k1 k2 a b) H1
theorem e_apart {N M a b : Nat} (h : M = N + 5) (ha : a < N) (hb : b < N) : M ≠ N + 4 ∧ M ≠ N + 2 ∧ M ≠ N + 3 ∧ M ≠ N ∧ M ≠ N + 1 ∧ M ≠ a ∧ M ≠ b := by
  refine ⟨?_, ?_, ?_, ?_, ?_, ?_, ?_⟩ <;> omega
theorem e_le {N M c : Nat} (h : M = N + 5) (e : c = M ∨ c = N + 4 ∨ c = N + 2 ∨ c = N + 3 ∨ c = N ∨ c = N + 1) : N ≤ c := by omega
theorem pi_ezipK {X : Cx} {e e2 : Expr} {ta : TA} {p p3 pos pos2 tpos : Pos} {elts : List Expr} {kk : Nat} (hg0 : Gl X "enumerate") (hm0 : X.mg "enumerate" = none) (hg : Gl X "zip") (hm : X.mg "zip" = none) (ha : PA X [e, e2] ta)
    (hs : starEach [e, e2] X.env = (false, eval e X.env) :: starEach [e2] X.env) (hpl : (backTo pos2 (starEach [e2] X.env)).any (·.1) = false) :
    PI X (.Tuple elts kk tpos) (.Call (.Name "enumerate" p) [.Call (.Name "zip" p3) [e, e2] [] pos2] [] pos) (iEzipK X.K ta) := by
  refine ⟨fun pins s σ H R I h => ?_⟩
  refine Call_ (ld_blt I hg0 hm0 boot_enumerate (PyProof.Rows.callWith_type1 ?_ rfl rfl))
  show wpAny _ _ (spliced [(false, eval (.Call (.Name "zip" p3) [e, e2] [] pos2) X.env)]) _ _ s
  refine Calls.spliced_cons (Call_ (ld_blt I hg hm PyProof.Rows.boot_zip (PyProof.Rows.callWith_type1 (thn (ha.run pos2 pins s σ H _ I h) fun us s1 ⟨vs, H1, I1, r1, q1⟩ => ?_) hs hpl)))
  obtain ⟨k1, k2, a, b, xs, ys, ex, hqx, hqy, q⟩ := q1
  subst ex
  cases r1 with
  | cons r rr =>
    cases rr with
    | cons r' rr =>
      cases rr
      cases r
      cases r'
      obtain ⟨its, rv, p1, _⟩ := seqK I1 hqx
      obtain ⟨its2, rv2, p2, _⟩ := seqK I1 hqy
      refine zip_begins2 (beginsK k1 a its.toArray) (beginsK k2 b its2.toArray) p1 p2 fun h' hz hTI hTO h1 h2 hsz hk => Calls.spliced_nil ?_
      refine nb_ezip_begins (s := { s1 with heap := h' }) hz fun h'' he hsz2 hk2 => wpAny_pyIter_enum he ?_
      have I2 : Inv X pins σ H1 { s1 with heap := h'' } := I1.kept (t' := s1.toks) fun c o q => hk2 c o (hk c o q)
      have l1 := isK_lt p1
      have l2 := isK_lt p2
      refine ⟨h'.objs.size, [h'.objs.size, s1.heap.objs.size + 4, s1.heap.objs.size + 2, s1.heap.objs.size + 3, s1.heap.objs.size, s1.heap.objs.size + 1], _, _, H1, rfl, I2,
        turn_ezipK (PySem.W.ktu_apart s1.heap.objs.size a b l1 l2) (e_apart hsz l1 l2),
        ⟨⟨.none, he⟩, ⟨.none, false, .inl rfl, hk2 _ _ hz⟩, hk2 _ _ hTI, ⟨_, _, hk2 _ _ hTO⟩, itK_new (hk2 _ _ h1), itK_new (hk2 _ _ h2)⟩, fun c hcm => ?_, q⟩
      have hle : s1.heap.objs.size ≤ c := by
        have e' : c = h'.objs.size ∨ c = s1.heap.objs.size + 4 ∨ c = s1.heap.objs.size + 2 ∨ c = s1.heap.objs.size + 3 ∨ c = s1.heap.objs.size ∨ c = s1.heap.objs.size + 1 := by simpa using hcm
        exact e_le hsz e'
      exact I1.fpOk hle (I1.hok.fresh hle)
section
variable {X : Cx} {W : WX} {C : Addr}
theorem si_ezip {a b : Expr} {ma mb : List (Option D) → M D} {p p3 pos pos2 tpos : Pos} {elts : List Expr} {kk : Nat} (hg0 : Gl X "enumerate") (hm0 : X.mg "enumerate" = none) (hg : Gl X "zip") (hm : X.mg "zip" = none) (ha : SE X W C a ma) (hb : SE X W C b mb)
    (hs1 : starEach [a, b] X.env = (false, eval a X.env) :: starEach [b] X.env) (hs2 : starEach [b] X.env = (false, eval b X.env) :: starEach [] X.env) :
    SI X W C (.Tuple elts kk tpos) (.Call (.Name "enumerate" p) [.Call (.Name "zip" p3) [a, b] [] pos2] [] pos) (fun δ => M.bind (ma δ) fun x => M.bind (mb δ) fun y => fun μ => match seqOf μ x, seqOf μ y with
      | some xs, some ys => some (.ok ⟨enums 0 (pairs xs ys), srcOf μ x ++ srcOf μ y⟩, μ)
      | _, _ => none) := by
  obtain ⟨ta, pa, qa⟩ := ha
  obtain ⟨tb, pb, qb⟩ := hb
  refine ⟨_, pi_ezipK hg0 hm0 hg hm (pa_cons pa (pa_cons pb pa_nil hs2) hs1) hs1 (by rw [hs2]; rfl), fun w σ δ μ R k s h => ?_⟩
  refine qa w σ δ μ _ k s (h.bind.mono fun x w1 μ1 l1 k1 h1 vx rx => ?_)
  refine qb w1 σ δ μ1 _ k1 (s.mono l1) (h1.bind.mono fun y w2 μ2 l2 k2 h2 vy ry => ?_)
  obtain ⟨r, e, p1⟩ := h2
  dsimp only at e
  split at e
  · rename_i xs ys q1 q2
    cases e
    obtain ⟨c1, a1, e1, f1⟩ := seq_kind k2 (l2.rep rx) q1
    obtain ⟨c2, a2, e2, f2⟩ := seq_kind k2 ry q2
    obtain ⟨us, g1, _⟩ := f1 w2 μ2 (.refl w2) k2 srcOk_of
    obtain ⟨vs, g2, _⟩ := f2 w2 μ2 (.refl w2) k2 srcOk_of
    refine ⟨c1, c2, a1, a2, us, vs, by rw [e1, e2], g1, g2, p1 w2 (.refl w2) k2 (srcOk_app.mpr ⟨srcOk_of, srcOk_of⟩) _ fun i w3 μ3 l3 k3 s3 => ?_⟩
    obtain ⟨s31, s32⟩ := srcOk_app.mp s3
    obtain ⟨us3, h1, r1⟩ := f1 w3 μ3 l3 k3 s31
    obtain ⟨vs3, h2, r2⟩ := f2 w3 μ3 l3 k3 s32
    refine ⟨fun d hd => ?_, fun hi => ?_⟩
    · obtain ⟨d1, i0, rfl⟩ := enums_get _ _ _ _ hd
      obtain ⟨x1, y1, i1, i2, rfl⟩ := pairs_get _ _ _ _ i0
      obtain ⟨u1, j1, m1⟩ := Reps.get r1 i1
      obtain ⟨u2, j2, m2⟩ := Reps.get r2 i2
      refine ⟨⟨us3, vs3, u1, u2, h1, h2, j1, j2⟩, fun z H' hy => ?_⟩
      obtain ⟨T1, T2, z1, z2, rfl, hT, hT2, rfl, n1, n2⟩ := hy
      have o1 := n1 us3 h1
      have o2 := n2 vs3 h2
      rw [j1] at o1
      rw [j2] at o2
      cases o1
      cases o2
      obtain ⟨w4, g1, l4, k4, r4⟩ := new_tup k3 hT (.cons m1 (.cons m2 .nil))
      rw [← g1] at hT2 ⊢
      obtain ⟨w5, g2, l5, k5, r5⟩ := new_tup k4 hT2 (.cons (rep_int.mpr rfl) (.cons r4 .nil))
      rw [← g2] at *
      exact ⟨w5, rfl, l4.trans l5, k5, by rw [Nat.zero_add]; exact r5⟩
    · have hi : i = (enums 0 (pairs xs ys)).length := hi
      rw [enums_len, pairs_len] at hi
      have e3 := Reps.length r1
      have e4 := Reps.length r2
      exact ⟨us3, vs3, h1, h2, by omega, by omega, by omega⟩
  · cases e
end
end NB
end
set_option maxHeartbeats 4000000
section
/-! Comprehensions. -/
namespace NB
open PySem PySem.Spec L2
open PyProof.Rows hiding St
section
variable {X : Cx} {W : WX} {C : Addr}
/-- a thing that is no one's yet -/
theorem Wok.extra {K : PySem.W.Frag} {w : Wd} {μ : List MO} {p : Addr} {o : HO} (k : Wok K C w μ) (h : w.H p = none) : Wok K C ⟨upd w.H p o, w.F, w.ρ⟩ μ := by
  have hf := k.fnone h
  refine ⟨fun a u e => ?_, k.nd, k.len, k.fn, fun n a m h1 h2 => ?_⟩
  · have e : w.F a = some u := e
    have : a ≠ p := fun z => by rw [z, hf] at e; cases e
    show (upd w.H p o) a = some u
    rw [upd_ne this]; exact k.fh a u e
  · have hm : a ∈ w.ρ := List.mem_of_getElem? h1
    have : a ≠ p := fun z => k.nin h (z ▸ hm)
    exact CellOk.mono (k.ce n a m h1 h2) (upd_ne this) (fun _ _ z => z) fun _ _ z => z
theorem Wle.extra {w : Wd} {p : Addr} {o : HO} (h : w.H p = none) : Wle w ⟨upd w.H p o, w.F, w.ρ⟩ := by
  refine ⟨fun a u e _ => ?_, fun a u e => e, fun a e => rfl, ⟨[], by simp, by simp⟩, fun a e => ?_⟩
  · show (upd w.H p o) a = some u
    rw [upd_ne (ne_of_none e h)]; exact e
  · show (upd w.H p o) a ≠ none
    rw [upd_ne (fun z => e (by rw [z]; exact h))]; exact e
/-- the world without it -/
def Wd.less (w : Wd) (p : Addr) : Wd := ⟨fun a => if a = p then none else w.H a, w.F, w.ρ⟩
theorem less_none {w : Wd} {p : Addr} : (w.less p).H p = none := by simp [Wd.less]
theorem less_ne {w : Wd} {p a : Addr} (h : a ≠ p) : (w.less p).H a = w.H a := by simp [Wd.less, h]
theorem less_upd {w : Wd} {p : Addr} {o : HO} (h : w.H p = some o) : upd (w.less p).H p o = w.H := by
  funext a
  by_cases q : a = p
  · subst q; rw [upd_same, h]
  · rw [upd_ne q, less_ne q]
theorem Wok.less {K : PySem.W.Frag} {w : Wd} {μ : List MO} {p : Addr} (k : Wok K C w μ) (hf : w.F p = none) (hr : p ∉ w.ρ) : Wok K C (w.less p) μ := by
  refine ⟨fun a u e => ?_, k.nd, k.len, k.fn, fun n a m h1 h2 => ?_⟩
  · have e : w.F a = some u := e
    have : a ≠ p := fun z => by rw [z, hf] at e; cases e
    rw [less_ne this]; exact k.fh a u e
  · have hm : a ∈ w.ρ := List.mem_of_getElem? h1
    have : a ≠ p := fun z => hr (z ▸ hm)
    exact CellOk.mono (k.ce n a m h1 h2) (less_ne this) (fun _ _ z => z) fun _ _ z => z
/-- from w with p beside it to w2: without p -/
theorem Wle.less {w w2 : Wd} {p : Addr} {o : HO} (h : w.H p = none) (l : Wle ⟨upd w.H p o, w.F, w.ρ⟩ w2) : Wle w (w2.less p) := by
  have ne : ∀ {a : Addr}, w.H a ≠ none → a ≠ p := fun {a} e z => e (by rw [z]; exact h)
  obtain ⟨s, e, n⟩ := l.pre
  refine ⟨fun a u q hn => ?_, fun a u q => l.fle a u q, fun a q => ?_, ⟨s, e, fun a ha => ?_⟩, fun a q => ?_⟩
  · have := ne (a := a) (by rw [q]; exact fun z => by cases z)
    rw [less_ne this]
    exact l.keep a u (by show (upd w.H p o) a = _; rw [upd_ne this]; exact q) hn
  · exact l.fold a (by show (upd w.H p o) a ≠ none; rw [upd_ne (ne q)]; exact q)
  · have n1 : (upd w.H p o) a = none := n a ha
    by_cases z : a = p
    · rw [z]; exact h
    · rw [upd_ne z] at n1; exact n1
  · rw [less_ne (ne q)]
    exact l.dom a (by show (upd w.H p o) a ≠ none; rw [upd_ne (ne q)]; exact q)
/-- an item, or none of them -/
def consO : Option D → List D → List D
  | some x, rs => x :: rs
  | none, rs => rs
theorem wipe_nil_none (u : Nat) : ∀ (vs : List Nat) (τ : St), u ∈ vs → (wipe τ vs).set u none = wipe τ vs
  | [], τ, z => nomatch z
  | v :: vs, τ, z => by
    show ((wipe τ vs).set v none).set u none = (wipe τ vs).set v none
    by_cases huv : u = v
    · subst huv; rw [List.set_set]
    · rcases List.mem_cons.mp z with z | z
      · exact absurd z huv
      · rw [List.set_comm _ _ (fun q => huv q.symm), wipe_nil_none u vs τ z]
theorem wipe_wipe : ∀ (us vs : List Nat) (τ : St), (∀ i ∈ us, i ∈ vs) → wipe (wipe τ vs) us = wipe τ vs
  | [], vs, τ, _ => rfl
  | u :: us, vs, τ, hv => by
    show (wipe (wipe τ vs) us).set u none = wipe τ vs
    rw [wipe_wipe us vs τ fun i hi => hv i (List.mem_cons_of_mem _ hi)]
    exact wipe_nil_none u vs τ (hv u List.mem_cons_self)
/-- a step of the kept items -/
theorem compL_step {src : List (Nat × MO)} {f : D → M (Option D)} {d : D} {ds : List D} {μ : List MO} {r : Except Str (List D) × List MO} (h : compL src f (d :: ds) μ = some r) :
    ∃ y μ1, f d μ = some (.ok y, μ1) ∧ srcOk src μ1 = true ∧ ∃ r2, compL src f ds μ1 = some r2 ∧ ∀ rs μ2, r2 = (.ok rs, μ2) → r = (.ok (consO y rs), μ2) := by
  unfold compL M.bind M.calm at h
  cases q : f d μ with
  | none => rw [q] at h; cases h
  | some r1 =>
    obtain ⟨r1, μ1⟩ := r1
    cases r1 with
    | error c => rw [q] at h; cases h
    | ok y =>
      rw [q] at h
      simp only at h
      unfold guard at h
      split at h
      · rename_i hs
        refine ⟨y, μ1, rfl, hs, ?_⟩
        cases q2 : compL src f ds μ1 with
        | none => simp only [M.bind, q2] at h; cases h
        | some r2 =>
          refine ⟨r2, rfl, fun rs μ2 e => ?_⟩
          subst e
          simp only [M.bind, q2] at h
          rw [← Option.some.inj h]
          cases y <;> rfl
      · cases h
theorem compL_ok {src : List (Nat × MO)} {f : D → M (Option D)} : ∀ {ds : List D} {μ : List MO} {r : Except Str (List D) × List MO}, compL src f ds μ = some r → ∃ rs μ', r = (.ok rs, μ')
  | [], μ, r, h => ⟨[], μ, (Option.some.inj h).symm⟩
  | d :: ds, μ, r, h => by
    obtain ⟨y, μ1, h1, h2, r2, h3, h4⟩ := compL_step h
    obtain ⟨rs, μ2, e⟩ := compL_ok h3
    exact ⟨_, _, h4 rs μ2 e⟩
theorem Does.run {σ : St} {α : Type} {w : Wd} {μ μ' : List MO} {x : M α} {a : α} (e : x μ = some (.ok a, μ')) : Does X W C σ w μ x (fun a' _ μ1 => a' = a ∧ μ1 = μ') := ⟨_, e, fun _ _ _ => ⟨rfl, rfl⟩⟩
/-- what one turn does -/
def stepM (own : List Nat) (t : Tg) (mt : List (Option D) → M Bool) (me : List (Option D) → M D) (δ : List (Option D)) (d : D) : M (Option D) :=
  match bindT t d (wipeD δ own) with
  | none => M.bad
  | some δ1 => M.bind (mt δ1) fun b => if b then M.bind (me δ1) fun x => M.ok (some x) else M.ok none
abbrev W0 : WX := fun _ _ _ _ => False
theorem lc_reads {b : Bool} {own : List Nat} {t : Tg} {wi : TI} {mi : List (Option D) → M Its} {mt : List (Option D) → M Bool} {me : List (Option D) → M D} (hown : ∀ i ∈ tgSlots t, i ∈ own)
    (qi : ∀ w σ δ μ R, Wok X.K C w μ → Slots X.K w σ δ → Does X W C σ w μ (mi δ) (fun its w' μ' => srcOk its.src μ' = true → ∀ J, Walk X C J its w' → R J w'.H) → wi σ w.H R) :
    ∀ w σ δ μ Q, Wok X.K C w μ → Slots X.K w σ δ → Does X W C σ w μ (M.bind (mi δ) fun its => if its.items.length ≤ lim then
      M.bind (compL its.src (stepM own t mt me δ) its.items) fun ds => fresh b ds
    else M.bad) (fun d w' _ => ∀ v, RepW X.K w' d v → Q v w'.H) → tLc wi (gM X C t) (tMT X W0 C mt) (tM X W0 C me) own σ w.H Q := by
  intro w σ δ μ Q k sl h
  refine qi w σ δ μ _ k sl (h.bind.mono fun its w1 μ1 l1 k1 h1 s1 J walk L0 hL0 => ?_)
  split at h1
  · rename_i hlen
    obtain ⟨r, e, p⟩ := h1
    -- the whole run
    obtain ⟨rs, μf, e1, e2⟩ : ∃ rs μf, compL its.src (stepM own t mt me δ) its.items μ1 = some (.ok rs, μf) ∧ fresh b rs μf = some r := by
      unfold M.bind at e
      cases q : compL its.src (stepM own t mt me δ) its.items μ1 with
      | none => rw [q] at e; cases e
      | some r1 =>
        obtain ⟨rs, μf, e3⟩ := compL_ok q
        subst e3
        rw [q] at e
        exact ⟨rs, μf, rfl, e⟩
    have sl1 : Slots X.K w1 σ δ := sl.mono l1
    refine ⟨fun i m H => m = its.items.length - i ∧ i ≤ its.items.length ∧ ∃ (w : Wd) (μ : List MO) (acc : List V) (done rest : List D), w.H L0 = none ∧ H = upd w.H L0 (.lst acc) ∧ Wle w1 w ∧ Wok X.K C w μ ∧ RepsW X.K w done acc ∧
      compL its.src (stepM own t mt me δ) (its.items.drop i) μ = some (.ok rest, μf) ∧ done ++ rest = rs ∧ srcOk its.src μ = true ∧ acc.length ≤ i, ⟨its.items.length, by omega, Nat.zero_le _, w1, μ1, [], [], rs, hL0, rfl, .refl w1, k1, .nil, by simpa using e1, rfl, s1, Nat.le_refl _⟩, ?_⟩
    rintro i m H ⟨rfl, hi, w2, μ2, acc, done, rest, hL2, rfl, l2, k2, r2, e3, e4, s2, hacc⟩
    have kr : Wok X.K C ⟨upd w2.H L0 (.lst acc), w2.F, w2.ρ⟩ μ2 := k2.extra hL2
    have lr : Wle w2 ⟨upd w2.H L0 (.lst acc), w2.F, w2.ρ⟩ := Wle.extra hL2
    obtain ⟨wgo, wstop⟩ := walk i _ μ2 (l2.trans lr) kr s2
    by_cases hlt : i < its.items.length
    · obtain ⟨d, hd⟩ : ∃ d, its.items[i]? = some d := ⟨its.items[i], List.getElem?_eq_getElem hlt⟩
      obtain ⟨go, yl⟩ := wgo d hd
      have ed : its.items.drop i = d :: its.items.drop (i + 1) := by
        rw [List.drop_eq_getElem_cons hlt]
        rw [List.getElem?_eq_getElem hlt] at hd
        rw [Option.some.inj hd]
      rw [ed] at e3
      obtain ⟨y, μ3, g1, g2, r3, g3, g4⟩ := compL_step e3
      obtain ⟨rs3, μ3', eq3⟩ := compL_ok g3
      subst eq3
      have g5 := g4 rs3 μ3' rfl
      have g5a : rest = consO y rs3 := by
        have := (Prod.mk.inj g5).1
        exact Except.ok.inj this
      have g5b : μ3' = μf := ((Prod.mk.inj g5).2).symm
      subst g5b
      refine .inr ⟨go, fun H' => ∃ (w : Wd) (μ : List MO) (acc : List V) (done rest : List D), w.H L0 = none ∧ H' = upd w.H L0 (.lst acc) ∧ Wle w1 w ∧ Wok X.K C w μ ∧ RepsW X.K w done acc ∧
        compL its.src (stepM own t mt me δ) (its.items.drop (i + 1)) μ = some (.ok rest, μ3') ∧ done ++ rest = rs ∧ srcOk its.src μ = true ∧ acc.length ≤ i + 1, fun H' z => ⟨its.items.length - (i + 1), by omega, rfl, hlt, z⟩, fun x H' hy => ?_⟩
      obtain ⟨w3, rfl, l3, k3, r3⟩ := yl x H' hy
      -- the target
      unfold stepM at g1
      cases qb : bindT t d (wipeD δ own) with
      | none => rw [qb] at g1; cases g1
      | some δ1 =>
        rw [qb] at g1
        simp only at g1
        have l13 : Wle w1 w3 := (l2.trans lr).trans l3
        refine ⟨w3, wipeD δ own, d, δ1, rfl, ⟨μ2, k3⟩, (sl1.mono l13).wipe _, r3, qb, fun σ2 sl2 wi2 => ⟨?_, ?_⟩⟩
        · rw [wi2 _ hown]
          exact wipe_wipe _ _ _ fun _ z => z
        · -- the test
          unfold M.bind at g1
          cases qt : mt δ1 μ2 with
          | none => rw [qt] at g1; cases g1
          | some rt =>
            obtain ⟨rt, μ4⟩ := rt
            cases rt with
            | error c => rw [qt] at g1; cases g1
            | ok bt =>
              rw [qt] at g1
              simp only at g1
              refine ⟨w3, δ1, μ2, rfl, k3, sl2, (Does.run qt).mono fun b' w4 μ4' l4 k4 z => ?_⟩
              obtain ⟨rfl, rfl⟩ := z
              have wD : ∀ {w5 : Wd}, Wle ⟨upd w2.H L0 (.lst acc), w2.F, w2.ρ⟩ w5 → w5.H L0 = some (.lst acc) := fun {w5} l5 => l5.keep L0 _ upd_same (k2.nin hL2)
              have nD : ∀ {w5 : Wd}, Wle ⟨upd w2.H L0 (.lst acc), w2.F, w2.ρ⟩ w5 → w5.F L0 = none ∧ L0 ∉ w5.ρ := fun {w5} l5 => by
                have hne : (upd w2.H L0 (.lst acc)) L0 ≠ none := by rw [upd_same]; exact fun z => by cases z
                refine ⟨(l5.fold L0 hne).trans (k2.fnone hL2), fun hm => ?_⟩
                obtain ⟨s, es, ns⟩ := l5.pre
                rw [es] at hm
                rcases List.mem_append.mp hm with z | z
                · exact k2.nin hL2 z
                · exact hne (ns L0 z)
              cases b' with
              | true =>
                refine iteT ?_
                simp only [if_true] at g1
                cases qe : me δ1 μ4' with
                | none => rw [qe] at g1; cases g1
                | some re =>
                  obtain ⟨re, μ5⟩ := re
                  cases re with
                  | error c => rw [qe] at g1; cases g1
                  | ok x5 =>
                    rw [qe] at g1
                    have g1' := Option.some.inj g1
                    have gy : y = some x5 := (Except.ok.inj (Prod.mk.inj g1').1).symm
                    have gμ : μ5 = μ3 := (Prod.mk.inj g1').2
                    subst gμ
                    subst gy
                    refine ⟨w4, δ1, μ4', rfl, k4, sl2.mono l4, (Does.run qe).mono fun x6 w6 μ6 l6 k6 z v rv => ?_⟩
                    obtain ⟨rfl, rfl⟩ := z
                    have l36 : Wle ⟨upd w2.H L0 (.lst acc), w2.F, w2.ρ⟩ w6 := l3.trans (l4.trans l6)
                    obtain ⟨n1, n2⟩ := nD l36
                    have hlim : lim < sizeLine := by rw [sizeLine_eq]; decide
                    refine ⟨acc, wD l36, by omega, w6.less L0, μ6, acc ++ [v], done ++ [x6], rs3, less_none, ?_, l2.trans (Wle.less hL2 l36), k6.less n1 n2, ?_, g3, ?_, g2, ?_⟩
                    · funext a
                      by_cases za : a = L0
                      · subst za; rw [upd_same, upd_same]
                      · rw [upd_ne za, upd_ne za, less_ne za]
                    · exact Reps.append ((Wle.less hL2 l36).reps r2) (Reps.one rv)
                    · rw [← e4, g5a]
                      simp [consO]
                    · simp
                      omega
              | false =>
                refine iteF ?_
                simp only [Bool.false_eq_true, if_false] at g1
                have g1' := Option.some.inj g1
                have gy : y = none := (Except.ok.inj (Prod.mk.inj g1').1).symm
                have gμ : μ4' = μ3 := (Prod.mk.inj g1').2
                subst gμ
                subst gy
                have l34 : Wle ⟨upd w2.H L0 (.lst acc), w2.F, w2.ρ⟩ w4 := l3.trans l4
                obtain ⟨n1, n2⟩ := nD l34
                exact ⟨w4.less L0, μ4', acc, done, rs3, less_none, (less_upd (wD l34)).symm, l2.trans (Wle.less hL2 l34), k4.less n1 n2, (Wle.less hL2 l34).reps r2, g3, by rw [← e4, g5a]; rfl, g2, by omega⟩
    · have hi2 : i = its.items.length := by omega
      refine .inl ⟨wstop hi2, ?_⟩
      rw [hi2, List.drop_length] at e3
      have e5 : (Except.ok ([] : List D), μ2) = (Except.ok rest, μf) := Option.some.inj e3
      have e6 : rest = [] := (Except.ok.inj (Prod.mk.inj e5).1).symm
      have e7 : μ2 = μf := (Prod.mk.inj e5).2
      subst e6 e7
      rw [List.append_nil] at e4
      subst e4
      exact fresh_of (X := X) (W := W) (C := C) (σ := σ) k2 r2 ⟨r, e2, fun w5 l5 k5 => p w5 (l2.trans l5) k5⟩ hL2
  · exact h1.of_bad.elim
theorem se_comp {b : Bool} {elt tg iter : Expr} {ifs : List Expr} {scope : Scope} {own : List (Str × Nat)} {pos : Pos} {t : Tg} {mi : List (Option D) → M Its} {mt : List (Option D) → M Bool} {me : List (Option D) → M D}
    (hc : X.calm = true) (hN : X.N.Nodup) (hi : SI X W C tg iter mi) (ok : BlkOk X.N X.env.scope scope own) (hown : ∀ i ∈ tgSlots t, i ∈ own.map (·.2))
    (hg : ∀ (s : Shared) (H : Hp) (C' : Addr) (cl : List (Str × Addr)) (fp : List Addr), PG (X.blk s H scope (compEnvC scope cl C' X.env) fp) tg (gM X C t))
    (ht : ∀ (s : Shared) (H : Hp) (C' : Addr) (cl : List (Str × Addr)) (fp : List Addr), PTs (X.blk s H scope (compEnvC scope cl C' X.env) fp) ifs (tMT X W0 C mt))
    (he : ∀ (s : Shared) (H : Hp) (C' : Addr) (cl : List (Str × Addr)) (fp : List Addr), PE (X.blk s H scope (compEnvC scope cl C' X.env) fp) elt (tM X W0 C me))
    (hs : ∀ x, foldedSetIterable iter X.env x = pure x) :
    SE X W C (.ListComp elt [⟨tg, iter, ifs, 0⟩] scope pos) (fun δ => M.bind (mi δ) fun its => if its.items.length ≤ lim then
      M.bind (compL its.src (stepM (own.map (·.2)) t mt me δ) its.items) fun ds => fresh b ds
    else M.bad) := by
  obtain ⟨wi, pi, qi⟩ := hi
  exact ⟨_, pe_lc hc hN pi ok hg ht he hs, lc_reads hown qi⟩
end
end NB
end
set_option maxHeartbeats 4000000
section
/-! Statements. -/
namespace NB
open PySem PySem.Spec L2
open PyProof.Rows hiding St
section
variable (X : Cx) (W : WX) (C : Addr)
def PostS (w : Wd) (r : Except Str Fl × List MO) (D : Ends) : Prop :=
  ∀ w', Wle w w' → Wok X.K C w' r.2 → match r.1 with
    | .ok (.nx δ) => ∀ σ, Slots X.K w' σ δ → D.nx σ w'.H
    | .ok (.bk δ) => ∀ σ, Slots X.K w' σ δ → D.bk σ w'.H
    | .ok (.ct δ) => ∀ σ, Slots X.K w' σ δ → D.ct σ w'.H
    | .ok (.rt d) => ∀ v, RepW X.K w' d v → D.rt v w'.H
    | .error c => ∀ σ : St, W (exV X.mg c) none σ w'.H
def DoesS (w : Wd) (μ : List MO) (x : M Fl) (D : Ends) : Prop := ∃ r, x μ = some r ∧ PostS X W C w r D
/-- a statement does what m says -/
def SS (st : Stmt) (m : List (Option D) → M Fl) : Prop :=
  ∃ t, PS X st t ∧ ∀ w σ δ μ D, Wok X.K C w μ → Slots X.K w σ δ → DoesS X W C w μ (m δ) D → t D σ w.H
def SB (sts : List Stmt) (m : List (Option D) → M Fl) : Prop :=
  ∃ t, PSs X sts t ∧ ∀ w σ δ μ D, Wok X.K C w μ → Slots X.K w σ δ → DoesS X W C w μ (m δ) D → t D σ w.H
end
section
variable {X : Cx} {W : WX} {C : Addr} {pos : Pos}
theorem DoesS.bind {α : Type} {σ : St} {w : Wd} {μ : List MO} {x : M α} {f : α → M Fl} {D : Ends} (h : DoesS X W C w μ (M.bind x f) D) :
    Does X W C σ w μ x fun a w1 μ1 => DoesS X W C w1 μ1 (f a) D := by
  obtain ⟨r, e, p⟩ := h
  unfold M.bind at e
  cases q : x μ with
  | none => rw [q] at e; cases e
  | some r1 =>
    obtain ⟨r1, μ1⟩ := r1
    rw [q] at e
    refine ⟨(r1, μ1), q, fun w1 l1 k1 => ?_⟩
    cases r1 with
    | error c =>
      simp only at e
      cases e
      exact p w1 l1 k1 σ
    | ok a =>
      simp only at e
      exact ⟨r, e, fun w2 l2 k2 => p w2 (l1.trans l2) k2⟩
theorem DoesS.up {w w' : Wd} {μ : List MO} {x : M Fl} {D : Ends} (h : DoesS X W C w μ x D) (l : Wle w w') : DoesS X W C w' μ x D := by
  obtain ⟨r, e, p⟩ := h
  exact ⟨r, e, fun w2 l2 k2 => p w2 (l.trans l2) k2⟩
theorem DoesS.of_bad {w : Wd} {μ : List MO} {D : Ends} (h : DoesS X W C w μ M.bad D) : False := by
  obtain ⟨r, e, _⟩ := h
  cases e
theorem DoesS.of_none {w : Wd} {μ : List MO} {x : M Fl} {D : Ends} (h : DoesS X W C w μ x D) (e : x μ = none) : False := by
  obtain ⟨r, e', _⟩ := h
  rw [e] at e'
  cases e'
def FlE (X : Cx) (w' : Wd) (D : Ends) (f : Fl) : Prop := match f with
    | .nx δ => ∀ σ, Slots X.K w' σ δ → D.nx σ w'.H
    | .bk δ => ∀ σ, Slots X.K w' σ δ → D.bk σ w'.H
    | .ct δ => ∀ σ, Slots X.K w' σ δ → D.ct σ w'.H
    | .rt d => ∀ v, RepW X.K w' d v → D.rt v w'.H
theorem DoesS.of_ok {w w' : Wd} {μ μ' : List MO} {x : M Fl} {f : Fl} {D : Ends} (h : DoesS X W C w μ x D) (e : x μ = some (.ok f, μ')) (l : Wle w w') (k : Wok X.K C w' μ') : FlE X w' D f := by
  obtain ⟨r, e', p⟩ := h
  rw [e] at e'
  cases e'
  have := p w' l k
  cases f <;> exact this
/-! ### the readings told by the runs -/
def tMS (X : Cx) (W : WX) (C : Addr) (m : List (Option D) → M Fl) : TS := fun D σ H => ∃ w δ μ, w.H = H ∧ Wok X.K C w μ ∧ Slots X.K w σ δ ∧ DoesS X W C w μ (m δ) D
theorem SB.ps {sts : List Stmt} {m : List (Option D) → M Fl} (h : SB X W C sts m) : PSs X sts (tMS X W C m) := by
  obtain ⟨t, p, q⟩ := h
  refine ⟨fun pins s σ H D I hw => ?_⟩
  obtain ⟨w, δ, μ, rfl, k, sl, d⟩ := hw
  exact p.run pins s σ _ D I (q w σ δ μ D k sl d)

/-! ### sequences -/
theorem sb_nil : SB X W C [] (fun δ => M.ok (.nx δ)) := by
  refine ⟨tNext, pss_nil, fun w σ δ μ D k sl h => ?_⟩
  exact h.of_ok rfl (.refl w) k σ sl
theorem sb_cons {st : Stmt} {rest : List Stmt} {m ms : List (Option D) → M Fl} (h1 : SS X W C st m) (h2 : SB X W C rest ms) : SB X W C (st :: rest) (fun δ => M.bind (m δ) fun r => match r with
    | .nx δ' => ms δ'
    | r => M.ok r) := by
  obtain ⟨t, p, q⟩ := h1
  obtain ⟨u, p2, q2⟩ := h2
  refine ⟨tSeq t u, pss_cons p p2, fun w σ δ μ D k sl h => ?_⟩
  refine q w σ δ μ _ k sl ?_
  obtain ⟨r, e, pr⟩ := h
  simp only [M.bind] at e
  cases e1 : m δ μ with
  | none => rw [e1] at e; cases e
  | some r1 =>
    obtain ⟨r1, μ1⟩ := r1
    rw [e1] at e
    refine ⟨(r1, μ1), rfl.trans e1, fun w1 l1 k1 => ?_⟩
    cases r1 with
    | error c =>
      simp only at e
      cases e
      exact pr w1 l1 k1
    | ok f =>
      cases f with
      | nx δ1 =>
        simp only at e
        exact fun σ1 sl1 => q2 w1 σ1 δ1 μ1 D k1 sl1 ⟨r, e, fun w2 l2 k2 => pr w2 (l1.trans l2) k2⟩
      | bk δ1 => simp only [M.ok] at e; cases e; exact pr w1 l1 k1
      | ct δ1 => simp only [M.ok] at e; cases e; exact pr w1 l1 k1
      | rt d => simp only [M.ok] at e; cases e; exact pr w1 l1 k1
theorem ss_pass : SS X W C (.Pass pos) (fun δ => M.ok (.nx δ)) := ⟨tNext, ps_pass, fun w σ δ μ D k sl h => h.of_ok rfl (.refl w) k σ sl⟩
theorem ss_brk : SS X W C (.Break pos) (fun δ => M.ok (.bk δ)) := ⟨tBreak, ps_break, fun w σ δ μ D k sl h => h.of_ok rfl (.refl w) k σ sl⟩
theorem ss_cnt : SS X W C (.Continue pos) (fun δ => M.ok (.ct δ)) := ⟨tCont, ps_continue, fun w σ δ μ D k sl h => h.of_ok rfl (.refl w) k σ sl⟩
theorem ss_retN : SS X W C (.Return none pos) (fun _ => M.ok (.rt .non)) := ⟨tRetN, ps_retN, fun w σ δ μ D k sl h => h.of_ok rfl (.refl w) k .non (rep_non.mpr rfl)⟩
theorem ss_ret {e : Expr} {m : List (Option D) → M D} (he : SE X W C e m) : SS X W C (.Return (some e) pos) (fun δ => M.bind (m δ) fun d => M.ok (.rt d)) := by
  obtain ⟨t, p, q⟩ := he
  refine ⟨tRet t, ps_ret p, fun w σ δ μ D k sl h => ?_⟩
  exact q w σ δ μ _ k sl ((DoesS.bind h).mono fun d w1 μ1 l1 k1 h1 v rv => h1.of_ok rfl (.refl w1) k1 v rv)
theorem ss_expr {e : Expr} {m : List (Option D) → M D} (he : SE X W C e m) (hs : swapsWith e none pos.line X.env = pure false) : SS X W C (.Expr e pos) (fun δ => M.bind (m δ) fun _ => M.ok (.nx δ)) := by
  obtain ⟨t, p, q⟩ := he
  refine ⟨tDrop t, ps_expr p hs, fun w σ δ μ D k sl h => ?_⟩
  exact q w σ δ μ _ k sl ((DoesS.bind h).mono fun d w1 μ1 l1 k1 h1 v rv => h1.of_ok rfl (.refl w1) k1 σ (sl.mono l1))
/-! ### stores -/
theorem asg_reads {te : TE} {t : Tg} {m : List (Option D) → M D} (q : ∀ w σ δ μ Q, Wok X.K C w μ → Slots X.K w σ δ → Does X W C σ w μ (m δ) (fun d w' _ => ∀ v, RepW X.K w' d v → Q v w'.H) → te σ w.H Q) :
    ∀ w σ δ μ D, Wok X.K C w μ → Slots X.K w σ δ → DoesS X W C w μ (M.bind (m δ) fun d => match bindT t d δ with
      | some δ' => M.ok (.nx δ')
      | none => M.bad) D → tAsg te (gM X C t) D σ w.H := by
  intro w σ δ μ D k sl h
  refine q w σ δ μ _ k sl ((DoesS.bind h).mono fun d w1 μ1 l1 k1 h1 v rv => ?_)
  cases e : bindT t d δ with
  | none => rw [e] at h1; exact h1.of_bad.elim
  | some δ' =>
    rw [e] at h1
    exact ⟨w1, δ, d, δ', rfl, ⟨μ1, k1⟩, sl.mono l1, rv, e, fun σ' sl' _ => h1.of_ok rfl (.refl w1) k1 σ' sl'⟩
theorem ss_asg {tg e : Expr} {t : Tg} {m : List (Option D) → M D} (he : SE X W C e m) (hg : PG X tg (gM X C t)) (hs : swapsWithSole [tg] e pos.line X.env = pure false) (hw : swappedStores [tg] e X.env = pure none)
    (h1 : (assignEach [tg] X.env).map (·.2) = [assign tg X.env]) : SS X W C (.Assign [tg] e pos) (fun δ => M.bind (m δ) fun d => match bindT t d δ with
      | some δ' => M.ok (.nx δ')
      | none => M.bad) := by
  obtain ⟨te, p, q⟩ := he
  exact ⟨_, ps_asg p hg hs hw h1, asg_reads q⟩
theorem gName_gM {i : Nat} {v : V} {σ : St} {H : Hp} {Q : St → Hp → Prop} (h : gM X C (.nm i) v σ H Q) : gName i v σ H Q := by
  obtain ⟨w, δ, d, δ', rfl, ⟨μ, k⟩, sl, rd, e, q⟩ := h
  unfold bindT at e
  split at e
  · rename_i hl
    cases e
    exact q _ (sl.set rd hl) fun vs hv => wipe_set (hv i (by simp [tgSlots]))
  · cases e
theorem ss_set {i : Nat} {x : Str} {e : Expr} {m : List (Option D) → M D} {pos' : Pos} (hN : X.N.Nodup) (hi : X.N[i]? = some x) (hx : Loc X.env.scope x) (he : SE X W C e m) (hs : swapsWith e (some (.Name x pos')) pos.line X.env = pure false) (hf : X.fn x = true ∨ X.env.scope.names.lookup x = some .local) :
    SS X W C (.Assign [.Name x pos'] e pos) (fun δ => M.bind (m δ) fun d => match bindT (.nm i) d δ with
      | some δ' => M.ok (.nx δ')
      | none => M.bad) := by
  obtain ⟨te, p, q⟩ := he
  refine ⟨_, ps_set hN hi hx p hs hf, fun w σ δ μ D k sl h => ?_⟩
  refine q w σ δ μ _ k sl ((DoesS.bind h).mono fun d w1 μ1 l1 k1 h1 v rv => ?_)
  cases e : bindT (.nm i) d δ with
  | none => rw [e] at h1; exact h1.of_bad.elim
  | some δ' =>
    rw [e] at h1
    exact gName_gM (X := X) (C := C) ⟨w1, δ, d, δ', rfl, ⟨μ1, k1⟩, sl.mono l1, rv, e, fun σ' sl' _ => h1.of_ok rfl (.refl w1) k1 σ' sl'⟩
theorem ss_setLc {b : Bool} {i : Nat} {y : Str} {py : Pos} {elt tg iter : Expr} {ifs : List Expr} {scope : Scope} {own : List (Str × Nat)} {pos spos : Pos} {t : Tg} {mi : List (Option D) → M Its} {mt : List (Option D) → M Bool} {me : List (Option D) → M D}
    (hc : X.calm = true) (hN : X.N.Nodup) (hy : X.N[i]? = some y) (hyl : X.env.scope.names.lookup y = some .local) (hsw : swapsWith (.ListComp elt [⟨tg, iter, ifs, 0⟩] scope pos) (some (.Name y py)) spos.line X.env = pure true)
    (hi : SI X W C tg iter mi) (ok : BlkOk X.N X.env.scope scope own) (hown : ∀ i ∈ tgSlots t, i ∈ own.map (·.2))
    (hg : ∀ (s : Shared) (H : Hp) (C' : Addr) (cl : List (Str × Addr)) (fp : List Addr), PG (X.blk s H scope (compEnvC scope cl C' X.env) fp) tg (gM X C t))
    (ht : ∀ (s : Shared) (H : Hp) (C' : Addr) (cl : List (Str × Addr)) (fp : List Addr), PTs (X.blk s H scope (compEnvC scope cl C' X.env) fp) ifs (tMT X W0 C mt))
    (he : ∀ (s : Shared) (H : Hp) (C' : Addr) (cl : List (Str × Addr)) (fp : List Addr), PE (X.blk s H scope (compEnvC scope cl C' X.env) fp) elt (tM X W0 C me))
    (hs : ∀ x, foldedSetIterable iter X.env x = pure x) :
    SS X W C (.Assign [.Name y py] (.ListComp elt [⟨tg, iter, ifs, 0⟩] scope pos) spos) (fun δ => M.bind (M.bind (mi δ) fun its => if its.items.length ≤ lim then
      M.bind (compL its.src (stepM (own.map (·.2)) t mt me δ) its.items) fun ds => fresh b ds
    else M.bad) fun d => match bindT (.nm i) d δ with
      | some δ' => M.ok (.nx δ')
      | none => M.bad) := by
  obtain ⟨wi, pi, qi⟩ := hi
  refine ⟨_, ps_setLc hc hN hy hyl hsw pi ok hg ht he hs, fun w σ δ μ D k sl h => ?_⟩
  refine lc_reads hown qi w σ δ μ _ k sl ((DoesS.bind h).mono fun d w1 μ1 l1 k1 h1 v rv => ?_)
  cases e : bindT (.nm i) d δ with
  | none => rw [e] at h1; exact h1.of_bad.elim
  | some δ' =>
    rw [e] at h1
    exact gName_gM (X := X) (C := C) ⟨w1, δ, d, δ', rfl, ⟨μ1, k1⟩, sl.mono l1, rv, e, fun σ' sl' _ => h1.of_ok rfl (.refl w1) k1 σ' sl'⟩
theorem ss_par {i j : Nat} {x y : Str} {a b : Expr} {ma mb : List (Option D) → M D} {px py pt : Pos} {kt k2 : Nat} {pt2 : Pos} (hc : X.calm = true) (hN : X.N.Nodup) (hi : X.N[i]? = some x) (hj : X.N[j]? = some y) (hij : i ≠ j)
    (hx : X.env.scope.names.lookup x = some .local) (hy : X.env.scope.names.lookup y = some .local) (ha : SE X W C a ma) (hb : SE X W C b mb)
    (hs1 : starEach [a, b] X.env = (false, eval a X.env) :: starEach [b] X.env) (hs2 : starEach [b] X.env = (false, eval b X.env) :: starEach [] X.env)
    (hw : swappedStores [.Tuple [.Name x px, .Name y py] kt pt] (.Tuple [a, b] k2 pt2) X.env = pure (some [x, y]))
    (hs : swapsWithSole [.Tuple [.Name x px, .Name y py] kt pt] (.Tuple [a, b] k2 pt2) pos.line X.env = pure false) :
    SS X W C (.Assign [.Tuple [.Name x px, .Name y py] kt pt] (.Tuple [a, b] k2 pt2) pos) (fun δ => M.bind (ma δ) fun x => M.bind (mb δ) fun y =>
      if i < δ.length ∧ j < δ.length then M.ok (.nx ((δ.set i (some x)).set j (some y))) else M.bad) := by
  obtain ⟨ta, pa, qa⟩ := ha
  obtain ⟨tb, pb, qb⟩ := hb
  refine ⟨_, ps_par hc hN hi hj hij hx hy (pa_cons pa (pa_cons pb pa_nil hs2) hs1) hw hs, fun w σ δ μ D k sl h => ?_⟩
  refine qa w σ δ μ _ k sl ((DoesS.bind h).mono fun d w1 μ1 l1 k1 h1 v rv => ?_)
  refine qb w1 σ δ μ1 _ k1 (sl.mono l1) ((DoesS.bind h1).mono fun d' w2 μ2 l2 k2 h2 v' rv' => ?_)
  split at h2
  · rename_i hl
    refine ⟨v, v', rfl, h2.of_ok rfl (.refl w2) k2 _ ?_⟩
    exact (((sl.mono l1).mono l2).set (l2.rep rv) hl.1).set rv' (by simpa using hl.2)
  · exact h2.of_bad.elim
theorem ss_setI {o i e : Expr} {mo mi me : List (Option D) → M D} {tpos : Pos} (ho : SE X W C o mo) (hi : SE X W C i mi) (he : SE X W C e me) (hp : PlainIx i) (hs : swapsWithSole [.Subscript o i tpos] e pos.line X.env = pure false)
    (hw : swappedStores [.Subscript o i tpos] e X.env = pure none) (h1 : (assignEach [.Subscript o i tpos] X.env).map (·.2) = [assign (.Subscript o i tpos) X.env])
    (ha : ∀ v, assign (.Subscript o i tpos) X.env v = (do
      let ov ← holding [v] (eval o X.env)
      let iv ← holding [v, ov] (eval i X.env)
      standAt tpos
      holding [v, ov, iv] (setItem ov iv v)
      release [v, ov, iv] [])) :
    SS X W C (.Assign [.Subscript o i tpos] e pos) (fun δ => M.bind (me δ) fun d => M.bind (mo δ) fun x => M.bind (mi δ) fun y => fun μ => match x, y with
    | .ptr n, .int k => match μ[n]? with
      | some (.lst ds) => match ixN ds.length k with
        | some j => some (.ok (.nx δ), μ.set n (.lst (ds.set j d)))
        | none => none
      | _ => none
    | _, _ => none) := by
  obtain ⟨te, pe, qe⟩ := he
  obtain ⟨to, po, qo⟩ := ho
  obtain ⟨ti, pi, qi⟩ := hi
  refine ⟨_, ps_asg pe (pg_sub po pi set_list ha) hs hw h1, fun w σ δ μ D k sl h => ?_⟩
  refine qe w σ δ μ _ k sl ((DoesS.bind h).mono fun d w1 μ1 l1 k1 h1 v rv => ?_)
  refine qo w1 σ δ μ1 _ k1 (sl.mono l1) ((DoesS.bind h1).mono fun x w2 μ2 l2 k2 h2 vx rx => ?_)
  refine qi w2 σ δ μ2 _ k2 ((sl.mono l1).mono l2) ((DoesS.bind h2).mono fun y w3 μ3 l3 k3 h3 vy ry => ?_)
  obtain ⟨r, e, p⟩ := h3
  dsimp only at e
  split at e
  · rename_i m z
    split at e
    · rename_i ds q
      split at e
      · rename_i j hj
        cases e
        obtain ⟨a, g1, rfl⟩ := rep_ptr.mp (l3.rep rx)
        obtain ⟨vs, g3, g4⟩ := k3.ce m a _ g1 q
        refine ⟨a, vs, z, j, rfl, rep_int.mp ry, g3, by rw [← Reps.length g4]; exact hj, ?_⟩
        have l4 : Wle w3 ⟨upd w3.H a (.lst (vs.set j v)), w3.F, w3.ρ⟩ := .write k3 g1
        exact p ⟨upd w3.H a (.lst (vs.set j v)), w3.F, w3.ρ⟩ l4 (k3.write g1 ⟨_, upd_same, Reps.set (l3.rep (l2.rep rv)) j g4⟩) σ ((((sl.mono l1).mono l2).mono l3).mono l4)
      · cases e
    · cases e
  · cases e
theorem putF_fst {f : Str} {v : V} {d : D} : ∀ {fs : List (Str × D)} {vs : List (Str × V)}, vs.map (·.1) = fs.map (·.1) → (putF f v vs).map (·.1) = (putD f d fs).map (·.1)
  | [], [], _ => rfl
  | [], _ :: _, h => by simp at h
  | _ :: _, [], h => by simp at h
  | (g, x) :: fs, (g', y) :: vs, h => by
    simp only [List.map_cons, List.cons.injEq] at h
    obtain ⟨rfl, h⟩ := h
    unfold putF putD
    by_cases e : g' = f
    · rw [if_pos e, if_pos e]; simp [h]
    · rw [if_neg e, if_neg e]; show g' :: _ = g' :: _; rw [putF_fst h]
theorem putF_snd {K : PySem.W.Frag} {F : Hp} {ρ : List Addr} {f : Str} {v : V} {d : D} (rv : Rep K F ρ d v) : ∀ {fs : List (Str × D)} {vs : List (Str × V)}, vs.map (·.1) = fs.map (·.1) → Reps K F ρ (fs.map (·.2)) (vs.map (·.2)) → Reps K F ρ ((putD f d fs).map (·.2)) ((putF f v vs).map (·.2))
  | [], [], _, _ => Reps.one rv
  | [], _ :: _, h, _ => by simp at h
  | _ :: _, [], h, _ => by simp at h
  | (g, x) :: fs, (g', y) :: vs, h, r => by
    simp only [List.map_cons, List.cons.injEq] at h
    obtain ⟨rfl, h⟩ := h
    simp only [List.map_cons, Reps] at r
    obtain ⟨u, us, e, r1, r2⟩ := r
    obtain ⟨rfl, rfl⟩ := List.cons.inj e
    unfold putF putD
    by_cases e : g' = f
    · rw [if_pos e, if_pos e]; exact Reps.cons rv r2
    · rw [if_neg e, if_neg e]; exact Reps.cons r1 (putF_snd rv h r2)
theorem ss_setF {o e : Expr} {f : Str} {mo me : List (Option D) → M D} {tpos : Pos} (c : Cls X.K C) (na : NoAttr X.K C f) (ho : SE X W C o mo) (he : SE X W C e me) (hs : swapsWith e (some (.Attribute o f tpos)) pos.line X.env = pure false) :
    SS X W C (.Assign [.Attribute o f tpos] e pos) (fun δ => M.bind (me δ) fun d => M.bind (mo δ) fun x => fun μ => match x with
    | .ptr n => match μ[n]? with
      | some (.ins fs) => if fs.length ≤ 100 then some (.ok (.nx δ), μ.set n (.ins (putD f d fs))) else none
      | _ => none
    | _ => none) := by
  obtain ⟨te, pe, qe⟩ := he
  obtain ⟨to, po, qo⟩ := ho
  refine ⟨_, ps_fld po pe hs, fun w σ δ μ D k sl h => ?_⟩
  refine qe w σ δ μ _ k sl ((DoesS.bind h).mono fun d w1 μ1 l1 k1 h1 v rv => ?_)
  refine qo w1 σ δ μ1 _ k1 (sl.mono l1) ((DoesS.bind h1).mono fun x w2 μ2 l2 k2 h2 vx rx => ?_)
  obtain ⟨r, e, p⟩ := h2
  dsimp only at e
  split at e
  · rename_i m
    split at e
    · rename_i fs q
      split at e
      · rename_i hl
        cases e
        obtain ⟨a, g1, rfl⟩ := rep_ptr.mp rx
        obtain ⟨dx, vs, g3, g4, g5⟩ := k2.ce m a _ g1 q
        have hlen : vs.length = fs.length := by simpa using congrArg List.length g4
        have l4 : Wle w2 ⟨upd w2.H a (.ins C dx (putF f v vs)), w2.F, w2.ρ⟩ := .write k2 g1
        refine ⟨a, C, dx, vs, rfl, g3, c, na, by omega, ?_⟩
        exact p ⟨upd w2.H a (.ins C dx (putF f v vs)), w2.F, w2.ρ⟩ l4 (k2.write g1 ⟨dx, _, upd_same, putF_fst g4, putF_snd (l2.rep rv) g4 g5⟩) σ (((sl.mono l1).mono l2).mono l4)
      · cases e
    · cases e
  · cases e
/-! ### branches and loops -/
theorem ss_if {c : Expr} {a b : List Stmt} {mc : List (Option D) → M Bool} {ma mb : List (Option D) → M Fl} (hc : ST X W C c mc) (ha : SB X W C a ma) (hb : SB X W C b mb) :
    SS X W C (.If c a b pos) (fun δ => M.bind (mc δ) fun k => if k then ma δ else mb δ) := by
  obtain ⟨tc, pc, qc⟩ := hc
  obtain ⟨ta, pa, qa⟩ := ha
  obtain ⟨tb, pb, qb⟩ := hb
  refine ⟨_, ps_if pc pa pb, fun w σ δ μ D k sl h => ?_⟩
  refine qc w σ δ μ _ k sl ((DoesS.bind h).mono fun x w1 μ1 l1 k1 h1 => ?_)
  cases x with
  | true => exact iteT (qa w1 σ δ μ1 D k1 (sl.mono l1) h1)
  | false => exact iteF (qb w1 σ δ μ1 D k1 (sl.mono l1) h1)
theorem ss_for {tg iter : Expr} {body : List Stmt} {t : Tg} {mi : List (Option D) → M Its} {mb : List (Option D) → M Fl} (hp : PassesOwn (model X.prog X.w) X.A X.env X.xe) (hc : X.calm = true) (hi : SI X W C tg iter mi) (hg : PG X tg (gM X C t)) (hb : SB X W C body mb)
    (hs : ∀ x, foldedSetIterable iter X.env x = pure x) :
    SS X W C (.For tg iter body [] pos) (fun δ => M.bind (mi δ) fun its => forL its.src t mb its.items δ) := by
  obtain ⟨wi, pi, qi⟩ := hi
  obtain ⟨tb, pb, qb⟩ := hb
  refine ⟨_, ps_for hp hc pi hg pb hs, fun w σ δ μ D k sl h => ?_⟩
  refine qi w σ δ μ _ k sl ((DoesS.bind h).mono fun its w1 μ1 l1 k1 h1 s1 J walk => ?_)
  refine ⟨fun i m τ H => m = its.items.length - i ∧ i ≤ its.items.length ∧ ∃ w2 δ2 μ2, w2.H = H ∧ Wle w1 w2 ∧ Wok X.K C w2 μ2 ∧ Slots X.K w2 τ δ2 ∧ srcOk its.src μ2 = true ∧ DoesS X W C w2 μ2 (forL its.src t mb (its.items.drop i) δ2) D,
    ⟨its.items.length, by omega, Nat.zero_le _, w1, δ, μ1, rfl, .refl w1, k1, sl.mono l1, s1, by simpa using h1⟩, ?_⟩
  rintro i m τ H ⟨rfl, hi, w2, δ2, μ2, rfl, l2, k2, sl2, s2, h2⟩
  obtain ⟨wgo, wstop⟩ := walk i w2 μ2 l2 k2 s2
  by_cases hlt : i < its.items.length
  · have hd := List.getElem?_eq_getElem hlt
    obtain ⟨go, yl⟩ := wgo _ hd
    rw [List.drop_eq_getElem_cons hlt] at h2
    generalize its.items[i] = d at *
    refine .inr ⟨go, fun τ' H' => ∃ w2 δ2 μ2, w2.H = H' ∧ Wle w1 w2 ∧ Wok X.K C w2 μ2 ∧ Slots X.K w2 τ' δ2 ∧ srcOk its.src μ2 = true ∧ DoesS X W C w2 μ2 (forL its.src t mb (its.items.drop (i + 1)) δ2) D,
      fun τ' H' z => ⟨its.items.length - (i + 1), by omega, rfl, hlt, z⟩, fun x H' hy => ?_⟩
    obtain ⟨w3, rfl, l3, k3, r3⟩ := yl x H' hy
    have h3 := h2.up l3
    unfold forL at h3
    cases eb : bindT t d δ2 with
    | none => rw [eb] at h3; exact h3.of_bad.elim
    | some δ3 =>
      rw [eb] at h3
      simp only at h3
      refine ⟨w3, δ2, d, δ3, rfl, ⟨μ2, k3⟩, sl2.mono l3, r3, eb, fun τ3 sl3 _ => ?_⟩
      refine qb w3 τ3 δ3 μ2 _ k3 sl3 ?_
      obtain ⟨r, e, pr⟩ := h3
      simp only [M.bind] at e
      cases e1 : mb δ3 μ2 with
      | none => rw [e1] at e; cases e
      | some r1 =>
        obtain ⟨r1, μ4⟩ := r1
        rw [e1] at e
        refine ⟨(r1, μ4), rfl.trans e1, fun w4 l4 k4 => ?_⟩
        cases r1 with
        | error c => simp only at e; cases e; exact pr w4 l4 k4
        | ok f =>
          cases f with
          | nx δ4 =>
            simp only [guard] at e
            intro τ4 sl4
            split at e
            · rename_i hs4
              exact ⟨w4, δ4, μ4, rfl, (l2.trans l3).trans l4, k4, sl4, hs4, r, e, fun w5 l5 k5 => pr w5 (l4.trans l5) k5⟩
            · cases e
          | ct δ4 =>
            simp only [guard] at e
            intro τ4 sl4
            split at e
            · rename_i hs4
              exact ⟨w4, δ4, μ4, rfl, (l2.trans l3).trans l4, k4, sl4, hs4, r, e, fun w5 l5 k5 => pr w5 (l4.trans l5) k5⟩
            · cases e
          | bk δ4 => simp only [M.ok] at e; cases e; exact pr w4 l4 k4
          | rt d4 => simp only [M.ok] at e; cases e; exact pr w4 l4 k4
  · have hi2 : i = its.items.length := by omega
    refine .inl ⟨wstop hi2, ?_⟩
    rw [hi2, List.drop_length] at h2
    exact h2.of_ok rfl (.refl w2) k2 τ sl2
theorem ss_while {c : Expr} {body : List Stmt} {N : Nat} {mc : List (Option D) → M Bool} {mb : List (Option D) → M Fl} (hp : PassesOwn (model X.prog X.w) X.A X.env X.xe) (hc : ST X W C c mc) (hb : SB X W C body mb) :
    SS X W C (.While c body [] pos) (fun δ => whileL mc mb N δ) := by
  obtain ⟨tc, pc, qc⟩ := hc
  obtain ⟨tb, pb, qb⟩ := hb
  refine ⟨_, ps_while hp pc pb, fun w σ δ μ D k sl h => ?_⟩
  refine ⟨fun m τ H => ∃ w2 δ2 μ2, w2.H = H ∧ Wok X.K C w2 μ2 ∧ Slots X.K w2 τ δ2 ∧ DoesS X W C w2 μ2 (whileL mc mb m δ2) D, ⟨N, w, δ, μ, rfl, k, sl, h⟩, ?_⟩
  rintro m τ H ⟨w2, δ2, μ2, rfl, k2, sl2, h2⟩
  cases m with
  | zero => exact h2.of_bad.elim
  | succ m =>
    unfold whileL at h2
    refine qc w2 τ δ2 μ2 _ k2 sl2 ((DoesS.bind h2).mono fun b w3 μ3 l3 k3 h3 => ?_)
    cases b with
    | false => exact iteF (h3.of_ok rfl (.refl w3) k3 τ (sl2.mono l3))
    | true =>
      refine iteT ⟨fun τ' H' => ∃ w2 δ2 μ2, w2.H = H' ∧ Wok X.K C w2 μ2 ∧ Slots X.K w2 τ' δ2 ∧ DoesS X W C w2 μ2 (whileL mc mb m δ2) D, fun τ' H' z => ⟨m, by omega, z⟩, ?_⟩
      refine qb w3 τ δ2 μ3 _ k3 (sl2.mono l3) ?_
      obtain ⟨r, e, pr⟩ := h3
      simp only [M.bind, if_true] at e
      cases e1 : mb δ2 μ3 with
      | none => rw [e1] at e; cases e
      | some r1 =>
        obtain ⟨r1, μ4⟩ := r1
        rw [e1] at e
        refine ⟨(r1, μ4), rfl.trans e1, fun w4 l4 k4 => ?_⟩
        cases r1 with
        | error c => simp only at e; cases e; exact pr w4 l4 k4
        | ok f =>
          cases f with
          | nx δ4 => exact fun τ4 sl4 => ⟨w4, δ4, μ4, rfl, k4, sl4, r, e, fun w5 l5 k5 => pr w5 (l4.trans l5) k5⟩
          | ct δ4 => exact fun τ4 sl4 => ⟨w4, δ4, μ4, rfl, k4, sl4, r, e, fun w5 l5 k5 => pr w5 (l4.trans l5) k5⟩
          | bk δ4 => simp only [M.ok] at e; cases e; exact pr w4 l4 k4
          | rt d4 => simp only [M.ok] at e; cases e; exact pr w4 l4 k4
/-! ### exceptions -/
/-- X(), X an own exception class without own __init__ -/
theorem pmk_own0 {C : Addr} {bmB : List Value} {B newId initId : String} {x : Str} {p pos : Pos} (F : ExcBaseFacts B newId initId bmB) (q : PySem.W.excIn X.K C bmB newId = true) (gC : X.mg x = some (.ref C))
    (kC : PySem.W.keepIn X.K (.ref C) = true) (r : Raises X (.ref C)) (hg : Gl X x) (hdb : (x == ("__debug__" : Str)) = false) :
    PMk X (.Call (.Name x p) [] [] pos) (fun σ H Q => Q (.ref C) none H) := by
  intro pins s σ H Q I h
  refine wpAny_Call_Name_kw (ld_glob I hg gC ?_ hdb)
  refine PySem.W.callWith_K0 (K := X.K) I.kIn kC ?_
  show wpAny _ _ (call (.ref C) []) _ _ _
  obtain ⟨bm, N, nm, qn, bs, hdct, sn, sub, ab, col, dd, k0, k1, k2, k3, k5, mN, hC, hN, hni, T⟩ := exc_obj I.kIn q
  refine wpAny_call_exc_subT F T hC hN hni (fun h' e hm => ?_) (Nat.zero_le _)
  exact mk_of I hm r h (I.hok.gone hm.new)
theorem ss_raise {x : Str} {c : Addr} {p cpos : Pos} (hc : X.calm = true) (tk : Takes X W) (he : PMk X (.Call (.Name x p) [] [] cpos) (fun σ H Q => Q (.ref c) none H)) (hx : exV X.mg x = .ref c) :
    SS X W C (.Raise (some (.Call (.Name x p) [] [] cpos)) none pos) (fun _ => M.exc x) := by
  refine ⟨_, ps_raise hc tk he, fun w σ δ μ D k sl h => ?_⟩
  obtain ⟨r, e, pr⟩ := h
  have e' : some (Except.error x, μ) = some r := e
  cases e'
  have := pr w (.refl w) k σ
  rw [hx] at this
  exact this
/-- what a try with one clause wishes of its body's errors -/
abbrev WTry (X : Cx) (c : Value) (Wout : WX) (b : Bool) (D : Ends) : WX := wOnly X.K c (fun _ _ _ => tRet (tC (.bl b))) Wout D
theorem ss_try {x : Str} {b : Bool} {body : List Stmt} {np pos' bp rp : Pos} {j : Nat} {mb : List (Option D) → M Fl} (hs : X.stack = X.env :: X.outer) (hf : X.env.frame = some X.env.locals) (hc : Names X x (exV X.mg x)) (tk : Takes X W)
    (hx : PySem.W.exmOne X.K (exV X.mg x) (exV X.mg x) = some true)
    (hb : ∀ (W' : WX) (pn : List (Addr × Obj)) (xe : Value → Shared → Prop), Takes (X.tr pn xe) W' → PassesOwn (model X.prog X.w) X.A X.env xe → SB (X.tr pn xe) W' C body mb) :
    SS X W C (.Try body [.ExceptHandler (some (.Name x np)) none [.Return (some (.Constant (.bool b) j bp)) rp] pos'] [] [] pos) (fun δ => fun μ => match mb δ μ with
      | some (.error c, μ') => if c = x then M.ok (.rt (.bl b)) μ' else none
      | r => r) := by
  refine ⟨_, ps_try_only (suite := []) (tb := fun W' => tMS X W' C mb) (ts := fun _ _ _ => tRet (tC (.bl b))) hs hf hc tk (fun W' pn xe tk' ps => (hb W' pn xe tk' ps).ps) (fun a oe cls d pn _ _ => pss_one (ps_ret pe_bl)), fun w σ δ μ D k sl h => ?_⟩
  refine ⟨w, δ, μ, rfl, k, sl, ?_⟩
  obtain ⟨r, e, pr⟩ := h
  dsimp only at e
  cases e1 : mb δ μ with
  | none => rw [e1] at e; cases e
  | some r1 =>
    obtain ⟨r1, μ1⟩ := r1
    rw [e1] at e
    refine ⟨(r1, μ1), rfl.trans e1, fun w1 l1 k1 => ?_⟩
    cases r1 with
    | ok f =>
      cases e
      cases f <;> exact pr w1 l1 k1
    | error c =>
      simp only at e
      split at e
      · rename_i hcx
        subst hcx
        have e' : some (Except.ok (Fl.rt (.bl b)), μ1) = some r := e
        cases e'
        have fin := pr w1 l1 k1
        exact fun τ => ⟨true, hx, fun _ a ha => fin (.bl b) (rep_bl.mpr rfl), fun z => by cases z⟩
      · cases e
end
end NB
end
set_option maxHeartbeats 4000000
section
/-! Defs. -/
namespace NB
open PySem PySem.Spec L2
open PyProof.Rows hiding St
section
variable {K : PySem.W.Frag} {C : Addr} {F F' : Hp} {ρ : List Addr} {n0 : Nat} {μ : List MO}
mutual
theorem Rep.below : ∀ (d : D) (v : V), Rep K F ρ d v → NB.below ρ.length d = true
  | .non, _, h => rfl
  | .bl _, _, h => rfl
  | .int _, _, h => rfl
  | .str _, _, h => rfl
  | .tup ds, v, h => by
    simp only [Rep] at h
    obtain ⟨a, vs, e1, e2, e3⟩ := h
    exact Reps.below ds vs e3
  | .lst ds, v, h => by
    simp only [Rep] at h
    obtain ⟨a, vs, e1, e2, e3⟩ := h
    exact Reps.below ds vs e3
  | .scr ds, v, h => by
    simp only [Rep] at h
    obtain ⟨a, vs, e1, e2, e3⟩ := h
    exact Reps.below ds vs e3
  | .ptr n, v, h => by
    simp only [Rep] at h
    obtain ⟨a, e1, e2⟩ := h
    obtain ⟨hl, _⟩ := List.getElem?_eq_some_iff.mp e1
    simp only [NB.below, decide_eq_true_eq]
    exact hl
theorem Reps.below : ∀ (ds : List D) (vs : List V), Reps K F ρ ds vs → belows ρ.length ds = true
  | [], _, h => rfl
  | d :: ds, vs, h => by
    simp only [Reps] at h
    obtain ⟨v, r, e1, e2, e3⟩ := h
    simp only [belows, Rep.below d v e2, Reps.below ds r e3, Bool.and_self]
end
mutual
theorem Rep.cut (e : Same F F') : ∀ (d : D) (v : V), NB.below n0 d = true → Rep K F ρ d v → Rep K F' (ρ.take n0) d v
  | .non, _, _, h => h
  | .bl _, _, _, h => h
  | .int _, _, _, h => h
  | .str _, _, _, h => h
  | .tup ds, v, b, h => by
    simp only [Rep] at h ⊢
    obtain ⟨a, vs, e1, e2, e3⟩ := h
    exact ⟨a, vs, e1, SqT.same e e2, Reps.cut e ds vs b e3⟩
  | .lst ds, v, b, h => by
    simp only [Rep] at h ⊢
    obtain ⟨a, vs, e1, e2, e3⟩ := h
    exact ⟨a, vs, e1, e _ _ e2, Reps.cut e ds vs b e3⟩
  | .scr ds, v, b, h => by
    simp only [Rep] at h ⊢
    obtain ⟨a, vs, e1, e2, e3⟩ := h
    exact ⟨a, vs, e1, e.seq e2, Reps.cut e ds vs b e3⟩
  | .ptr n, v, b, h => by
    simp only [Rep] at h ⊢
    obtain ⟨a, e1, e2⟩ := h
    simp only [NB.below, decide_eq_true_eq] at b
    exact ⟨a, by rw [List.getElem?_take, if_pos b]; exact e1, e2⟩
theorem Reps.cut (e : Same F F') : ∀ (ds : List D) (vs : List V), belows n0 ds = true → Reps K F ρ ds vs → Reps K F' (ρ.take n0) ds vs
  | [], _, _, h => h
  | d :: ds, vs, b, h => by
    simp only [Reps] at h ⊢
    simp only [belows, Bool.and_eq_true] at b
    obtain ⟨v, r, e1, e2, e3⟩ := h
    exact ⟨v, r, e1, Rep.cut e d v b.1 e2, Reps.cut e ds r b.2 e3⟩
end
mutual
theorem frzD_rep (e : Same F F') (hc : ∀ n a ds, n0 ≤ n → ρ[n]? = some a → μ[n]? = some (.lst ds) → ∃ vs, F' a = some (.lst vs) ∧ Reps K F ρ ds vs) : ∀ (d : D) (v : V) (d' : D), frzD μ n0 d = some d' → Rep K F ρ d v → Rep K F' (ρ.take n0) d' v
  | .non, v, d', q, h => by cases q; exact h
  | .bl _, v, d', q, h => by cases q; exact h
  | .int _, v, d', q, h => by cases q; exact h
  | .str _, v, d', q, h => by cases q; exact h
  | .tup ds, v, d', q, h => by
    simp only [frzD, Option.map_eq_some_iff] at q
    obtain ⟨es, q1, rfl⟩ := q
    simp only [Rep] at h ⊢
    obtain ⟨a, vs, e1, e2, e3⟩ := h
    exact ⟨a, vs, e1, SqT.same e e2, frzDs_rep e hc ds vs es q1 e3⟩
  | .lst ds, v, d', q, h => by
    simp only [frzD, Option.map_eq_some_iff] at q
    obtain ⟨es, q1, rfl⟩ := q
    simp only [Rep] at h ⊢
    obtain ⟨a, vs, e1, e2, e3⟩ := h
    exact ⟨a, vs, e1, e _ _ e2, frzDs_rep e hc ds vs es q1 e3⟩
  | .scr ds, v, d', q, h => by cases q
  | .ptr n, v, d', q, h => by
    simp only [Rep] at h
    obtain ⟨a, e1, e2⟩ := h
    simp only [frzD] at q
    split at q
    · rename_i hl
      cases q
      simp only [Rep]
      exact ⟨a, by rw [List.getElem?_take, if_pos hl]; exact e1, e2⟩
    · rename_i hl
      split at q
      · rename_i ds qd
        split at q
        · rename_i hb
          cases q
          obtain ⟨vs, g1, g2⟩ := hc n a ds (by omega) e1 qd
          simp only [Rep]
          exact ⟨a, vs, e2, g1, Reps.cut e ds vs hb g2⟩
        · cases q
      · cases q
theorem frzDs_rep (e : Same F F') (hc : ∀ n a ds, n0 ≤ n → ρ[n]? = some a → μ[n]? = some (.lst ds) → ∃ vs, F' a = some (.lst vs) ∧ Reps K F ρ ds vs) : ∀ (ds : List D) (vs : List V) (es : List D), frzDs μ n0 ds = some es → Reps K F ρ ds vs → Reps K F' (ρ.take n0) es vs
  | [], vs, es, q, h => by cases q; exact h
  | d :: ds, vs, es, q, h => by
    simp only [frzDs] at q
    split at q
    · rename_i x xs q1 q2
      cases q
      simp only [Reps] at h ⊢
      obtain ⟨v, r, e1, e2, e3⟩ := h
      exact ⟨v, r, e1, frzD_rep e hc d v x q1 e2, frzDs_rep e hc ds r xs q2 e3⟩
    · cases q
end
end
section
variable {K : PySem.W.Frag} {C : Addr}
/-- the caller's world behind the call: the def's own cells are no cells any more -/
def Wd.shut (w w1 : Wd) : Wd := ⟨w1.H, fun a => if a ∈ w1.ρ.drop w.ρ.length then (match w1.H a with
  | some (.lst vs) => some (.lst vs)
  | _ => none) else w1.F a, w.ρ⟩
theorem shut_same {w w1 : Wd} {μ1 : List MO} (k1 : Wok K C w1 μ1) : Same w1.F (w.shut w1).F := by
  intro a u e
  have : a ∉ w1.ρ.drop w.ρ.length := fun z => by
    have := k1.fn a (List.mem_of_mem_drop z)
    rw [e] at this
    cases this
  show (if a ∈ w1.ρ.drop w.ρ.length then _ else _) = some u
  rw [if_neg this]
  exact e
theorem pre_take {w w1 : Wd} (l : Wle w w1) : w1.ρ.take w.ρ.length = w.ρ := by
  obtain ⟨s, e, _⟩ := l.pre
  rw [e]
  simp
theorem pre_drop {w w1 : Wd} (l : Wle w w1) {a : Addr} (h : a ∈ w1.ρ.drop w.ρ.length) : w.H a = none := by
  obtain ⟨s, e, n⟩ := l.pre
  rw [e] at h
  simp only [List.drop_left] at h
  exact n a h
theorem shut_le {w w1 : Wd} {μ μ1 : List MO} (k : Wok K C w μ) (k1 : Wok K C w1 μ1) (l : Wle w w1) : Wle w (w.shut w1) := by
  refine ⟨fun a u e h => l.keep a u e h, l.fle.trans (shut_same k1), fun a h => ?_, ⟨[], by simp [Wd.shut], by simp⟩, fun a h => l.dom a h⟩
  have : a ∉ w1.ρ.drop w.ρ.length := fun z => h (pre_drop l z)
  show (if a ∈ w1.ρ.drop w.ρ.length then _ else _) = _
  rw [if_neg this]
  exact l.fold a h
theorem shut_ok {w w1 : Wd} {μ μ1 : List MO} (k : Wok K C w μ) (k1 : Wok K C w1 μ1) (l : Wle w w1) (hb : (μ1.take μ.length).all (belowM μ.length) = true) : Wok K C (w.shut w1) (μ1.take μ.length) := by
  have hle : w.ρ.length ≤ w1.ρ.length := by
    obtain ⟨s, e, _⟩ := l.pre
    rw [e]
    simp
  refine ⟨fun a u e => ?_, k.nd, ?_, fun a ha => ?_, fun n a m h1 h2 => ?_⟩
  · have e : (if a ∈ w1.ρ.drop w.ρ.length then (match w1.H a with
      | some (.lst vs) => some (.lst vs)
      | _ => none) else w1.F a) = some u := e
    split at e
    · split at e
      · rename_i vs q
        cases e
        exact q
      · cases e
    · exact k1.fh a u e
  · show w.ρ.length = _
    rw [List.length_take, ← k1.len, ← k.len]
    omega
  · have ha : a ∈ w.ρ := ha
    have h1 : a ∈ w1.ρ := by
      rw [← pre_take l] at ha
      exact List.mem_of_mem_take ha
    have : a ∉ w1.ρ.drop w.ρ.length := fun z => (k.has ha) (pre_drop l z)
    show (if a ∈ w1.ρ.drop w.ρ.length then _ else _) = _
    rw [if_neg this]
    exact k1.fn a h1
  · have h1 : w.ρ[n]? = some a := h1
    obtain ⟨hn, _⟩ := List.getElem?_eq_some_iff.mp h1
    rw [List.getElem?_take] at h2
    split at h2
    · rename_i hnm
      have c := k1.ce n a m (l.get n a h1) h2
      have hbm : belowM μ.length m = true := by
        have := List.all_eq_true.mp hb m (List.mem_of_getElem? (by rw [List.getElem?_take, if_pos hnm]; exact h2))
        exact this
      have hlen : μ.length = w.ρ.length := k.len.symm
      cases m with
      | lst ds =>
        obtain ⟨vs, g1, g2⟩ := c
        refine ⟨vs, g1, ?_⟩
        have := Reps.cut (n0 := μ.length) (shut_same (w := w) k1) ds vs hbm g2
        rw [hlen, pre_take l] at this
        exact this
      | ins fs =>
        obtain ⟨dx, vs, g1, g2, g3⟩ := c
        refine ⟨dx, vs, g1, g2, ?_⟩
        have hbm : belows μ.length (fs.map (·.2)) = true := hbm
        have := Reps.cut (n0 := μ.length) (shut_same (w := w) k1) _ _ hbm g3
        rw [hlen, pre_take l] at this
        exact this
    · cases h2
/-- the cells know only cells that are there -/
theorem Wok.below {w : Wd} {μ : List MO} (k : Wok K C w μ) : μ.all (belowM μ.length) = true := by
  refine List.all_eq_true.mpr fun m hm => ?_
  obtain ⟨n, hn⟩ := List.mem_iff_getElem?.mp hm
  obtain ⟨hl, _⟩ := List.getElem?_eq_some_iff.mp hn
  have hl2 : n < w.ρ.length := by rw [k.len]; exact hl
  have c := k.ce n _ m (List.getElem?_eq_getElem hl2) hn
  rw [← k.len]
  cases m with
  | lst ds =>
    obtain ⟨vs, _, g2⟩ := c
    exact Reps.below ds vs g2
  | ins fs =>
    obtain ⟨dx, vs, _, _, g3⟩ := c
    exact Reps.below _ _ g3
/-- back at the caller -/
theorem back_ok {w w1 : Wd} {μ μ1 : List MO} {r : Except Str D} {q : Except Str D × List MO} (k : Wok K C w μ) (k1 : Wok K C w1 μ1) (l : Wle w w1) (h : back μ μ1 r = some q) :
    q.1 = r ∧ ∃ w', w'.H = w1.H ∧ w' = w.shut w1 ∧ Wle w w' ∧ Wok K C w' q.2 := by
  have kb := k.below
  have same : ∀ {μ2 : List MO}, μ2 = μ1.take μ.length → (μ1.take μ.length).all (belowM μ.length) = true → q = (r, μ2) → q.1 = r ∧ ∃ w', w'.H = w1.H ∧ w' = w.shut w1 ∧ Wle w w' ∧ Wok K C w' q.2 := fun {μ2} e hb hq => by
    subst hq
    refine ⟨rfl, w.shut w1, rfl, rfl, shut_le k k1 l, ?_⟩
    subst e
    exact shut_ok k k1 l hb
  unfold back at h
  split at h
  · rename_i hl
    have e : μ1.take μ.length = μ1 := by rw [← hl]; simp
    refine same e.symm ?_ (Option.some.inj h).symm
    rw [e, ← hl]
    exact k1.below
  · split at h
    · rename_i ht
      exact same ht.symm (by rw [ht]; exact kb) (Option.some.inj h).symm
    · split at h
      · rename_i hb
        exact same rfl hb (Option.some.inj h).symm
      · cases h
end
/-- THE RULE for a def: its body does what exB says -/
theorem fn_ok {P : Program} {w : World} {K : PySem.W.Frag} {C : Addr} {mg : Str → Option Value} {base : Heap} {x qual : Str} {st : Stmt} {dvs : List V} {kws : List (Str × V)} {f : Addr} {fd : FuncData} {N ps : List Str} {k : Nat} {G : Str → Option D} {Φ : Nat → List D → M D} {g : Fn}
    (F : FunD K x qual (defArgs st) (defBody st) (defScope st) dvs kws f fd) (S : FnScope N ps (defScope st)) (hp : g.np = ps.length) (hl : g.nl = N.length)
    (hb : ∀ (cdv : Value) (A : Around) (outer : List Env) (s : Shared) (H : Hp) (E : XK), Room k (A.deeper (envOfC qual (defScope st) s.heap.objs.size f cdv)) →
      SB (cxOf (L2.CX P w) P w K mg base N qual (defScope st) f cdv A outer s H E) (fun cls d _ H => E cls d H) C (defBody st) (exB G Φ g.body)) :
    FnOk P w K mg base (L2.CX P w) (k + 1) f fd ps (spM K C mg ps.length (runFn G Φ g)) := by
  refine F.ok S (fun vs H Q E h => h.1) fun cdv A outer s H vs Q E hr h => ?_
  obtain ⟨t, p, q⟩ := hb cdv A outer s H E hr
  refine ⟨t, p, ?_⟩
  obtain ⟨hlen, w0, μ, ds, r, rfl, k0, rv, e, fin⟩ := h
  unfold runFn at e
  have hds : ds.length = g.np := by rw [rv.length, hlen, hp]
  rw [if_pos hds] at e
  have hd2 : ds.length = vs.length := rv.length
  have sl : Slots K w0 (L2.start N vs) (ds.map some ++ List.replicate (g.nl - ds.length) none) := by
    unfold L2.start
    refine ⟨by simp [hl, hd2], fun i d hi => ?_⟩
    rw [List.getElem?_append] at hi
    split at hi
    · rename_i hlt
      rw [List.getElem?_map] at hi
      obtain ⟨d1, h1, h2⟩ := Option.map_eq_some_iff.mp hi
      cases h2
      obtain ⟨v, g1, g2⟩ := Reps.get rv h1
      refine ⟨v, ?_, g2⟩
      rw [List.getElem?_append_left (by simpa [hd2] using hlt), List.getElem?_map, g1]
      rfl
    · rw [List.getElem?_replicate] at hi
      split at hi <;> cases hi
  refine q w0 (L2.start N vs) _ μ _ k0 sl ?_
  cases e1 : exB G Φ g.body (ds.map some ++ List.replicate (g.nl - ds.length) none) μ with
  | none => rw [e1] at e; cases e
  | some r1 =>
    obtain ⟨r1, μ1⟩ := r1
    rw [e1] at e
    refine ⟨(r1, μ1), e1, fun w1 l1 k1 => ?_⟩
    have hn0 : μ.length = w0.ρ.length := k0.len.symm
    cases r1 with
    | error c =>
      simp only at e
      obtain ⟨hr1, w', hH, _, l', k'⟩ := back_ok k0 k1 l1 e
      intro σ
      have := fin w' l' k'
      rw [hr1] at this
      rw [hH] at this
      exact this
    | ok fl =>
      cases fl with
      | bk δ => simp only at e; cases e
      | ct δ => simp only at e; cases e
      | nx δ =>
        intro σ _
        simp only at e
        split at e
        · obtain ⟨hr1, w', hH, _, l', k'⟩ := back_ok k0 k1 l1 e
          have := fin w' l' k'
          rw [hr1] at this
          rw [← hH]
          exact this .non (by simp [Rep])
        · cases e
          exact fin w1 l1 k1 .non (by simp [Rep])
      | rt d =>
        intro v rd
        simp only at e
        split at e
        · split at e
          · rename_i d' qd
            obtain ⟨hr1, w', hH, hw, l', k'⟩ := back_ok k0 k1 l1 e
            have := fin w' l' k'
            rw [hr1] at this
            rw [← hH]
            refine this v ?_
            subst hw
            have g := frzD_rep (K := K) (F := w1.F) (F' := (w0.shut w1).F) (ρ := w1.ρ) (n0 := μ.length) (μ := μ1) (shut_same k1) (fun n a es hn ha hm => ?_) d v d' qd rd
            · rw [hn0, pre_take l1] at g
              exact g
            · obtain ⟨us, g1, g2⟩ := k1.ce n a _ ha hm
              refine ⟨us, ?_, g2⟩
              have hin : a ∈ w1.ρ.drop w0.ρ.length := by
                rw [← hn0]
                refine List.mem_of_getElem? (i := n - μ.length) ?_
                rw [List.getElem?_drop]
                have : μ.length + (n - μ.length) = n := by omega
                rw [this]
                exact ha
              show (if a ∈ w1.ρ.drop w0.ρ.length then _ else _) = _
              rw [if_pos hin, g1]
          · cases e
        · cases e
          exact fin w1 l1 k1 v rd
end NB
end
set_option maxHeartbeats 4000000
section
/-! The checker: my text is the row's text. Expressions. -/
namespace NB
open PySem PySem.Spec L2
open PyProof.Rows hiding St

structure Tb where
  G : List (Str × D)
  fns : List (Str × Nat)
  mths : List (Str × Nat × Nat)
  mkc : Option (Str × Nat × Nat)
  cls : Bool
  flds : List Str
  excs : List Str
structure Ck where
  sc : Scope
  N : List Str
  st : Str → Bool
  T : Tb
def bltNames : List Str := ["len", "abs", "all", "any", "tuple", "list", "int", "bool", "str", "isinstance", "range", "zip", "enumerate"]
/-! ### small questions -/
def notStar : Expr → Bool
  | .Starred .. => false
  | _ => true
def notSet : Expr → Bool
  | .Set .. => false
  | _ => true
def notLc : Expr → Bool
  | .ListComp .. | .SetComp .. | .DictComp .. => false
  | _ => true
def notSlice : Expr → Bool
  | .Slice .. => false
  | _ => true
def plainO : Expr → Bool
  | .Name .. | .Attribute .. | .Subscript .. => true
  | _ => false
def isTup : Expr → Bool
  | .Tuple .. => true
  | _ => false
def plainT : Expr → Bool
  | .UnaryOp .Not _ _ | .BoolOp .. | .IfExp .. | .Compare .. => false
  | _ => true
def okN (x : Str) : Bool := !(x == ("__debug__" : Str)) && !(x == ("__classdict__" : Str)) && !decide (x = "__name__")
def visB (sc : Scope) (x : Str) : Bool := decide (sc.names.lookup x = some .local) || decide (sc.names.lookup x = some .cell) || decide (sc.names.lookup x = some .free)
def locB (sc : Scope) (x : Str) : Bool := decide (sc.names.lookup x = some .local) || decide (sc.names.lookup x = some .cell)
def glB (sc : Scope) (x : Str) : Bool := decide (sc.names.lookup x = some .globalImplicit)
def relS (scope sc : Scope) : Scope := { scope with names := scope.names.map fun (n, k) => if (k == .free && sc.kind == .function && sc.names.lookup n == some .cell) then (n, .cell) else (n, k) }
theorem relS_eq (scope : Scope) (env : Env) : relabel scope env = relS scope env.scope := rfl
def blkB (N : List Str) (sc scope : Scope) (own : List (Str × Nat)) : Bool :=
  decide (scope.kind = .function) && scope.names.all (fun y => decide (scope.names.lookup y.1 = some y.2)) && own.all (fun p => decide (N[p.2]? = some p.1)) &&
  scope.names.all (fun y => !decide (y.2 = .free) || decide (sc.names.lookup y.1 = some .cell) || decide (sc.names.lookup y.1 = some .free)) &&
  scope.names.all (fun y => !(decide (y.2 = .local) || decide (y.2 = .cell)) || decide (y.1 ∈ own.map (·.1)) || !decide (y.1 ∈ N))
theorem blk_ok {N : List Str} {sc scope : Scope} {own : List (Str × Nat)} (h : blkB N sc scope own = true) : BlkOk N sc scope own := by
  simp only [blkB, Bool.and_eq_true, decide_eq_true_eq, List.all_eq_true, Bool.or_eq_true, Bool.not_eq_true', decide_eq_false_iff_not] at h
  obtain ⟨⟨⟨⟨h1, h2⟩, h3⟩, h4⟩, h5⟩ := h
  refine ⟨h1, h2, h3, fun y hy e => ?_, fun y hy e => ?_⟩
  · rcases h4 y hy with (z | z) | z
    · exact absurd e z
    · exact .inl z
    · exact .inr z
  · rcases h5 y hy with (z | z) | z
    · rcases e with e | e
      · simp [e] at z
      · simp [e] at z
    · exact .inl z
    · exact .inr z
def ownOf (N : List Str) (own : List Nat) : List (Str × Nat) := own.map fun i => (N.getD i "", i)
theorem ownOf_snd (N : List Str) : ∀ own : List Nat, (ownOf N own).map (·.2) = own
  | [] => rfl
  | i :: own => by
    have := ownOf_snd N own
    unfold ownOf at this ⊢
    rw [List.map_cons, List.map_cons, this]
def Exs.len : Exs → Nat
  | .nil => 0
  | .cons _ es => es.len + 1
/-- what a test reads by itself -/
def tst : Ex → Bool
  | .ite .. => false
  | .not_ a => tst a
  | .and_ a b => tst a && tst b
  | .or_ a b => tst a && tst b
  | _ => true
/-! ### targets -/
def ckT (c : Ck) : Tg → Expr → Bool
  | .nm i, e => match e with
    | .Name x _ => decide (c.N[i]? = some x) && locB c.sc x && c.st x
    | _ => false
  | .nil, e => match e with
    | .Tuple [] _ _ => true
    | _ => false
  | .cons t ts, e => match e with
    | .Tuple (x :: xs) k p => notStar x && ckT c t x && ckT c ts (.Tuple xs k p)
    | _ => false
/-! ### expressions -/
def inBlk (c : Ck) (scope : Scope) : Ck := ⟨relS scope c.sc, c.N, fun x => decide (scope.names.lookup x = some .cell) || decide ((relS scope c.sc).names.lookup x = some .local), c.T⟩
/-- a name of the built-ins, called -/
def bl1 (c : Ck) (x y : Str) : Bool := decide (x = y) && glB c.sc x
mutual
def ckE (c : Ck) : Ex → Expr → Bool
  | .var i, e => match e with
    | .Name x _ => decide (c.N[i]? = some x) && visB c.sc x && okN x
    | _ => false
  | .int i, e => match e with
    | .Constant (.int j) _ _ => decide (i = j)
    | _ => false
  | .str x, e => match e with
    | .Constant (.str y) _ _ => decide (x = y)
    | _ => false
  | .bl b, e => match e with
    | .Constant (.bool d) _ _ => decide (b = d)
    | _ => false
  | .non, e => match e with
    | .Constant .none _ _ => true
    | _ => false
  | .glb x, e => match e with
    | .Name y _ => decide (x = y) && glB c.sc x && okN x && (c.T.G.lookup x).isSome
    | _ => false
  | .bin o a b, e => match e with
    | .BinOp x op y _ => decide (op = bopOf o) && ckE c a x && ckE c b y
    | _ => false
  | .binL o a b, e => match e with
    | .BinOp x op y _ => decide (op = bopOf o) && ckE c a x && ckE c b y
    | _ => false
  | .neg a, e => match e with
    | .UnaryOp .USub x _ => ckE c a x
    | _ => false
  | .not_ a, e => match e with
    | .UnaryOp .Not x _ => ckE c a x
    | _ => false
  | .cmp o a b, e => match e with
    | .Compare x [op] [y] _ => decide (op = copOf o) && ckE c a x && ckE c b y
    | _ => false
  | .and_ a b, e => match e with
    | .BoolOp .And (x :: y :: r) pos => ckE c a x && (match r with
      | [] => ckE c b y
      | z :: r => ckE c b (.BoolOp .And (y :: z :: r) pos))
    | _ => false
  | .or_ a b, e => match e with
    | .BoolOp .Or (x :: y :: r) pos => ckE c a x && (match r with
      | [] => ckE c b y
      | z :: r => ckE c b (.BoolOp .Or (y :: z :: r) pos))
    | _ => false
  | .ite k a b, e => match e with
    | .IfExp t x y _ => tst k && ckE c k t && ckE c a x && ckE c b y
    | _ => false
  | .tup es, e => match e with
    | .Tuple xs _ _ => ckA c es xs
    | _ => false
  | .lst _ es, e => match e with
    | .List xs _ => ckA c es xs
    | _ => false
  | .idx a i, e => match e with
    | .Subscript x y _ => notSlice y && ckE c a x && ckE c i y
    | _ => false
  | .slc a lo hi, e => match e with
    | .Subscript x (.Slice l h none _) _ => ckE c a x && ckO c lo l && ckO c hi h
    | _ => false
  | .fld a f, e => match e with
    | .Attribute x g _ => decide (g = f) && plainO x && c.T.cls && decide (f ∈ c.T.flds) && ckE c a x
    | _ => false
  | .call f es, e => match e with
    | .Call (.Name x _) (y :: ys) [] _ => decide (c.T.fns[f]? = some (x, es.len)) && !decide (x = ("" : Str)) && glB c.sc x && okN x && ckA c es (y :: ys)
    | _ => false
  | .mth f m o es, e => match e with
    | .Call (.Attribute x g apos) ys [] pos => decide (g = m) && decide ((m, f, es.len + 1) ∈ c.T.mths) && plainO x && c.T.cls && (apos.endLine == pos.line) && decide (ys.length < 20) && ckE c o x && ckA c es ys
    | _ => false
  | .mk f es, e => match e with
    | .Call (.Name x _) (y :: ys) [] _ => decide (c.T.mkc = some (x, f, es.len + 1)) && glB c.sc x && okN x && ckA c es (y :: ys)
    | _ => false
  | .len a, e => match e with
    | .Call (.Name x _) [y] [] _ => bl1 c x "len" && notStar y && ckE c a y
    | _ => false
  | .abs a, e => match e with
    | .Call (.Name x _) [y] [] _ => bl1 c x "abs" && notStar y && ckE c a y
    | _ => false
  | .all a, e => match e with
    | .Call (.Name x _) [y] [] _ => bl1 c x "all" && notStar y && ckE c a y
    | _ => false
  | .any a, e => match e with
    | .Call (.Name x _) [y] [] _ => bl1 c x "any" && notStar y && ckE c a y
    | _ => false
  | .tupl a, e => match e with
    | .Call (.Name x _) [y] [] _ => bl1 c x "tuple" && notStar y && ckE c a y
    | _ => false
  | .list _ a, e => match e with
    | .Call (.Name x _) [y] [] _ => bl1 c x "list" && notStar y && ckE c a y
    | _ => false
  | .int_ a, e => match e with
    | .Call (.Name x _) [y] [] _ => bl1 c x "int" && notStar y && ckE c a y
    | _ => false
  | .isi t a, e => match e with
    | .Call (.Name x _) [y, .Name z _] [] _ => bl1 c x "isinstance" && bl1 c z (tyName t) && notStar y && ckE c a y
    | _ => false
  | .comp _ own t i cn a, e => match e with
    | .ListComp elt [⟨tg, iter, ifs, asy⟩] scope _ => decide (asy = 0) && blkB c.N c.sc scope (ownOf c.N own) && (tgSlots t).all (fun i => decide (i ∈ own)) && notSet iter && ckI c i tg iter && ckT (inBlk c scope) t tg && ckF (inBlk c scope) cn ifs && ckE (inBlk c scope) a elt
    | _ => false
  | .app o a, e => match e with
    | .Call (.Attribute x g apos) [y] [] pos => decide (g = "append") && plainO x && (apos.endLine == pos.line) && notStar y && ckE c o x && ckE c a y
    | _ => false
  | .pop o a, e => match e with
    | .Call (.Attribute x g apos) [y] [] pos => decide (g = "pop") && plainO x && (apos.endLine == pos.line) && notStar y && ckE c o x && ckE c a y
    | _ => false
def ckA (c : Ck) : Exs → List Expr → Bool
  | .nil, l => match l with
    | [] => true
    | _ => false
  | .cons a es, l => match l with
    | x :: xs => notStar x && ckE c a x && ckA c es xs
    | _ => false
def ckI (c : Ck) : It → Expr → Expr → Bool
  | .seq a, _, e => ckE c a e
  | .rng a, _, e => match e with
    | .Call (.Name x _) [y] [] _ => bl1 c x "range" && notStar y && ckE c a y
    | _ => false
  | .rng2 a b, _, e => match e with
    | .Call (.Name x _) [y, z] [] _ => bl1 c x "range" && notStar y && notStar z && ckE c a y && ckE c b z
    | _ => false
  | .zip a b, tg, e => match e with
    | .Call (.Name x _) [y, z] [] _ => bl1 c x "zip" && isTup tg && notStar y && notStar z && ckE c a y && ckE c b z
    | _ => false
  | .enm a, tg, e => match e with
    | .Call (.Name x _) [y] [] _ => bl1 c x "enumerate" && isTup tg && notStar y && ckE c a y
    | _ => false
  | .ezip a b, tg, e => match e with
    | .Call (.Name x _) [.Call (.Name x2 _) [y, z] [] _] [] _ => bl1 c x "enumerate" && bl1 c x2 "zip" && isTup tg && notStar y && notStar z && ckE c a y && ckE c b z
    | _ => false
def ckO (c : Ck) : Cn → Option Expr → Bool
  | .no, o => match o with
    | none => true
    | _ => false
  | .yes a, o => match o with
    | some e => ckE c a e
    | _ => false
def ckF (c : Ck) : Cn → List Expr → Bool
  | .no, l => match l with
    | [] => true
    | _ => false
  | .yes a, l => match l with
    | [e] => tst a && ckE c a e
    | _ => false
end
/-! ### statements -/
/-- the store of a pair: none: outside; some none: a plain store; some (some names): from the right -/
def swN (sc : Scope) (ts vs : List Expr) : Option (Option (List Str)) :=
  if (!(ts.length == 2 || ts.length == 3) || vs.length != ts.length) = true then some none else
  if (vs.any fun | .Starred .. => true | _ => false) = true then some none else
  let line := (ts.head?.map (·.pos.line)).getD 0
  let names := ts.filterMap fun
    | .Name id pos => if sc.names.lookup id == some .local && pos.line == line then some id else none
    | _ => none
  if (names.length != ts.length || names.eraseDups.length != names.length) = true then some none else
  if (vs.all (foldedForSure 8)) = true then some none else
  if (vs.all (constantsAlone 8)) = true then none else some (some names)
theorem swN_ok {sc : Scope} {ts vs : List Expr} {k k2 : Nat} {p p2 : Pos} {env : Env} {r : Option (List Str)} (he : env.scope = sc) (hk : sc.kind = .function) (h : swN sc ts vs = some r) : swappedStores [.Tuple ts k p] (.Tuple vs k2 p2) env = pure r := by
  have hb : env.blockKind = .function := by unfold Env.blockKind; rw [he, hk]; rfl
  have hko : ∀ x, env.kindOf x = sc.names.lookup x := fun x => by unfold Env.kindOf; rw [he]
  unfold swappedStores
  have hf : (ScopeKind.function != ScopeKind.function) = false := by decide
  simp only [hb, hko, hf, Bool.or_false]
  unfold swN at h
  simp only at h
  split at h
  · rename_i h1
    cases h
    exact if_pos h1
  · rename_i h1
    refine (if_neg h1).trans ?_
    split at h
    · rename_i h2
      cases h
      exact if_pos h2
    · rename_i h2
      refine (if_neg h2).trans ?_
      split at h
      · rename_i h3
        cases h
        exact if_pos h3
      · rename_i h3
        refine (if_neg h3).trans ?_
        split at h
        · rename_i h4
          cases h
          exact if_pos h4
        · rename_i h4
          refine (if_neg h4).trans ?_
          split at h
          · cases h
          · rename_i h5
            cases h
            exact if_neg h5
end NB
end
set_option maxHeartbeats 4000000
section
/-! The checker is right: expressions. -/
namespace NB
open PySem PySem.Spec L2
open PyProof.Rows hiding St

/-- what the names of the top stand for -/
structure TbOk (P : Program) (w : World) (K : PySem.W.Frag) (mg : Str → Option Value) (base : Heap) (C : Addr) (T : Tb) (Φ : Nat → List D → M D) (k : Nat) : Prop where
  glb : ∀ (x : Str) (d : D), T.G.lookup x = some d → ∃ u v, mg x = some u ∧ RelV v u ∧ ∀ F ρ, Rep K F ρ d v
  fn : ∀ (i : Nat) (x : Str) (np : Nat), T.fns[i]? = some (x, np) → x ≠ ("" : Str) → ∃ f fd ps, ps.length = np ∧ mg x = some (.ref f) ∧ PySem.W.keepIn K (.ref f) = true ∧ Binds K fd ps [] ∧ FnOk P w K mg base (L2.CX P w) k f fd ps (spM K C mg ps.length (Φ i))
  mth : ∀ (m : Str) (i np : Nat), (m, i, np) ∈ T.mths → ∃ f fd ps, ps.length = np ∧ Meth K C m f ∧ Binds K fd ps [] ∧ FnOk P w K mg base (L2.CX P w) k f fd ps (spM K C mg ps.length (Φ i))
  mkr : ∀ (x : Str) (i np : Nat), T.mkc = some (x, i, np) → ∃ f fd ps, ps.length = np ∧ mg x = some (.ref C) ∧ Mk K C f ∧ Binds K fd ps [] ∧ FnOk P w K mg base (L2.CX P w) k f fd ps (spM K C mg ps.length (Φ i))
  cls : T.cls = true → Cls K C
  att : ∀ f ∈ T.flds, NoAttr K C f
  blt : ∀ x ∈ bltNames, mg x = none
structure Good (c : Ck) (C : Addr) (Φ : Nat → List D → M D) (k : Nat) (X : Cx) (W : WX) : Prop where
  tb : TbOk X.prog X.w X.K X.mg X.base C c.T Φ k
  sc : X.env.scope = c.sc
  N : X.N = c.N
  nd : X.N.Nodup
  calm : X.calm = true
  room : Room (k + 1) X.A
  st : ∀ x, c.st x = true → X.fn x = true ∨ X.env.scope.names.lookup x = some .local
  tk : Takes X W

/-! ### small answers -/
theorem notStar_ok {e : Expr} {es : List Expr} {env : Env} (h : notStar e = true) : starEach (e :: es) env = (false, eval e env) :: starEach es env := by
  cases e <;> first | rfl | cases h
theorem notStar_each {e : Expr} {es : List Expr} {env : Env} (h : notStar e = true) : (assignEach (e :: es) env).map (·.2) = assign e env :: (assignEach es env).map (·.2) := by
  cases e <;> first | rfl | cases h
theorem notSet_ok {e : Expr} {env : Env} (h : notSet e = true) : ∀ x, foldedSetIterable e env x = pure x := by
  intro x
  cases e <;> first | rfl | cases h
theorem notSlice_ok {e : Expr} (h : notSlice e = true) : PlainIx e := by
  intro o i
  cases e <;> first | rfl | cases h
theorem plainO_ok {o : Expr} {m : Str} {env : Env} (h : plainO o = true) : attributeBase o m env (eval o env) = eval o env := by
  cases o <;> first | rfl | cases h
theorem plainT_ok {e : Expr} {env : Env} (h : plainT e = true) : ∀ whole, isTrue e env whole = (do let v ← whole; standAt e.pos; holding [v] (truthy v)) := by
  intro whole
  cases e with
  | UnaryOp op x p => cases op <;> first | rfl | cases h
  | _ => first | rfl | cases h
theorem okN_ok {x : Str} (h : okN x = true) : (x == ("__debug__" : Str)) = false ∧ (x == ("__classdict__" : Str)) = false ∧ x ≠ "__name__" := by
  simp only [okN, Bool.and_eq_true, Bool.not_eq_true', decide_eq_false_iff_not] at h
  exact ⟨h.1.1, h.1.2, h.2⟩
theorem visB_ok {sc : Scope} {x : Str} (h : visB sc x = true) : Vis sc x := by
  simp only [visB, Bool.or_eq_true, decide_eq_true_eq] at h
  rcases h with (h | h) | h
  · exact .inl h
  · exact .inr (.inl h)
  · exact .inr (.inr h)
theorem locB_ok {sc : Scope} {x : Str} (h : locB sc x = true) : Loc sc x := by
  simp only [locB, Bool.or_eq_true, decide_eq_true_eq] at h
  exact h
theorem ckA_star {c : Ck} : ∀ {es : Exs} {xs : List Expr}, ckA c es xs = true → ∀ {env : Env} {pos : Pos}, (backTo pos (starEach xs env)).any (·.1) = false
  | .nil, [], _, _, _ => rfl
  | .nil, _ :: _, h, _, _ => by simp [ckA] at h
  | .cons a es, [], h, _, _ => by simp [ckA] at h
  | .cons a es, x :: xs, h, env, pos => by
    simp only [ckA, Bool.and_eq_true] at h
    rw [notStar_ok h.1.1]
    have ih := ckA_star h.2 (env := env) (pos := pos)
    unfold backTo at ih ⊢
    rw [List.map_cons, List.any_cons, ih]
    rfl
theorem ckA_len {c : Ck} : ∀ {es : Exs} {xs : List Expr}, ckA c es xs = true → xs.length = es.len
  | .nil, [], _ => rfl
  | .nil, _ :: _, h => by simp [ckA] at h
  | .cons a es, [], h => by simp [ckA] at h
  | .cons a es, x :: xs, h => by
    simp only [ckA, Bool.and_eq_true] at h
    simp [Exs.len, ckA_len h.2]
theorem evA_len {G : Str → Option D} {Φ : Nat → List D → M D} : ∀ {es : Exs} {δ : List (Option D)} {μ : List MO} {ds : List D} {μ' : List MO}, evA G Φ es δ μ = some (.ok ds, μ') → ds.length = es.len
  | .nil, δ, μ, ds, μ', h => by
    simp only [evA, M.ok, Option.some.injEq, Prod.mk.injEq, Except.ok.injEq] at h
    rw [← h.1]
    rfl
  | .cons a es, δ, μ, ds, μ', h => by
    simp only [evA, M.bind] at h
    split at h
    · cases h
    · cases h
    · rename_i d μ1 e1
      split at h
      · cases h
      · cases h
      · rename_i rs μ2 e2
        simp only [M.ok, Option.some.injEq, Prod.mk.injEq, Except.ok.injEq] at h
        rw [← h.1, List.length_cons, evA_len e2]
        rfl
theorem form_ok {c : Ck} {es : Exs} {xs : List Expr} (h : ckA c es xs = true) (hl : xs.length < 20) {env : Env} {pos : Pos} : methodCallForm (xs.length + ([] : List Keyword).length) (backTo pos (starEach xs env)) (backToKw pos (keywordEach [] env)) = true := by
  have s := ckA_star h (env := env) (pos := pos)
  have a : ((backTo pos (starEach xs env)).all fun x => !x.1) = true := by
    rw [List.all_eq_true]
    intro x hx
    have : ¬ ((backTo pos (starEach xs env)).any (·.1)) = true := by rw [s]; exact Bool.false_ne_true
    rw [List.any_eq_true] at this
    cases q : x.1 with
    | false => rfl
    | true => exact absurd ⟨x, hx, q⟩ this
  unfold methodCallForm
  rw [a]
  have e1 : backToKw pos (keywordEach [] env) = [] := rfl
  rw [e1]
  simp
  omega
theorem Good.gl {c : Ck} {C : Addr} {Φ : Nat → List D → M D} {k : Nat} {X : Cx} {W : WX} (g : Good c C Φ k X W) {x : Str} (h : glB c.sc x = true) : Gl X x := by
  unfold glB at h
  rw [decide_eq_true_eq, ← g.sc] at h
  exact h
theorem Good.bl {c : Ck} {C : Addr} {Φ : Nat → List D → M D} {k : Nat} {X : Cx} {W : WX} (g : Good c C Φ k X W) {x y : Str} (h : bl1 c x y = true) (hy : y ∈ bltNames) : x = y ∧ Gl X y ∧ X.mg y = none := by
  unfold bl1 at h
  rw [Bool.and_eq_true, decide_eq_true_eq] at h
  obtain ⟨rfl, h⟩ := h
  exact ⟨rfl, g.gl h, g.tb.blt _ hy⟩
theorem Good.hu {c : Ck} {C : Addr} {Φ : Nat → List D → M D} {k : Nat} {X : Cx} {W : WX} (g : Good c C Φ k X W) : X.A.units + 64 < cLine := by
  have := g.room.un
  omega
/-- a comprehension's block -/
theorem Good.blk {c : Ck} {C : Addr} {Φ : Nat → List D → M D} {k : Nat} {X : Cx} {W : WX} (g : Good c C Φ k X W) (s : Shared) (H : Hp) (scope : Scope) (C' : Addr) (cl : List (Str × Addr)) (fp : List Addr) :
    Good (inBlk c scope) C Φ k (X.blk s H scope (compEnvC scope cl C' X.env) fp) W0 := by
  have hsc : (compEnvC scope cl C' X.env).scope = relS scope c.sc := by
    show relabel scope X.env = _
    rw [relS_eq, g.sc]
  refine ⟨g.tb, hsc, g.N, g.nd, g.calm, g.room, fun x hx => ?_, takes0⟩
  simp only [inBlk, Bool.or_eq_true, decide_eq_true_eq] at hx
  rcases hx with hx | hx
  · refine .inl ?_
    show (scope.names.lookup x == some .cell) = true
    rw [hx]
    rfl
  · refine .inr ?_
    show (compEnvC scope cl C' X.env).scope.names.lookup x = _
    rw [hsc]
    exact hx
theorem st_sw {X : Cx} {W : WX} {C : Addr} {op : BoolOp} {es : List Expr} {pos : Pos} {m : List (Option D) → M Bool} (h : ST X W C (.BoolOp op es pos) m) : SW X W C (.BoolOp op es pos) m := by
  obtain ⟨t, p, q⟩ := h
  exact ⟨t, ⟨fun whole pins s σ H Q I hw => p.run pins s σ H Q I hw⟩, q⟩
theorem bind_assoc {α β γ : Type} (x : M α) (f : α → M β) (g : β → M γ) : M.bind (M.bind x f) g = M.bind x fun a => M.bind (f a) g := by
  funext μ
  simp only [M.bind]
  cases x μ with
  | none => rfl
  | some r =>
    obtain ⟨r, μ1⟩ := r
    cases r <;> rfl
theorem bind_ok {α β : Type} (a : α) (f : α → M β) : M.bind (M.ok a) f = f a := rfl
theorem ite_bind {α β : Type} (c : Bool) (x y : M α) (f : α → M β) : M.bind (if c then x else y) f = if c then M.bind x f else M.bind y f := by
  cases c <;> rfl
/-! ### targets -/
theorem ckT_len {c : Ck} : ∀ {t : Tg} {es : List Expr} {k : Nat} {p : Pos}, (∀ i, t ≠ .nm i) → ckT c t (.Tuple es k p) = true → ∀ ds δ δ', bindT t (.tup ds) δ = some δ' → ds.length = es.length
  | .nm i, _, _, _, h, _, _, _, _, _ => absurd rfl (h i)
  | .nil, [], _, _, _, _, ds, δ, δ', hb => by
    cases ds with
    | nil => rfl
    | cons d ds => simp [bindT] at hb
  | .nil, _ :: _, _, _, _, h, _, _, _, _ => by simp [ckT] at h
  | .cons t ts, [], _, _, _, h, _, _, _, _ => by simp [ckT] at h
  | .cons t ts, e :: es, k, p, _, h, ds, δ, δ', hb => by
    simp only [ckT, Bool.and_eq_true] at h
    cases ds with
    | nil => simp [bindT] at hb
    | cons d ds =>
      simp only [bindT] at hb
      split at hb
      · rename_i δ1 q
        have hts : ∀ i, ts ≠ .nm i := by
          intro i e
          subst e
          simp [ckT] at h
        simp [ckT_len hts h.2 ds δ1 δ' hb]
      · cases hb
theorem each_len {env : Env} : ∀ {es : List Expr}, (assignEach es env).length = es.length
  | [] => rfl
  | e :: es => by cases e <;> simp [assignEach, each_len (es := es)]
theorem ckT_find {c : Ck} {env : Env} : ∀ {t : Tg} {es : List Expr} {k : Nat} {p : Pos}, ckT c t (.Tuple es k p) = true → (assignEach es env).findIdx? (·.1) = none
  | .nm i, _, _, _, h => by simp [ckT] at h
  | .nil, [], _, _, _ => rfl
  | .nil, _ :: _, _, _, h => by simp [ckT] at h
  | .cons t ts, [], _, _, h => by simp [ckT] at h
  | .cons t ts, e :: es, k, p, h => by
    simp only [ckT, Bool.and_eq_true] at h
    have ih := ckT_find (env := env) h.2
    rw [List.findIdx?_eq_none_iff] at ih ⊢
    intro x hx
    have e1 : assignEach (e :: es) env = (false, assign e env) :: assignEach es env := by
      have := h.1.1
      cases e <;> first | rfl | cases this
    rw [e1] at hx
    rcases List.mem_cons.mp hx with z | z
    · rw [z]
    · exact ih x z
section
variable {c : Ck} {C : Addr} {Φ : Nat → List D → M D} {k : Nat} {X : Cx} {W : WX}
mutual
theorem ckT_ok (g : Good c C Φ k X W) : ∀ (t : Tg) (e : Expr), ckT c t e = true → PG X e (gM X C t)
  | .nm i, e, h => by
    cases e with
    | Name x p =>
      simp only [ckT, Bool.and_eq_true, decide_eq_true_eq] at h
      refine pg_nm g.nd (by rw [g.N]; exact h.1.1) ?_ (g.st x h.2)
      rw [g.sc]
      exact locB_ok h.1.2
    | _ => simp [ckT] at h
  | .nil, e, h => by
    cases e with
    | Tuple es kk p =>
      exact pg_tupM g.calm (by intro i z; cases z) (by cases es with
      | nil => exact pgs_nilM
      | cons x xs => simp [ckT] at h) (ckT_find h) (fun ds δ δ' hb => by rw [each_len]; exact ckT_len (by intro i z; cases z) h ds δ δ' hb)
    | _ => simp [ckT] at h
  | .cons t ts, e, h => by
    cases e with
    | Tuple es kk p =>
      refine pg_tupM g.calm (by intro i z; cases z) ?_ (ckT_find h) (fun ds δ δ' hb => by rw [each_len]; exact ckT_len (by intro i z; cases z) h ds δ δ' hb)
      cases es with
      | nil => simp [ckT] at h
      | cons x xs =>
        simp only [ckT, Bool.and_eq_true] at h
        exact pgs_consM (ckT_ok g t x h.1.2) (ckTs_ok g ts xs kk p h.2) (notStar_each h.1.1)
    | _ => simp [ckT] at h
theorem ckTs_ok (g : Good c C Φ k X W) : ∀ (t : Tg) (es : List Expr) (kk : Nat) (p : Pos), ckT c t (.Tuple es kk p) = true → PGs X es (gMs X C t)
  | .nm i, es, kk, p, h => by simp [ckT] at h
  | .nil, es, kk, p, h => by
    cases es with
    | nil => exact pgs_nilM
    | cons x xs => simp [ckT] at h
  | .cons t ts, es, kk, p, h => by
    cases es with
    | nil => simp [ckT] at h
    | cons x xs =>
      simp only [ckT, Bool.and_eq_true] at h
      exact pgs_consM (ckT_ok g t x h.1.2) (ckTs_ok g ts xs kk p h.2) (notStar_each h.1.1)
end
end
end NB
end
set_option maxHeartbeats 4000000
section
/-! The checker is right: expressions. -/
namespace NB
open PySem PySem.Spec L2
open PyProof.Rows hiding St
def gl (T : Tb) : Str → Option D := fun x => T.G.lookup x
theorem SE.of {X : Cx} {W : WX} {C : Addr} {e : Expr} {m m' : List (Option D) → M D} (h : SE X W C e m) (q : ∀ δ, m' δ = m δ) : SE X W C e m' := by
  have : m' = m := funext q
  rw [this]
  exact h
theorem ST.of {X : Cx} {W : WX} {C : Addr} {e : Expr} {m m' : List (Option D) → M Bool} (h : ST X W C e m) (q : ∀ δ, m' δ = m δ) : ST X W C e m' := by
  have : m' = m := funext q
  rw [this]
  exact h
theorem both {X : Cx} {W : WX} {C : Addr} {e : Expr} {m : List (Option D) → M D} {A : Prop} (h : SE X W C e m) (hp : plainT e = true) : SE X W C e m ∧ (A → ST X W C e fun δ => M.bind (m δ) asBl) := ⟨h, fun _ => st_val h (plainT_ok hp)⟩
theorem in_blt {x : Str} (h : decide (x ∈ bltNames) = true) : x ∈ bltNames := of_decide_eq_true h
theorem bt_len : bootBuiltins "len" = some (.builtin "len") := by decide +kernel
theorem bt_abs : bootBuiltins "abs" = some (.builtin "abs") := by decide +kernel
theorem bt_all : bootBuiltins "all" = some (.builtin "all") := by decide +kernel
theorem bt_any : bootBuiltins "any" = some (.builtin "any") := by decide +kernel
theorem bt_tup : bootBuiltins "tuple" = some (.type "tuple") := by decide +kernel
theorem bt_lst : bootBuiltins "list" = some (.type "list") := by decide +kernel
theorem bt_int : bootBuiltins "int" = some (.type "int") := by decide +kernel
theorem bt_ty (t : Ty) : bootBuiltins (tyName t) = some (.type (tyName t)) := by cases t <;> decide +kernel
theorem bl_ty (t : Ty) : (tyName t : Str) ∈ bltNames := by cases t <;> exact in_blt (by decide +kernel)
theorem nn_ty (t : Ty) : (tyName t : Str) ≠ "__name__" ∧ ((tyName t : Str) == ("__debug__" : Str)) = false := by cases t <;> decide +kernel
theorem asBl_bl (b : Bool) : asBl (.bl b) = M.ok b := rfl
section
variable {C : Addr} {Φ : Nat → List D → M D} {k : Nat}
mutual
theorem ckE_ok : ∀ (a : Ex) (c : Ck) (X : Cx) (W : WX) (_ : Good c C Φ k X W) (e : Expr), ckE c a e = true →
    SE X W C e (evE (gl c.T) Φ a) ∧ (tst a = true → ST X W C e fun δ => M.bind (evE (gl c.T) Φ a δ) asBl)
  | .var i, c, X, W, g, e, h => by
    cases e with
    | Name x p =>
      simp only [ckE, Bool.and_eq_true, decide_eq_true_eq] at h
      obtain ⟨o1, o2, _⟩ := okN_ok h.2
      refine both ((se_var (by rw [g.N]; exact h.1.1) (by rw [g.sc]; exact visB_ok h.1.2) o1 o2).of fun δ => ?_) rfl
      simp only [evE] <;> rfl
    | _ => simp [ckE] at h
  | .int i, c, X, W, g, e, h => by
    cases e with
    | Constant v j p =>
      cases v with
      | int n =>
        simp only [ckE, decide_eq_true_eq] at h
        subst h
        exact both (se_int.of fun δ => by simp only [evE]) rfl
      | _ => simp [ckE] at h
    | _ => simp [ckE] at h
  | .str x, c, X, W, g, e, h => by
    cases e with
    | Constant v j p =>
      cases v with
      | str n =>
        simp only [ckE, decide_eq_true_eq] at h
        subst h
        exact both (se_str.of fun δ => by simp only [evE]) rfl
      | _ => simp [ckE] at h
    | _ => simp [ckE] at h
  | .bl x, c, X, W, g, e, h => by
    cases e with
    | Constant v j p =>
      cases v with
      | bool n =>
        simp only [ckE, decide_eq_true_eq] at h
        subst h
        exact both (se_bl.of fun δ => by simp only [evE]) rfl
      | _ => simp [ckE] at h
    | _ => simp [ckE] at h
  | .non, c, X, W, g, e, h => by
    cases e with
    | Constant v j p =>
      cases v with
      | none => exact both (se_non.of fun δ => by simp only [evE]) rfl
      | _ => simp [ckE] at h
    | _ => simp [ckE] at h
  | .glb x, c, X, W, g, e, h => by
    cases e with
    | Name y p =>
      simp only [ckE, Bool.and_eq_true, decide_eq_true_eq] at h
      obtain ⟨⟨⟨rfl, h2⟩, h3⟩, h4⟩ := h
      obtain ⟨d, hd⟩ := Option.isSome_iff_exists.mp h4
      obtain ⟨u, v, e1, r, rp⟩ := g.tb.glb x d hd
      refine both ((se_tC (pe_glob (g.gl h2) e1 r (okN_ok h3).1) rp).of fun δ => ?_) rfl
      simp only [evE, gl, hd, M.opt]
    | _ => simp [ckE] at h
  | .bin o a b, c, X, W, g, e, h => by
    cases e with
    | BinOp x op y p =>
      simp only [ckE, Bool.and_eq_true, decide_eq_true_eq] at h
      obtain ⟨⟨rfl, h1⟩, h2⟩ := h
      exact both ((se_op (bop_ok o) (ckE_ok a c X W g x h1).1 (ckE_ok b c X W g y h2).1).of fun δ => by simp only [evE]) rfl
    | _ => simp [ckE] at h
  | .binL o a b, c, X, W, g, e, h => by
    cases e with
    | BinOp x op y p =>
      simp only [ckE, Bool.and_eq_true, decide_eq_true_eq] at h
      obtain ⟨⟨rfl, h1⟩, h2⟩ := h
      exact both ((se_op (bopL_ok o) (ckE_ok a c X W g x h1).1 (ckE_ok b c X W g y h2).1).of fun δ => by simp only [evE]) rfl
    | _ => simp [ckE] at h
  | .neg a, c, X, W, g, e, h => by
    cases e with
    | UnaryOp op x p =>
      cases op with
      | USub =>
        simp only [ckE] at h
        refine both ((se_neg (ckE_ok a c X W g x h).1).of fun δ => ?_) rfl
        simp only [evE] <;> rfl
      | _ => simp [ckE] at h
    | _ => simp [ckE] at h
  | .not_ a, c, X, W, g, e, h => by
    cases e with
    | UnaryOp op x p =>
      cases op with
      | Not =>
        simp only [ckE] at h
        have ih := ckE_ok a c X W g x h
        refine ⟨(se_not ih.1).of fun δ => by simp only [evE], fun ht => ?_⟩
        simp only [tst] at ht
        refine (st_not (ih.2 ht)).of fun δ => ?_
        simp only [evE, bind_assoc, bind_ok, asBl_bl]
      | _ => simp [ckE] at h
    | _ => simp [ckE] at h
  | .cmp o a b, c, X, W, g, e, h => by
    cases e with
    | Compare x ops ys p =>
      cases ops with
      | nil => simp [ckE] at h
      | cons op ops =>
        cases ops with
        | cons _ _ => simp [ckE] at h
        | nil =>
          cases ys with
          | nil => simp [ckE] at h
          | cons y ys =>
            cases ys with
            | cons _ _ => simp [ckE] at h
            | nil =>
              simp only [ckE, Bool.and_eq_true, decide_eq_true_eq] at h
              obtain ⟨⟨rfl, h1⟩, h2⟩ := h
              have i1 := (ckE_ok a c X W g x h1).1
              have i2 := (ckE_ok b c X W g y h2).1
              exact ⟨(se_cmp (cop_ok g.hu o) i1 i2 (cop_mark o y)).of fun δ => by simp only [evE], fun _ => (st_cmp (cop_ok g.hu o) i1 i2 (cop_mark o y)).of fun δ => by simp only [evE]⟩
    | _ => simp [ckE] at h
  | .and_ a b, c, X, W, g, e, h => by
    cases e with
    | BoolOp op es p =>
      cases op with
      | Or => simp [ckE] at h
      | And =>
        cases es with
        | nil => simp [ckE] at h
        | cons x es =>
          cases es with
          | nil => simp [ckE] at h
          | cons y r =>
            simp only [ckE, Bool.and_eq_true] at h
            have i1 := ckE_ok a c X W g x h.1
            have i2 : SE X W C (.BoolOp .And (y :: r) p) (evE (gl c.T) Φ b) ∧ (tst b = true → SW X W C (.BoolOp .And (y :: r) p) fun δ => M.bind (evE (gl c.T) Φ b δ) asBl) := by
              cases r with
              | nil =>
                have q := ckE_ok b c X W g y h.2
                exact ⟨se_one q.1, fun ht => sw_and1 (q.2 ht)⟩
              | cons z r =>
                have q := ckE_ok b c X W g _ h.2
                exact ⟨q.1, fun ht => st_sw (q.2 ht)⟩
            refine ⟨(se_and i1.1 i2.1).of fun δ => by simp only [evE], fun ht => ?_⟩
            simp only [tst, Bool.and_eq_true] at ht
            refine (sw_pt (sw_and (i1.2 ht.1) (i2.2 ht.2))).of fun δ => ?_
            simp only [evE, bind_assoc, ite_bind, bind_ok, asBl_bl]
    | _ => simp [ckE] at h
  | .or_ a b, c, X, W, g, e, h => by
    cases e with
    | BoolOp op es p =>
      cases op with
      | And => simp [ckE] at h
      | Or =>
        cases es with
        | nil => simp [ckE] at h
        | cons x es =>
          cases es with
          | nil => simp [ckE] at h
          | cons y r =>
            simp only [ckE, Bool.and_eq_true] at h
            have i1 := ckE_ok a c X W g x h.1
            have i2 : SE X W C (.BoolOp .Or (y :: r) p) (evE (gl c.T) Φ b) ∧ (tst b = true → SW X W C (.BoolOp .Or (y :: r) p) fun δ => M.bind (evE (gl c.T) Φ b δ) asBl) := by
              cases r with
              | nil =>
                have q := ckE_ok b c X W g y h.2
                exact ⟨se_one q.1, fun ht => sw_or1 (q.2 ht)⟩
              | cons z r =>
                have q := ckE_ok b c X W g _ h.2
                exact ⟨q.1, fun ht => st_sw (q.2 ht)⟩
            refine ⟨(se_or i1.1 i2.1).of fun δ => by simp only [evE], fun ht => ?_⟩
            simp only [tst, Bool.and_eq_true] at ht
            refine (sw_pt (sw_or (i1.2 ht.1) (i2.2 ht.2))).of fun δ => ?_
            simp only [evE, bind_assoc, ite_bind, bind_ok, asBl_bl]
    | _ => simp [ckE] at h
  | .ite kk a b, c, X, W, g, e, h => by
    cases e with
    | IfExp t x y p =>
      simp only [ckE, Bool.and_eq_true] at h
      obtain ⟨⟨⟨h0, h1⟩, h2⟩, h3⟩ := h
      refine ⟨(se_ite ((ckE_ok kk c X W g t h1).2 h0) (ckE_ok a c X W g x h2).1 (ckE_ok b c X W g y h3).1).of fun δ => ?_, fun ht => by simp [tst] at ht⟩
      simp only [evE, bind_assoc]
    | _ => simp [ckE] at h
  | .tup es, c, X, W, g, e, h => by
    cases e with
    | Tuple xs kk p =>
      simp only [ckE] at h
      exact both ((se_tup (ckA_ok es c X W g xs h)).of fun δ => by simp only [evE]) rfl
    | _ => simp [ckE] at h
  | .lst m es, c, X, W, g, e, h => by
    cases e with
    | List xs p =>
      simp only [ckE] at h
      exact both ((se_lst (b := m) (ckA_ok es c X W g xs h)).of fun δ => by simp only [evE]) rfl
    | _ => simp [ckE] at h
  | .idx a i, c, X, W, g, e, h => by
    cases e with
    | Subscript x y p =>
      simp only [ckE, Bool.and_eq_true] at h
      refine both ((se_idx (ckE_ok a c X W g x h.1.2).1 (ckE_ok i c X W g y h.2).1 (notSlice_ok h.1.1)).of fun δ => ?_) rfl
      simp only [evE] <;> rfl
    | _ => simp [ckE] at h
  | .slc a lo hi, c, X, W, g, e, h => by
    cases e with
    | Subscript x y p =>
      cases y with
      | Slice l r s p2 =>
        cases s with
        | some _ => simp [ckE] at h
        | none =>
          simp only [ckE, Bool.and_eq_true] at h
          refine both ((se_slc (ckE_ok a c X W g x h.1.1).1 (ckO_ok lo c X W g l h.1.2) (ckO_ok hi c X W g r h.2)).of fun δ => ?_) rfl
          simp only [evE] <;> rfl
      | _ => simp [ckE] at h
    | _ => simp [ckE] at h
  | .fld a f, c, X, W, g, e, h => by
    cases e with
    | Attribute x f' p =>
      simp only [ckE, Bool.and_eq_true, decide_eq_true_eq] at h
      obtain ⟨⟨⟨⟨rfl, h1⟩, h2⟩, h3⟩, h4⟩ := h
      refine both ((se_fld (g.tb.cls h2) (g.tb.att _ h3) (ckE_ok a c X W g x h4).1 (plainO_ok h1)).of fun δ => ?_) rfl
      simp only [evE] <;> rfl
    | _ => simp [ckE] at h
  | .call f es, c, X, W, g, e, h => by
    cases e with
    | Call fn xs kws p =>
      cases fn with
      | Name x p2 =>
        cases xs with
        | nil => simp [ckE] at h
        | cons y ys =>
          cases kws with
          | cons _ _ => simp [ckE] at h
          | nil =>
            simp only [ckE, Bool.and_eq_true, decide_eq_true_eq, Bool.not_eq_true', decide_eq_false_iff_not] at h
            obtain ⟨⟨⟨⟨h1, h2⟩, h3⟩, h4⟩, h5⟩ := h
            obtain ⟨ff, fd, ps, e1, e2, e3, e4, e5⟩ := g.tb.fn f x _ h1 h2
            cases es with
            | nil => simp [ckA] at h5
            | cons b es =>
              have h6 := h5
              simp only [ckA, Bool.and_eq_true] at h6
              refine both ((se_call e5 (g.room.mono (Nat.le_succ k)) g.tk (g.gl h3) e2 e3 e4 (ckA_ok (.cons b es) c X W g _ h5) (okN_ok h4).1 (notStar_ok h6.1.1) (ckA_star h6.2) fun δ μ r μ' hr => ?_).of fun δ => ?_) rfl
              · rw [e1]; exact evA_len hr
              · simp only [evE]
      | _ => simp [ckE] at h
    | _ => simp [ckE] at h
  | .mth f m o es, c, X, W, g, e, h => by
    cases e with
    | Call fn xs kws p =>
      cases fn with
      | Attribute x m' apos =>
        cases kws with
        | cons _ _ => simp [ckE] at h
        | nil =>
          simp only [ckE, Bool.and_eq_true, decide_eq_true_eq] at h
          obtain ⟨⟨⟨⟨⟨⟨⟨rfl, h1⟩, h2⟩, h3⟩, h4⟩, h5⟩, h6⟩, h7⟩ := h
          obtain ⟨ff, fd, ps, e1, e2, e3, e4⟩ := g.tb.mth _ f _ h1
          have io := (ckE_ok o c X W g x h6).1
          cases es with
          | nil =>
            cases xs with
            | cons _ _ => simp [ckA] at h7
            | nil =>
              refine both ((se_mth0 (g.tb.cls h3) e2 e4 (g.room.mono (Nat.le_succ k)) e3 io (plainO_ok h2) h4 (by rw [e1]; rfl)).of fun δ => ?_) rfl
              simp only [evE, evA] <;> rfl
          | cons b es =>
            cases xs with
            | nil => simp [ckA] at h7
            | cons y ys =>
              have h8 := h7
              simp only [ckA, Bool.and_eq_true] at h8
              refine both ((se_mth (g.tb.cls h3) e2 e4 (g.room.mono (Nat.le_succ k)) e3 io (ckA_ok (.cons b es) c X W g _ h7) (notStar_ok h8.1.1) (ckA_star h8.2) (plainO_ok h2) (form_ok h7 h5) h4 fun δ μ r μ' hr => ?_).of fun δ => ?_) rfl
              · rw [e1, evA_len hr]
              · simp only [evE] <;> rfl
      | _ => simp [ckE] at h
    | _ => simp [ckE] at h
  | .mk f es, c, X, W, g, e, h => by
    cases e with
    | Call fn xs kws p =>
      cases fn with
      | Name x p2 =>
        cases xs with
        | nil => simp [ckE] at h
        | cons y ys =>
          cases kws with
          | cons _ _ => simp [ckE] at h
          | nil =>
            simp only [ckE, Bool.and_eq_true, decide_eq_true_eq] at h
            obtain ⟨⟨⟨h1, h2⟩, h3⟩, h4⟩ := h
            obtain ⟨ff, fd, ps, e1, e2, e3, e4, e5⟩ := g.tb.mkr x f _ h1
            cases es with
            | nil => simp [ckA] at h4
            | cons b es =>
              have h6 := h4
              simp only [ckA, Bool.and_eq_true] at h6
              refine both ((se_mk e3 e5 g.room (g.gl h2) e2 e4 (ckA_ok (.cons b es) c X W g _ h4) (okN_ok h3).1 (notStar_ok h6.1.1) (ckA_star h6.2) fun δ μ r μ' hr => ?_).of fun δ => ?_) rfl
              · rw [e1, evA_len hr]
              · simp only [evE] <;> rfl
      | _ => simp [ckE] at h
    | _ => simp [ckE] at h
  | .len a, c, X, W, g, e, h => by
    obtain ⟨x, p2, y, p, rfl⟩ : ∃ x p2 y p, e = .Call (.Name x p2) [y] [] p := by
      unfold ckE at h
      split at h
      · exact ⟨_, _, _, _, rfl⟩
      · cases h
    simp only [ckE, Bool.and_eq_true] at h
    obtain ⟨rfl, q1, q2⟩ := g.bl h.1.1 (in_blt (by decide +kernel))
    refine both ((se_b1 c_len q1 q2 bt_len (ckE_ok a c X W g y h.2).1 (by decide +kernel) (by decide +kernel) (notStar_ok h.1.2)).of fun δ => ?_) rfl
    simp only [evE] <;> rfl
  | .abs a, c, X, W, g, e, h => by
    obtain ⟨x, p2, y, p, rfl⟩ : ∃ x p2 y p, e = .Call (.Name x p2) [y] [] p := by
      unfold ckE at h
      split at h
      · exact ⟨_, _, _, _, rfl⟩
      · cases h
    simp only [ckE, Bool.and_eq_true] at h
    obtain ⟨rfl, q1, q2⟩ := g.bl h.1.1 (in_blt (by decide +kernel))
    refine both ((se_b1 c_abs q1 q2 bt_abs (ckE_ok a c X W g y h.2).1 (by decide +kernel) (by decide +kernel) (notStar_ok h.1.2)).of fun δ => ?_) rfl
    simp only [evE] <;> rfl
  | .all a, c, X, W, g, e, h => by
    obtain ⟨x, p2, y, p, rfl⟩ : ∃ x p2 y p, e = .Call (.Name x p2) [y] [] p := by
      unfold ckE at h
      split at h
      · exact ⟨_, _, _, _, rfl⟩
      · cases h
    simp only [ckE, Bool.and_eq_true] at h
    obtain ⟨rfl, q1, q2⟩ := g.bl h.1.1 (in_blt (by decide +kernel))
    refine both ((se_b1 (c_all g.calm) q1 q2 bt_all (ckE_ok a c X W g y h.2).1 (by decide +kernel) (by decide +kernel) (notStar_ok h.1.2)).of fun δ => ?_) rfl
    simp only [evE] <;> rfl
  | .any a, c, X, W, g, e, h => by
    obtain ⟨x, p2, y, p, rfl⟩ : ∃ x p2 y p, e = .Call (.Name x p2) [y] [] p := by
      unfold ckE at h
      split at h
      · exact ⟨_, _, _, _, rfl⟩
      · cases h
    simp only [ckE, Bool.and_eq_true] at h
    obtain ⟨rfl, q1, q2⟩ := g.bl h.1.1 (in_blt (by decide +kernel))
    refine both ((se_b1 (c_any g.calm) q1 q2 bt_any (ckE_ok a c X W g y h.2).1 (by decide +kernel) (by decide +kernel) (notStar_ok h.1.2)).of fun δ => ?_) rfl
    simp only [evE] <;> rfl
  | .tupl a, c, X, W, g, e, h => by
    obtain ⟨x, p2, y, p, rfl⟩ : ∃ x p2 y p, e = .Call (.Name x p2) [y] [] p := by
      unfold ckE at h
      split at h
      · exact ⟨_, _, _, _, rfl⟩
      · cases h
    simp only [ckE, Bool.and_eq_true] at h
    obtain ⟨rfl, q1, q2⟩ := g.bl h.1.1 (in_blt (by decide +kernel))
    refine both ((se_t1 c_tup q1 q2 bt_tup (ckE_ok a c X W g y h.2).1 (by decide +kernel) (by decide +kernel) (notStar_ok h.1.2)).of fun δ => ?_) rfl
    simp only [evE] <;> rfl
  | .list m a, c, X, W, g, e, h => by
    obtain ⟨x, p2, y, p, rfl⟩ : ∃ x p2 y p, e = .Call (.Name x p2) [y] [] p := by
      unfold ckE at h
      split at h
      · exact ⟨_, _, _, _, rfl⟩
      · cases h
    simp only [ckE, Bool.and_eq_true] at h
    obtain ⟨rfl, q1, q2⟩ := g.bl h.1.1 (in_blt (by decide +kernel))
    refine both ((se_t1 (c_list (m := m)) q1 q2 bt_lst (ckE_ok a c X W g y h.2).1 (by decide +kernel) (by decide +kernel) (notStar_ok h.1.2)).of fun δ => ?_) rfl
    simp only [evE] <;> rfl
  | .int_ a, c, X, W, g, e, h => by
    obtain ⟨x, p2, y, p, rfl⟩ : ∃ x p2 y p, e = .Call (.Name x p2) [y] [] p := by
      unfold ckE at h
      split at h
      · exact ⟨_, _, _, _, rfl⟩
      · cases h
    simp only [ckE, Bool.and_eq_true] at h
    obtain ⟨rfl, q1, q2⟩ := g.bl h.1.1 (in_blt (by decide +kernel))
    refine both ((se_t1 c_int q1 q2 bt_int (ckE_ok a c X W g y h.2).1 (by decide +kernel) (by decide +kernel) (notStar_ok h.1.2)).of fun δ => ?_) rfl
    simp only [evE] <;> rfl
  | .isi t a, c, X, W, g, e, h => by
    obtain ⟨x, p2, y, z, p3, p, rfl⟩ : ∃ x p2 y z p3 p, e = .Call (.Name x p2) [y, .Name z p3] [] p := by
      unfold ckE at h
      split at h
      · exact ⟨_, _, _, _, _, _, rfl⟩
      · cases h
    simp only [ckE, Bool.and_eq_true] at h
    obtain ⟨⟨⟨h1, h2⟩, h3⟩, h4⟩ := h
    obtain ⟨rfl, q1, q2⟩ := g.bl h1 (in_blt (by decide +kernel))
    obtain ⟨rfl, q3, q4⟩ := g.bl h2 (bl_ty t)
    refine both ((se_isi (x := "") (t := t) (ckE_ok a c X W g y h4).1 q1 q2 q3 q4 (bt_ty t) (nn_ty t).1 (nn_ty t).2 (notStar_ok h3)).of fun δ => ?_) rfl
    simp only [evE] <;> rfl
  | .comp m own t i cn a, c, X, W, g, e, h => by
    obtain ⟨elt, tg, iter, ifs, asy, scope, p, rfl⟩ : ∃ elt tg iter ifs asy scope p, e = .ListComp elt [⟨tg, iter, ifs, asy⟩] scope p := by
      unfold ckE at h
      split at h
      · exact ⟨_, _, _, _, _, _, _, rfl⟩
      · cases h
    simp only [ckE, Bool.and_eq_true, decide_eq_true_eq, List.all_eq_true] at h
    obtain ⟨⟨⟨⟨⟨⟨⟨rfl, h1⟩, h2⟩, h3⟩, h4⟩, h5⟩, h6⟩, h7⟩ := h
    have ok : BlkOk X.N X.env.scope scope (ownOf c.N own) := by
      rw [g.N, g.sc]
      exact blk_ok h1
    refine both ((se_comp (b := m) (t := t) (mt := fun δ => evT (gl c.T) Φ cn δ) (me := fun δ => evE (gl c.T) Φ a δ) g.calm g.nd (ckI_ok i c X W g tg iter h4) ok (by rw [ownOf_snd]; exact h2)
      (fun s H C' cl fp => ckT_ok (g.blk s H scope C' cl fp) t tg h5) (fun s H C' cl fp => ckF_ok cn (inBlk c scope) _ W0 (g.blk s H scope C' cl fp) ifs h6)
      (fun s H C' cl fp => (ckE_ok a (inBlk c scope) _ W0 (g.blk s H scope C' cl fp) elt h7).1.pe) (notSet_ok h3)).of fun δ => ?_) rfl
    rw [ownOf_snd]
    simp only [evE] <;> rfl
  | .app o a, c, X, W, g, e, h => by
    obtain ⟨x, m', apos, y, p, rfl⟩ : ∃ x m' apos y p, e = .Call (.Attribute x m' apos) [y] [] p := by
      unfold ckE at h
      split at h
      · exact ⟨_, _, _, _, _, rfl⟩
      · cases h
    simp only [ckE, Bool.and_eq_true, decide_eq_true_eq] at h
    obtain ⟨⟨⟨⟨⟨rfl, h1⟩, h2⟩, h3⟩, h4⟩, h5⟩ := h
    refine both ((se_app (ckE_ok o c X W g x h4).1 (ckE_ok a c X W g y h5).1 (plainO_ok h1) h2 (notStar_ok h3)).of fun δ => ?_) rfl
    simp only [evE]
  | .pop o a, c, X, W, g, e, h => by
    obtain ⟨x, m', apos, y, p, rfl⟩ : ∃ x m' apos y p, e = .Call (.Attribute x m' apos) [y] [] p := by
      unfold ckE at h
      split at h
      · exact ⟨_, _, _, _, _, rfl⟩
      · cases h
    simp only [ckE, Bool.and_eq_true, decide_eq_true_eq] at h
    obtain ⟨⟨⟨⟨⟨rfl, h1⟩, h2⟩, h3⟩, h4⟩, h5⟩ := h
    refine both ((se_pop (ckE_ok o c X W g x h4).1 (ckE_ok a c X W g y h5).1 (plainO_ok h1) h2 (notStar_ok h3)).of fun δ => ?_) rfl
    simp only [evE]
theorem ckA_ok : ∀ (es : Exs) (c : Ck) (X : Cx) (W : WX) (_ : Good c C Φ k X W) (xs : List Expr), ckA c es xs = true → SA X W C xs (evA (gl c.T) Φ es)
  | .nil, c, X, W, g, xs, h => by
    cases xs with
    | nil =>
      have : evA (gl c.T) Φ .nil = fun _ => M.ok [] := funext fun δ => by simp only [evA]
      rw [this]
      exact sa_nil
    | cons x xs => simp [ckA] at h
  | .cons a es, c, X, W, g, xs, h => by
    cases xs with
    | nil => simp [ckA] at h
    | cons x xs =>
      simp only [ckA, Bool.and_eq_true] at h
      have : evA (gl c.T) Φ (.cons a es) = fun δ => M.bind (evE (gl c.T) Φ a δ) fun d => M.bind (evA (gl c.T) Φ es δ) fun ds => M.ok (d :: ds) := funext fun δ => by simp only [evA]
      rw [this]
      exact sa_cons (ckE_ok a c X W g x h.1.2).1 (ckA_ok es c X W g xs h.2) (notStar_ok h.1.1)
theorem ckI_ok : ∀ (i : It) (c : Ck) (X : Cx) (W : WX) (_ : Good c C Φ k X W) (tg e : Expr), ckI c i tg e = true → SI X W C tg e (evI (gl c.T) Φ i)
  | .seq a, c, X, W, g, tg, e, h => by
    simp only [ckI] at h
    have q := si_seq (tg := tg) (ckE_ok a c X W g e h).1
    have : evI (gl c.T) Φ (.seq a) = _ := funext fun δ => by simp only [evI]; rfl
    rw [this]
    exact q
  | .rng a, c, X, W, g, tg, e, h => by
    obtain ⟨x, p2, y, p, rfl⟩ : ∃ x p2 y p, e = .Call (.Name x p2) [y] [] p := by
      unfold ckI at h
      split at h
      · exact ⟨_, _, _, _, rfl⟩
      · cases h
    simp only [ckI, Bool.and_eq_true] at h
    obtain ⟨rfl, q1, q2⟩ := g.bl h.1.1 (in_blt (by decide +kernel))
    have q := si_rng (tg := tg) (p := p2) (pos := p) q1 q2 (ckE_ok a c X W g y h.2).1 (notStar_ok h.1.2)
    have : evI (gl c.T) Φ (.rng a) = _ := funext fun δ => by simp only [evI]; rfl
    rw [this]
    exact q
  | .rng2 a b, c, X, W, g, tg, e, h => by
    obtain ⟨x, p2, y, z, p, rfl⟩ : ∃ x p2 y z p, e = .Call (.Name x p2) [y, z] [] p := by
      unfold ckI at h
      split at h
      · exact ⟨_, _, _, _, _, rfl⟩
      · cases h
    simp only [ckI, Bool.and_eq_true] at h
    obtain ⟨⟨⟨⟨h1, h2⟩, h3⟩, h4⟩, h5⟩ := h
    obtain ⟨rfl, q1, q2⟩ := g.bl h1 (in_blt (by decide +kernel))
    have q := si_rng2 (tg := tg) (p := p2) (pos := p) q1 q2 (ckE_ok a c X W g y h4).1 (ckE_ok b c X W g z h5).1 (notStar_ok h2) (notStar_ok h3)
    have : evI (gl c.T) Φ (.rng2 a b) = _ := funext fun δ => by simp only [evI]; rfl
    rw [this]
    exact q
  | .zip a b, c, X, W, g, tg, e, h => by
    obtain ⟨x, p2, y, z, p, rfl⟩ : ∃ x p2 y z p, e = .Call (.Name x p2) [y, z] [] p := by
      unfold ckI at h
      split at h
      · exact ⟨_, _, _, _, _, rfl⟩
      · cases h
    simp only [ckI, Bool.and_eq_true] at h
    obtain ⟨⟨⟨⟨⟨h1, h0⟩, h2⟩, h3⟩, h4⟩, h5⟩ := h
    obtain ⟨rfl, q1, q2⟩ := g.bl h1 (in_blt (by decide +kernel))
    cases tg with
    | Tuple els kk tp =>
      have q := si_zip (elts := els) (kk := kk) (tpos := tp) (p := p2) (pos := p) q1 q2 (ckE_ok a c X W g y h4).1 (ckE_ok b c X W g z h5).1 (notStar_ok h2) (notStar_ok h3)
      have : evI (gl c.T) Φ (.zip a b) = _ := funext fun δ => by simp only [evI]; rfl
      rw [this]
      exact q
    | _ => cases h0
  | .enm a, c, X, W, g, tg, e, h => by
    obtain ⟨x, p2, y, p, rfl⟩ : ∃ x p2 y p, e = .Call (.Name x p2) [y] [] p := by
      unfold ckI at h
      split at h
      · exact ⟨_, _, _, _, rfl⟩
      · cases h
    simp only [ckI, Bool.and_eq_true] at h
    obtain ⟨⟨⟨h1, h0⟩, h2⟩, h4⟩ := h
    obtain ⟨rfl, q1, q2⟩ := g.bl h1 (in_blt (by decide +kernel))
    cases tg with
    | Tuple els kk tp =>
      have q := si_enm (elts := els) (kk := kk) (tpos := tp) (p := p2) (pos := p) q1 q2 (ckE_ok a c X W g y h4).1 (notStar_ok h2)
      have : evI (gl c.T) Φ (.enm a) = _ := funext fun δ => by simp only [evI]; rfl
      rw [this]
      exact q
    | _ => cases h0
  | .ezip a b, c, X, W, g, tg, e, h => by
    obtain ⟨x, p1, x2, p2, y, z, p3, p, rfl⟩ : ∃ x p1 x2 p2 y z p3 p, e = .Call (.Name x p1) [.Call (.Name x2 p2) [y, z] [] p3] [] p := by
      unfold ckI at h
      split at h
      · exact ⟨_, _, _, _, _, _, _, _, rfl⟩
      · cases h
    simp only [ckI, Bool.and_eq_true] at h
    obtain ⟨⟨⟨⟨⟨⟨h1, h6⟩, h0⟩, h2⟩, h3⟩, h4⟩, h5⟩ := h
    obtain ⟨rfl, q1, q2⟩ := g.bl h1 (in_blt (by decide +kernel))
    obtain ⟨rfl, q3, q4⟩ := g.bl h6 (in_blt (by decide +kernel))
    cases tg with
    | Tuple els kk tp =>
      have q := si_ezip (elts := els) (kk := kk) (tpos := tp) (p := p1) (pos := p) (p3 := p2) (pos2 := p3) q1 q2 q3 q4 (ckE_ok a c X W g y h4).1 (ckE_ok b c X W g z h5).1 (notStar_ok h2) (notStar_ok h3)
      have : evI (gl c.T) Φ (.ezip a b) = _ := funext fun δ => by simp only [evI]; rfl
      rw [this]
      exact q
    | _ => cases h0
theorem ckO_ok : ∀ (cn : Cn) (c : Ck) (X : Cx) (W : WX) (_ : Good c C Φ k X W) (o : Option Expr), ckO c cn o = true → SO X W C o (evC (gl c.T) Φ cn)
  | .no, c, X, W, g, o, h => by
    cases o with
    | none =>
      have : evC (gl c.T) Φ .no = fun _ => M.ok none := funext fun δ => by simp only [evC]
      rw [this]
      exact so_none
    | some e => simp [ckO] at h
  | .yes a, c, X, W, g, o, h => by
    cases o with
    | none => simp [ckO] at h
    | some e =>
      simp only [ckO] at h
      have q := so_some (ckE_ok a c X W g e h).1
      have : evC (gl c.T) Φ (.yes a) = _ := funext fun δ => by simp only [evC]; rfl
      rw [this]
      exact q
theorem ckF_ok : ∀ (cn : Cn) (c : Ck) (X : Cx) (W : WX) (_ : Good c C Φ k X W) (l : List Expr), ckF c cn l = true → PTs X l (tMT X W C fun δ => evT (gl c.T) Φ cn δ)
  | .no, c, X, W, g, l, h => by
    cases l with
    | nil =>
      refine ⟨fun pins s σ H Q I hw => pts_nil.run pins s σ H Q I ?_⟩
      obtain ⟨w, δ, μ, rfl, k, sl, d⟩ := hw
      simp only [evT] at d
      exact d.of_ok k
    | cons x xs => simp [ckF] at h
  | .yes a, c, X, W, g, l, h => by
    cases l with
    | nil => simp [ckF] at h
    | cons x xs =>
      cases xs with
      | cons _ _ => simp [ckF] at h
      | nil =>
        simp only [ckF, Bool.and_eq_true] at h
        have q := (ckE_ok a c X W g x h.2).2 h.1
        have : (fun δ => evT (gl c.T) Φ (.yes a) δ) = fun δ => M.bind (evE (gl c.T) Φ a δ) asBl := funext fun δ => by simp only [evT]
        rw [this]
        exact pts_one q.pt
end
end
end NB
end
set_option maxHeartbeats 4000000
section
/-! The checker: statements. -/
namespace NB
open PySem PySem.Spec L2
open PyProof.Rows hiding St
/-- an own exception class, made without arguments -/
def ExcOk (K : PySem.W.Frag) (mg : Str → Option Value) (x : Str) : Prop := ∃ (c : Addr) (bmB : List Value) (B newId initId : String), ExcBaseFacts B newId initId bmB ∧ PySem.W.excIn K c bmB newId = true ∧ mg x = some (.ref c) ∧ PySem.W.keepIn K (.ref c) = true ∧
  PySem.W.subIn K (.ref c) (.type "BaseException") = some true ∧ PySem.W.typeIn K (.ref c) = some (.type "type") ∧ PySem.W.exmOne K (.ref c) (.ref c) = some true
structure GoodS (c : Ck) (C : Addr) (Φ : Nat → List D → M D) (k : Nat) (X : Cx) (W : WX) : Prop where
  g : Good c C Φ k X W
  kf : c.sc.kind = .function
  hs : X.stack = X.env :: X.outer
  hf : X.env.frame = some X.env.locals
  ps : PassesOwn (model X.prog X.w) X.A X.env X.xe
  exc : ∀ x ∈ c.T.excs, ExcOk X.K X.mg x
/-- name = [..] on one line -/
def swLc (sc : Scope) (x : Str) (py p : Pos) (scope : Scope) : Bool := decide (sc.names.lookup x = some .local) && (py.line == p.line) && !(scope.names.any fun (n, k) => n == x && (k == .local || k == .cell))
/-- a store that goes left to right -/
def asgB (c : Ck) (tg e : Expr) : Bool := match tg with
  | .Name _ _ => true
  | .Tuple ts _ _ => (match e with
    | .Tuple vs _ _ => decide (swN c.sc ts vs = some none)
    | _ => true)
  | _ => false
mutual
def ckS (c : Ck) : Sx → Stmt → Bool
  | .expr a, s => match s with
    | .Expr e _ => notLc e && ckE c a e
    | _ => false
  | .asg t a, s => match s with
    | .Assign [tg] e _ => ckT c t tg && ckE c a e && asgB c tg e
    | _ => false
  | .par i j a b, s => match s with
    | .Assign [.Tuple [.Name x px, .Name y py] _ _] (.Tuple [e1, e2] _ _) _ =>
      decide (c.N[i]? = some x) && decide (c.N[j]? = some y) && !decide (i = j) && decide (c.sc.names.lookup x = some .local) && decide (c.sc.names.lookup y = some .local) &&
      decide (swN c.sc [.Name x px, .Name y py] [e1, e2] = some (some [x, y])) && notStar e1 && notStar e2 && ckE c a e1 && ckE c b e2
    | _ => false
  | .setI o i a, s => match s with
    | .Assign [.Subscript x y _] e _ => notSlice y && ckE c o x && ckE c i y && ckE c a e
    | _ => false
  | .setF o f a, s => match s with
    | .Assign [.Attribute x g _] e _ => decide (g = f) && c.T.cls && decide (f ∈ c.T.flds) && ckE c o x && ckE c a e
    | _ => false
  | .ite k a b, s => match s with
    | .If t xs ys _ => tst k && ckE c k t && ckB c a xs && ckB c b ys
    | _ => false
  | .for_ t i b, s => match s with
    | .For tg iter body [] _ => notSet iter && ckI c i tg iter && ckT c t tg && ckB c b body
    | _ => false
  | .whl k b, s => match s with
    | .While t body [] _ => tst k && ckE c k t && ckB c b body
    | _ => false
  | .ret a, s => match s with
    | .Return (some e) _ => ckE c a e
    | _ => false
  | .retN, s => match s with
    | .Return none _ => true
    | _ => false
  | .brk, s => match s with
    | .Break _ => true
    | _ => false
  | .cnt, s => match s with
    | .Continue _ => true
    | _ => false
  | .pass, s => match s with
    | .Pass _ => true
    | _ => false
  | .raise x, s => match s with
    | .Raise (some (.Call (.Name y _) [] [] _)) none _ => decide (y = x) && glB c.sc x && okN x && decide (x ∈ c.T.excs)
    | _ => false
  | .try_ b x h, s => match s with
    | .Try body [.ExceptHandler (some (.Name y _)) none [.Return (some (.Constant (.bool d) _ _)) _] _] [] [] _ => decide (y = x) && glB c.sc x && okN x && decide (x ∈ c.T.excs) && (match h with
      | .cons (.ret (.bl d')) .nil => decide (d = d')
      | _ => false) && ckB c b body
    | _ => false
def ckB (c : Ck) : Sxs → List Stmt → Bool
  | .nil, l => match l with
    | [] => true
    | _ => false
  | .cons a as, l => match l with
    | s :: r => ckS c a s && ckB c as r
    | _ => false
end
theorem swaps_notName {e tg : Expr} {l : Nat} {env : Env} (h : ∀ x p, tg ≠ .Name x p) : swapsWith e (some tg) l env = pure false := by
  unfold swapsWith
  cases e <;> first
    | rfl
    | (cases tg <;> first
      | rfl
      | exact absurd rfl (h _ _))
def notNm : Expr → Bool
  | .Name .. => false
  | _ => true
theorem swaps_sole {e tg : Expr} {l : Nat} {env : Env} (h : notNm tg = true) : swapsWithSole [tg] e l env = pure false := by
  show swapsWith e (some tg) l env = pure false
  refine swaps_notName fun x p z => ?_
  subst z
  cases h
theorem swaps_notLc {e : Expr} {tg : Option Expr} {l : Nat} {env : Env} (h : notLc e = true) : swapsWith e tg l env = pure false := by
  unfold swapsWith
  cases e <;> first
    | rfl
    | cases h
theorem swaps_lc {elt : Expr} {gs : List Comprehension} {scope sc : Scope} {p py : Pos} {x : Str} {l : Nat} {env : Env} (he : env.scope = sc) (hk : sc.kind = .function) : swapsWith (.ListComp elt gs scope p) (some (.Name x py)) l env = pure (swLc sc x py p scope) := by
  have hb : env.blockKind = .function := by unfold Env.blockKind; rw [he, hk]; rfl
  have hko : env.kindOf x = sc.names.lookup x := by unfold Env.kindOf; rw [he]
  unfold swapsWith swLc
  have e1 : decide (sc.names.lookup x = some .local) = (sc.names.lookup x == some .local) := by
    rw [Bool.eq_iff_iff]
    simp
  simp only [hb, hko, e1, Expr.pos]
  rfl
theorem stores_none {tg e : Expr} {env : Env} (h : isTup tg = false) (h2 : ∀ es p, tg ≠ .List es p) : swappedStores [tg] e env = pure none := by
  cases tg <;> first
    | rfl
    | exact absurd rfl (h2 _ _)
    | cases h
theorem stores_noTup {tg e : Expr} {env : Env} (h : isTup e = false) : swappedStores [tg] e env = pure none := by
  cases e with
  | Tuple => cases h
  | _ => cases tg with
    | Tuple => rfl
    | List => rfl
    | _ => rfl
theorem each_one {tg : Expr} {env : Env} (h : notStar tg = true) : (assignEach [tg] env).map (·.2) = [assign tg env] := by
  cases tg <;> first | rfl | cases h
theorem assign_sub {o i : Expr} {p : Pos} {env : Env} (h : notSlice i = true) : ∀ v, assign (.Subscript o i p) env v = (do
      let ov ← holding [v] (eval o env)
      let iv ← holding [v, ov] (eval i env)
      standAt p
      holding [v, ov, iv] (setItem ov iv v)
      release [v, ov, iv] []) := by
  intro v
  cases i <;> first | rfl | cases h
theorem SS.of {X : Cx} {W : WX} {C : Addr} {s : Stmt} {m m' : List (Option D) → M Fl} (h : SS X W C s m) (q : ∀ δ, m' δ = m δ) : SS X W C s m' := by
  have : m' = m := funext q
  rw [this]
  exact h
theorem SB.of {X : Cx} {W : WX} {C : Addr} {s : List Stmt} {m m' : List (Option D) → M Fl} (h : SB X W C s m) (q : ∀ δ, m' δ = m δ) : SB X W C s m' := by
  have : m' = m := funext q
  rw [this]
  exact h
section
variable {C : Addr} {Φ : Nat → List D → M D} {k : Nat}
theorem asg_ok {c : Ck} {X : Cx} {W : WX} (g : GoodS c C Φ k X W) {t : Tg} {a : Ex} {tg e : Expr} {pos : Pos} (ht : ckT c t tg = true) (he : ckE c a e = true) (hx : asgB c tg e = true) : SS X W C (.Assign [tg] e pos) (fun δ => M.bind (evE (gl c.T) Φ a δ) fun d => match bindT t d δ with
      | some δ' => M.ok (.nx δ')
      | none => M.bad) := by
  have ie := (ckE_ok a c X W g.g e he).1
  cases tg with
  | Name x px =>
    cases t with
    | nil => simp [ckT] at ht
    | cons _ _ => simp [ckT] at ht
    | nm i =>
      simp only [ckT, Bool.and_eq_true, decide_eq_true_eq] at ht
      have hi : X.N[i]? = some x := by rw [g.g.N]; exact ht.1.1
      have hl : Loc X.env.scope x := by rw [g.g.sc]; exact locB_ok ht.1.2
      have hst := g.g.st x ht.2
      cases hlc : notLc e with
      | true => exact ss_set g.g.nd hi hl ie (swaps_notLc hlc) hst
      | false =>
        obtain ⟨m, own, t2, it, cn, b, rfl⟩ : ∃ m own t2 it cn b, a = .comp m own t2 it cn b := by
          cases e with
          | ListComp _ _ _ _ => cases a <;> first
            | exact ⟨_, _, _, _, _, _, rfl⟩
            | simp [ckE] at he
          | SetComp _ _ _ _ => cases a <;> simp [ckE] at he
          | DictComp _ _ _ _ _ => cases a <;> simp [ckE] at he
          | _ => cases hlc
        obtain ⟨elt, tg, iter, ifs, asy, scope, p, rfl⟩ : ∃ elt tg iter ifs asy scope p, e = .ListComp elt [⟨tg, iter, ifs, asy⟩] scope p := by
          unfold ckE at he
          split at he
          · exact ⟨_, _, _, _, _, _, _, rfl⟩
          · cases he
        have hsw := swaps_lc (elt := elt) (gs := [⟨tg, iter, ifs, asy⟩]) (scope := scope) (p := p) (py := px) (x := x) (l := pos.line) g.g.sc g.kf
        cases hb : swLc c.sc x px p scope with
        | false =>
          rw [hb] at hsw
          exact ss_set g.g.nd hi hl ie hsw hst
        | true =>
          rw [hb] at hsw
          have hyl : X.env.scope.names.lookup x = some .local := by
            simp only [swLc, Bool.and_eq_true, decide_eq_true_eq] at hb
            rw [g.g.sc]
            exact hb.1.1
          simp only [ckE, Bool.and_eq_true, decide_eq_true_eq, List.all_eq_true] at he
          obtain ⟨⟨⟨⟨⟨⟨⟨rfl, h1⟩, h2⟩, h3⟩, h4⟩, h5⟩, h6⟩, h7⟩ := he
          have ok : BlkOk X.N X.env.scope scope (ownOf c.N own) := by
            rw [g.g.N, g.g.sc]
            exact blk_ok h1
          refine (ss_setLc (b := m) (t := t2) (mt := fun δ => evT (gl c.T) Φ cn δ) (me := fun δ => evE (gl c.T) Φ b δ) g.g.calm g.g.nd hi hyl hsw (ckI_ok it c X W g.g tg iter h4) ok (by rw [ownOf_snd]; exact h2)
            (fun s H C' cl fp => ckT_ok (g.g.blk s H scope C' cl fp) t2 tg h5) (fun s H C' cl fp => ckF_ok cn (inBlk c scope) _ W0 (g.g.blk s H scope C' cl fp) ifs h6)
            (fun s H C' cl fp => (ckE_ok b (inBlk c scope) _ W0 (g.g.blk s H scope C' cl fp) elt h7).1.pe) (notSet_ok h3)).of fun δ => ?_
          rw [ownOf_snd]
          simp only [evE] <;> rfl
  | Tuple ts kk p =>
    have hg := ckT_ok g.g t _ ht
    refine ss_asg ie hg (swaps_sole rfl) ?_ (each_one rfl)
    cases hv : isTup e with
    | false => exact stores_noTup hv
    | true =>
      cases e with
      | Tuple vs k2 p2 =>
        simp only [asgB, decide_eq_true_eq] at hx
        exact swN_ok g.g.sc g.kf hx
      | _ => cases hv
  | _ => cases hx
mutual
theorem ckS_ok : ∀ (a : Sx) (c : Ck) (X : Cx) (W : WX) (_ : GoodS c C Φ k X W) (s : Stmt), ckS c a s = true → SS X W C s (exS (gl c.T) Φ a)
  | .expr a, c, X, W, g, s, h => by
    cases s with
    | Expr e p =>
      simp only [ckS, Bool.and_eq_true] at h
      exact (ss_expr (ckE_ok a c X W g.g e h.2).1 (swaps_notLc h.1)).of fun δ => by simp only [exS]
    | _ => simp [ckS] at h
  | .asg t a, c, X, W, g, s, h => by
    obtain ⟨tg, e, p, rfl⟩ : ∃ tg e p, s = .Assign [tg] e p := by
      unfold ckS at h
      split at h
      · exact ⟨_, _, _, rfl⟩
      · cases h
    simp only [ckS, Bool.and_eq_true] at h
    refine (asg_ok g (pos := p) h.1.1 h.1.2 h.2).of fun δ => ?_
    simp only [exS] <;> rfl
  | .par i j a b, c, X, W, g, s, h => by
    obtain ⟨x, px, y, py, k1, p1, e1, e2, k2, p2, p, rfl⟩ : ∃ x px y py k1 p1 e1 e2 k2 p2 p, s = .Assign [.Tuple [.Name x px, .Name y py] k1 p1] (.Tuple [e1, e2] k2 p2) p := by
      unfold ckS at h
      split at h
      · exact ⟨_, _, _, _, _, _, _, _, _, _, _, rfl⟩
      · cases h
    simp only [ckS, Bool.and_eq_true, decide_eq_true_eq, Bool.not_eq_true', decide_eq_false_iff_not] at h
    obtain ⟨⟨⟨⟨⟨⟨⟨⟨⟨h1, h2⟩, h3⟩, h4⟩, h5⟩, h6⟩, h7⟩, h8⟩, h9⟩, h10⟩ := h
    refine (ss_par g.g.calm g.g.nd (by rw [g.g.N]; exact h1) (by rw [g.g.N]; exact h2) h3 (by rw [g.g.sc]; exact h4) (by rw [g.g.sc]; exact h5) (ckE_ok a c X W g.g e1 h9).1 (ckE_ok b c X W g.g e2 h10).1 (notStar_ok h7) (notStar_ok h8) (swN_ok g.g.sc g.kf h6) (swaps_sole rfl)).of fun δ => ?_
    simp only [exS]
  | .setI o i a, c, X, W, g, s, h => by
    obtain ⟨x, y, p1, e, p, rfl⟩ : ∃ x y p1 e p, s = .Assign [.Subscript x y p1] e p := by
      unfold ckS at h
      split at h
      · exact ⟨_, _, _, _, _, rfl⟩
      · cases h
    simp only [ckS, Bool.and_eq_true] at h
    obtain ⟨⟨⟨h1, h2⟩, h3⟩, h4⟩ := h
    refine (ss_setI (ckE_ok o c X W g.g x h2).1 (ckE_ok i c X W g.g y h3).1 (ckE_ok a c X W g.g e h4).1 (notSlice_ok h1) (swaps_sole rfl) (stores_none rfl (by intro x p z; cases z)) (each_one rfl) (assign_sub h1)).of fun δ => ?_
    simp only [exS] <;> rfl
  | .setF o f a, c, X, W, g, s, h => by
    obtain ⟨x, f', p1, e, p, rfl⟩ : ∃ x f' p1 e p, s = .Assign [.Attribute x f' p1] e p := by
      unfold ckS at h
      split at h
      · exact ⟨_, _, _, _, _, rfl⟩
      · cases h
    simp only [ckS, Bool.and_eq_true, decide_eq_true_eq] at h
    obtain ⟨⟨⟨⟨rfl, h2⟩, h3⟩, h4⟩, h5⟩ := h
    refine (ss_setF (g.g.tb.cls h2) (g.g.tb.att _ h3) (ckE_ok o c X W g.g x h4).1 (ckE_ok a c X W g.g e h5).1 (swaps_notName (by intro x p z; cases z))).of fun δ => ?_
    simp only [exS] <;> rfl
  | .ite kk a b, c, X, W, g, s, h => by
    cases s with
    | If t xs ys p =>
      simp only [ckS, Bool.and_eq_true] at h
      obtain ⟨⟨⟨h1, h2⟩, h3⟩, h4⟩ := h
      refine (ss_if ((ckE_ok kk c X W g.g t h2).2 h1) (ckB_ok a c X W g xs h3) (ckB_ok b c X W g ys h4)).of fun δ => ?_
      simp only [exS, bind_assoc]
    | _ => simp [ckS] at h
  | .for_ t i b, c, X, W, g, s, h => by
    obtain ⟨tg, iter, body, p, rfl⟩ : ∃ tg iter body p, s = .For tg iter body [] p := by
      unfold ckS at h
      split at h
      · exact ⟨_, _, _, _, rfl⟩
      · cases h
    simp only [ckS, Bool.and_eq_true] at h
    obtain ⟨⟨⟨h1, h2⟩, h3⟩, h4⟩ := h
    refine (ss_for g.ps g.g.calm (ckI_ok i c X W g.g tg iter h2) (ckT_ok g.g t tg h3) (ckB_ok b c X W g body h4) (notSet_ok h1)).of fun δ => ?_
    simp only [exS]
  | .whl kk b, c, X, W, g, s, h => by
    obtain ⟨t, body, p, rfl⟩ : ∃ t body p, s = .While t body [] p := by
      unfold ckS at h
      split at h
      · exact ⟨_, _, _, rfl⟩
      · cases h
    simp only [ckS, Bool.and_eq_true] at h
    obtain ⟨⟨h1, h2⟩, h3⟩ := h
    refine (ss_while (N := fuel) g.ps ((ckE_ok kk c X W g.g t h2).2 h1) (ckB_ok b c X W g body h3)).of fun δ => ?_
    simp only [exS]
  | .ret a, c, X, W, g, s, h => by
    cases s with
    | Return v p =>
      cases v with
      | none => simp [ckS] at h
      | some e =>
        simp only [ckS] at h
        exact (ss_ret (ckE_ok a c X W g.g e h).1).of fun δ => by simp only [exS]
    | _ => simp [ckS] at h
  | .retN, c, X, W, g, s, h => by
    cases s with
    | Return v p =>
      cases v with
      | none => exact ss_retN.of fun δ => by simp only [exS]
      | some e => simp [ckS] at h
    | _ => simp [ckS] at h
  | .brk, c, X, W, g, s, h => by
    cases s with
    | Break p => exact ss_brk.of fun δ => by simp only [exS]
    | _ => simp [ckS] at h
  | .cnt, c, X, W, g, s, h => by
    cases s with
    | Continue p => exact ss_cnt.of fun δ => by simp only [exS]
    | _ => simp [ckS] at h
  | .pass, c, X, W, g, s, h => by
    cases s with
    | Pass p => exact ss_pass.of fun δ => by simp only [exS]
    | _ => simp [ckS] at h
  | .raise x, c, X, W, g, s, h => by
    obtain ⟨y, p1, p2, p, rfl⟩ : ∃ y p1 p2 p, s = .Raise (some (.Call (.Name y p1) [] [] p2)) none p := by
      unfold ckS at h
      split at h
      · exact ⟨_, _, _, _, rfl⟩
      · cases h
    simp only [ckS, Bool.and_eq_true, decide_eq_true_eq] at h
    obtain ⟨⟨⟨rfl, h2⟩, h3⟩, h4⟩ := h
    obtain ⟨cc, bmB, B, newId, initId, F, q, gC, kC, r1, r2, r3⟩ := g.exc _ h4
    refine (ss_raise g.g.calm g.g.tk (pmk_own0 F q gC kC (raises_own r1 r2) (g.g.gl h2) (okN_ok h3).1) ?_).of fun δ => by simp only [exS]
    unfold exV
    rw [gC]
    rfl
  | .try_ b x hh, c, X, W, g, s, h => by
    obtain ⟨body, y, p1, d, j, p2, p3, p4, p, rfl⟩ : ∃ body y p1 d j p2 p3 p4 p, s = .Try body [.ExceptHandler (some (.Name y p1)) none [.Return (some (.Constant (.bool d) j p2)) p3] p4] [] [] p := by
      unfold ckS at h
      split at h
      · exact ⟨_, _, _, _, _, _, _, _, _, rfl⟩
      · cases h
    simp only [ckS, Bool.and_eq_true, decide_eq_true_eq] at h
    obtain ⟨⟨⟨⟨⟨rfl, h2⟩, h3⟩, h4⟩, h5⟩, h6⟩ := h
    obtain ⟨d', rfl, rfl⟩ : ∃ d', hh = .cons (.ret (.bl d')) .nil ∧ d = d' := by
      split at h5
      · exact ⟨_, rfl, of_decide_eq_true h5⟩
      · cases h5
    obtain ⟨cc, bmB, B, newId, initId, F, q, gC, kC, r1, r2, r3⟩ := g.exc _ h4
    have ev : exV X.mg y = .ref cc := by unfold exV; rw [gC]; rfl
    refine (ss_try (C := C) (mb := exB (gl c.T) Φ b) g.hs g.hf ⟨g.g.gl h2, (okN_ok h3).1, .inl (by rw [ev]; exact gC)⟩ g.g.tk (by rw [ev]; exact r3) fun W' pn xe tk' ps' => ?_).of fun δ => ?_
    · exact ckB_ok b c (X.tr pn xe) W' ⟨⟨g.g.tb, g.g.sc, g.g.N, g.g.nd, g.g.calm, g.g.room, g.g.st, tk'⟩, g.kf, g.hs, g.hf, ps', g.exc⟩ body h6
    · funext μ
      simp only [exS, exB, evE]
      rfl
theorem ckB_ok : ∀ (a : Sxs) (c : Ck) (X : Cx) (W : WX) (_ : GoodS c C Φ k X W) (s : List Stmt), ckB c a s = true → SB X W C s (exB (gl c.T) Φ a)
  | .nil, c, X, W, g, s, h => by
    cases s with
    | nil => exact sb_nil.of fun δ => by simp only [exB]
    | cons _ _ => simp [ckB] at h
  | .cons a as, c, X, W, g, s, h => by
    cases s with
    | nil => simp [ckB] at h
    | cons s r =>
      simp only [ckB, Bool.and_eq_true] at h
      refine (sb_cons (ckS_ok a c X W g s h.1) (ckB_ok as c X W g r h.2)).of fun δ => ?_
      simp only [exB] <;> rfl
end
end
end NB
end
set_option maxHeartbeats 4000000
section
/-! A program: its defs, what the names of its top stand for. -/
namespace NB
open PySem PySem.Spec L2
open PyProof.Rows hiding St
/-! ### arguments -/
theorem zip_look : ∀ {ps : List Str} {us : List Value}, us.length = ps.length → ∀ n ∈ ps, ((ps.zip us).lookup n).isNone = false
  | [], _, _, _, h => nomatch h
  | p :: ps, [], hl, _, _ => by cases hl
  | p :: ps, u :: us, hl, n, h => by
    rw [List.zip_cons_cons, List.lookup_cons]
    cases q : n == p with
    | true => rfl
    | false =>
      simp only
      refine zip_look (by simpa using hl) n ?_
      rcases List.mem_cons.mp h with z | z
      · subst z
        simp at q
      · exact z
theorem zip_back : ∀ {ps : List Str} {us : List Value}, ps.Nodup → us.length = ps.length → (ps.filterMap fun n => ((ps.zip us).lookup n).map fun v => (n, v)) = ps.zip us := by
  have gen : ∀ (ps qs : List Str) (us vs : List Value), (∀ n ∈ ps, n ∉ qs) → ps.Nodup → us.length = ps.length → vs.length = qs.length → (ps.filterMap fun n => ((qs.zip vs ++ ps.zip us).lookup n).map fun v => (n, v)) = ps.zip us := by
    intro ps
    induction ps with
    | nil => intros; rfl
    | cons p ps ih =>
      intro qs us vs hn nd hl hv
      cases us with
      | nil => cases hl
      | cons u us =>
        have hp : (qs.zip vs).lookup p = none := by
          rw [List.lookup_eq_none_iff]
          intro x hx
          have := (List.of_mem_zip hx).1
          simp only [bne_iff_ne, ne_eq]
          intro e
          exact hn p List.mem_cons_self (e ▸ this)
        rw [List.filterMap_cons]
        have e1 : (qs.zip vs ++ (p :: ps).zip (u :: us)).lookup p = some u := by
          rw [List.lookup_append, hp]
          simp
        rw [e1]
        simp only [Option.map_some, List.zip_cons_cons]
        congr 1
        have := ih (qs ++ [p]) us (vs ++ [u]) (fun n hm hq => by
          rcases List.mem_append.mp hq with z | z
          · exact hn n (List.mem_cons_of_mem _ hm) z
          · have : n = p := by simpa using z
            subst this
            exact (List.nodup_cons.mp nd).1 hm) (List.nodup_cons.mp nd).2 (by simpa using hl) (by simp [hv])
        rw [List.zip_append hv.symm] at this
        simpa using this
  intro ps us nd hl
  have := gen ps [] us [] (by simp) nd hl rfl
  simpa using this
theorem bind_plain {x qual : Str} {p : Arguments} {body : List Stmt} {scope : Scope} {kV doc pm : Value} {an : Option Addr} {cdv ct : Value} {us : List Value} {ps : List Str}
    (h1 : p.posonlyargs.map (·.arg) = []) (h2 : p.args.map (·.arg) = ps) (h3 : p.kwonlyargs.map (·.arg) = []) (h4 : p.vararg.isNone = true) (h5 : p.kwarg.isNone = true) (nd : ps.Nodup) (hl : us.length = ps.length) :
    bindArgs (PySem.W.fnOf x qual p body scope .none kV doc pm an cdv ct) ⟨us, []⟩ = pure (ps.zip us) := by
  have h4' : p.vararg = none := Option.isNone_iff_eq_none.mp h4
  have h5' : p.kwarg = none := Option.isNone_iff_eq_none.mp h5
  unfold bindArgs PySem.W.fnOf
  have hs : seqItems? .none = pure none := rfl
  simp only [h1, h2, h3, h4', h5', hs, List.nil_append, List.append_nil, List.forIn_nil, pure_bind]
  have e0 : ((none : Option (Array Value)).getD #[]).toList = [] := rfl
  have e1 : (decide (us.length > ps.length) && (none : Option Arg).isNone) = false := by
    rw [hl]
    simp
  have e2 : (ps.filter fun n => ((ps.zip us).lookup n).isNone) = [] := by
    rw [List.filter_eq_nil_iff]
    intro n hn
    rw [zip_look hl n hn]
    exact Bool.false_ne_true
  simp only [e0, e1, List.drop_nil, List.length_nil, Nat.sub_zero, List.take_length, e2, List.zip_nil_right, List.forIn_nil, pure_bind, List.isEmpty_nil, Bool.not_true, Bool.false_eq_true, if_false]
  rw [zip_back nd hl]

/-! ### constants -/
mutual
def repB (K : PySem.W.Frag) : D → Value → Bool
  | .non, u => (match u with
    | .none => true
    | _ => false)
  | .bl b, u => (match u with
    | .bool c => b == c
    | _ => false)
  | .int i, u => (match u with
    | .int j _ => decide (i = j)
    | _ => false)
  | .str x, u => (match u with
    | .str y _ => decide (x = y)
    | _ => false)
  | .tup ds, u => (match u with
    | .ref a => (match K.lookup a with
      | some ⟨.type c, _, .seq its _, _⟩ => decide (c = "tuple") && decide (its.size ≤ sizeLine) && repsB K ds its.toList
      | _ => false)
    | _ => false)
  | .scr ds, u => (match u with
    | .ref a => (match K.lookup a with
      | some ⟨.type c, none, .seq its _, _⟩ => decide (c = "list") && decide (its.size ≤ sizeLine) && repsB K ds its.toList
      | _ => false)
    | _ => false)
  | .lst _, _ => false
  | .ptr _, _ => false
def repsB (K : PySem.W.Frag) : List D → List Value → Bool
  | [], us => (match us with
    | [] => true
    | _ => false)
  | d :: ds, us => (match us with
    | u :: us => repB K d u && repsB K ds us
    | _ => false)
end
mutual
theorem repB_ok {K : PySem.W.Frag} : ∀ (d : D) (u : Value), repB K d u = true → ∃ v, RelV v u ∧ ∀ F ρ, Rep K F ρ d v
  | .non, u, h => by
    cases u with
    | none => exact ⟨.non, rfl, fun F ρ => by simp only [Rep]⟩
    | _ => simp [repB] at h
  | .bl b, u, h => by
    cases u with
    | bool c =>
      have e : b = c := by simpa [repB] using h
      subst e
      exact ⟨.bl b, rfl, fun F ρ => by simp only [Rep]⟩
    | _ => simp [repB] at h
  | .int i, u, h => by
    cases u with
    | int j t =>
      have e : i = j := by simpa [repB] using h
      subst e
      exact ⟨.int i, ⟨t, rfl⟩, fun F ρ => by simp only [Rep]⟩
    | _ => simp [repB] at h
  | .str x, u, h => by
    cases u with
    | str y t =>
      have e : x = y := by simpa [repB] using h
      subst e
      exact ⟨.str x, ⟨t, rfl⟩, fun F ρ => by simp only [Rep]⟩
    | _ => simp [repB] at h
  | .tup ds, u, h => by
    cases u with
    | ref a =>
      simp only [repB] at h
      split at h
      · rename_i c od its n osl q
        simp only [Bool.and_eq_true, decide_eq_true_eq] at h
        obtain ⟨⟨rfl, h2⟩, h3⟩ := h
        obtain ⟨vs, r1, r2⟩ := repsB_ok ds _ h3
        refine ⟨.ref a, rfl, fun F ρ => ?_⟩
        simp only [Rep]
        exact ⟨a, vs, rfl, .inr ⟨_, its, n, q, rfl, rfl, h2, r1⟩, r2 F ρ⟩
      · cases h
    | _ => simp [repB] at h
  | .scr ds, u, h => by
    cases u with
    | ref a =>
      simp only [repB] at h
      split at h
      · rename_i c its n osl q
        simp only [Bool.and_eq_true, decide_eq_true_eq] at h
        obtain ⟨⟨rfl, h2⟩, h3⟩ := h
        obtain ⟨vs, r1, r2⟩ := repsB_ok ds _ h3
        refine ⟨.ref a, rfl, fun F ρ => ?_⟩
        simp only [Rep]
        exact ⟨a, vs, rfl, .inr ⟨_, its, n, q, rfl, rfl, rfl, h2, r1⟩, r2 F ρ⟩
      · cases h
    | _ => simp [repB] at h
  | .lst ds, u, h => by simp [repB] at h
  | .ptr n, u, h => by simp [repB] at h
theorem repsB_ok {K : PySem.W.Frag} : ∀ (ds : List D) (us : List Value), repsB K ds us = true → ∃ vs, Vals vs us ∧ ∀ F ρ, Reps K F ρ ds vs
  | [], us, h => by
    cases us with
    | nil => exact ⟨[], .nil, fun F ρ => .nil⟩
    | cons u us => simp [repsB] at h
  | d :: ds, us, h => by
    cases us with
    | nil => simp [repsB] at h
    | cons u us =>
      simp only [repsB, Bool.and_eq_true] at h
      obtain ⟨v, r1, r2⟩ := repB_ok d u h.1
      obtain ⟨vs, r3, r4⟩ := repsB_ok ds us h.2
      exact ⟨v :: vs, .cons r1 r3, fun F ρ => .cons (r2 F ρ) (r4 F ρ)⟩
end
def gB (K : PySem.W.Frag) (x : Str) (d : D) : Bool := match PySem.W.nsIn K mainGlobals x with
  | some (some u) => repB K d u
  | _ => false
theorem gB_ok {K : PySem.W.Frag} {h : Heap} {mg : Str → Option Value} {x : Str} {d : D} (X : K.In h) (G : h.Ns mainGlobals mg) (c : gB K x d = true) : ∃ u v, mg x = some u ∧ RelV v u ∧ ∀ F ρ, Rep K F ρ d v := by
  unfold gB at c
  split at c
  · rename_i u q
    obtain ⟨v, r1, r2⟩ := repB_ok d u c
    exact ⟨u, v, PySem.W.mg_of X G q, r1, r2⟩
  · cases c

/-! ### programs -/
structure Dn where
  at_ : Str × Option Str
  name : Str
  qual : Str
  st : Stmt
  N : List Str
  ps : List Str
  fn : Fn
structure Pg where
  defs : List Dn
  G : List (Str × D)
  cn : Str
  cls : Bool
  flds : List Str
  excs : List Str
def Dn.d (d : Dn) : He.DefD := ⟨d.at_, d.name, d.qual, defArgs d.st, defBody d.st, defScope d.st, [], []⟩
def mthOf (cn : Str) (d : Dn) (i : Nat) : Option (Str × Nat × Nat) := match d.at_.2 with
  | some m => if d.at_.1 = cn then some (m, i, d.ps.length) else none
  | none => none
def mkOf (cn : Str) (d : Dn) (i : Nat) : Option (Str × Nat × Nat) := if d.at_ = (cn, some ("__init__" : Str)) then some (cn, i, d.ps.length) else none
def mthsOf (cn : Str) : List Dn → Nat → List (Str × Nat × Nat)
  | [], _ => []
  | d :: ds, i => match mthOf cn d i with
    | some m => m :: mthsOf cn ds (i + 1)
    | none => mthsOf cn ds (i + 1)
def mksOf (cn : Str) : List Dn → Nat → Option (Str × Nat × Nat)
  | [], _ => none
  | d :: ds, i => match mkOf cn d i with
    | some m => some m
    | none => mksOf cn ds (i + 1)
def fnName (d : Dn) : Str × Nat := (match d.at_.2 with
  | none => d.at_.1
  | some _ => "", d.ps.length)
def Pg.tb (p : Pg) : Tb := ⟨p.G, p.defs.map fnName, mthsOf p.cn p.defs 0, mksOf p.cn p.defs 0, p.cls, p.flds, p.excs⟩
def Pg.fns (p : Pg) : List Fn := p.defs.map (·.fn)
theorem mths_at {cn : Str} {m : Str} {i np : Nat} : ∀ {ds : List Dn} {j : Nat}, (m, i, np) ∈ mthsOf cn ds j → ∃ n d, i = j + n ∧ ds[n]? = some d ∧ d.at_ = (cn, some m) ∧ d.ps.length = np
  | [], j, h => by simp [mthsOf] at h
  | d :: ds, j, h => by
    have tl : (m, i, np) ∈ mthsOf cn ds (j + 1) → ∃ n d', i = j + n ∧ (d :: ds)[n]? = some d' ∧ d'.at_ = (cn, some m) ∧ d'.ps.length = np := fun h => by
      obtain ⟨n, d', e1, e2, e3⟩ := mths_at h
      exact ⟨n + 1, d', by omega, by simpa using e2, e3⟩
    unfold mthsOf at h
    cases q : mthOf cn d j with
    | none => rw [q] at h; exact tl h
    | some z =>
      rw [q] at h
      rcases List.mem_cons.mp h with e | e
      · subst e
        unfold mthOf at q
        split at q
        · rename_i m' q2
          split at q
          · rename_i q3
            simp only [Option.some.injEq, Prod.mk.injEq] at q
            obtain ⟨rfl, rfl, rfl⟩ := q
            exact ⟨0, d, rfl, rfl, Prod.ext q3 q2, rfl⟩
          · cases q
        · cases q
      · exact tl e
theorem mks_at {cn x : Str} {i np : Nat} : ∀ {ds : List Dn} {j : Nat}, mksOf cn ds j = some (x, i, np) → ∃ n d, i = j + n ∧ ds[n]? = some d ∧ d.at_ = (cn, some ("__init__" : Str)) ∧ d.ps.length = np ∧ x = cn
  | [], j, h => by simp [mksOf] at h
  | d :: ds, j, h => by
    unfold mksOf at h
    cases q : mkOf cn d j with
    | none =>
      rw [q] at h
      obtain ⟨n, d', e1, e2, e3⟩ := mks_at h
      exact ⟨n + 1, d', by omega, by simpa using e2, e3⟩
    | some z =>
      rw [q] at h
      simp only [Option.some.injEq] at h
      subst h
      unfold mkOf at q
      split at q
      · rename_i q2
        simp only [Option.some.injEq, Prod.mk.injEq] at q
        obtain ⟨rfl, rfl, rfl⟩ := q
        exact ⟨0, d, rfl, rfl, q2, rfl, rfl⟩
      · cases q
/-! ### what is asked of the texts -/
def scopeB (N ps : List Str) (sc : Scope) : Bool := decide (sc.kind = .function) && !sc.isCoroutine && !sc.isGenerator && decide N.Nodup && decide (N.take ps.length = ps) &&
  ps.all (fun x => locB sc x) && sc.names.all (fun y => !decide (y.2 = .free))
theorem scope_ok {N ps : List Str} {sc : Scope} (h : scopeB N ps sc = true) : FnScope N ps sc := by
  simp only [scopeB, Bool.and_eq_true, decide_eq_true_eq, Bool.not_eq_true', List.all_eq_true, decide_eq_false_iff_not] at h
  obtain ⟨⟨⟨⟨⟨⟨h1, h2⟩, h3⟩, h4⟩, h5⟩, h6⟩, h7⟩ := h
  exact ⟨h1, h2, h3, h4, h5, fun x hx => locB_ok (h6 x hx), fun y hy => h7 y hy⟩
def argsB (p : Arguments) (ps : List Str) : Bool := p.posonlyargs.isEmpty && decide (p.args.map (·.arg) = ps) && p.kwonlyargs.isEmpty && p.vararg.isNone && p.kwarg.isNone && decide ps.Nodup
theorem args_ok {x qual : Str} {p : Arguments} {body : List Stmt} {scope : Scope} {kV doc pm : Value} {an : Option Addr} {cdv ct : Value} {us : List Value} {ps : List Str} (h : argsB p ps = true) (hl : us.length = ps.length) :
    bindArgs (PySem.W.fnOf x qual p body scope .none kV doc pm an cdv ct) ⟨us, []⟩ = pure (ps.zip us) := by
  simp only [argsB, Bool.and_eq_true, decide_eq_true_eq, List.isEmpty_iff] at h
  obtain ⟨⟨⟨⟨⟨h1, h2⟩, h3⟩, h4⟩, h5⟩, h6⟩ := h
  exact bind_plain (by rw [h1]; rfl) h2 (by rw [h3]; rfl) h4 h5 h6 hl
def defB (T : Tb) (d : Dn) : Bool := scopeB d.N d.ps (defScope d.st) && argsB (defArgs d.st) d.ps && decide (d.fn.np = d.ps.length) && decide (d.fn.nl = d.N.length) && ckB ⟨defScope d.st, d.N, fun _ => true, T⟩ d.fn.body (defBody d.st)
/-! ### what is asked of the written part -/
def Pg.fa (p : Pg) (K : PySem.W.Frag) : Bool :=
  p.G.all (fun g => gB K g.1 g.2) && bltNames.all (fun x => (He.Fa.free x).ok K) &&
  p.defs.all (fun d => match d.at_.2 with
    | none => (He.Fa.glo d.at_.1).ok K
    | some m => decide (m = "__init__") || (He.Fa.meth d.at_.1 m).ok K) &&
  (!p.cls || ((He.Fa.glo p.cn).ok K && (He.Fa.cls p.cn).ok K && p.flds.all (fun f => (He.Fa.noat p.cn f).ok K) && (He.Fa.mkr p.cn).ok K)) &&
  (p.cls || (p.flds.isEmpty && p.defs.all (fun d => d.at_.2.isNone))) &&
  p.excs.all (fun x => (He.Fa.glo x).ok K && (He.Fa.exc x).ok K && (He.Fa.exm x x true).ok K)
def Pg.dd (p : Pg) : List He.DefD := p.defs.map Dn.d
def obsN (p : Pg) (K : PySem.W.Frag) : He.AlD := (p.fa K && p.dd.all fun d => d.ok K, p.dd.map fun d => He.fnW K d.at_)
def obsNG (n : Nat) (p : Pg) (g : Addr → Option Obj) : He.AlD := obsN p (He.frG g (He.asD g n))
def hookN (n : Nat) (p : Pg) : PySem.W.Hook where
  α := He.AlD
  obs := fun s => obsNG n p s.heap.get?
  val := fun _ => He.valD p.dd
  says := fun _ h => ∃ K : PySem.W.Frag, K.In h ∧ obsN p K = He.valD p.dd
  of := fun _ _ e => ⟨_, He.frG_in, e⟩
  keeps := fun _ _ _ ⟨K, hK, c⟩ k => ⟨K, PySem.W.Frag.In.keeps hK k, c⟩
theorem obsNG_eq {n : Nat} {p : Pg} {g : Addr → Option Obj} {s : Shared} (h : ∀ a, g a = s.heap.get? a) : obsNG n p g = (hookN n p).obs s := by
  have e : g = s.heap.get? := funext h
  rw [e] <;> rfl
section
variable {p : Pg} {K : PySem.W.Frag}
theorem says_fa (c : obsN p K = He.valD p.dd) : p.fa K = true := (He.ba (show (p.fa K && p.dd.all fun d => d.ok K) = true from congrArg (fun z : He.AlD => z.1) c)).1
theorem says_def (c : obsN p K = He.valD p.dd) {i : Nat} {d : Dn} (h : p.defs[i]? = some d) : ∃ fd, FunD K d.name d.qual (defArgs d.st) (defBody d.st) (defScope d.st) [] [] (He.fAd K d.at_) fd := by
  have c2 := (He.ba (show (p.fa K && p.dd.all fun d => d.ok K) = true from congrArg (fun z : He.AlD => z.1) c)).2
  have hd : p.dd[i]? = some d.d := by
    unfold Pg.dd
    rw [List.getElem?_map, h]
    rfl
  have e : p.dd.map (fun d => He.fnW K d.at_) = p.dd.map He.DefD.val := congrArg (fun z : He.AlD => z.2) c
  have e2 : (p.dd.map fun d => He.fnW K d.at_)[i]? = (p.dd.map He.DefD.val)[i]? := by rw [e]
  rw [List.getElem?_map, List.getElem?_map, hd] at e2
  exact He.DefD.funD (Option.some.inj e2) (List.all_eq_true.mp c2 d.d (List.mem_of_getElem? hd))
end
section
variable {P : Program} {w : World} {K : PySem.W.Frag} {h base : Heap} {mg : Str → Option Value} {p : Pg}
/-- the names of the top, where the defs keep their promises -/
theorem tb_ok (X : K.In h) (G : h.Ns mainGlobals mg) (c : obsN p K = He.valD p.dd) (hB : p.defs.all (fun d => argsB (defArgs d.st) d.ps) = true) {Φ : Nat → List D → M D} {k : Nat}
    (ih : ∀ i d fd, p.defs[i]? = some d → FunD K d.name d.qual (defArgs d.st) (defBody d.st) (defScope d.st) [] [] (He.fAd K d.at_) fd → FnOk P w K mg base (L2.CX P w) k (He.fAd K d.at_) fd d.ps (spM K (He.ga K p.cn) mg d.ps.length (Φ i))) :
    TbOk P w K mg base (He.ga K p.cn) p.tb Φ k := by
  have f := says_fa c
  simp only [Pg.fa, Bool.and_eq_true, Bool.or_eq_true, Bool.not_eq_true', List.all_eq_true] at f
  obtain ⟨⟨⟨⟨⟨f1, f2⟩, f3⟩, f4⟩, f5⟩, f6⟩ := f
  have bnd : ∀ {i : Nat} {d : Dn} {fd : FuncData}, p.defs[i]? = some d → FunD K d.name d.qual (defArgs d.st) (defBody d.st) (defScope d.st) [] [] (He.fAd K d.at_) fd → Binds K fd d.ps [] := fun {i d fd} hd F => by
    have a := List.all_eq_true.mp hB d (List.mem_of_getElem? hd)
    exact F.bindsN fun _ _ _ _ _ _ us hl => args_ok a hl
  refine ⟨fun x d hx => ?_, fun i x np hi hx => ?_, fun m i np hm => ?_, fun x i np hm => ?_, fun hc => ?_, fun f hf => ?_, fun x hx => He.free_ok X G (f2 x hx)⟩
  · have : (x, d) ∈ p.G := by
      have hx : p.G.lookup x = some d := hx
      exact PySem.mem_of_lookup hx
    exact gB_ok X G (f1 _ this)
  · have hi : (p.defs.map fnName)[i]? = some (x, np) := hi
    rw [List.getElem?_map] at hi
    obtain ⟨d, hd, e⟩ := Option.map_eq_some_iff.mp hi
    obtain ⟨fd, F⟩ := says_def c hd
    have g := f3 d (List.mem_of_getElem? hd)
    unfold fnName at e
    simp only [Prod.mk.injEq] at e
    obtain ⟨e1, e2⟩ := e
    cases q : d.at_.2 with
    | some m => rw [q] at e1; exact absurd e1.symm hx
    | none =>
      rw [q] at e1 g
      simp only at e1 g
      subst e1
      have ea : He.fAd K d.at_ = He.ga K d.at_.1 := by unfold He.fAd; rw [q]
      have ok := ih i d fd hd F
      have kp := F.kp
      rw [ea] at ok kp
      exact ⟨_, fd, d.ps, e2, He.glo_ok X G g, kp, bnd hd F, ok⟩
  · obtain ⟨n, d, e1, hd, e3, e4⟩ := mths_at hm
    have e1 : i = n := by omega
    subst e1
    obtain ⟨fd, F⟩ := says_def c hd
    have g := f3 d (List.mem_of_getElem? hd)
    rw [e3] at g
    simp only [Bool.or_eq_true, decide_eq_true_eq] at g
    have ea : He.fAd K d.at_ = He.ma K (He.ga K p.cn) m := by unfold He.fAd; rw [e3]
    have ok := ih i d fd hd F
    rw [ea] at ok
    have M0 : Meth K (He.ga K p.cn) m (He.ma K (He.ga K p.cn) m) := by
      rcases g with g | g
      · subst g
        rcases f5 with z | z
        · have f4' := f4.resolve_left (by rw [z]; exact fun e => by cases e)
          have mk := He.mkr_ok f4'.2
          have kp := F.kp
          rw [ea] at kp
          exact ⟨mk.init, mk.fn, kp⟩
        · have := z.2 d (List.mem_of_getElem? hd)
          rw [e3] at this
          cases this
      · exact He.meth_ok g
    exact ⟨_, fd, d.ps, e4, M0, bnd hd F, ok⟩
  · obtain ⟨n, d, e1, hd, e3, e4, e5⟩ := mks_at hm
    have e1 : i = n := by omega
    subst e1 e5
    obtain ⟨fd, F⟩ := says_def c hd
    have hc : p.cls = true := by
      rcases f5 with z | z
      · exact z
      · have := z.2 d (List.mem_of_getElem? hd)
        rw [e3] at this
        cases this
    have f4' := f4.resolve_left (by rw [hc]; exact fun e => by cases e)
    have ea : He.fAd K d.at_ = He.ma K (He.ga K p.cn) "__init__" := by unfold He.fAd; rw [e3]
    have ok := ih i d fd hd F
    rw [ea] at ok
    exact ⟨_, fd, d.ps, e4, He.glo_ok X G f4'.1.1.1, He.mkr_ok f4'.2, bnd hd F, ok⟩
  · have f4' := f4.resolve_left (by rw [show p.cls = true from hc]; exact fun e => by cases e)
    exact He.cls_ok f4'.1.1.2
  · have hf : f ∈ p.flds := hf
    have hc : p.cls = true := by
      rcases f5 with z | z
      · exact z
      · have := List.isEmpty_iff.mp z.1
        rw [this] at hf
        cases hf
    have f4' := f4.resolve_left (by rw [hc]; exact fun e => by cases e)
    exact He.noat_ok (f4'.1.2 f hf)
theorem exc_facts (X : K.In h) (G : h.Ns mainGlobals mg) (c : obsN p K = He.valD p.dd) : ∀ x ∈ p.excs, ExcOk K mg x := by
  have f := says_fa c
  simp only [Pg.fa, Bool.and_eq_true, Bool.or_eq_true, Bool.not_eq_true', List.all_eq_true] at f
  obtain ⟨_, f6⟩ := f
  intro x hx
  obtain ⟨⟨g1, g2⟩, g3⟩ := f6 x hx
  obtain ⟨h1, h2, h3, h4⟩ := He.exc_ok g2
  exact ⟨He.ga K x, He.veBase, _, _, _, PySem.F.excBase_ValueError, h1, He.glo_ok X G g1, h2, h3, h4, He.exm_ok g3⟩
/-- every def keeps its promise, to every depth -/
theorem fns_ok (X : K.In h) (G : h.Ns mainGlobals mg) (c : obsN p K = He.valD p.dd) (hB : p.defs.all (defB p.tb) = true) : ∀ (j i : Nat) (d : Dn) (fd : FuncData), p.defs[i]? = some d →
    FunD K d.name d.qual (defArgs d.st) (defBody d.st) (defScope d.st) [] [] (He.fAd K d.at_) fd → FnOk P w K mg base (L2.CX P w) (2 * j + 1) (He.fAd K d.at_) fd d.ps (spM K (He.ga K p.cn) mg d.ps.length (run (gl p.tb) p.fns j i)) := by
  have hA : p.defs.all (fun d => argsB (defArgs d.st) d.ps) = true := by
    rw [List.all_eq_true] at hB ⊢
    intro d hd
    have := hB d hd
    simp only [defB, Bool.and_eq_true] at this
    exact this.1.1.1.2
  intro j
  induction j with
  | zero =>
    intro i d fd hd F
    refine ⟨fun vs H Q E h => h.1, fun A outer s H args us vs Q E hr he hb hv hs => ?_⟩
    obtain ⟨_, w0, μ, ds, r, _, _, _, e, _⟩ := hs
    cases e
  | succ j ih =>
    intro i d fd hd F
    have b := List.all_eq_true.mp hB d (List.mem_of_getElem? hd)
    simp only [defB, Bool.and_eq_true, decide_eq_true_eq] at b
    obtain ⟨⟨⟨⟨b1, b2⟩, b3⟩, b4⟩, b5⟩ := b
    have S := scope_ok b1
    have tb := tb_ok (P := P) (w := w) (base := base) X G c hA (Φ := run (gl p.tb) p.fns j) (k := 2 * j + 1) ih
    have e1 : run (gl p.tb) p.fns (j + 1) i = runFn (gl p.tb) (run (gl p.tb) p.fns j) d.fn := by
      funext ds μ
      have hf : p.fns[i]? = some d.fn := by
        unfold Pg.fns
        rw [List.getElem?_map, hd]
        rfl
      simp only [run, hf]
    rw [e1]
    refine fn_ok (k := 2 * j + 2) F S b3 b4 fun cdv A outer s H E hr => ?_
    refine ckB_ok (k := 2 * j + 1) d.fn.body ⟨defScope d.st, d.N, fun _ => true, p.tb⟩ _ _ ?_ (defBody d.st) b5
    exact ⟨⟨tb, rfl, rfl, S.nd, rfl, hr, fun x _ => .inl rfl, takes_of rfl rfl rfl rfl⟩, S.kind, rfl, rfl, passes_of rfl, exc_facts X G c⟩
end
end NB
end
set_option maxHeartbeats 4000000
section
/-! A law's answer, by the runs of my language. -/
namespace NB
open PySem PySem.Spec L2
open PyProof.Rows hiding St
theorem bind1 {x qual : Str} {args : Arguments} {body : List Stmt} {scope : Scope} {K : PySem.W.Frag} {f : Addr} {fd : FuncData} {x0 : Str} (F : FunD K x qual args body scope [] [] f fd) (h : argsB args [x0] = true) : ∀ (s : Shared) (v : Value), BindsTo s fd ⟨[v], []⟩ [(x0, v)] := by
  intro s v
  have b := FunD.bindsA (ps := [x0]) F (fun _ _ _ _ _ _ us hl => args_ok h hl) s [v] rfl
  exact b
/-- a def that lets nothing out -/
theorem FnOk.calm {P : Program} {w : World} {K : PySem.W.Frag} {mg : Str → Option Value} {base : Heap} {k : Nat} {f : Addr} {fd : FuncData} {ps : List Str} {sp : Sp} (F : FnOk P w K mg base (L2.CX P w) k f fd ps sp) :
    FnOk P w K mg base CX0 k f fd ps (fun vs H Q _ => sp vs H Q fun _ _ _ => False) := by
  refine ⟨fun vs H Q E h => F.len _ _ _ _ h, fun A outer s H args us vs Q E hr he hb hv hs => codeAny_mono (F.run A outer s H args us vs Q _ hr he hb hv hs) fun r s' h => ?_⟩
  cases r with
  | ok fl => cases fl <;> exact h
  | error e =>
    obtain ⟨_, _, _, _, _, _, _, _, _, _, _, _, z⟩ := h
    exact z.elim
/-- the law's def: what walk_ofE wants of it -/
theorem law_facts {P : Program} {w : World} {K : PySem.W.Frag} {h : Heap} {mg : Str → Option Value} {p : Pg} {fa : Addr} {ln x0 : Str} {iL j : Nat} {dL : Dn} (X : K.In h) (G : h.Ns mainGlobals mg) (c : obsN p K = He.valD p.dd) (hB : p.defs.all (defB p.tb) = true)
    (hd : p.defs[iL]? = some dL) (hat : dL.at_ = (ln, none)) (hps : dL.ps = [x0]) (hfa : mg ln = some (.ref fa))
    (hplain : ∀ ns : List Int, ns.length ≤ 63 → ∃ μ', run (gl p.tb) p.fns j iL [.scr (ns.map D.int)] [] = some (.ok (.bl true), μ')) :
    ∃ (fd : FuncData) (sp : Sp), (∀ (s : Shared) (v : Value), BindsTo s fd ⟨[v], []⟩ [(x0, v)]) ∧
      (∀ (H : Hp) (a : Addr) (ns : List Int), ns.length ≤ 63 → SqL K H a (ns.map V.int) → sp [.ref a] H (fun v _ => v = .bl true) fun _ _ _ => False) ∧
      ∀ base : Heap, K.In base → base.Ns mainGlobals mg → FnOk P w K mg base CX0 (2 * j + 1) fa fd [x0] sp := by
  obtain ⟨fd, F⟩ := says_def c hd
  have b := List.all_eq_true.mp hB dL (List.mem_of_getElem? hd)
  simp only [defB, Bool.and_eq_true] at b
  have ba : argsB (defArgs dL.st) [x0] = true := by
    have := b.1.1.1.2
    rw [hps] at this
    exact this
  have ea : He.fAd K dL.at_ = fa := by
    have g := says_fa c
    simp only [Pg.fa, Bool.and_eq_true, List.all_eq_true] at g
    have g3 := g.1.1.1.2 dL (List.mem_of_getElem? hd)
    rw [hat] at g3
    have g4 := He.glo_ok X G g3
    rw [hfa] at g4
    have g5 : fa = He.ga K ln := by simpa using g4
    rw [hat, g5]
    rfl
  refine ⟨fd, fun vs H Q _ => spM K (He.ga K p.cn) mg dL.ps.length (run (gl p.tb) p.fns j iL) vs H Q fun _ _ _ => False, bind1 F ba, fun H a ns hl hS => ?_, fun base hb hg => ?_⟩
  · obtain ⟨μ', e⟩ := hplain ns hl
    refine ⟨by rw [hps]; rfl, ⟨H, H, []⟩, [], [.scr (ns.map D.int)], _, rfl, ⟨.refl H, List.nodup_nil, rfl, fun a ha => (by cases ha), fun n a m h1 => (by cases h1)⟩, ?_, e, fun w' l' k' v rv => ?_⟩
    · refine .cons ?_ .nil
      simp only [Rep]
      refine ⟨a, ns.map V.int, rfl, hS, ?_⟩
      clear hS e hl
      induction ns with
      | nil => exact .nil
      | cons n ns ih => exact .cons (by simp only [Rep]) ih
    · have rv' : Rep K w'.F w'.ρ (.bl true) v := rv
      simpa only [Rep] using rv'
  · have ok := fns_ok (P := P) (w := w) (base := base) X G c hB j iL dL fd hd F
    rw [ea] at ok
    rw [← hps]
    exact FnOk.calm ok
end NB
end
set_option maxHeartbeats 4000000
section
/-! The program's text in my small language; printed by gen.py. -/
namespace K40
open PySem PySem.Spec L2 NB
open PyProof.Rows hiding St
def top (i : Nat) : Stmt := PySem.Challenge.pw_nowherebelow_k40_whole_straight_equation.main.body.getD i (.Pass ⟨0, 0, 0, 0⟩)
/-- is_integer -/
def f0 : Fn := ⟨1, 1, true,
    (.cons (.ret (.and_ (.isi .int (.var 0)) (.not_ (.isi .bool (.var 0)))))
    .nil)⟩
def d0 : Dn := ⟨("is_integer", none), "is_integer", "is_integer", top 8, ["value"], ["value"], f0⟩
/-- is_ratio -/
def f1 : Fn := ⟨1, 2, true,
    (.cons (.ite (.or_ (.not_ (.isi .tup (.var 0))) (.or_ (.cmp .ne (.len (.var 0)) (.int 2)) (.not_ (.all (.comp false [1] (.nm 1) (.seq (.var 0)) .no (.call 0 (.cons (.var 1) .nil)))))))
    (.cons (.ret (.bl false))
    .nil) .nil)
    (.cons (.ret (.and_ (.cmp .gt (.idx (.var 0) (.int 1)) (.int 0)) (.cmp .eq (.call 2 (.cons (.idx (.var 0) (.int 0)) (.cons (.idx (.var 0) (.int 1)) .nil))) (.int 1))))
    .nil))⟩
def d1 : Dn := ⟨("is_ratio", none), "is_ratio", "is_ratio", top 9, ["value", "item"], ["value"], f1⟩
/-- divisor -/
def f2 : Fn := ⟨2, 2, true,
    (.cons (.par 0 1 (.abs (.var 0)) (.abs (.var 1)))
    (.cons (.whl (.cmp .gt (.var 1) (.int 0))
    (.cons (.par 0 1 (.var 1) (.bin .mod (.var 0) (.var 1)))
    .nil))
    (.cons (.ret (.var 0))
    .nil)))⟩
def d2 : Dn := ⟨("divisor", none), "divisor", "divisor", top 10, ["one", "other"], ["one", "other"], f2⟩
/-- make -/
def f3 : Fn := ⟨2, 3, true,
    (.cons (.ite (.cmp .eq (.var 1) (.int 0))
    (.cons (.raise "BadNumber")
    .nil) .nil)
    (.cons (.asg (.nm 2) (.call 2 (.cons (.var 0) (.cons (.var 1) .nil))))
    (.cons (.ite (.cmp .lt (.var 1) (.int 0))
    (.cons (.asg (.nm 2) (.neg (.var 2)))
    .nil) .nil)
    (.cons (.ret (.tup (.cons (.bin .fdiv (.var 0) (.var 2)) (.cons (.bin .fdiv (.var 1) (.var 2)) .nil))))
    .nil))))⟩
def d3 : Dn := ⟨("make", none), "make", "make", top 11, ["above", "below", "common"], ["above", "below"], f3⟩
/-- add -/
def f4 : Fn := ⟨2, 2, true,
    (.cons (.ret (.call 3 (.cons (.bin .add (.bin .mul (.idx (.var 0) (.int 0)) (.idx (.var 1) (.int 1))) (.bin .mul (.idx (.var 1) (.int 0)) (.idx (.var 0) (.int 1)))) (.cons (.bin .mul (.idx (.var 0) (.int 1)) (.idx (.var 1) (.int 1))) .nil))))
    .nil)⟩
def d4 : Dn := ⟨("add", none), "add", "add", top 12, ["one", "other"], ["one", "other"], f4⟩
/-- subtract -/
def f5 : Fn := ⟨2, 2, true,
    (.cons (.ret (.call 3 (.cons (.bin .sub (.bin .mul (.idx (.var 0) (.int 0)) (.idx (.var 1) (.int 1))) (.bin .mul (.idx (.var 1) (.int 0)) (.idx (.var 0) (.int 1)))) (.cons (.bin .mul (.idx (.var 0) (.int 1)) (.idx (.var 1) (.int 1))) .nil))))
    .nil)⟩
def d5 : Dn := ⟨("subtract", none), "subtract", "subtract", top 13, ["one", "other"], ["one", "other"], f5⟩
/-- multiply -/
def f6 : Fn := ⟨2, 2, true,
    (.cons (.ret (.call 3 (.cons (.bin .mul (.idx (.var 0) (.int 0)) (.idx (.var 1) (.int 0))) (.cons (.bin .mul (.idx (.var 0) (.int 1)) (.idx (.var 1) (.int 1))) .nil))))
    .nil)⟩
def d6 : Dn := ⟨("multiply", none), "multiply", "multiply", top 14, ["one", "other"], ["one", "other"], f6⟩
/-- divide -/
def f7 : Fn := ⟨2, 2, true,
    (.cons (.ite (.cmp .eq (.idx (.var 1) (.int 0)) (.int 0))
    (.cons (.raise "BadNumber")
    .nil) .nil)
    (.cons (.ret (.call 3 (.cons (.bin .mul (.idx (.var 0) (.int 0)) (.idx (.var 1) (.int 1))) (.cons (.bin .mul (.idx (.var 0) (.int 1)) (.idx (.var 1) (.int 0))) .nil))))
    .nil))⟩
def d7 : Dn := ⟨("divide", none), "divide", "divide", top 15, ["one", "other"], ["one", "other"], f7⟩
/-- less -/
def f8 : Fn := ⟨2, 2, true,
    (.cons (.ret (.cmp .lt (.bin .mul (.idx (.var 0) (.int 0)) (.idx (.var 1) (.int 1))) (.bin .mul (.idx (.var 1) (.int 0)) (.idx (.var 0) (.int 1)))))
    .nil)⟩
def d8 : Dn := ⟨("less", none), "less", "less", top 16, ["one", "other"], ["one", "other"], f8⟩
/-- negative -/
def f9 : Fn := ⟨1, 1, true,
    (.cons (.ret (.tup (.cons (.neg (.idx (.var 0) (.int 0))) (.cons (.idx (.var 0) (.int 1)) .nil))))
    .nil)⟩
def d9 : Dn := ⟨("negative", none), "negative", "negative", top 17, ["number"], ["number"], f9⟩
/-- check_rows -/
def f10 : Fn := ⟨2, 5, true,
    (.cons (.ite (.or_ (.not_ (.isi .tup (.var 0))) (.or_ (.not_ (.isi .tup (.var 1))) (.cmp .ne (.len (.var 0)) (.len (.var 1)))))
    (.cons (.raise "BadTable")
    .nil) .nil)
    (.cons (.asg (.nm 2) (.ite (.cmp .ne (.var 0) (.tup .nil)) (.len (.idx (.var 0) (.int 0))) (.int 0)))
    (.cons (.for_ (.nm 3) (.seq (.var 0))
    (.cons (.ite (.or_ (.not_ (.isi .tup (.var 3))) (.or_ (.cmp .ne (.len (.var 3)) (.var 2)) (.not_ (.all (.comp false [4] (.nm 4) (.seq (.var 3)) .no (.call 1 (.cons (.var 4) .nil)))))))
    (.cons (.raise "BadTable")
    .nil) .nil)
    .nil))
    (.cons (.ite (.not_ (.all (.comp false [4] (.nm 4) (.seq (.var 1)) .no (.call 1 (.cons (.var 4) .nil)))))
    (.cons (.raise "BadTable")
    .nil) .nil)
    (.cons (.ite (.cmp .gt (.bin .mul (.len (.var 0)) (.var 2)) (.glb "MOST_CELLS"))
    (.cons (.raise "BadSize")
    .nil) .nil)
    .nil)))))⟩
def d10 : Dn := ⟨("check_rows", none), "check_rows", "check_rows", top 21, ["rows", "goals", "width", "row", "item"], ["rows", "goals"], f10⟩
/-- dot -/
def f11 : Fn := ⟨2, 5, true,
    (.cons (.asg (.nm 2) (.glb "ZERO"))
    (.cons (.for_ (.cons (.nm 3) (.cons (.nm 4) .nil)) (.zip (.var 0) (.var 1))
    (.cons (.ite (.and_ (.cmp .ne (.var 3) (.glb "ZERO")) (.cmp .ne (.var 4) (.glb "ZERO")))
    (.cons (.asg (.nm 2) (.call 4 (.cons (.var 2) (.cons (.call 6 (.cons (.var 3) (.cons (.var 4) .nil))) .nil))))
    .nil) .nil)
    .nil))
    (.cons (.ret (.var 2))
    .nil)))⟩
def d11 : Dn := ⟨("dot", none), "dot", "dot", top 22, ["one", "other", "found", "left", "right"], ["one", "other"], f11⟩
/-- lessened -/
def f12 : Fn := ⟨3, 5, true,
    (.cons (.ret (.comp false [3, 4] (.cons (.nm 3) (.cons (.nm 4) .nil)) (.zip (.var 0) (.var 2)) .no (.ite (.cmp .ne (.var 4) (.glb "ZERO")) (.call 5 (.cons (.var 3) (.cons (.call 6 (.cons (.var 1) (.cons (.var 4) .nil))) .nil))) (.var 3))))
    .nil)⟩
def d12 : Dn := ⟨("lessened", none), "lessened", "lessened", top 23, ["one", "factor", "other", "a", "b"], ["one", "factor", "other"], f12⟩
/-- columns_of -/
def f13 : Fn := ⟨1, 3, true,
    (.cons (.ret (.comp false [1] (.nm 1) (.rng (.ite (.cmp .ne (.var 0) (.tup .nil)) (.len (.idx (.var 0) (.int 0))) (.int 0))) .no (.tupl (.comp false [2] (.nm 2) (.seq (.var 0)) .no (.idx (.var 2) (.var 1))))))
    .nil)⟩
def d13 : Dn := ⟨("columns_of", none), "columns_of", "columns_of", top 24, ["rows", "k", "row"], ["rows"], f13⟩
/-- Board.__init__ -/
def f14 : Fn := ⟨3, 10, false,
    (.cons (.setF (.var 0) "count" (.len (.var 1)))
    (.cons (.setF (.var 0) "width" (.ite (.cmp .ne (.var 1) (.tup .nil)) (.len (.idx (.var 1) (.int 0))) (.int 0)))
    (.cons (.setF (.var 0) "lines" (.lst true .nil))
    (.cons (.setF (.var 0) "basic" (.lst true .nil))
    (.cons (.for_ (.cons (.nm 3) (.cons (.cons (.nm 4) (.cons (.nm 5) .nil)) .nil)) (.ezip (.var 1) (.var 2))
    (.cons (.asg (.nm 6) (.ite (.cmp .lt (.idx (.var 5) (.int 0)) (.int 0)) (.tup (.cons (.neg (.int 1)) (.cons (.int 1) .nil))) (.glb "ONE")))
    (.cons (.asg (.nm 8) (.comp false [7] (.nm 7) (.rng (.fld (.var 0) "count")) .no (.ite (.cmp .eq (.var 3) (.var 7)) (.var 6) (.glb "ZERO"))))
    (.cons (.expr (.app (.fld (.var 0) "lines") (.bin .add (.bin .add (.comp false [9] (.nm 9) (.seq (.var 4)) .no (.call 6 (.cons (.var 6) (.cons (.var 9) .nil)))) (.var 8)) (.lst false (.cons (.call 6 (.cons (.var 6) (.cons (.var 5) .nil))) .nil)))))
    (.cons (.expr (.app (.fld (.var 0) "basic") .non))
    .nil)))))
    .nil)))))⟩
def d14 : Dn := ⟨("Board", some ("__init__" : Str)), "__init__", "Board.__init__", inClass (top 25) 0, ["self", "rows", "goals", "k", "row", "goal", "turn", "j", "extra", "item"], ["self", "rows", "goals"], f14⟩
/-- Board.price_line -/
def f15 : Fn := ⟨2, 7, true,
    (.cons (.asg (.nm 2) (.bin .add (.list false (.var 1)) (.bin .mul (.lst false (.cons (.glb "ZERO") .nil)) (.bin .add (.fld (.var 0) "count") (.int 1)))))
    (.cons (.for_ (.cons (.nm 3) (.cons (.nm 4) .nil)) (.zip (.fld (.var 0) "lines") (.fld (.var 0) "basic"))
    (.cons (.ite (.and_ (.cmp .isn (.var 4) .non) (.cmp .ne (.idx (.var 1) (.var 4)) (.glb "ZERO")))
    (.cons (.asg (.nm 2) (.comp false [5, 6] (.cons (.nm 5) (.cons (.nm 6) .nil)) (.zip (.var 2) (.var 3)) .no (.call 5 (.cons (.var 5) (.cons (.call 6 (.cons (.idx (.var 1) (.var 4)) (.cons (.var 6) .nil))) .nil)))))
    .nil) .nil)
    .nil))
    (.cons (.ret (.var 2))
    .nil)))⟩
def d15 : Dn := ⟨("Board", some ("price_line" : Str)), "price_line", "Board.price_line", inClass (top 25) 1, ["self", "worth", "found", "line", "place", "a", "b"], ["self", "worth"], f15⟩
/-- Board.lack_line -/
def f16 : Fn := ⟨1, 6, true,
    (.cons (.asg (.nm 1) (.bin .mul (.lst false (.cons (.glb "ZERO") .nil)) (.bin .add (.bin .add (.fld (.var 0) "width") (.fld (.var 0) "count")) (.int 1))))
    (.cons (.for_ (.cons (.nm 2) (.cons (.nm 3) .nil)) (.zip (.fld (.var 0) "lines") (.fld (.var 0) "basic"))
    (.cons (.ite (.cmp .is_ (.var 3) .non)
    (.cons (.asg (.nm 1) (.comp false [4, 5] (.cons (.nm 4) (.cons (.nm 5) .nil)) (.zip (.var 1) (.var 2)) .no (.call 4 (.cons (.var 4) (.cons (.var 5) .nil)))))
    .nil) .nil)
    .nil))
    (.cons (.ret (.var 1))
    .nil)))⟩
def d16 : Dn := ⟨("Board", some ("lack_line" : Str)), "lack_line", "Board.lack_line", inClass (top 25) 2, ["self", "found", "line", "place", "a", "b"], ["self"], f16⟩
/-- Board.turn -/
def f17 : Fn := ⟨3, 8, true,
    (.cons (.asg (.nm 3) (.idx (.idx (.fld (.var 0) "lines") (.var 1)) (.var 2)))
    (.cons (.setI (.fld (.var 0) "lines") (.var 1) (.comp false [4] (.nm 4) (.seq (.idx (.fld (.var 0) "lines") (.var 1))) .no (.ite (.cmp .ne (.var 4) (.glb "ZERO")) (.call 7 (.cons (.var 4) (.cons (.var 3) .nil))) (.glb "ZERO"))))
    (.cons (.asg (.nm 5) (.idx (.fld (.var 0) "lines") (.var 1)))
    (.cons (.for_ (.nm 6) (.rng (.fld (.var 0) "count"))
    (.cons (.asg (.nm 7) (.idx (.idx (.fld (.var 0) "lines") (.var 6)) (.var 2)))
    (.cons (.ite (.and_ (.cmp .ne (.var 6) (.var 1)) (.cmp .ne (.var 7) (.glb "ZERO")))
    (.cons (.setI (.fld (.var 0) "lines") (.var 6) (.call 12 (.cons (.idx (.fld (.var 0) "lines") (.var 6)) (.cons (.var 7) (.cons (.var 5) .nil)))))
    .nil) .nil)
    .nil)))
    (.cons (.setI (.fld (.var 0) "basic") (.var 1) (.var 2))
    .nil)))))⟩
def d17 : Dn := ⟨("Board", some ("turn" : Str)), "turn", "Board.turn", inClass (top 25) 3, ["self", "row", "column", "lead", "item", "pivot", "k", "factor"], ["self", "row", "column"], f17⟩
/-- Board.leaving -/
def f18 : Fn := ⟨2, 8, true,
    (.cons (.asg (.cons (.nm 2) (.cons (.nm 3) .nil)) (.tup (.cons .non (.cons .non .nil))))
    (.cons (.for_ (.cons (.nm 4) (.cons (.nm 5) .nil)) (.enm (.fld (.var 0) "lines"))
    (.cons (.ite (.cmp .gt (.idx (.idx (.var 5) (.var 1)) (.int 0)) (.int 0))
    (.cons (.asg (.nm 6) (.call 7 (.cons (.idx (.var 5) (.neg (.int 1))) (.cons (.idx (.var 5) (.var 1)) .nil))))
    (.cons (.asg (.nm 7) (.ite (.cmp .isn (.idx (.fld (.var 0) "basic") (.var 4)) .non) (.idx (.fld (.var 0) "basic") (.var 4)) (.neg (.int 1))))
    (.cons (.ite (.or_ (.cmp .is_ (.var 2) .non) (.or_ (.call 8 (.cons (.var 6) (.cons (.var 2) .nil))) (.and_ (.cmp .eq (.var 6) (.var 2)) (.cmp .lt (.var 7) (.idx (.var 3) (.int 1))))))
    (.cons (.par 2 3 (.var 6) (.tup (.cons (.var 4) (.cons (.var 7) .nil))))
    .nil) .nil)
    .nil))) .nil)
    .nil))
    (.cons (.ret (.ite (.cmp .is_ (.var 3) .non) .non (.idx (.var 3) (.int 0))))
    .nil)))⟩
def d18 : Dn := ⟨("Board", some ("leaving" : Str)), "leaving", "Board.leaving", inClass (top 25) 4, ["self", "column", "best", "found", "k", "line", "share", "key"], ["self", "column"], f18⟩
/-- Board.fill -/
def f19 : Fn := ⟨1, 5, true,
    (.cons (.for_ (.nm 1) (.rng (.glb "MOST_STEPS"))
    (.cons (.asg (.nm 2) (.mth 16 "lack_line" (.var 0) .nil))
    (.cons (.ite (.cmp .eq (.idx (.var 2) (.neg (.int 1))) (.glb "ZERO"))
    (.cons (.expr (.mth 20 "clear" (.var 0) .nil))
    (.cons (.ret (.bl true))
    .nil)) .nil)
    (.cons (.asg (.nm 4) (.comp false [3] (.nm 3) (.rng (.fld (.var 0) "width")) (.yes (.cmp .gt (.idx (.idx (.var 2) (.var 3)) (.int 0)) (.int 0))) (.var 3)))
    (.cons (.ite (.cmp .eq (.var 4) (.lst false .nil))
    (.cons (.ret (.bl false))
    .nil) .nil)
    (.cons (.expr (.mth 17 "turn" (.var 0) (.cons (.mth 18 "leaving" (.var 0) (.cons (.idx (.var 4) (.int 0)) .nil)) (.cons (.idx (.var 4) (.int 0)) .nil))))
    .nil))))))
    (.cons (.raise "BadSize")
    .nil))⟩
def d19 : Dn := ⟨("Board", some ("fill" : Str)), "fill", "Board.fill", inClass (top 25) 5, ["self", "_", "lack", "k", "columns"], ["self"], f19⟩
/-- Board.clear -/
def f20 : Fn := ⟨1, 4, true,
    (.cons (.for_ (.nm 1) (.rng (.fld (.var 0) "count"))
    (.cons (.ite (.cmp .is_ (.idx (.fld (.var 0) "basic") (.var 1)) .non)
    (.cons (.asg (.nm 3) (.comp false [2] (.nm 2) (.rng (.fld (.var 0) "width")) (.yes (.cmp .ne (.idx (.idx (.fld (.var 0) "lines") (.var 1)) (.var 2)) (.glb "ZERO"))) (.var 2)))
    (.cons (.ite (.cmp .ne (.var 3) (.lst false .nil))
    (.cons (.expr (.mth 17 "turn" (.var 0) (.cons (.var 1) (.cons (.idx (.var 3) (.int 0)) .nil))))
    .nil) .nil)
    .nil)) .nil)
    .nil))
    .nil)⟩
def d20 : Dn := ⟨("Board", some ("clear" : Str)), "clear", "Board.clear", inClass (top 25) 6, ["self", "row", "k", "columns"], ["self"], f20⟩
/-- Board.grow -/
def f21 : Fn := ⟨2, 7, true,
    (.cons (.for_ (.nm 2) (.rng (.glb "MOST_STEPS"))
    (.cons (.asg (.nm 3) (.mth 15 "price_line" (.var 0) (.cons (.var 1) .nil)))
    (.cons (.asg (.nm 5) (.comp false [4] (.nm 4) (.rng (.fld (.var 0) "width")) (.yes (.cmp .gt (.idx (.idx (.var 3) (.var 4)) (.int 0)) (.int 0))) (.var 4)))
    (.cons (.ite (.cmp .eq (.var 5) (.lst false .nil))
    (.cons (.ret (.bl true))
    .nil) .nil)
    (.cons (.asg (.nm 6) (.mth 18 "leaving" (.var 0) (.cons (.idx (.var 5) (.int 0)) .nil)))
    (.cons (.ite (.cmp .is_ (.var 6) .non)
    (.cons (.ret (.bl false))
    .nil) .nil)
    (.cons (.expr (.mth 17 "turn" (.var 0) (.cons (.var 6) (.cons (.idx (.var 5) (.int 0)) .nil))))
    .nil)))))))
    (.cons (.raise "BadSize")
    .nil))⟩
def d21 : Dn := ⟨("Board", some ("grow" : Str)), "grow", "Board.grow", inClass (top 25) 7, ["self", "worth", "_", "price", "k", "columns", "row"], ["self", "worth"], f21⟩
/-- Board.numbers -/
def f22 : Fn := ⟨1, 4, true,
    (.cons (.asg (.nm 1) (.binL .mul (.lst false (.cons (.glb "ZERO") .nil)) (.fld (.var 0) "width")))
    (.cons (.for_ (.cons (.nm 2) (.cons (.nm 3) .nil)) (.zip (.fld (.var 0) "lines") (.fld (.var 0) "basic"))
    (.cons (.ite (.cmp .isn (.var 3) .non)
    (.cons (.setI (.var 1) (.var 3) (.idx (.var 2) (.neg (.int 1))))
    .nil) .nil)
    .nil))
    (.cons (.ret (.tupl (.var 1)))
    .nil)))⟩
def d22 : Dn := ⟨("Board", some ("numbers" : Str)), "numbers", "Board.numbers", inClass (top 25) 8, ["self", "found", "line", "place"], ["self"], f22⟩
/-- Board.multiples -/
def f23 : Fn := ⟨2, 2, true,
    (.cons (.ret (.tupl (.slc (.var 1) (.yes (.fld (.var 0) "width")) (.yes (.bin .add (.fld (.var 0) "width") (.fld (.var 0) "count"))))))
    .nil)⟩
def d23 : Dn := ⟨("Board", some ("multiples" : Str)), "multiples", "Board.multiples", inClass (top 25) 9, ["self", "line"], ["self", "line"], f23⟩
/-- solve -/
def f24 : Fn := ⟨2, 4, true,
    (.cons (.expr (.call 10 (.cons (.var 0) (.cons (.var 1) .nil))))
    (.cons (.asg (.nm 2) (.mk 14 (.cons (.var 0) (.cons (.var 1) .nil))))
    (.cons (.ite (.mth 19 "fill" (.var 2) .nil)
    (.cons (.ret (.tup (.cons (.str "numbers") (.cons (.mth 22 "numbers" (.var 2) .nil) .nil))))
    .nil) .nil)
    (.cons (.ret (.tup (.cons (.str "bar") (.cons (.tupl (.comp false [3] (.nm 3) (.seq (.mth 23 "multiples" (.var 2) (.cons (.mth 16 "lack_line" (.var 2) .nil) .nil))) .no (.call 9 (.cons (.var 3) .nil)))) .nil))))
    .nil))))⟩
def d24 : Dn := ⟨("solve", none), "solve", "solve", top 26, ["rows", "goals", "board", "item"], ["rows", "goals"], f24⟩
/-- is_bar -/
def f25 : Fn := ⟨3, 5, true,
    (.cons (.expr (.call 10 (.cons (.var 0) (.cons (.var 1) .nil))))
    (.cons (.ite (.or_ (.not_ (.isi .tup (.var 2))) (.or_ (.cmp .ne (.len (.var 2)) (.len (.var 0))) (.not_ (.all (.comp false [3] (.nm 3) (.seq (.var 2)) .no (.call 1 (.cons (.var 3) .nil)))))))
    (.cons (.ret (.bl false))
    .nil) .nil)
    (.cons (.ite (.cmp .ge (.idx (.call 11 (.cons (.var 2) (.cons (.var 1) .nil))) (.int 0)) (.int 0))
    (.cons (.ret (.bl false))
    .nil) .nil)
    (.cons (.ret (.all (.comp false [4] (.nm 4) (.seq (.call 13 (.cons (.var 0) .nil))) .no (.cmp .ge (.idx (.call 11 (.cons (.var 2) (.cons (.var 4) .nil))) (.int 0)) (.int 0)))))
    .nil))))⟩
def d25 : Dn := ⟨("is_bar", none), "is_bar", "is_bar", top 27, ["rows", "goals", "row", "item", "column"], ["rows", "goals", "row"], f25⟩
/-- greatest -/
def f26 : Fn := ⟨3, 7, true,
    (.cons (.expr (.call 10 (.cons (.var 0) (.cons (.var 1) .nil))))
    (.cons (.ite (.or_ (.cmp .eq (.var 0) (.tup .nil)) (.cmp .ne (.len (.var 2)) (.len (.idx (.var 0) (.int 0)))))
    (.cons (.raise "BadNumber")
    .nil) .nil)
    (.cons (.asg (.nm 3) (.mk 14 (.cons (.var 0) (.cons (.var 1) .nil))))
    (.cons (.ite (.not_ (.mth 19 "fill" (.var 3) .nil))
    (.cons (.ret (.tup (.cons (.str "bar") (.cons (.tupl (.comp false [4] (.nm 4) (.seq (.mth 23 "multiples" (.var 3) (.cons (.mth 16 "lack_line" (.var 3) .nil) .nil))) .no (.call 9 (.cons (.var 4) .nil)))) .nil))))
    .nil) .nil)
    (.cons (.ite (.not_ (.mth 21 "grow" (.var 3) (.cons (.var 2) .nil)))
    (.cons (.ret (.tup (.cons (.str "far") (.cons (.mth 22 "numbers" (.var 3) .nil) .nil))))
    .nil) .nil)
    (.cons (.asg (.nm 5) (.mth 15 "price_line" (.var 3) (.cons (.var 2) .nil)))
    (.cons (.asg (.nm 6) (.mth 22 "numbers" (.var 3) .nil))
    (.cons (.ret (.tup (.cons (.str "best") (.cons (.var 6) (.cons (.call 11 (.cons (.var 2) (.cons (.var 6) .nil))) (.cons (.tupl (.comp false [4] (.nm 4) (.seq (.mth 23 "multiples" (.var 3) (.cons (.var 5) .nil))) .no (.call 9 (.cons (.var 4) .nil)))) .nil))))))
    .nil))))))))⟩
def d26 : Dn := ⟨("greatest", none), "greatest", "greatest", top 28, ["rows", "goals", "worth", "board", "item", "price", "numbers"], ["rows", "goals", "worth"], f26⟩
/-- is_dual -/
def f27 : Fn := ⟨5, 7, true,
    (.cons (.expr (.call 10 (.cons (.var 0) (.cons (.var 1) .nil))))
    (.cons (.ite (.or_ (.not_ (.isi .tup (.var 3))) (.or_ (.cmp .ne (.len (.var 3)) (.len (.var 0))) (.not_ (.all (.comp false [5] (.nm 5) (.seq (.var 3)) .no (.call 1 (.cons (.var 5) .nil)))))))
    (.cons (.ret (.bl false))
    .nil) .nil)
    (.cons (.ite (.call 8 (.cons (.var 4) (.cons (.call 11 (.cons (.var 3) (.cons (.var 1) .nil))) .nil)))
    (.cons (.ret (.bl false))
    .nil) .nil)
    (.cons (.ret (.all (.comp false [6, 5] (.cons (.nm 6) (.cons (.nm 5) .nil)) (.zip (.call 13 (.cons (.var 0) .nil)) (.var 2)) .no (.not_ (.call 8 (.cons (.call 11 (.cons (.var 3) (.cons (.var 6) .nil))) (.cons (.var 5) .nil)))))))
    .nil))))⟩
def d27 : Dn := ⟨("is_dual", none), "is_dual", "is_dual", top 29, ["rows", "goals", "worth", "row", "bound", "item", "column"], ["rows", "goals", "worth", "row", "bound"], f27⟩
/-- _law_tape -/
def f28 : Fn := ⟨1, 3, false,
    (.cons (.asg (.nm 1) (.int 7))
    (.cons (.for_ (.nm 2) (.seq (.var 0))
    (.cons (.asg (.nm 1) (.bin .mod (.int_ (.bin .add (.bin .mul (.var 1) (.int 31)) (.var 2))) (.int 1000003)))
    .nil))
    (.cons (.ret (.lst true (.cons (.comp true [2] (.nm 2) (.seq (.var 0)) .no (.abs (.int_ (.var 2)))) (.cons (.bin .add (.var 1) (.int 1)) .nil))))
    .nil)))⟩
def d28 : Dn := ⟨("_law_tape", none), "_law_tape", "_law_tape", top 31, ["script", "seed", "cell"], ["script"], f28⟩
/-- _law_draw -/
def f29 : Fn := ⟨2, 4, true,
    (.cons (.asg (.nm 2) (.idx (.var 0) (.int 0)))
    (.cons (.whl (.and_ (.cmp .gt (.len (.var 2)) (.int 0)) (.cmp .eq (.idx (.var 2) (.int 0)) (.int 0)))
    (.cons (.expr (.pop (.var 2) (.int 0)))
    .nil))
    (.cons (.ite (.cmp .gt (.len (.var 2)) (.int 0))
    (.cons (.asg (.nm 3) (.idx (.var 2) (.int 0)))
    (.cons (.setI (.var 2) (.int 0) (.bin .fdiv (.var 3) (.var 1)))
    (.cons (.ret (.bin .mod (.int_ (.var 3)) (.var 1)))
    .nil))) .nil)
    (.cons (.setI (.var 0) (.int 1) (.bin .mod (.int_ (.bin .add (.bin .mul (.idx (.var 0) (.int 1)) (.int 48271)) (.int 12345))) (.int 2147483647)))
    (.cons (.ret (.bin .mod (.int_ (.bin .fdiv (.idx (.var 0) (.int 1)) (.int 64))) (.var 1)))
    .nil)))))⟩
def d29 : Dn := ⟨("_law_draw", none), "_law_draw", "_law_draw", top 32, ["tape", "many", "cells", "number"], ["tape", "many"], f29⟩
/-- _law_pick -/
def f30 : Fn := ⟨2, 2, true,
    (.cons (.ret (.idx (.var 1) (.call 29 (.cons (.var 0) (.cons (.len (.var 1)) .nil)))))
    .nil)⟩
def d30 : Dn := ⟨("_law_pick", none), "_law_pick", "_law_pick", top 33, ["tape", "row"], ["tape", "row"], f30⟩
/-- _law_same -/
def f31 : Fn := ⟨2, 3, true,
    (.cons (.ite (.cmp .is_ (.var 1) .non)
    (.cons (.ret (.cmp .is_ (.var 0) .non))
    .nil) .nil)
    (.cons (.ite (.isi .bool (.var 1))
    (.cons (.ret (.and_ (.isi .bool (.var 0)) (.cmp .eq (.var 0) (.var 1))))
    .nil) .nil)
    (.cons (.ite (.isi .tup (.var 1))
    (.cons (.ite (.or_ (.not_ (.isi .tup (.var 0))) (.cmp .ne (.len (.var 0)) (.len (.var 1))))
    (.cons (.ret (.bl false))
    .nil) .nil)
    (.cons (.ret (.all (.comp false [2] (.nm 2) (.rng (.len (.var 1))) .no (.call 31 (.cons (.idx (.var 0) (.var 2)) (.cons (.idx (.var 1) (.var 2)) .nil))))))
    .nil)) .nil)
    (.cons (.ite (.isi .str (.var 1))
    (.cons (.ret (.and_ (.isi .str (.var 0)) (.cmp .eq (.var 0) (.var 1))))
    .nil) .nil)
    (.cons (.ret (.and_ (.isi .int (.var 0)) (.and_ (.not_ (.isi .bool (.var 0))) (.cmp .eq (.var 0) (.var 1)))))
    .nil)))))⟩
def d31 : Dn := ⟨("_law_same", none), "_law_same", "_law_same", top 34, ["actual", "due", "k"], ["actual", "due"], f31⟩
/-- _law_frac -/
def f32 : Fn := ⟨2, 4, true,
    (.cons (.par 2 3 (.abs (.var 0)) (.abs (.var 1)))
    (.cons (.whl (.cmp .gt (.var 3) (.int 0))
    (.cons (.par 2 3 (.var 3) (.bin .mod (.var 2) (.var 3)))
    .nil))
    (.cons (.ret (.ite (.cmp .gt (.var 1) (.int 0)) (.tup (.cons (.bin .fdiv (.var 0) (.var 2)) (.cons (.bin .fdiv (.var 1) (.var 2)) .nil))) (.tup (.cons (.bin .fdiv (.neg (.var 0)) (.var 2)) (.cons (.bin .fdiv (.neg (.var 1)) (.var 2)) .nil)))))
    .nil)))⟩
def d32 : Dn := ⟨("_law_frac", none), "_law_frac", "_law_frac", top 35, ["above", "below", "one", "other"], ["above", "below"], f32⟩
/-- _law_plus -/
def f33 : Fn := ⟨2, 2, true,
    (.cons (.ret (.call 32 (.cons (.bin .add (.bin .mul (.idx (.var 0) (.int 0)) (.idx (.var 1) (.int 1))) (.bin .mul (.idx (.var 1) (.int 0)) (.idx (.var 0) (.int 1)))) (.cons (.bin .mul (.idx (.var 0) (.int 1)) (.idx (.var 1) (.int 1))) .nil))))
    .nil)⟩
def d33 : Dn := ⟨("_law_plus", none), "_law_plus", "_law_plus", top 36, ["one", "other"], ["one", "other"], f33⟩
/-- _law_by -/
def f34 : Fn := ⟨2, 2, true,
    (.cons (.ret (.call 32 (.cons (.bin .mul (.idx (.var 0) (.int 0)) (.idx (.var 1) (.int 0))) (.cons (.bin .mul (.idx (.var 0) (.int 1)) (.idx (.var 1) (.int 1))) .nil))))
    .nil)⟩
def d34 : Dn := ⟨("_law_by", none), "_law_by", "_law_by", top 37, ["one", "other"], ["one", "other"], f34⟩
/-- _law_minus -/
def f35 : Fn := ⟨1, 1, true,
    (.cons (.ret (.tup (.cons (.neg (.idx (.var 0) (.int 0))) (.cons (.idx (.var 0) (.int 1)) .nil))))
    .nil)⟩
def d35 : Dn := ⟨("_law_minus", none), "_law_minus", "_law_minus", top 38, ["one"], ["one"], f35⟩
/-- _law_number -/
def f36 : Fn := ⟨1, 1, true,
    (.cons (.ret (.call 32 (.cons (.bin .sub (.call 29 (.cons (.var 0) (.cons (.int 9) .nil))) (.int 4)) (.cons (.bin .add (.int 1) (.call 29 (.cons (.var 0) (.cons (.int 3) .nil)))) .nil))))
    .nil)⟩
def d36 : Dn := ⟨("_law_number", none), "_law_number", "_law_number", top 39, ["tape"], ["tape"], f36⟩
/-- _law_dot -/
def f37 : Fn := ⟨2, 5, true,
    (.cons (.asg (.nm 2) (.tup (.cons (.int 0) (.cons (.int 1) .nil))))
    (.cons (.for_ (.cons (.nm 3) (.cons (.nm 4) .nil)) (.zip (.var 0) (.var 1))
    (.cons (.asg (.nm 2) (.call 33 (.cons (.var 2) (.cons (.call 34 (.cons (.var 3) (.cons (.var 4) .nil))) .nil))))
    .nil))
    (.cons (.ret (.var 2))
    .nil)))⟩
def d37 : Dn := ⟨("_law_dot", none), "_law_dot", "_law_dot", top 40, ["one", "other", "total", "item", "mate"], ["one", "other"], f37⟩
/-- _law_less -/
def f38 : Fn := ⟨2, 2, true,
    (.cons (.ret (.cmp .lt (.bin .mul (.idx (.var 0) (.int 0)) (.idx (.var 1) (.int 1))) (.bin .mul (.idx (.var 1) (.int 0)) (.idx (.var 0) (.int 1)))))
    .nil)⟩
def d38 : Dn := ⟨("_law_less", none), "_law_less", "_law_less", top 41, ["one", "other"], ["one", "other"], f38⟩
/-- _law_size -/
def f39 : Fn := ⟨1, 1, true,
    (.cons (.ret (.call 32 (.cons (.bin .add (.int 1) (.call 29 (.cons (.var 0) (.cons (.int 6) .nil)))) (.cons (.bin .add (.int 1) (.call 29 (.cons (.var 0) (.cons (.int 3) .nil)))) .nil))))
    .nil)⟩
def d39 : Dn := ⟨("_law_size", none), "_law_size", "_law_size", top 42, ["tape"], ["tape"], f39⟩
/-- _law_is_number -/
def f40 : Fn := ⟨1, 2, true,
    (.cons (.ite (.or_ (.not_ (.isi .tup (.var 0))) (.or_ (.cmp .ne (.len (.var 0)) (.int 2)) (.not_ (.all (.comp false [1] (.nm 1) (.seq (.var 0)) .no (.and_ (.isi .int (.var 1)) (.not_ (.isi .bool (.var 1)))))))))
    (.cons (.ret (.bl false))
    .nil) .nil)
    (.cons (.ret (.and_ (.cmp .gt (.idx (.var 0) (.int 1)) (.int 0)) (.cmp .eq (.call 32 (.cons (.idx (.var 0) (.int 0)) (.cons (.idx (.var 0) (.int 1)) .nil))) (.var 0))))
    .nil))⟩
def d40 : Dn := ⟨("_law_is_number", none), "_law_is_number", "_law_is_number", top 43, ["value", "item"], ["value"], f40⟩
/-- _law_columns -/
def f41 : Fn := ⟨1, 3, true,
    (.cons (.ret (.comp false [1] (.nm 1) (.rng (.len (.idx (.var 0) (.int 0)))) .no (.tupl (.comp false [2] (.nm 2) (.seq (.var 0)) .no (.idx (.var 2) (.var 1))))))
    .nil)⟩
def d41 : Dn := ⟨("_law_columns", none), "_law_columns", "_law_columns", top 44, ["rows", "k", "row"], ["rows"], f41⟩
/-- _law_meets -/
def f42 : Fn := ⟨3, 6, true,
    (.cons (.ite (.or_ (.not_ (.isi .tup (.var 2))) (.or_ (.cmp .ne (.len (.var 2)) (.len (.idx (.var 0) (.int 0)))) (.not_ (.all (.comp false [3] (.nm 3) (.seq (.var 2)) .no (.and_ (.call 40 (.cons (.var 3) .nil)) (.cmp .ge (.idx (.var 3) (.int 0)) (.int 0))))))))
    (.cons (.ret (.bl false))
    .nil) .nil)
    (.cons (.ret (.all (.comp false [4, 5] (.cons (.nm 4) (.cons (.nm 5) .nil)) (.zip (.var 0) (.var 1)) .no (.cmp .eq (.call 37 (.cons (.var 4) (.cons (.var 2) .nil))) (.var 5)))))
    .nil))⟩
def d42 : Dn := ⟨("_law_meets", none), "_law_meets", "_law_meets", top 45, ["rows", "goals", "numbers", "item", "row", "goal"], ["rows", "goals", "numbers"], f42⟩
/-- _law_is_bar -/
def f43 : Fn := ⟨3, 5, true,
    (.cons (.ite (.or_ (.not_ (.isi .tup (.var 2))) (.or_ (.cmp .ne (.len (.var 2)) (.len (.var 0))) (.not_ (.all (.comp false [3] (.nm 3) (.seq (.var 2)) .no (.call 40 (.cons (.var 3) .nil)))))))
    (.cons (.ret (.bl false))
    .nil) .nil)
    (.cons (.ret (.and_ (.cmp .lt (.idx (.call 37 (.cons (.var 2) (.cons (.var 1) .nil))) (.int 0)) (.int 0)) (.all (.comp false [4] (.nm 4) (.seq (.call 41 (.cons (.var 0) .nil))) .no (.cmp .ge (.idx (.call 37 (.cons (.var 2) (.cons (.var 4) .nil))) (.int 0)) (.int 0))))))
    .nil))⟩
def d43 : Dn := ⟨("_law_is_bar", none), "_law_is_bar", "_law_is_bar", top 46, ["rows", "goals", "row", "item", "column"], ["rows", "goals", "row"], f43⟩
/-- _law_is_dual -/
def f44 : Fn := ⟨5, 7, true,
    (.cons (.ite (.or_ (.not_ (.isi .tup (.var 3))) (.or_ (.cmp .ne (.len (.var 3)) (.len (.var 0))) (.call 38 (.cons (.var 4) (.cons (.call 37 (.cons (.var 3) (.cons (.var 1) .nil))) .nil)))))
    (.cons (.ret (.bl false))
    .nil) .nil)
    (.cons (.ret (.all (.comp false [5, 6] (.cons (.nm 5) (.cons (.nm 6) .nil)) (.zip (.call 41 (.cons (.var 0) .nil)) (.var 2)) .no (.not_ (.call 38 (.cons (.call 37 (.cons (.var 3) (.cons (.var 5) .nil))) (.cons (.var 6) .nil)))))))
    .nil))⟩
def d44 : Dn := ⟨("_law_is_dual", none), "_law_is_dual", "_law_is_dual", top 47, ["rows", "goals", "worth", "row", "bound", "column", "item"], ["rows", "goals", "worth", "row", "bound"], f44⟩
/-- _law_barred -/
def f45 : Fn := ⟨3, 11, true,
    (.cons (.asg (.nm 4) (.bin .add (.lst false (.cons (.tup (.cons (.int 1) (.cons (.int 1) .nil))) .nil)) (.comp false [3] (.nm 3) (.rng (.bin .sub (.var 1) (.int 1))) .no (.call 36 (.cons (.var 0) .nil)))))
    (.cons (.asg (.nm 6) (.comp false [5] (.nm 5) (.rng (.bin .sub (.var 1) (.int 1))) .no (.comp false [3] (.nm 3) (.rng (.var 2)) .no (.call 36 (.cons (.var 0) .nil)))))
    (.cons (.asg (.nm 7) (.comp false [5] (.nm 5) (.rng (.bin .sub (.var 1) (.int 1))) .no (.call 36 (.cons (.var 0) .nil))))
    (.cons (.asg (.nm 8) (.lst true .nil))
    (.cons (.for_ (.nm 3) (.rng (.var 2))
    (.cons (.expr (.app (.var 8) (.call 33 (.cons (.tup (.cons (.call 29 (.cons (.var 0) (.cons (.int 3) .nil))) (.cons (.int 1) .nil))) (.cons (.call 35 (.cons (.call 37 (.cons (.slc (.var 4) (.yes (.int 1)) .no) (.cons (.comp false [9] (.nm 9) (.seq (.var 6)) .no (.idx (.var 9) (.var 3))) .nil))) .nil)) .nil)))))
    .nil))
    (.cons (.asg (.nm 10) (.call 33 (.cons (.call 35 (.cons (.call 39 (.cons (.var 0) .nil)) .nil)) (.cons (.call 35 (.cons (.call 37 (.cons (.slc (.var 4) (.yes (.int 1)) .no) (.cons (.var 7) .nil))) .nil)) .nil))))
    (.cons (.ret (.tup (.cons (.bin .add (.tup (.cons (.tupl (.var 8)) .nil)) (.tupl (.comp false [9] (.nm 9) (.seq (.var 6)) .no (.tupl (.var 9))))) (.cons (.bin .add (.tup (.cons (.var 10) .nil)) (.tupl (.var 7))) (.cons (.tupl (.var 4)) .nil)))))
    .nil)))))))⟩
def d45 : Dn := ⟨("_law_barred", none), "_law_barred", "_law_barred", top 48, ["tape", "count", "width", "k", "multiples", "j", "rest", "goals", "first", "row", "low"], ["tape", "count", "width"], f45⟩
/-- _law_refused -/
def f46 : Fn := ⟨2, 2, true,
    (.cons (.try_ (.cons (.expr (.call 24 (.cons (.var 0) (.cons (.var 1) .nil))))
    .nil) "BadTable" (.cons (.ret (.bl true))
    .nil))
    (.cons (.ret (.bl false))
    .nil))⟩
def d46 : Dn := ⟨("_law_refused", none), "_law_refused", "_law_refused", top 49, ["rows", "goals"], ["rows", "goals"], f46⟩
/-- law -/
def f47 : Fn := ⟨1, 22, true,
    (.cons (.asg (.nm 1) (.call 28 (.cons (.var 0) .nil)))
    (.cons (.asg (.cons (.nm 2) (.cons (.nm 3) .nil)) (.tup (.cons (.bin .add (.int 1) (.call 29 (.cons (.var 1) (.cons (.int 4) .nil)))) (.cons (.bin .add (.int 1) (.call 29 (.cons (.var 1) (.cons (.int 6) .nil)))) .nil))))
    (.cons (.asg (.nm 6) (.tupl (.comp false [4] (.nm 4) (.rng (.var 2)) .no (.tupl (.comp false [5] (.nm 5) (.rng (.var 3)) .no (.call 36 (.cons (.var 1) .nil)))))))
    (.cons (.asg (.nm 7) (.tupl (.comp false [5] (.nm 5) (.rng (.var 3)) .no (.call 30 (.cons (.var 1) (.cons (.lst false (.cons (.tup (.cons (.int 0) (.cons (.int 1) .nil))) (.cons (.call 39 (.cons (.var 1) .nil)) .nil))) .nil))))))
    (.cons (.asg (.nm 9) (.tupl (.comp false [8] (.nm 8) (.seq (.var 6)) .no (.call 37 (.cons (.var 8) (.cons (.var 7) .nil))))))
    (.cons (.asg (.nm 10) (.call 24 (.cons (.var 6) (.cons (.var 9) .nil))))
    (.cons (.ite (.or_ (.cmp .ne (.idx (.var 10) (.int 0)) (.str "numbers")) (.not_ (.call 42 (.cons (.var 6) (.cons (.var 9) (.cons (.idx (.var 10) (.int 1)) .nil))))))
    (.cons (.ret (.bl false))
    .nil) .nil)
    (.cons (.for_ (.nm 11) (.rng (.int 2))
    (.cons (.asg (.nm 8) (.tupl (.comp false [5] (.nm 5) (.rng (.var 2)) .no (.call 36 (.cons (.var 1) .nil)))))
    (.cons (.ite (.cmp .isn (.call 25 (.cons (.var 6) (.cons (.var 9) (.cons (.var 8) .nil)))) (.bl false))
    (.cons (.ret (.bl false))
    .nil) .nil)
    .nil)))
    (.cons (.asg (.cons (.nm 12) (.cons (.nm 13) (.cons (.nm 14) .nil))) (.call 45 (.cons (.var 1) (.cons (.var 2) (.cons (.var 3) .nil)))))
    (.cons (.asg (.nm 10) (.call 24 (.cons (.var 12) (.cons (.var 13) .nil))))
    (.cons (.ite (.or_ (.cmp .ne (.idx (.var 10) (.int 0)) (.str "bar")) (.or_ (.not_ (.call 43 (.cons (.var 12) (.cons (.var 13) (.cons (.idx (.var 10) (.int 1)) .nil))))) (.or_ (.cmp .isn (.call 25 (.cons (.var 12) (.cons (.var 13) (.cons (.idx (.var 10) (.int 1)) .nil)))) (.bl true)) (.cmp .isn (.call 25 (.cons (.var 12) (.cons (.var 13) (.cons (.var 14) .nil)))) (.bl true)))))
    (.cons (.ret (.bl false))
    .nil) .nil)
    (.cons (.for_ (.nm 8) (.seq (.tup (.cons (.tupl (.comp false [15] (.nm 15) (.seq (.var 14)) .no (.call 35 (.cons (.var 15) .nil)))) (.cons (.tupl (.comp false [5] (.nm 5) (.rng (.var 2)) .no (.call 36 (.cons (.var 1) .nil)))) (.cons (.bin .add (.var 14) (.tup (.cons (.tup (.cons (.int 0) (.cons (.int 1) .nil))) .nil))) (.cons (.list false (.var 14)) (.cons .non .nil)))))))
    (.cons (.ite (.not_ (.call 31 (.cons (.call 25 (.cons (.var 12) (.cons (.var 13) (.cons (.var 8) .nil)))) (.cons (.call 43 (.cons (.var 12) (.cons (.var 13) (.cons (.var 8) .nil)))) .nil))))
    (.cons (.ret (.bl false))
    .nil) .nil)
    .nil))
    (.cons (.asg (.nm 16) (.tupl (.comp false [5] (.nm 5) (.rng (.var 3)) .no (.call 36 (.cons (.var 1) .nil)))))
    (.cons (.asg (.nm 10) (.call 26 (.cons (.var 12) (.cons (.var 13) (.cons (.var 16) .nil)))))
    (.cons (.ite (.or_ (.cmp .ne (.idx (.var 10) (.int 0)) (.str "bar")) (.not_ (.call 43 (.cons (.var 12) (.cons (.var 13) (.cons (.idx (.var 10) (.int 1)) .nil))))))
    (.cons (.ret (.bl false))
    .nil) .nil)
    (.cons (.asg (.nm 17) (.bin .add (.var 6) (.tup (.cons (.bin .mul (.tup (.cons (.tup (.cons (.int 1) (.cons (.int 1) .nil))) .nil)) (.var 3)) .nil))))
    (.cons (.asg (.nm 18) (.bin .add (.var 9) (.tup (.cons (.call 37 (.cons (.idx (.var 17) (.neg (.int 1))) (.cons (.var 7) .nil))) .nil))))
    (.cons (.asg (.nm 10) (.call 26 (.cons (.var 17) (.cons (.var 18) (.cons (.var 16) .nil)))))
    (.cons (.ite (.or_ (.cmp .ne (.idx (.var 10) (.int 0)) (.str "best")) (.or_ (.cmp .ne (.len (.var 10)) (.int 4)) (.or_ (.not_ (.call 42 (.cons (.var 17) (.cons (.var 18) (.cons (.idx (.var 10) (.int 1)) .nil))))) (.not_ (.call 31 (.cons (.idx (.var 10) (.int 2)) (.cons (.call 37 (.cons (.var 16) (.cons (.idx (.var 10) (.int 1)) .nil))) .nil)))))))
    (.cons (.ret (.bl false))
    .nil) .nil)
    (.cons (.ite (.or_ (.not_ (.call 44 (.cons (.var 17) (.cons (.var 18) (.cons (.var 16) (.cons (.idx (.var 10) (.int 3)) (.cons (.idx (.var 10) (.int 2)) .nil))))))) (.or_ (.cmp .ne (.call 37 (.cons (.idx (.var 10) (.int 3)) (.cons (.var 18) .nil))) (.idx (.var 10) (.int 2))) (.cmp .isn (.call 27 (.cons (.var 17) (.cons (.var 18) (.cons (.var 16) (.cons (.idx (.var 10) (.int 3)) (.cons (.idx (.var 10) (.int 2)) .nil)))))) (.bl true))))
    (.cons (.ret (.bl false))
    .nil) .nil)
    (.cons (.asg (.nm 19) (.call 33 (.cons (.idx (.var 10) (.int 2)) (.cons (.call 35 (.cons (.call 39 (.cons (.var 1) .nil)) .nil)) .nil))))
    (.cons (.for_ (.cons (.nm 8) (.cons (.nm 20) .nil)) (.seq (.tup (.cons (.tup (.cons (.idx (.var 10) (.int 3)) (.cons (.var 19) .nil))) (.cons (.tup (.cons (.tupl (.comp false [5] (.nm 5) (.rng (.bin .add (.var 2) (.int 1))) .no (.call 36 (.cons (.var 1) .nil)))) (.cons (.idx (.var 10) (.int 2)) .nil))) .nil))))
    (.cons (.ite (.not_ (.call 31 (.cons (.call 27 (.cons (.var 17) (.cons (.var 18) (.cons (.var 16) (.cons (.var 8) (.cons (.var 20) .nil)))))) (.cons (.call 44 (.cons (.var 17) (.cons (.var 18) (.cons (.var 16) (.cons (.var 8) (.cons (.var 20) .nil)))))) .nil))))
    (.cons (.ret (.bl false))
    .nil) .nil)
    .nil))
    (.cons (.asg (.nm 21) (.tupl (.comp false [8] (.nm 8) (.seq (.var 17)) .no (.bin .add (.var 8) (.tup (.cons (.tup (.cons (.int 0) (.cons (.int 1) .nil))) .nil))))))
    (.cons (.asg (.nm 10) (.call 26 (.cons (.var 21) (.cons (.var 18) (.cons (.bin .add (.var 16) (.tup (.cons (.call 39 (.cons (.var 1) .nil)) .nil))) .nil)))))
    (.cons (.ite (.or_ (.cmp .ne (.idx (.var 10) (.int 0)) (.str "far")) (.not_ (.call 42 (.cons (.var 21) (.cons (.var 18) (.cons (.idx (.var 10) (.int 1)) .nil))))))
    (.cons (.ret (.bl false))
    .nil) .nil)
    (.cons (.ret (.and_ (.call 46 (.cons (.var 6) (.cons (.bin .add (.var 9) (.tup (.cons (.tup (.cons (.int 0) (.cons (.int 1) .nil))) .nil))) .nil))) (.call 46 (.cons (.ite (.cmp .gt (.var 2) (.int 1)) (.bin .add (.slc (.var 6) .no (.yes (.neg (.int 1)))) (.tup (.cons (.bin .add (.idx (.var 6) (.neg (.int 1))) (.tup (.cons (.tup (.cons (.int 0) (.cons (.int 1) .nil))) .nil))) .nil))) (.tup (.cons (.idx (.var 6) (.int 0)) (.cons (.tup .nil) .nil)))) (.cons (.ite (.cmp .gt (.var 2) (.int 1)) (.var 9) (.bin .add (.var 9) (.var 9))) .nil)))))
    .nil))))))))))))))))))))))))))⟩
def d47 : Dn := ⟨("law", none), "law", "law", top 50, ["script", "tape", "count", "width", "j", "k", "rows", "numbers", "row", "goals", "told", "turn", "lines", "ends", "multiples", "item", "worth", "wide", "whole", "lower", "bound", "free"], ["script"], f47⟩
def pg : Pg where
  defs := [d0, d1, d2, d3, d4, d5, d6, d7, d8, d9, d10, d11, d12, d13, d14, d15, d16, d17, d18, d19, d20, d21, d22, d23, d24, d25, d26, d27, d28, d29, d30, d31, d32, d33, d34, d35, d36, d37, d38, d39, d40, d41, d42, d43, d44, d45, d46, d47]
  G := [("ZERO", (.tup [(.int 0), (.int 1)])), ("ONE", (.tup [(.int 1), (.int 1)])), ("MOST_STEPS", (.int 20000)), ("MOST_CELLS", (.int 60000))]
  cn := "Board"
  cls := true
  flds := ["basic", "lines", "count", "width"]
  excs := ["BadNumber", "BadSize", "BadTable"]
end K40
end
set_option maxHeartbeats 0
section
/-! My texts are the program's texts. -/
namespace K40
open PySem PySem.Spec L2 NB
theorem hB : pg.defs.all (defB pg.tb) = true := by decide +kernel
end K40
end
set_option maxHeartbeats 0
section
/-! The head. -/
namespace K40
open PySem PySem.Spec L2 NB
open PyProof.Rows hiding St
abbrev Rw : PySem.W.OpenRow := PySem.W.OpenLaw.row PySem.Challenge.rw_nowherebelow_k40_whole_straight_equation
abbrev hk : PySem.W.Hook := hookN 4 pg
def ob (s : PySem.W.SharedT) : He.AlD := obsNG 4 pg (HandSHeadRun.getT s)
theorem ob_eq (s : PySem.W.SharedT) : ob s = hk.obs s.abs := obsNG_eq (HandSHeadRun.getT_eq s)
def loose1 : List Str := ["BelowError", "BadNumber", "BadTable", "BadSize", "ZERO", "ONE", "is_integer", "is_ratio", "divisor", "make", "add", "subtract", "multiply", "divide", "less", "negative", "MOST_STEPS", "MOST_CELLS", "check_rows", "dot", "lessened", "columns_of", "Board", "solve", "is_bar", "greatest", "is_dual"]
def loose2 : List Str := ["_law_tape", "_law_draw", "_law_pick", "_law_same", "_law_frac", "_law_plus", "_law_by", "_law_minus", "_law_number", "_law_dot", "_law_less", "_law_size", "_law_is_number", "_law_columns", "_law_meets", "_law_is_bar", "_law_is_dual", "_law_barred", "_law_refused"]
def loose : List Str := loose1 ++ loose2
theorem run_ (w : World) : HandSHeadRun.RunEq Rw (PySem.W.view Rw.prog [50]) hk ob 4000 loose w := by
  intro os
  kernel_rfl
end K40
end
set_option maxHeartbeats 4000000
section
/-! The law, from its plain form. -/
open PySem PySem.W PySem.Calls PyProof.Rows
theorem K40.holds (hB : K40.pg.defs.all (NB.defB K40.pg.tb) = true) (hplain : ∀ ns : List Int, ns.length ≤ 63 → ∃ μ', NB.run (NB.gl K40.pg.tb) K40.pg.fns 20 47 [.scr (ns.map NB.D.int)] [] = some (.ok (.bl true), μ')) : PySem.Challenge.rw_nowherebelow_k40_whole_straight_equation.Holds := by
  w_on; o_law
  refine HandSHeadRun.head_any (r := OpenLaw.row PySem.Challenge.rw_nowherebelow_k40_whole_straight_equation) (q := view (OpenLaw.row PySem.Challenge.rw_nowherebelow_k40_whole_straight_equation).prog [50]) (H := K40.hk) (ob := K40.ob) (M := 4000) (loose := K40.loose) (d := HandSHeadRun.topDef (OpenLaw.row PySem.Challenge.rw_nowherebelow_k40_whole_straight_equation).prog 50) (kwd := []) K40.ob_eq
    (by kernel_rfl) (fun s => by kernel_rfl) K40.run_ (by kernel_rfl) (by kernel_rfl) (by kernel_rfl) (by rfl) (by first | assumption | decide +kernel) (by decide +kernel) ⟨rfl, rfl, rfl, rfl, rfl, by decide +kernel⟩ ?hw ?hc
  case hw => w_witness2
  case hc =>
    refine L2.walk_ofE (l := PySem.Challenge.rw_nowherebelow_k40_whole_straight_equation) (n := 63) (k := 41) (x := "script") (CX := L2.CX0) rfl (by decide) (by kernel_rfl) ⟨rfl, by decide, by decide⟩ ?F (fun _ _ _ _ z => z)
    intro w mg fa h Y G hmg0
    obtain ⟨K, KX, c⟩ := Y
    have hmg : mg ("law" : PySem.Str) = some (.ref fa) := by
      have e : (HandSHeadRun.topDef (OpenLaw.row PySem.Challenge.rw_nowherebelow_k40_whole_straight_equation).prog 50).name = ("law" : PySem.Str) := by kernel_rfl
      rw [← e]
      exact hmg0
    obtain ⟨fd, sp, hb, hs, hF⟩ := NB.law_facts (P := (PySem.Challenge.rw_nowherebelow_k40_whole_straight_equation).prog) (w := w) (ln := "law") (x0 := "script") (iL := 47) (j := 20) (dL := K40.d47) KX G c hB rfl rfl rfl hmg hplain
    exact ⟨K, fd, sp, KX, hb, fun H a ns hl _ hS => hs H a ns hl hS, hF⟩
end
set_option maxHeartbeats 4000000
section
/-! Plain mathematics of tableaux: sums, turns, null spaces, Bland's rule. -/
namespace KM
def sm : Nat → (Nat → Rat) → Rat
  | 0, _ => 0
  | n + 1, f => sm n f + f n
section
variable {n m : Nat} {f g : Nat → Rat}
theorem sm_congr : ∀ {n : Nat}, (∀ j, j < n → f j = g j) → sm n f = sm n g
  | 0, _ => rfl
  | n + 1, h => by
    show sm n f + f n = sm n g + g n
    rw [sm_congr fun j hj => h j (Nat.lt_succ_of_lt hj), h n (Nat.lt_succ_self n)]
theorem sm_add : ∀ n : Nat, sm n (fun j => f j + g j) = sm n f + sm n g
  | 0 => by show (0 : Rat) = 0 + 0; grind
  | n + 1 => by
    show sm n (fun j => f j + g j) + (f n + g n) = (sm n f + f n) + (sm n g + g n)
    rw [sm_add n]
    grind
theorem sm_mul (c : Rat) : ∀ n : Nat, sm n (fun j => c * f j) = c * sm n f
  | 0 => by simp [sm]
  | n + 1 => by
    show sm n (fun j => c * f j) + c * f n = c * (sm n f + f n)
    rw [sm_mul c n]
    grind
theorem sm_mulr (c : Rat) : ∀ n : Nat, sm n (fun j => f j * c) = sm n f * c
  | 0 => by simp [sm]
  | n + 1 => by
    show sm n (fun j => f j * c) + f n * c = (sm n f + f n) * c
    rw [sm_mulr c n]
    grind
theorem sm_sub (n : Nat) : sm n (fun j => f j - g j) = sm n f - sm n g := by
  have h : (fun j => f j - g j) = fun j => f j + (-1) * g j := by funext j; grind
  rw [h, sm_add, sm_mul]
  grind
theorem sm_neg (n : Nat) : sm n (fun j => - f j) = - sm n f := by
  have h : (fun j => - f j) = fun j => (-1) * f j := by funext j; grind
  rw [h, sm_mul]
  grind
theorem sm_zero : ∀ {n : Nat}, (∀ j, j < n → f j = 0) → sm n f = 0
  | 0, _ => rfl
  | n + 1, h => by
    show sm n f + f n = 0
    rw [sm_zero fun j hj => h j (Nat.lt_succ_of_lt hj), h n (Nat.lt_succ_self n)]
    grind
theorem sm_one : ∀ {n c : Nat}, c < n → (∀ j, j < n → j ≠ c → f j = 0) → sm n f = f c
  | 0, c, h, _ => absurd h (Nat.not_lt_zero c)
  | n + 1, c, h, z => by
    show sm n f + f n = f c
    by_cases e : c = n
    · subst e
      rw [sm_zero fun j hj => z j (Nat.lt_succ_of_lt hj) (Nat.ne_of_lt hj)]
      grind
    · have hc : c < n := by omega
      rw [sm_one hc fun j hj => z j (Nat.lt_succ_of_lt hj), z n (Nat.lt_succ_self n) (fun q => e q.symm)]
      grind
theorem sm_nonneg : ∀ {n : Nat}, (∀ j, j < n → 0 ≤ f j) → 0 ≤ sm n f
  | 0, _ => by show (0 : Rat) ≤ 0; grind
  | n + 1, h => by
    show 0 ≤ sm n f + f n
    have h1 := sm_nonneg fun j hj => h j (Nat.lt_succ_of_lt hj)
    have h2 := h n (Nat.lt_succ_self n)
    grind
theorem sm_nonpos : ∀ {n : Nat}, (∀ j, j < n → f j ≤ 0) → sm n f ≤ 0
  | 0, _ => by show (0 : Rat) ≤ 0; grind
  | n + 1, h => by
    show sm n f + f n ≤ 0
    have h1 := sm_nonpos fun j hj => h j (Nat.lt_succ_of_lt hj)
    have h2 := h n (Nat.lt_succ_self n)
    grind
theorem sm_neg_term : ∀ {n : Nat}, sm n f < 0 → ∃ j, j < n ∧ f j < 0
  | 0, h => by
    have : (0 : Rat) < 0 := h
    grind
  | n + 1, h => by
    by_cases q : f n < 0
    · exact ⟨n, Nat.lt_succ_self n, q⟩
    · have h' : sm n f + f n < 0 := h
      obtain ⟨j, hj, z⟩ := sm_neg_term (n := n) (by grind)
      exact ⟨j, Nat.lt_succ_of_lt hj, z⟩
theorem sm_pos_term : ∀ {n : Nat}, 0 < sm n f → ∃ j, j < n ∧ 0 < f j
  | 0, h => by
    have : (0 : Rat) < 0 := h
    grind
  | n + 1, h => by
    by_cases q : 0 < f n
    · exact ⟨n, Nat.lt_succ_self n, q⟩
    · have h' : 0 < sm n f + f n := h
      obtain ⟨j, hj, z⟩ := sm_pos_term (n := n) (by grind)
      exact ⟨j, Nat.lt_succ_of_lt hj, z⟩
/-- a sum of numbers from 0 on that is 0 -/
theorem sm_all_zero : ∀ {n : Nat}, (∀ j, j < n → 0 ≤ f j) → sm n f = 0 → ∀ j, j < n → f j = 0
  | 0, _, _, j, hj => absurd hj (Nat.not_lt_zero j)
  | n + 1, h, z, j, hj => by
    have z' : sm n f + f n = 0 := z
    have h1 := sm_nonneg fun j hj => h j (Nat.lt_succ_of_lt hj)
    have h2 := h n (Nat.lt_succ_self n)
    by_cases e : j = n
    · subst e; grind
    · exact sm_all_zero (fun j hj => h j (Nat.lt_succ_of_lt hj)) (by grind) j (by omega)
theorem sm_swap {F : Nat → Nat → Rat} : ∀ n m : Nat, sm n (fun i => sm m (fun j => F i j)) = sm m (fun j => sm n (fun i => F i j))
  | 0, m => by
    show (0 : Rat) = _
    rw [sm_zero]
    intro j _
    rfl
  | n + 1, m => by
    show sm n (fun i => sm m (fun j => F i j)) + sm m (fun j => F n j) = _
    rw [sm_swap n m, ← sm_add]
    rfl
end

/-! ### combinations of basic columns -/
def comb (m : Nat) (β : Nat → Nat) (a : Nat → Rat) (j : Nat) : Rat := sm m fun k => if β k = j then a k else 0
theorem sm_comb {n m : Nat} {β : Nat → Nat} {a g : Nat → Rat} (hb : ∀ k, k < m → β k < n) : sm n (fun j => g j * comb m β a j) = sm m fun k => g (β k) * a k := by
  have h1 : ∀ j, g j * comb m β a j = sm m fun k => if β k = j then g j * a k else 0 := fun j => by
    unfold comb
    rw [← sm_mul]
    refine sm_congr fun k _ => ?_
    by_cases e : β k = j
    · rw [if_pos e, if_pos e]
    · rw [if_neg e, if_neg e]; grind
  rw [sm_congr fun j _ => h1 j, sm_swap]
  refine sm_congr fun k hk => ?_
  rw [sm_one (hb k hk) fun j _ hj => if_neg fun e => hj e.symm, if_pos rfl]
theorem comb_out {m : Nat} {β : Nat → Nat} {a : Nat → Rat} {j : Nat} (h : ∀ k, k < m → β k ≠ j) : comb m β a j = 0 := sm_zero fun k hk => if_neg (h k hk)
theorem comb_at {m : Nat} {β : Nat → Nat} {a : Nat → Rat} {i : Nat} (hi : i < m) (inj : ∀ k, k < m → β k = β i → k = i) : comb m β a (β i) = a i := by
  unfold comb
  rw [sm_one hi fun k hk ne => if_neg fun e => ne (inj k hk e), if_pos rfl]

/-! ### tableaux: m rows, columns 0 .. L, the last one the goals -/
abbrev Tab := Nat → Nat → Rat
section
variable (m L : Nat)
def Null (T : Tab) (v : Nat → Rat) : Prop := ∀ i, i < m → sm (L + 1) (fun j => T i j * v j) = 0
def turn (T : Tab) (r c : Nat) : Tab := fun i j => if i = r then T r j / T r c else T i j - T i c * (T r j / T r c)
structure Basis (T : Tab) (β : Nat → Nat) : Prop where
  lt : ∀ i, i < m → β i < L
  unit : ∀ i k, i < m → k < m → T i (β k) = if i = k then 1 else 0
def updB (β : Nat → Nat) (r c : Nat) : Nat → Nat := fun i => if i = r then c else β i
end
section
variable {m L : Nat} {T : Tab} {β : Nat → Nat} {r c : Nat}
theorem null_turn (hr : r < m) (hp : T r c ≠ 0) (v : Nat → Rat) : Null m L (turn T r c) v ↔ Null m L T v := by
  have e1 : sm (L + 1) (fun j => turn T r c r j * v j) = sm (L + 1) (fun j => T r j * v j) / T r c := by
    have : ∀ j, turn T r c r j * v j = (1 / T r c) * (T r j * v j) := fun j => by
      unfold turn
      rw [if_pos rfl]
      grind
    rw [sm_congr fun j _ => this j, sm_mul]
    grind
  have e2 : ∀ i, i ≠ r → sm (L + 1) (fun j => turn T r c i j * v j) = sm (L + 1) (fun j => T i j * v j) - T i c * (sm (L + 1) (fun j => T r j * v j) / T r c) := fun i hi => by
    have : ∀ j, turn T r c i j * v j = T i j * v j - (T i c / T r c) * (T r j * v j) := fun j => by
      unfold turn
      rw [if_neg hi]
      grind
    rw [sm_congr fun j _ => this j, sm_sub, sm_mul]
    grind
  refine ⟨fun h i hi => ?_, fun h i hi => ?_⟩
  · have hr0 : sm (L + 1) (fun j => T r j * v j) = 0 := by
      have := h r hr
      rw [e1] at this
      grind
    by_cases e : i = r
    · rw [e]; exact hr0
    · have := h i hi
      rw [e2 i e, hr0] at this
      grind
  · by_cases e : i = r
    · rw [e, e1, h r hr]; grind
    · rw [e2 i e, h i hi, h r hr]; grind
theorem Basis.inj (B : Basis m L T β) {i k : Nat} (hi : i < m) (hk : k < m) (e : β k = β i) : k = i := by
  have h1 := B.unit i k hi hk
  have h2 := B.unit i i hi hi
  rw [e, h2, if_pos rfl] at h1
  by_cases q : i = k
  · exact q.symm
  · rw [if_neg q] at h1
    grind
theorem Basis.turn (B : Basis m L T β) (hr : r < m) (hc : c < L) (hp : T r c ≠ 0) : Basis m L (turn T r c) (updB β r c) := by
  refine ⟨fun i hi => ?_, fun i k hi hk => ?_⟩
  · unfold updB
    by_cases e : i = r
    · rw [if_pos e]; exact hc
    · rw [if_neg e]; exact B.lt i hi
  · unfold updB KM.turn
    by_cases ek : k = r
    · rw [if_pos ek]
      by_cases ei : i = r
      · rw [if_pos ei, if_pos (ei.trans ek.symm)]
        grind
      · rw [if_neg ei, if_neg (fun q => ei (q.trans ek))]
        grind
    · rw [if_neg ek]
      have h0 := B.unit r k hr hk
      rw [if_neg (fun q => ek q.symm)] at h0
      by_cases ei : i = r
      · rw [if_pos ei, if_neg (fun q => ek (q.symm.trans ei)), h0]
        grind
      · rw [if_neg ei, B.unit i k hi hk, h0]
        grind
/-- the direction of a column: e_c less what the basic columns give of it -/
def dv (m : Nat) (T : Tab) (β : Nat → Nat) (c : Nat) : Nat → Rat := fun j => (if j = c then 1 else 0) - comb m β (fun k => T k c) j
theorem null_comb (B : Basis m L T β) (hc : c ≤ L) {y : Nat → Rat} : Null m L T (fun j => (if j = c then 1 else 0) - comb m β y j) ↔ ∀ i, i < m → T i c = y i := by
  have e : ∀ i, i < m → sm (L + 1) (fun j => T i j * ((if j = c then 1 else 0) - comb m β y j)) = T i c - y i := fun i hi => by
    have h1 : ∀ j, T i j * ((if j = c then 1 else 0) - comb m β y j) = (if j = c then T i j else 0) - T i j * comb m β y j := fun j => by
      by_cases q : j = c
      · rw [if_pos q, if_pos q]; grind
      · rw [if_neg q, if_neg q]; grind
    rw [sm_congr fun j _ => h1 j, sm_sub, sm_one (Nat.lt_succ_of_le hc) (fun j _ hj => if_neg hj), if_pos rfl, sm_comb (fun k hk => Nat.lt_succ_of_lt (B.lt k hk))]
    rw [sm_one hi fun k hk ne => ?_, B.unit i i hi hi, if_pos rfl]
    · grind
    · rw [B.unit i k hi hk, if_neg (fun q => ne q.symm)]
      grind
  refine ⟨fun h i hi => ?_, fun h i hi => ?_⟩
  · have := h i hi
    rw [e i hi] at this
    grind
  · rw [e i hi, h i hi]
    grind
theorem null_dv (B : Basis m L T β) (hc : c ≤ L) : Null m L T (dv m T β c) := (null_comb B hc).mpr fun _ _ => rfl
/-- the same for the rows that a tableau is made of: what stands in column c is the one answer of an equation -/
theorem col_of (B : Basis m L T β) {T0 : Tab} (hn : ∀ v, Null m L T0 v ↔ Null m L T v) (hc : c ≤ L) : (∀ i, i < m → T0 i c = sm m fun k => T0 i (β k) * T k c) ∧
    ∀ y : Nat → Rat, (∀ i, i < m → T0 i c = sm m fun k => T0 i (β k) * y k) → ∀ i, i < m → T i c = y i := by
  have e : ∀ (y : Nat → Rat) i, i < m → sm (L + 1) (fun j => T0 i j * ((if j = c then 1 else 0) - comb m β y j)) = T0 i c - sm m fun k => T0 i (β k) * y k := fun y i hi => by
    have h1 : ∀ j, T0 i j * ((if j = c then 1 else 0) - comb m β y j) = (if j = c then T0 i j else 0) - T0 i j * comb m β y j := fun j => by
      by_cases q : j = c
      · rw [if_pos q, if_pos q]; grind
      · rw [if_neg q, if_neg q]; grind
    rw [sm_congr fun j _ => h1 j, sm_sub, sm_one (Nat.lt_succ_of_le hc) (fun j _ hj => if_neg hj), if_pos rfl, sm_comb (fun k hk => Nat.lt_succ_of_lt (B.lt k hk))]
  refine ⟨fun i hi => ?_, fun y hy => ?_⟩
  · have h := (hn _).mpr (null_dv B hc) i hi
    have h2 := e (fun k => T k c) i hi
    have h3 : sm (L + 1) (fun j => T0 i j * dv m T β c j) = T0 i c - sm m fun k => T0 i (β k) * T k c := h2
    rw [h3] at h
    grind
  · refine (null_comb B hc).mp ((hn _).mp fun i hi => ?_)
    rw [e y i hi, hy i hi]
    grind

/-! ### costs -/
def red (m : Nat) (w : Nat → Rat) (T : Tab) (β : Nat → Nat) (j : Nat) : Rat := w j - sm m fun k => w (β k) * T k j
theorem red_basic {w : Nat → Rat} (B : Basis m L T β) {i : Nat} (hi : i < m) : red m w T β (β i) = 0 := by
  unfold red
  rw [sm_one hi fun k hk ne => ?_, B.unit i i hi hi, if_pos rfl]
  · grind
  · rw [B.unit k i hk hi, if_neg ne]
    grind
/-- a null vector's cost -/
theorem red_null {w : Nat → Rat} {v : Nat → Rat} (h : Null m L T v) (hv : v L = 0) : sm L (fun j => red m w T β j * v j) = sm L fun j => w j * v j := by
  have h1 : ∀ j, red m w T β j * v j = w j * v j - sm m fun k => w (β k) * (T k j * v j) := fun j => by
    unfold red
    have : sm m (fun k => w (β k) * (T k j * v j)) = sm m (fun k => w (β k) * T k j) * v j := by
      rw [← sm_mulr]
      exact sm_congr fun k _ => by grind
    rw [this]
    grind
  rw [sm_congr fun j _ => h1 j, sm_sub, sm_swap]
  have h2 : sm m (fun k => sm L fun j => w (β k) * (T k j * v j)) = 0 := sm_zero fun k hk => by
    rw [sm_mul]
    have := h k hk
    have h3 : sm L (fun j => T k j * v j) + T k L * v L = 0 := this
    rw [hv] at h3
    have h4 : sm L (fun j => T k j * v j) = 0 := by grind
    rw [h4]
    grind
  rw [h2]
  grind
theorem red_dv {w w' : Nat → Rat} (B : Basis m L T β) {s : Nat} (hs : s < L) : sm L (fun j => w j * dv m T β s j) = w s - sm m fun k => w (β k) * T k s := by
  have h1 : ∀ j, w j * dv m T β s j = (if j = s then w j else 0) - w j * comb m β (fun k => T k s) j := fun j => by
    unfold dv
    by_cases q : j = s
    · rw [if_pos q, if_pos q]; grind
    · rw [if_neg q, if_neg q]; grind
  rw [sm_congr fun j _ => h1 j, sm_sub, sm_one hs (fun j _ hj => if_neg hj), if_pos rfl, sm_comb B.lt]
theorem dv_L (B : Basis m L T β) {s : Nat} (hs : s < L) : dv m T β s L = 0 := by
  unfold dv
  rw [if_neg (Nat.ne_of_gt hs), comb_out fun k hk e => absurd (B.lt k hk) (by rw [e]; exact Nat.lt_irrefl L)]
  grind
end
end KM
end
set_option maxHeartbeats 4000000
section
/-! Bland's rule: no basis is met twice. -/
namespace KM
/-- the key of a column: artificial ones (from n on) first -/
def key (n j : Nat) : Nat := if j < n then j + 1 else 0
/-- what entering and leaving columns are, and the next tableau -/
structure Step (m L n : Nat) (w : Nat → Rat) (T : Tab) (β : Nat → Nat) (T' : Tab) (β' : Nat → Nat) (s r : Nat) : Prop where
  sn : s < n
  pos : 0 < red m w T β s
  least : ∀ j, j < s → red m w T β j ≤ 0
  rm : r < m
  piv : 0 < T r s
  min : ∀ i, i < m → 0 < T i s → T r L / T r s < T i L / T i s ∨ (T r L / T r s = T i L / T i s ∧ key n (β r) ≤ key n (β i))
  eT : T' = turn T r s
  eβ : β' = updB β r s
section
variable {m L n : Nat} {w : Nat → Rat} {T T' U : Tab} {β β' γ : Nat → Nat} {s r : Nat}
theorem Step.basis (h : Step m L n w T β T' β' s r) (hn : n ≤ L) (B : Basis m L T β) : Basis m L T' β' := by
  rw [h.eT, h.eβ]
  have := h.piv
  have hs := h.sn
  exact B.turn h.rm (by omega) (by grind)
theorem Step.null (h : Step m L n w T β T' β' s r) (v : Nat → Rat) : Null m L T' v ↔ Null m L T v := by
  rw [h.eT]
  have := h.piv
  exact null_turn h.rm (by grind) v
/-- goals stay from 0 on -/
theorem Step.goals (h : Step m L n w T β T' β' s r) (g : ∀ i, i < m → 0 ≤ T i L) : ∀ i, i < m → 0 ≤ T' i L := by
  intro i hi
  have hp := h.piv
  have gr := g r h.rm
  have gi := g i hi
  have hq : 0 ≤ T r L / T r s := by
    rw [Rat.div_def]
    exact Rat.mul_nonneg gr (Rat.le_of_lt (Rat.inv_pos.mpr hp))
  rw [h.eT]
  unfold turn
  by_cases e : i = r
  · rw [if_pos e]; exact hq
  · rw [if_neg e]
    by_cases q : 0 < T i s
    · have hle : T r L / T r s ≤ T i L / T i s := by
        rcases h.min i hi q with z | ⟨z, _⟩
        · exact Rat.le_of_lt z
        · rw [z]; exact Rat.le_refl
      have := Rat.mul_le_mul_of_nonneg_left hle (Rat.le_of_lt q)
      have e2 : T i s * (T i L / T i s) = T i L := by grind
      rw [e2] at this
      grind
    · have hneg : T i s ≤ 0 := by grind
      have h1 := Rat.mul_nonneg (show 0 ≤ - T i s by grind) hq
      grind
/-- THE CORE: in two tableaux of one null space, t leaves the one and enters the other -/
theorem no_two (hn : n ≤ L) (B : Basis m L T β) (B' : Basis m L U γ) (same : ∀ v, Null m L T v ↔ Null m L U v) {T1 U1 : Tab} {β1 γ1 : Nat → Nat} {s r t q : Nat} (h1 : Step m L n w T β T1 β1 s r) (h2 : Step m L n w U γ U1 γ1 t q)
    (ht : β r = t) (hst : s < t) (hd : T r L = 0) (hf : ∀ i, i < m → (∀ k, k < m → γ k ≠ β i) → β i < n ∧ β i ≤ t ∧ T i L = 0) : False := by
  have hs : s < L := by have := h1.sn; omega
  have nd := null_dv B (Nat.le_of_lt hs)
  have z := dv_L B hs
  have e1 := red_null (w := w) (β := β) nd z
  have e2 := red_null (w := w) (β := γ) ((same _).mp nd) z
  have e3 := red_dv (w := red m w T β) (w' := w) B hs
  have e4 := red_dv (w := red m w U γ) (w' := w) B hs
  have e5 : sm m (fun k => red m w T β (β k) * T k s) = 0 := sm_zero fun k hk => by rw [red_basic B hk]; grind
  rw [e5] at e3
  have e6 : red m w T β s = red m w U γ s - sm m fun k => red m w U γ (β k) * T k s := by
    rw [← e4, e2, ← e1, e3]
    grind
  have p1 := h1.pos
  have p2 := h2.least s hst
  obtain ⟨k, hk, neg⟩ := sm_neg_term (n := m) (f := fun k => red m w U γ (β k) * T k s) (by grind)
  have nb : ∀ i, i < m → γ i ≠ β k := fun i hi e => by
    have := red_basic (w := w) B' hi
    rw [e] at this
    rw [this] at neg
    grind
  obtain ⟨hkn, hkt, hk0⟩ := hf k hk nb
  rcases Nat.lt_or_eq_of_le hkt with hlt | heq
  · have c1 := h2.least (β k) hlt
    have tp : 0 < T k s := by
      by_cases y : 0 < T k s
      · exact y
      · have := Rat.mul_nonneg (show 0 ≤ - red m w U γ (β k) by grind) (show 0 ≤ - T k s by grind)
        grind
    have hmin := h1.min k hk tp
    have f1 : T r L / T r s = 0 := by rw [hd, Rat.div_def]; grind
    have f2 : T k L / T k s = 0 := by rw [hk0, Rat.div_def]; grind
    rw [f1, f2] at hmin
    rcases hmin with y | ⟨_, y⟩
    · grind
    · unfold key at y
      rw [ht, if_pos h2.sn, if_pos hkn] at y
      omega
  · have : k = r := B.inj h1.rm hk (by rw [heq, ht])
    subst this
    have c1 := h2.pos
    rw [heq] at neg
    have := Rat.mul_pos c1 h1.piv
    grind
end
/-! ### traces -/
structure Trace (m L n : Nat) (w : Nat → Rat) (T : Nat → Tab) (β : Nat → Nat → Nat) (s r : Nat → Nat) (a b : Nat) : Prop where
  B : ∀ k, a ≤ k → k ≤ b → Basis m L (T k) (β k)
  st : ∀ k, a ≤ k → k < b → Step m L n w (T k) (β k) (T (k + 1)) (β (k + 1)) (s k) (r k)
  g : ∀ k, a ≤ k → k ≤ b → ∀ i, i < m → 0 ≤ T k i L
  real : ∀ k, a ≤ k → k < b → β k (r k) < n
section
variable {m L n : Nat} {w : Nat → Rat} {T : Nat → Tab} {β : Nat → Nat → Nat} {s r : Nat → Nat} {a b : Nat}
def inB (m : Nat) (β : Nat → Nat) (j : Nat) : Prop := ∃ i, i < m ∧ β i = j
theorem Trace.sub (h : Trace m L n w T β s r a b) {a' b' : Nat} (ha : a ≤ a') (hb : b' ≤ b) : Trace m L n w T β s r a' b' :=
  ⟨fun k h1 h2 => h.B k (by omega) (by omega), fun k h1 h2 => h.st k (by omega) (by omega), fun k h1 h2 => h.g k (by omega) (by omega), fun k h1 h2 => h.real k (by omega) (by omega)⟩
theorem Trace.same (h : Trace m L n w T β s r a b) : ∀ d k, a ≤ k → k + d ≤ b → ∀ v, Null m L (T (k + d)) v ↔ Null m L (T k) v
  | 0, k, _, _, v => Iff.rfl
  | d + 1, k, h1, h2, v => by
    have := (h.st (k + d) (by omega) (by omega)).null v
    exact this.trans (h.same d k h1 (by omega) v)
theorem Trace.same2 (h : Trace m L n w T β s r a b) {p q : Nat} (h1 : a ≤ p) (h2 : p ≤ b) (h3 : a ≤ q) (h4 : q ≤ b) (v : Nat → Rat) : Null m L (T p) v ↔ Null m L (T q) v := by
  have hp := h.same (p - a) a (Nat.le_refl a) (by omega) v
  have hq := h.same (q - a) a (Nat.le_refl a) (by omega) v
  rw [show a + (p - a) = p by omega] at hp
  rw [show a + (q - a) = q by omega] at hq
  exact hp.trans hq.symm
/-- one step's basis -/
theorem step_in {T T' : Tab} {β β' : Nat → Nat} {s r : Nat} (h : Step m L n w T β T' β' s r) {j : Nat} : (inB m β' j → inB m β j ∨ j = s) ∧ (inB m β j → inB m β' j ∨ j = β r) := by
  rw [h.eβ]
  unfold inB updB
  refine ⟨fun ⟨i, hi, e⟩ => ?_, fun ⟨i, hi, e⟩ => ?_⟩
  · by_cases q : i = r
    · rw [if_pos q] at e; exact .inr e.symm
    · rw [if_neg q] at e; exact .inl ⟨i, hi, e⟩
  · by_cases q : i = r
    · subst q; exact .inr e.symm
    · exact .inl ⟨i, hi, by rw [if_neg q]; exact e⟩
theorem step_new {T T' : Tab} {β β' : Nat → Nat} {s r : Nat} (h : Step m L n w T β T' β' s r) (B : Basis m L T β) : ¬ inB m β s ∧ inB m β' s := by
  refine ⟨fun ⟨i, hi, e⟩ => ?_, ⟨r, h.rm, by rw [h.eβ]; unfold updB; rw [if_pos rfl]⟩⟩
  have := red_basic (w := w) B hi
  rw [e] at this
  have := h.pos
  grind
/-- a column that is in a basis and later (or sooner) not: it leaves between -/
theorem leaves (h : Trace m L n w T β s r a b) {j : Nat} : ∀ d p, a ≤ p → p + d ≤ b → inB m (β p) j → ¬ inB m (β (p + d)) j → ∃ k, p ≤ k ∧ k < p + d ∧ inB m (β k) j ∧ ¬ inB m (β (k + 1)) j ∧ β k (r k) = j
  | 0, p, _, _, h1, h2 => absurd h1 h2
  | d + 1, p, ha, hb, h1, h2 => by
    by_cases q : inB m (β (p + d)) j
    · refine ⟨p + d, by omega, by omega, q, h2, ?_⟩
      rcases (step_in (h.st (p + d) (by omega) (by omega))).2 q with z | z
      · exact absurd z h2
      · exact z.symm
    · obtain ⟨k, k1, k2, k3⟩ := leaves h d p ha (by omega) h1 q
      exact ⟨k, k1, by omega, k3⟩
theorem enters (h : Trace m L n w T β s r a b) {j : Nat} : ∀ d p, a ≤ p → p + d ≤ b → ¬ inB m (β p) j → inB m (β (p + d)) j → ∃ k, p ≤ k ∧ k < p + d ∧ ¬ inB m (β k) j ∧ inB m (β (k + 1)) j ∧ s k = j
  | 0, p, _, _, h1, h2 => absurd h2 h1
  | d + 1, p, ha, hb, h1, h2 => by
    by_cases q : inB m (β (p + d)) j
    · obtain ⟨k, k1, k2, k3⟩ := enters h d p ha (by omega) h1 q
      exact ⟨k, k1, by omega, k3⟩
    · refine ⟨p + d, by omega, by omega, q, h2, ?_⟩
      rcases (step_in (h.st (p + d) (by omega) (by omega))).1 h2 with z | z
      · exact absurd z q
      · exact z.symm
/-- what a tableau's basic columns give -/
def val (m L : Nat) (T : Tab) (β : Nat → Nat) (j : Nat) : Rat := comb m β (fun k => T k L) j
theorem val_at (B : Basis m L (T a) (β a)) {i : Nat} (hi : i < m) : val m L (T a) (β a) (β a i) = T a i L := comb_at hi fun k hk e => B.inj hi hk e
theorem val_deg {T T' : Tab} {β β' : Nat → Nat} {s r : Nat} (h : Step m L n w T β T' β' s r) (hd : T r L = 0) (j : Nat) : val m L T' β' j = val m L T β j := by
  unfold val comb
  refine sm_congr fun i hi => ?_
  have e : T' i L = T i L := by
    rw [h.eT]
    unfold turn
    by_cases q : i = r
    · rw [if_pos q, q, hd, Rat.div_def]; grind
    · rw [if_neg q, hd, Rat.div_def]; grind
  rw [h.eβ]
  unfold updB
  dsimp only
  by_cases q : i = r
  · rw [if_pos q, e, q, hd]
    by_cases z : s = j
    · rw [if_pos z]; split <;> rfl
    · rw [if_neg z]; split <;> rfl
  · rw [if_neg q, e]
/-- where nothing grows, no basis comes back -/
theorem no_back (h : Trace m L n w T β s r a b) (hn : n ≤ L) (hab : a < b) (hdeg : ∀ k, a ≤ k → k < b → T k (r k) L = 0) (hset : ∀ j, inB m (β a) j ↔ inB m (β b) j) : False := by
  -- the greatest column that enters
  obtain ⟨q, q1, q2, q3⟩ : ∃ q, a ≤ q ∧ q < b ∧ ∀ k, a ≤ k → k < b → s k ≤ s q := by
    have gen : ∀ d, a + d < b → ∃ q, a ≤ q ∧ q ≤ a + d ∧ ∀ k, a ≤ k → k ≤ a + d → s k ≤ s q := by
      intro d
      induction d with
      | zero => exact fun _ => ⟨a, Nat.le_refl a, by omega, fun k h1 h2 => by rw [show k = a by omega]; exact Nat.le_refl _⟩
      | succ d ih =>
        intro hd
        obtain ⟨q, q1, q2, q3⟩ := ih (by omega)
        by_cases z : s (a + (d + 1)) ≤ s q
        · exact ⟨q, q1, by omega, fun k h1 h2 => by
            by_cases e : k = a + (d + 1)
            · rw [e]; exact z
            · exact q3 k h1 (by omega)⟩
        · exact ⟨a + (d + 1), by omega, Nat.le_refl _, fun k h1 h2 => by
            by_cases e : k = a + (d + 1)
            · rw [e]; exact Nat.le_refl _
            · exact Nat.le_trans (q3 k h1 (by omega)) (by omega)⟩
    obtain ⟨q, q1, q2, q3⟩ := gen (b - 1 - a) (by omega)
    exact ⟨q, q1, by omega, fun k h1 h2 => q3 k h1 (by omega)⟩
  -- all columns that change are at most that
  have chg : ∀ j p p', a ≤ p → p ≤ b → a ≤ p' → p' ≤ b → inB m (β p) j → ¬ inB m (β p') j → ∃ k, a ≤ k ∧ k < b ∧ s k = j := by
    intro j p p' h1 h2 h3 h4 h5 h6
    by_cases z : inB m (β a) j
    · -- basic at a and b: it enters behind p'
      obtain ⟨k, k1, k2, _, _, k5⟩ := enters h (b - p') p' h3 (by omega) h6 (by rw [show p' + (b - p') = b by omega]; exact (hset j).mp z)
      exact ⟨k, by omega, by omega, k5⟩
    · obtain ⟨k, k1, k2, _, _, k5⟩ := enters h (p - a) a (Nat.le_refl a) (by omega) z (by rw [show a + (p - a) = p by omega]; exact h5)
      exact ⟨k, by omega, by omega, k5⟩
  have Bq := h.B q q1 (Nat.le_of_lt q2)
  have Sq := h.st q q1 q2
  obtain ⟨n1, n2⟩ := step_new Sq Bq
  -- it leaves somewhere
  obtain ⟨p, p1, p2, p3, p4⟩ : ∃ p, a ≤ p ∧ p < b ∧ inB m (β p) (s q) ∧ β p (r p) = s q := by
    by_cases z : inB m (β a) (s q)
    · obtain ⟨k, k1, k2, k3, _, k5⟩ := leaves h (q - a) a (Nat.le_refl a) (by omega) z (by rw [show a + (q - a) = q by omega]; exact n1)
      exact ⟨k, by omega, by omega, k3, k5⟩
    · obtain ⟨k, k1, k2, k3, _, k5⟩ := leaves h (b - (q + 1)) (q + 1) (by omega) (by omega) n2 (by rw [show q + 1 + (b - (q + 1)) = b by omega]; exact fun y => z ((hset _).mpr y))
      exact ⟨k, by omega, by omega, k3, k5⟩
  have Bp := h.B p p1 (Nat.le_of_lt p2)
  have Sp := h.st p p1 p2
  have hst : s p < s q := by
    have h1 := q3 p p1 p2
    have h2 : s p ≠ s q := fun e => (step_new Sp Bp).1 (e ▸ p3)
    omega
  -- the values stand still
  have vs : ∀ d, a + d ≤ b → ∀ j, val m L (T (a + d)) (β (a + d)) j = val m L (T a) (β a) j := by
    intro d
    induction d with
    | zero => exact fun _ _ => rfl
    | succ d ih => exact fun hd j => (val_deg (h.st (a + d) (by omega) (by omega)) (hdeg (a + d) (by omega) (by omega)) j).trans (ih (by omega) j)
  have vpq : ∀ j, val m L (T p) (β p) j = val m L (T q) (β q) j := fun j => by
    have e1 := vs (p - a) (by omega) j
    have e2 := vs (q - a) (by omega) j
    rw [show a + (p - a) = p by omega] at e1
    rw [show a + (q - a) = q by omega] at e2
    rw [e1, e2]
  refine no_two hn Bp Bq (h.same2 p1 (by omega) q1 (by omega)) Sp Sq p4 hst (hdeg p p1 p2) fun i hi nb => ?_
  have hin : inB m (β p) (β p i) := ⟨i, hi, rfl⟩
  have hout : ¬ inB m (β q) (β p i) := fun ⟨k, hk, e⟩ => nb k hk e
  obtain ⟨k, k1, k2, k3⟩ := chg (β p i) p q p1 (by omega) q1 (by omega) hin hout
  refine ⟨by rw [← k3]; exact (h.st k k1 k2).sn, by rw [← k3]; exact q3 k k1 k2, ?_⟩
  have e1 := vpq (β p i)
  have e2 : val m L (T q) (β q) (β p i) = 0 := comb_out fun k hk e => nb k hk e
  have e3 : val m L (T p) (β p) (β p i) = T p i L := comb_at hi fun k hk e => Bp.inj hi hk e
  rw [← e3, e1, e2]
/-- the worth of a tableau -/
def worth (m L : Nat) (w : Nat → Rat) (T : Tab) (β : Nat → Nat) : Rat := sm m fun k => w (β k) * T k L
theorem worth_val (B : Basis m L (T a) (β a)) : worth m L w (T a) (β a) = sm L fun j => w j * val m L (T a) (β a) j := (sm_comb B.lt).symm
theorem worth_step {T T' : Tab} {β β' : Nat → Nat} {s r : Nat} (h : Step m L n w T β T' β' s r) : worth m L w T' β' = worth m L w T β + (T r L / T r s) * red m w T β s := by
  have hp := h.piv
  have e : ∀ i, i < m → w (β' i) * T' i L = (w (β i) * T i L - (T r L / T r s) * (w (β i) * T i s)) + (if i = r then w s * (T r L / T r s) else 0) := fun i hi => by
    rw [h.eβ, h.eT]
    unfold updB turn
    by_cases q : i = r
    · rw [if_pos q, if_pos q, if_pos q, q]
      have : T r L / T r s * T r s = T r L := Rat.div_mul_cancel (by grind)
      grind
    · rw [if_neg q, if_neg q, if_neg q]
      grind
  unfold worth
  rw [sm_congr e, sm_add, sm_sub, sm_mul, sm_one h.rm (fun j _ hj => if_neg hj), if_pos rfl]
  unfold red
  grind
/-- THE LAW of Bland: in a trace where no artificial column leaves, no basis comes back -/
theorem no_repeat (h : Trace m L n w T β s r a b) (hn : n ≤ L) (hab : a < b) (hset : ∀ j, inB m (β a) j ↔ inB m (β b) j) : False := by
  have Ba := h.B a (Nat.le_refl a) (Nat.le_of_lt hab)
  have Bb := h.B b (Nat.le_of_lt hab) (Nat.le_refl b)
  -- the same basis has the same values
  have hv : ∀ j, val m L (T a) (β a) j = val m L (T b) (β b) j := by
    have nv : Null m L (T b) (fun j => (if j = L then 1 else 0) - comb m (β a) (fun k => T a k L) j) := (h.same2 (Nat.le_of_lt hab) (Nat.le_refl b) (Nat.le_refl a) (Nat.le_of_lt hab) _).mpr (null_dv Ba (Nat.le_refl L))
    intro j
    by_cases z : inB m (β b) j
    · obtain ⟨i, hi, e⟩ := z
      have e1 := nv i hi
      have e2 : sm (L + 1) (fun j => T b i j * ((if j = L then 1 else 0) - comb m (β a) (fun k => T a k L) j)) = T b i L - sm L (fun j => T b i j * val m L (T a) (β a) j) := by
        show sm L _ + T b i L * ((if L = L then 1 else 0) - comb m (β a) (fun k => T a k L) L) = _
        rw [if_pos rfl, comb_out fun k hk e => absurd (Ba.lt k hk) (by rw [e]; exact Nat.lt_irrefl L)]
        have : sm L (fun j => T b i j * ((if j = L then 1 else 0) - comb m (β a) (fun k => T a k L) j)) = - sm L (fun j => T b i j * val m L (T a) (β a) j) := by
          rw [← sm_neg]
          refine sm_congr fun j hj => ?_
          rw [if_neg (Nat.ne_of_lt hj)]
          unfold val
          grind
        rw [this]
        grind
      have e3 : sm L (fun j => T b i j * val m L (T a) (β a) j) = val m L (T a) (β a) (β b i) := by
        rw [sm_one (Bb.lt i hi) fun j hj ne => ?_, Bb.unit i i hi hi, if_pos rfl]
        · grind
        · by_cases y : inB m (β b) j
          · obtain ⟨k, hk, ek⟩ := y
            rw [← ek, Bb.unit i k hi hk, if_neg (fun q => ne (by rw [← ek, q]))]
            grind
          · have : val m L (T a) (β a) j = 0 := comb_out fun k hk ek => y ((hset j).mp ⟨k, hk, ek⟩)
            rw [this]
            grind
      have e4 : val m L (T b) (β b) (β b i) = T b i L := comb_at hi fun k hk e => Bb.inj hi hk e
      rw [← e, e4, ← e3]
      rw [e2] at e1
      grind
    · have h1 : val m L (T b) (β b) j = 0 := comb_out fun k hk ek => z ⟨k, hk, ek⟩
      have h2 : val m L (T a) (β a) j = 0 := comb_out fun k hk ek => z ((hset j).mp ⟨k, hk, ek⟩)
      rw [h1, h2]
  have hw : worth m L w (T a) (β a) = worth m L w (T b) (β b) := by
    rw [worth_val Ba, worth_val Bb]
    exact sm_congr fun j _ => by rw [hv j]
  -- the worth grows; so it stands still
  have inc : ∀ k, a ≤ k → k < b → 0 ≤ T k (r k) L / T k (r k) (s k) := fun k k1 k2 => by
    have := h.g k k1 (Nat.le_of_lt k2) (r k) (h.st k k1 k2).rm
    rw [Rat.div_def]
    exact Rat.mul_nonneg this (Rat.le_of_lt (Rat.inv_pos.mpr (h.st k k1 k2).piv))
  have mono : ∀ d k, a ≤ k → k + d ≤ b → worth m L w (T k) (β k) ≤ worth m L w (T (k + d)) (β (k + d)) := by
    intro d
    induction d with
    | zero => exact fun _ _ _ => Rat.le_refl
    | succ d ih =>
      intro k k1 k2
      have i1 := ih k k1 (by omega)
      have S := h.st (k + d) (by omega) (by omega)
      have i2 := worth_step S
      have i3 := Rat.mul_nonneg (inc (k + d) (by omega) (by omega)) (Rat.le_of_lt S.pos)
      show _ ≤ worth m L w (T (k + d + 1)) (β (k + d + 1))
      grind
  refine no_back h hn hab (fun k k1 k2 => ?_) hset
  have S := h.st k k1 k2
  have i1 := mono (k - a) a (Nat.le_refl a) (by omega)
  have i2 := mono (b - (k + 1)) (k + 1) (by omega) (by omega)
  rw [show a + (k - a) = k by omega] at i1
  rw [show k + 1 + (b - (k + 1)) = b by omega] at i2
  have i3 := worth_step S
  have i4 := inc k k1 k2
  have i5 := S.pos
  have i6 := Rat.mul_nonneg i4 (Rat.le_of_lt i5)
  have i7 : (T k (r k) L / T k (r k) (s k)) * red m w (T k) (β k) (s k) = 0 := by grind
  rcases Rat.mul_eq_zero.mp i7 with z | z
  · have hp := S.piv
    have : T k (r k) L / T k (r k) (s k) * T k (r k) (s k) = T k (r k) L := Rat.div_mul_cancel (by grind)
    rw [z] at this
    grind
  · grind
end
end KM
end
set_option maxHeartbeats 4000000
section
/-! What the defs do: fractions. -/
namespace K40
open NB
abbrev Gv : PySem.Str → Option D := gl pg.tb
abbrev R (j i : Nat) : List D → M D := run Gv pg.fns j i
theorem R_eq {i j : Nat} {f : Fn} (h : pg.fns[i]? = some f) (ds : List D) : R (j + 1) i ds = runFn Gv (R j) f ds := run_eq h ds
theorem bind_some {α β : Type} {x : M α} {f : α → M β} {μ μ' : List MO} {a : α} (h : x μ = some (.ok a, μ')) : M.bind x f μ = f a μ' := by
  simp only [M.bind, h]
/-! ### divisor -/
theorem okInt_iff {i : Int} : okInt i = true ↔ i.natAbs < big := by
  unfold okInt
  exact decide_eq_true_iff
theorem r2_loop (j : Nat) (μ : List MO) : ∀ (N : Nat) (a b : Int), 0 ≤ a → 0 ≤ b → b.toNat < N →
    whileL (fun δ' => M.bind (evE Gv (R j) (.cmp .gt (.var 1) (.int 0)) δ') asBl) (fun δ' => exB Gv (R j) (.cons (.par 0 1 (.var 1) (.bin .mod (.var 0) (.var 1))) .nil) δ') N [some (.int a), some (.int b)] μ =
      some (.ok (.nx [some (.int (Int.gcd a b)), some (.int 0)]), μ)
  | 0, a, b, _, _, h => absurd h (Nat.not_lt_zero _)
  | N + 1, a, b, ha, hb, h => by
    unfold whileL
    by_cases q : b = 0
    · subst q
      have e : Int.gcd a 0 = a.natAbs := Int.gcd_zero_right a
      simp [evE, M.bind, M.ok, opC, ordD, asBl, e, Int.natAbs_of_nonneg ha]
    · have hb1 : 0 < b := by omega
      have hm : 0 ≤ a.fmod b := Int.fmod_nonneg_of_pos a hb1
      have hl : a.fmod b < b := Int.fmod_lt_of_pos a hb1
      have ih := r2_loop j μ N b (a.fmod b) hb hm (by omega)
      have e : Int.gcd b (a.fmod b) = Int.gcd a b := by
        rw [Int.fmod_eq_emod_of_nonneg a (Int.le_of_lt hb1), Int.gcd_comm a b]
        have e2 : a % b = a + b * (-(a / b)) := by
          have := Int.emod_add_mul_ediv a b
          rw [Int.mul_neg]
          omega
        rw [e2]
        exact Int.gcd_add_mul_left_right b a (-(a / b))
      rw [e] at ih
      have hdec : decide (b > 0) = true := decide_eq_true hb1
      simp [evE, exB, exS, M.bind, M.ok, opC, ordD, opB, modD, asBl, q, hb1]
      exact ih
theorem r_divisor (j : Nat) (μ : List MO) (a b : Int) (hb : b.natAbs < huge) : R (j + 1) 2 [.int a, .int b] μ = some (.ok (.int (Int.gcd a b)), μ) := by
  rw [R_eq (f := f2) rfl]
  refine run_pure rfl rfl rfl ?_
  have habs : ∀ x : Int, (if x < 0 then -x else x) = (x.natAbs : Int) := fun x => by split <;> omega
  have h := r2_loop j μ fuel a.natAbs b.natAbs (by omega) (by omega) (by unfold fuel; omega)
  have eg : Int.gcd (a.natAbs : Int) (b.natAbs : Int) = Int.gcd a b := by simp [Int.gcd]
  rw [eg] at h
  show exB Gv (R j) (.cons _ (.cons _ (.cons _ .nil))) [some (.int a), some (.int b)] μ = _
  refine (xB_nx (δ' := [some (.int a.natAbs), some (.int b.natAbs)]) (μ' := μ) ?_).trans ?_
  · simp [exS, evE, M.bind, M.ok, habs]
  refine (xB_nx (δ' := [some (.int (Int.gcd a b)), some (.int 0)]) (μ' := μ) ?_).trans ?_
  · simp only [exS]
    exact h
  · exact xB_rt (xS_ret (by simp [evE, M.ok]))
/-! ### fractions -/
def rt (q : Rat) : D := .tup [.int q.num, .int q.den]
theorem fdiv_pos {a g : Int} (hg : 0 < g) (h : g ∣ a) : a.fdiv g = a / g := Int.fdiv_eq_ediv_of_nonneg a (Int.le_of_lt hg)
theorem fdiv_neg {a g : Int} (hg : 0 < g) (h : g ∣ a) : a.fdiv (-g) = -(a / g) := by
  obtain ⟨k, rfl⟩ := h
  rw [Int.mul_ediv_cancel_left k (by omega)]
  have : g * k = (-k) * (-g) := by rw [Int.neg_mul_neg, Int.mul_comm]
  rw [this]
  exact Int.mul_fdiv_cancel _ (by omega)
theorem r_make (j : Nat) (μ : List MO) (a b : Int) (h0 : b ≠ 0) (hb : b.natAbs < big) : R (j + 2) 3 [.int a, .int b] μ = some (.ok (rt (Rat.divInt a b)), μ) := by
  rw [R_eq (f := f3) rfl]
  refine run_pure rfl rfl rfl ?_
  have hh : big ≤ huge := Nat.pow_le_pow_right (by decide) (by decide)
  have hd : R (j + 1) 2 [.int a, .int b] μ = _ := r_divisor j μ a b (by omega)
  have gp : 0 < Int.gcd a b := Int.gcd_pos_of_ne_zero_right a h0
  have gb : Int.gcd a b ≤ b.natAbs := Nat.le_of_dvd (by omega) (Int.gcd_dvd_natAbs_right a b)
  have g1 : (Int.gcd a b : Int) ∣ a := Int.gcd_dvd_left a b
  have g2 : (Int.gcd a b : Int) ∣ b := Int.gcd_dvd_right a b
  have ok1 : okInt (Int.gcd a b : Int) = true := okInt_iff.mpr (by omega)
  have ok2 : okInt (-(Int.gcd a b : Int)) = true := okInt_iff.mpr (by omega)
  have ne : (Int.gcd a b : Int) ≠ 0 := by omega
  have ne2 : -(Int.gcd a b : Int) ≠ 0 := by omega
  have gc : Int.gcd b a = Int.gcd a b := Int.gcd_comm b a
  have e1 : (Rat.divInt a b).num = b.sign * a / Int.gcd a b := by rw [Rat.num_divInt, gc]
  have e2 : (((Rat.divInt a b).den : Nat) : Int) = (b.natAbs : Int) / Int.gcd a b := by
    rw [Rat.den_divInt, if_neg h0, gc]
    rfl
  have q0 : (b == 0) = false := by simpa using h0
  by_cases hneg : b < 0
  · have s1 : b.sign = -1 := Int.sign_eq_neg_one_of_neg hneg
    have r1 : a.fdiv (-(Int.gcd a b : Int)) = (Rat.divInt a b).num := by
      rw [fdiv_neg (by omega) g1, e1, s1]
      rw [← Int.neg_ediv_of_dvd g1, Int.neg_one_mul]
    have r2 : b.fdiv (-(Int.gcd a b : Int)) = ((Rat.divInt a b).den : Int) := by
      rw [fdiv_neg (by omega) g2, e2]
      have : (b.natAbs : Int) = -b := by omega
      rw [this, Int.neg_ediv_of_dvd g2]
    simp [f3, exB, exS, evE, evA, M.bind, M.ok, M.bad, asBl, opC, eqD, ordD, opB, fdivD, open1, flat, peq, q0, h0, bindT, hd, hneg, ok1, ok2, ne, rt, lim, List.replicate, r1, r2]
  · have s1 : b.sign = 1 := Int.sign_eq_one_of_pos (by omega)
    have r1 : a.fdiv (Int.gcd a b : Int) = (Rat.divInt a b).num := by
      rw [fdiv_pos (by omega) g1, e1, s1, Int.one_mul]
    have r2 : b.fdiv (Int.gcd a b : Int) = ((Rat.divInt a b).den : Int) := by
      rw [fdiv_pos (by omega) g2, e2, Int.natAbs_of_nonneg (by omega)]
    simp [f3, exB, exS, evE, evA, M.bind, M.ok, M.bad, asBl, opC, eqD, ordD, opB, fdivD, open1, flat, peq, q0, h0, bindT, hd, hneg, ok1, ok2, ne, rt, lim, List.replicate, r1, r2]
theorem rt_ne {p q : Rat} : peq (rt p) (rt q) = decide (p = q) := by
  simp only [rt, peq, peqs, Bool.and_true]
  by_cases h : p = q
  · subst h; simp
  · rw [decide_eq_false h]
    by_cases h1 : p.num = q.num
    · have : p.den ≠ q.den := fun e => h (Rat.ext h1 e)
      simp [h1]
      omega
    · simp [h1]
theorem flat_rt (n : Nat) (p : Rat) : flat (n + 1) (rt p) = true := by simp [rt, flat, flats]
theorem plain_rt (p : Rat) : plain (rt p) = true := rfl
/-- small fractions: numerator and denominator -/
def Sz (b : Nat) (p : Rat) : Prop := p.num.natAbs < 2 ^ b ∧ p.den < 2 ^ b
theorem pow_lt {a b : Nat} (h : a ≤ b) : (2 : Nat) ^ a ≤ 2 ^ b := Nat.pow_le_pow_right (by decide) h
theorem Sz.mono {a b : Nat} {p : Rat} (h : Sz a p) (hab : a ≤ b) : Sz b p := ⟨Nat.lt_of_lt_of_le h.1 (pow_lt hab), Nat.lt_of_lt_of_le h.2 (pow_lt hab)⟩
theorem mul_lt_pow {x y a b : Nat} (hx : x < 2 ^ a) (hy : y < 2 ^ b) : x * y < 2 ^ (a + b) := by
  rw [Nat.pow_add]
  exact Nat.mul_lt_mul'' hx hy
theorem ok_big {x a : Nat} (h : x < 2 ^ a) (ha : a ≤ 8000) : x < big := Nat.lt_of_lt_of_le h (pow_lt ha)
theorem ok_huge {x a : Nat} (h : x < 2 ^ a) (ha : a ≤ 400000) : x < huge := Nat.lt_of_lt_of_le h (pow_lt ha)
theorem okBig_iff {i : Int} : okBig i = true ↔ i.natAbs < huge := by
  unfold okBig
  exact decide_eq_true_iff
theorem okB {p : Rat} {b : Nat} (h : Sz b p) (hb : b ≤ 400000) : okBig p.num = true ∧ okBig (p.den : Int) = true := ⟨okBig_iff.mpr (ok_huge h.1 hb), okBig_iff.mpr (ok_huge h.2 hb)⟩
theorem r_mul (j : Nat) (μ : List MO) (p q : Rat) {a b : Nat} (hp : Sz a p) (hq : Sz b q) (h : a + b ≤ 8000) : R (j + 3) 6 [rt p, rt q] μ = some (.ok (rt (p * q)), μ) := by
  rw [R_eq (f := f6) rfl]
  refine run_pure rfl rfl (plain_rt _) ?_
  have o1 := okB hp (by omega)
  have o2 := okB hq (by omega)
  have hd : R (j + 2) 3 [.int (p.num * q.num), .int ((p.den : Int) * (q.den : Int))] μ = _ := r_make j μ _ _ (by
    have := p.den_nz; have := q.den_nz
    rw [← Int.natCast_mul]
    have : 0 < p.den * q.den := Nat.mul_pos (by omega) (by omega)
    omega) (by
    rw [← Int.natCast_mul, Int.natAbs_natCast]
    exact ok_big (mul_lt_pow hp.2 hq.2) h)
  have e : Rat.divInt (p.num * q.num) ((p.den : Int) * (q.den : Int)) = p * q := by
    rw [Rat.mul_def', ← Int.natCast_mul, Rat.divInt_ofNat]
  rw [e] at hd
  simp [f6, rt, exB, exS, evE, evA, M.bind, M.ok, opB, mulD, seqOf, L2.atI, L2.ixN, o1, o2, List.replicate]
  have hd' : R (j + 2) 3 [.int (p.num * q.num), .int ((p.den : Int) * (q.den : Int))] μ = some (.ok (.tup [.int (p * q).num, .int ((p * q).den : Int)]), μ) := hd
  rw [hd']
  rfl
theorem den_prod_pos (p q : Rat) : 0 < p.den * q.den := Nat.mul_pos p.den_pos q.den_pos
theorem r_add (j : Nat) (μ : List MO) (p q : Rat) {a b : Nat} (hp : Sz a p) (hq : Sz b q) (h : a + b ≤ 8000) : R (j + 3) 4 [rt p, rt q] μ = some (.ok (rt (p + q)), μ) := by
  rw [R_eq (f := f4) rfl]
  refine run_pure rfl rfl (plain_rt _) ?_
  have o1 := okB hp (by omega)
  have o2 := okB hq (by omega)
  have hd : R (j + 2) 3 [.int (p.num * q.den + q.num * p.den), .int ((p.den : Int) * (q.den : Int))] μ = _ := r_make j μ _ _ (by
    have := den_prod_pos p q
    rw [← Int.natCast_mul]
    omega) (by
    rw [← Int.natCast_mul, Int.natAbs_natCast]
    exact ok_big (mul_lt_pow hp.2 hq.2) h)
  have e : Rat.divInt (p.num * q.den + q.num * p.den) ((p.den : Int) * (q.den : Int)) = p + q := by
    rw [Rat.add_def', ← Int.natCast_mul, Rat.divInt_ofNat]
  rw [e] at hd
  simp [f4, rt, exB, exS, evE, evA, M.bind, M.ok, opB, mulD, addD, seqOf, L2.atI, L2.ixN, o1, o2, List.replicate]
  have hd' : R (j + 2) 3 [.int (p.num * q.den + q.num * p.den), .int ((p.den : Int) * (q.den : Int))] μ = some (.ok (.tup [.int (p + q).num, .int ((p + q).den : Int)]), μ) := hd
  rw [hd']
  rfl
theorem r_sub (j : Nat) (μ : List MO) (p q : Rat) {a b : Nat} (hp : Sz a p) (hq : Sz b q) (h : a + b ≤ 8000) : R (j + 3) 5 [rt p, rt q] μ = some (.ok (rt (p - q)), μ) := by
  rw [R_eq (f := f5) rfl]
  refine run_pure rfl rfl (plain_rt _) ?_
  have o1 := okB hp (by omega)
  have o2 := okB hq (by omega)
  have hd : R (j + 2) 3 [.int (p.num * q.den - q.num * p.den), .int ((p.den : Int) * (q.den : Int))] μ = _ := r_make j μ _ _ (by
    have := den_prod_pos p q
    rw [← Int.natCast_mul]
    omega) (by
    rw [← Int.natCast_mul, Int.natAbs_natCast]
    exact ok_big (mul_lt_pow hp.2 hq.2) h)
  have e : Rat.divInt (p.num * q.den - q.num * p.den) ((p.den : Int) * (q.den : Int)) = p - q := by
    rw [Rat.sub_def', ← Int.natCast_mul, Rat.divInt_ofNat]
  rw [e] at hd
  simp [f5, rt, exB, exS, evE, evA, M.bind, M.ok, opB, mulD, subD, seqOf, L2.atI, L2.ixN, o1, o2, List.replicate]
  have hd' : R (j + 2) 3 [.int (p.num * q.den - q.num * p.den), .int ((p.den : Int) * (q.den : Int))] μ = some (.ok (.tup [.int (p - q).num, .int ((p - q).den : Int)]), μ) := hd
  rw [hd']
  rfl
theorem div_eq (p q : Rat) (h : q ≠ 0) : Rat.divInt (p.num * q.den) ((p.den : Int) * q.num) = p / q := by
  have hq : q.num ≠ 0 := fun e => h (Rat.num_eq_zero.mp e)
  rw [Rat.div_def, Rat.inv_def]
  conv => rhs; rw [← Rat.num_divInt_den p]
  rw [Rat.divInt_mul_divInt]
theorem r_div (j : Nat) (μ : List MO) (p q : Rat) {a b : Nat} (hp : Sz a p) (hq : Sz b q) (h : a + b ≤ 8000) (h0 : q ≠ 0) : R (j + 3) 7 [rt p, rt q] μ = some (.ok (rt (p / q)), μ) := by
  rw [R_eq (f := f7) rfl]
  refine run_pure rfl rfl (plain_rt _) ?_
  have o1 := okB hp (by omega)
  have o2 := okB hq (by omega)
  have hq0 : q.num ≠ 0 := fun e => h0 (Rat.num_eq_zero.mp e)
  have hd : R (j + 2) 3 [.int (p.num * q.den), .int ((p.den : Int) * q.num)] μ = _ := r_make j μ _ _ (Int.mul_ne_zero (by have := p.den_nz; omega) hq0) (by
    rw [Int.natAbs_mul, Int.natAbs_natCast]
    exact ok_big (mul_lt_pow hp.2 hq.1) h)
  rw [div_eq p q h0] at hd
  simp [f7, rt, exB, exS, evE, evA, M.bind, M.ok, M.bad, asBl, opB, opC, eqD, open1, flat, peq, mulD, seqOf, L2.atI, L2.ixN, o1, o2, hq0, List.replicate]
  have hd' : R (j + 2) 3 [.int (p.num * q.den), .int ((p.den : Int) * q.num)] μ = some (.ok (.tup [.int (p / q).num, .int ((p / q).den : Int)]), μ) := hd
  rw [hd']
  rfl
theorem r_less (j : Nat) (μ : List MO) (p q : Rat) {a b : Nat} (hp : Sz a p) (hq : Sz b q) (h : a ≤ 400000) (h' : b ≤ 400000) : R (j + 1) 8 [rt p, rt q] μ = some (.ok (.bl (decide (p < q))), μ) := by
  rw [R_eq (f := f8) rfl]
  refine run_pure rfl rfl rfl ?_
  have o1 := okB hp h
  have o2 := okB hq h'
  have e : decide (p.num * (q.den : Int) < q.num * (p.den : Int)) = decide (p < q) := by
    rw [Bool.eq_iff_iff, decide_eq_true_eq, decide_eq_true_eq]
    exact (Rat.lt_iff p q).symm
  simp [f8, rt, exB, exS, evE, evA, M.bind, M.ok, opB, opC, ordD, mulD, seqOf, L2.atI, L2.ixN, o1, o2, List.replicate]
  exact (Rat.lt_iff p q).symm
theorem r_neg (j : Nat) (μ : List MO) (p : Rat) : R (j + 1) 9 [rt p] μ = some (.ok (rt (-p)), μ) := by
  rw [R_eq (f := f9) rfl]
  refine run_pure rfl rfl (plain_rt _) ?_
  simp [f9, rt, exB, exS, evE, evA, M.bind, M.ok, M.bad, lim, seqOf, L2.atI, L2.ixN, List.replicate]
end K40
end
set_option maxHeartbeats 4000000
section
/-! What the defs do: rows of fractions. -/
namespace K40
open NB
/-! ### sizes -/
theorem divInt_num_le (a b : Int) : (Rat.divInt a b).num.natAbs ≤ a.natAbs := by
  rw [Rat.num_divInt]
  have h : ∀ (x g : Int), (x / g).natAbs ≤ x.natAbs := fun x g => Int.natAbs_ediv_le_natAbs x g
  refine Nat.le_trans (h _ _) ?_
  rw [Int.natAbs_mul]
  have : b.sign.natAbs ≤ 1 := by
    rw [Int.natAbs_sign]
    split <;> omega
  calc b.sign.natAbs * a.natAbs ≤ 1 * a.natAbs := Nat.mul_le_mul_right _ this
    _ = a.natAbs := Nat.one_mul _
theorem divInt_den_le (a b : Int) (h : b ≠ 0) : (Rat.divInt a b).den ≤ b.natAbs := by
  rw [Rat.den_divInt, if_neg h]
  exact Nat.div_le_self _ _
theorem Sz.of_divInt {a b : Int} {k : Nat} (h : b ≠ 0) (ha : a.natAbs < 2 ^ k) (hb : b.natAbs < 2 ^ k) : Sz k (Rat.divInt a b) := ⟨Nat.lt_of_le_of_lt (divInt_num_le a b) ha, Nat.lt_of_le_of_lt (divInt_den_le a b h) hb⟩
theorem Sz.mul {a b : Nat} {p q : Rat} (hp : Sz a p) (hq : Sz b q) : Sz (a + b) (p * q) := by
  have e : p * q = Rat.divInt (p.num * q.num) ((p.den * q.den : Nat) : Int) := by rw [Rat.mul_def', Rat.divInt_ofNat]
  rw [e]
  have := den_prod_pos p q
  refine .of_divInt (by omega) ?_ ?_
  · rw [Int.natAbs_mul]; exact mul_lt_pow hp.1 hq.1
  · rw [Int.natAbs_natCast]; exact mul_lt_pow hp.2 hq.2
theorem sum_lt_pow {a b : Nat} {p q : Rat} (hp : Sz a p) (hq : Sz b q) (s : Int) (hs : s = 1 ∨ s = -1) : (p.num * q.den + s * (q.num * p.den)).natAbs < 2 ^ (a + b + 1) := by
  have h1 := mul_lt_pow hp.1 hq.2
  have h2 := mul_lt_pow hq.1 hp.2
  have e1 : (p.num * q.den).natAbs = p.num.natAbs * q.den := by rw [Int.natAbs_mul, Int.natAbs_natCast]
  have e2 : (s * (q.num * p.den)).natAbs = q.num.natAbs * p.den := by
    rw [Int.natAbs_mul, Int.natAbs_mul, Int.natAbs_natCast]
    rcases hs with rfl | rfl <;> simp
  have h3 := Int.natAbs_add_le (p.num * q.den) (s * (q.num * p.den))
  rw [Nat.pow_succ]
  rw [Nat.add_comm b a] at h2
  omega
theorem Sz.add {a b : Nat} {p q : Rat} (hp : Sz a p) (hq : Sz b q) : Sz (a + b + 1) (p + q) := by
  have e : p + q = Rat.divInt (p.num * q.den + 1 * (q.num * p.den)) ((p.den * q.den : Nat) : Int) := by rw [Int.one_mul, Rat.add_def', Rat.divInt_ofNat]
  rw [e]
  have := den_prod_pos p q
  refine .of_divInt (by omega) (sum_lt_pow hp hq 1 (.inl rfl)) ?_
  rw [Int.natAbs_natCast]
  exact Nat.lt_of_lt_of_le (mul_lt_pow hp.2 hq.2) (pow_lt (by omega))
theorem Sz.sub {a b : Nat} {p q : Rat} (hp : Sz a p) (hq : Sz b q) : Sz (a + b + 1) (p - q) := by
  have e : p - q = Rat.divInt (p.num * q.den + -1 * (q.num * p.den)) ((p.den * q.den : Nat) : Int) := by
    rw [Rat.sub_def', Rat.divInt_ofNat]
    congr 1
    omega
  rw [e]
  have := den_prod_pos p q
  refine .of_divInt (by omega) (sum_lt_pow hp hq (-1) (.inr rfl)) ?_
  rw [Int.natAbs_natCast]
  exact Nat.lt_of_lt_of_le (mul_lt_pow hp.2 hq.2) (pow_lt (by omega))
theorem Sz.neg {a : Nat} {p : Rat} (hp : Sz a p) : Sz a (-p) := ⟨by rw [Rat.neg_num, Int.natAbs_neg]; exact hp.1, by rw [Rat.neg_den]; exact hp.2⟩
theorem Sz.div {a b : Nat} {p q : Rat} (hp : Sz a p) (hq : Sz b q) (h : q ≠ 0) : Sz (a + b) (p / q) := by
  rw [← div_eq p q h]
  have hq0 : q.num ≠ 0 := fun e => h (Rat.num_eq_zero.mp e)
  refine .of_divInt (Int.mul_ne_zero (by have := p.den_nz; omega) hq0) ?_ ?_
  · rw [Int.natAbs_mul, Int.natAbs_natCast]; exact mul_lt_pow hp.1 hq.2
  · rw [Int.natAbs_mul, Int.natAbs_natCast]; exact mul_lt_pow hp.2 hq.1
theorem Sz.zero (a : Nat) (h : 0 < a) : Sz a 0 := ⟨Nat.pow_pos (by decide), Nat.one_lt_two_pow (by omega)⟩
theorem Sz.one (a : Nat) (h : 0 < a) : Sz a 1 := ⟨Nat.one_lt_two_pow (by omega), Nat.one_lt_two_pow (by omega)⟩
/-! ### names -/
theorem gZ : Gv "ZERO" = some (rt 0) := by decide +kernel
theorem gO : Gv "ONE" = some (rt 1) := by decide +kernel
theorem gMS : Gv "MOST_STEPS" = some (.int 20000) := by decide +kernel
theorem gMC : Gv "MOST_CELLS" = some (.int 60000) := by decide +kernel
section
variable {Φ : Nat → List D → M D} {δ δ' : List (Option D)} {μ μ' : List MO} {d : D}
theorem x_var {i : Nat} (h : δ[i]? = some (some d)) : evE Gv Φ (.var i) δ μ = some (.ok d, μ) := by
  simp only [evE, h]
  rfl
theorem x_zero : evE Gv Φ (.glb "ZERO") δ μ = some (.ok (rt 0), μ) := by
  simp only [evE, gZ, M.opt]
  rfl
theorem open_rt (μ : List MO) (p : Rat) : open1 μ (rt p) = rt p := rfl
theorem x_neZ {a : Ex} {p : Rat} (h : evE Gv Φ a δ μ = some (.ok (rt p), μ')) : evE Gv Φ (.cmp .ne a (.glb "ZERO")) δ μ = some (.ok (.bl (!decide (p = 0))), μ') := by
  simp only [evE, M.bind, h, gZ, M.opt, M.ok, opC, neD, open_rt, flat_rt, rt_ne, Bool.and_self, if_true]
theorem x_eqZ {a : Ex} {p : Rat} (h : evE Gv Φ a δ μ = some (.ok (rt p), μ')) : evE Gv Φ (.cmp .eq a (.glb "ZERO")) δ μ = some (.ok (.bl (decide (p = 0))), μ') := by
  simp only [evE, M.bind, h, gZ, M.opt, M.ok, opC, eqD, open_rt, flat_rt, rt_ne, Bool.and_self, if_true]
theorem x_and {a b : Ex} {x y : Bool} (ha : evE Gv Φ a δ μ = some (.ok (.bl x), μ)) (hb : x = true → evE Gv Φ b δ μ = some (.ok (.bl y), μ)) : evE Gv Φ (.and_ a b) δ μ = some (.ok (.bl (x && y)), μ) := by
  simp only [evE, M.bind, ha, asBl, M.ok]
  cases x with
  | true => simp [hb rfl]
  | false => rfl
theorem x_ite {k a b : Ex} {c : Bool} (h : evE Gv Φ k δ μ = some (.ok (.bl c), μ)) : evE Gv Φ (.ite k a b) δ μ = (if c then evE Gv Φ a δ else evE Gv Φ b δ) μ := by
  simp only [evE, M.bind, h, asBl, M.ok]
end
section
variable {Φ : Nat → List D → M D} {δ : List (Option D)} {μ : List MO}
theorem x_iteT {k a b : Ex} {r : Option (Except PySem.Str D × List MO)} (h : evE Gv Φ k δ μ = some (.ok (.bl true), μ)) (ha : evE Gv Φ a δ μ = r) : evE Gv Φ (.ite k a b) δ μ = r := by
  rw [x_ite h, if_pos rfl]
  exact ha
theorem x_iteF {k a b : Ex} {r : Option (Except PySem.Str D × List MO)} (h : evE Gv Φ k δ μ = some (.ok (.bl false), μ)) (hb : evE Gv Φ b δ μ = r) : evE Gv Φ (.ite k a b) δ μ = r := by
  rw [x_ite h, if_neg Bool.false_ne_true]
  exact hb
end
/-! ### rows -/
def rts (l : List Rat) : List D := l.map rt
def rowD (l : List Rat) : D := .lst (rts l)
def tupD (l : List Rat) : D := .tup (rts l)
theorem plains_rts (l : List Rat) : plains (rts l) = true := plains_iff.mpr fun d hd => by
  obtain ⟨p, _, rfl⟩ := List.mem_map.mp hd
  exact plain_rt p
theorem plain_row (l : List Rat) : plain (rowD l) = true := plains_rts l
theorem plain_tup (l : List Rat) : plain (tupD l) = true := plains_rts l
def dotL : List Rat → List Rat → Rat
  | x :: xs, y :: ys => x * y + dotL xs ys
  | _, _ => 0
/-- the pairs of two rows -/
theorem pairs_rts : ∀ xs ys : List Rat, pairs (rts xs) (rts ys) = (xs.zip ys).map fun p => .tup [rt p.1, rt p.2]
  | [], _ => rfl
  | _ :: _, [] => rfl
  | x :: xs, y :: ys => by
    show D.tup [rt x, rt y] :: pairs (rts xs) (rts ys) = _
    rw [pairs_rts xs ys]
    rfl
theorem r11_loop (j : Nat) (μ : List MO) (src : List (Nat × MO)) (hs : srcOk src μ = true) (o1 o2 : Option D) {a b : Nat} : ∀ (xs ys : List Rat) (acc : Rat) (c : Nat) (l r : Option D), (∀ x ∈ xs, Sz a x) → (∀ y ∈ ys, Sz b y) → Sz c acc →
    c + (a + b + 1) * xs.length ≤ 8000 → ∃ l' r', forL src (.cons (.nm 3) (.cons (.nm 4) .nil)) (fun δ' => exB Gv (R (j + 3)) (.cons (.ite (.and_ (.cmp .ne (.var 3) (.glb "ZERO")) (.cmp .ne (.var 4) (.glb "ZERO")))
      (.cons (.asg (.nm 2) (.call 4 (.cons (.var 2) (.cons (.call 6 (.cons (.var 3) (.cons (.var 4) .nil))) .nil)))) .nil) .nil) .nil) δ') (pairs (rts xs) (rts ys)) [o1, o2, some (rt acc), l, r] μ =
      some (.ok (.nx [o1, o2, some (rt (acc + dotL xs ys)), l', r']), μ)
  | [], ys, acc, c, l, r, _, _, _, _ => ⟨l, r, by
    have : acc + dotL [] ys = acc := by simp [dotL]; grind
    rw [this]
    rfl⟩
  | x :: xs, [], acc, c, l, r, _, _, _, _ => ⟨l, r, by
    have : acc + dotL (x :: xs) [] = acc := by simp [dotL]; grind
    rw [this]
    rfl⟩
  | x :: xs, y :: ys, acc, c, l, r, hx, hy, hacc, hsz => by
    have e1 : (a + b + 1) * (x :: xs).length = (a + b + 1) * xs.length + (a + b + 1) := by rw [List.length_cons, Nat.mul_succ]
    have sx := hx x List.mem_cons_self
    have sy := hy y List.mem_cons_self
    have step : exB Gv (R (j + 3)) (.cons (.ite (.and_ (.cmp .ne (.var 3) (.glb "ZERO")) (.cmp .ne (.var 4) (.glb "ZERO")))
      (.cons (.asg (.nm 2) (.call 4 (.cons (.var 2) (.cons (.call 6 (.cons (.var 3) (.cons (.var 4) .nil))) .nil)))) .nil) .nil) .nil) [o1, o2, some (rt acc), some (rt x), some (rt y)] μ = some (.ok (.nx [o1, o2, some (rt (acc + x * y)), some (rt x), some (rt y)]), μ) := by
      have ht : evE Gv (R (j + 3)) (.and_ (.cmp .ne (.var 3) (.glb "ZERO")) (.cmp .ne (.var 4) (.glb "ZERO"))) [o1, o2, some (rt acc), some (rt x), some (rt y)] μ = some (.ok (.bl (!decide (x = 0) && !decide (y = 0))), μ) :=
        x_and (x_neZ (x_var rfl)) fun _ => x_neZ (x_var rfl)
      refine (xB_nx (δ' := [o1, o2, some (rt (acc + x * y)), some (rt x), some (rt y)]) (μ' := μ) ?_).trans xB_nil
      rw [xS_ite ht]
      by_cases hz : x = 0 ∨ y = 0
      · have : (!decide (x = 0) && !decide (y = 0)) = false := by
          rcases hz with h | h <;> simp [h]
        rw [this]
        have e0 : acc + x * y = acc := by rcases hz with h | h <;> rw [h] <;> grind
        rw [e0]
        exact xB_nil (G := Gv) (Φ := R (j + 3))
      · have : (!decide (x = 0) && !decide (y = 0)) = true := by
          simp only [not_or] at hz
          simp [hz.1, hz.2]
        rw [this]
        have m1 := r_mul j μ x y sx sy (by omega)
        have m2 := r_add j μ acc (x * y) hacc (sx.mul sy) (by omega)
        refine (xB_nx (xS_asg (d := rt (acc + x * y)) (μ' := μ) ?_ rfl)).trans xB_nil
        rw [xE_call (xA_cons (x_var rfl) (xA_cons ((xE_call (xA_cons (x_var rfl) (xA_cons (x_var rfl) xA_nil))).trans m1) xA_nil))]
        exact m2
    obtain ⟨l', r', ih⟩ := r11_loop j μ src hs o1 o2 xs ys (acc + x * y) (c + (a + b) + 1) (some (rt x)) (some (rt y)) (fun z hz => hx z (List.mem_cons_of_mem _ hz)) (fun z hz => hy z (List.mem_cons_of_mem _ hz)) (hacc.add (sx.mul sy)) (by omega)
    refine ⟨l', r', ?_⟩
    have e2 : acc + dotL (x :: xs) (y :: ys) = acc + x * y + dotL xs ys := by
      show acc + (x * y + dotL xs ys) = _
      grind
    rw [e2, ← ih]
    exact forL_nx rfl step hs
theorem r_dot (j : Nat) (μ : List MO) {x y : D} {xs ys : List Rat} (hx : seqOf μ x = some (rts xs)) (hy : seqOf μ y = some (rts ys)) {a b : Nat} (sx : ∀ z ∈ xs, Sz a z) (sy : ∀ z ∈ ys, Sz b z) (h : 1 + (a + b + 1) * xs.length ≤ 8000) :
    R (j + 4) 11 [x, y] μ = some (.ok (rt (dotL xs ys)), μ) := by
  rw [R_eq (f := f11) rfl]
  refine run_pure rfl rfl (plain_rt _) ?_
  obtain ⟨l', r', hl⟩ := r11_loop j μ (srcOf μ x ++ srcOf μ y) srcOk_at2 (some x) (some y) xs ys 0 1 none none sx sy (.zero 1 (by decide)) h
  have e0 : (0 : Rat) + dotL xs ys = dotL xs ys := by grind
  rw [e0] at hl
  show exB Gv (R (j + 3)) (.cons _ (.cons _ (.cons _ .nil))) [some x, some y, none, none, none] μ = _
  refine (xB_nx (xS_asg (μ' := μ) x_zero rfl)).trans ?_
  refine (xB_nx (xS_for (xI_zip (x_var rfl) (x_var rfl) hx hy) hl)).trans ?_
  exact xB_rt (xS_ret (x_var rfl))
/-- a row less a number times another -/
def lessL (f : Rat) : List Rat → List Rat → List Rat
  | x :: xs, y :: ys => (x - f * y) :: lessL f xs ys
  | _, _ => []
theorem zip_map_rt {F : Rat → Rat → Rat} {g : D → D} (h : ∀ x y, g (.tup [rt x, rt y]) = rt (F x y)) (xs ys : List Rat) : ((xs.zip ys).map fun p => D.tup [rt p.1, rt p.2]).map g = rts ((xs.zip ys).map fun p => F p.1 p.2) := by
  unfold rts
  rw [List.map_map, List.map_map]
  exact List.map_congr_left fun p _ => h p.1 p.2
theorem lessL_zip (f : Rat) : ∀ xs ys : List Rat, lessL f xs ys = (xs.zip ys).map fun p => p.1 - f * p.2
  | [], _ => rfl
  | _ :: _, [] => rfl
  | x :: xs, y :: ys => by
    show _ :: _ = _ :: _
    rw [lessL_zip f xs ys]
    rfl
/-- the pair of two fractions, read back -/
def unrt : D → Rat
  | .tup [.int n, .int d] => Rat.divInt n d
  | _ => 0
theorem unrt_rt (p : Rat) : unrt (rt p) = p := Rat.num_divInt_den p
def onPair (F : Rat → Rat → Rat) : D → D
  | .tup [x, y] => rt (F (unrt x) (unrt y))
  | _ => .non
theorem onPair_rt (F : Rat → Rat → Rat) (x y : Rat) : onPair F (.tup [rt x, rt y]) = rt (F x y) := by
  show rt (F (unrt (rt x)) (unrt (rt y))) = _
  rw [unrt_rt, unrt_rt]
theorem len_zip {xs ys : List Rat} {n : Nat} (h : xs.length ≤ n) : (pairs (rts xs) (rts ys)).length ≤ n := by
  rw [pairs_rts, List.length_map, List.length_zip]
  omega
theorem r_lessened (j : Nat) (μ : List MO) {x y : D} {xs ys : List Rat} {f : Rat} (hx : seqOf μ x = some (rts xs)) (hy : seqOf μ y = some (rts ys)) {a b c : Nat} (sx : ∀ z ∈ xs, Sz a z) (sy : ∀ z ∈ ys, Sz b z) (sf : Sz c f) (h : a + b + c ≤ 8000) (hl : xs.length ≤ 1000) :
    R (j + 4) 12 [x, rt f, y] μ = some (.ok (rowD (lessL f xs ys)), μ) := by
  rw [R_eq (f := f12) rfl]
  refine run_pure rfl rfl (plain_row _) ?_
  show exB Gv (R (j + 3)) (.cons _ .nil) [some x, some (rt f), some y, none, none] μ = _
  refine xB_rt (xS_ret ?_)
  refine (xE_comp1 (g := onPair fun x y => x - f * y) (xI_zip (x_var rfl) (x_var rfl) hx hy) srcOk_at2 (Nat.le_trans (len_zip hl) (by decide)) fun d hd => ?_).trans ?_
  · rw [pairs_rts] at hd
    obtain ⟨p, hp, rfl⟩ := List.mem_map.mp hd
    have hp1 : p.1 ∈ xs := (List.of_mem_zip hp).1
    have hp2 : p.2 ∈ ys := (List.of_mem_zip hp).2
    refine ⟨[some x, some (rt f), some y, some (rt p.1), some (rt p.2)], rfl, ?_⟩
    rw [onPair_rt]
    have ht := x_neZ (Φ := R (j + 3)) (δ := [some x, some (rt f), some y, some (rt p.1), some (rt p.2)]) (a := .var 4) (p := p.2) (μ := μ) (x_var rfl)
    by_cases hz : p.2 = 0
    · have : (!decide (p.2 = 0)) = false := by simp [hz]
      rw [this] at ht
      have e : p.1 - f * p.2 = p.1 := by rw [hz]; grind
      rw [e]
      exact x_iteF ht (x_var rfl)
    · have : (!decide (p.2 = 0)) = true := by simp [hz]
      rw [this] at ht
      refine x_iteT ht ?_
      have m1 := r_mul j μ f p.2 sf (sy _ hp2) (by omega)
      have m2 := r_sub j μ p.1 (f * p.2) (sx _ hp1) (sf.mul (sy _ hp2)) (by omega)
      rw [xE_call (xA_cons (x_var rfl) (xA_cons ((xE_call (xA_cons (x_var rfl) (xA_cons (x_var rfl) xA_nil))).trans m1) xA_nil))]
      exact m2
  · show some (Except.ok (D.lst ((pairs (rts xs) (rts ys)).map _)), μ) = _
    rw [pairs_rts, zip_map_rt (onPair_rt _), ← lessL_zip]
    rfl
end K40
end
set_option maxHeartbeats 4000000
section
/-! What the board's methods do, I. -/
namespace K40
open NB
structure Bd where
  n : Nat
  m : Nat
  ls : List (List Rat)
  bs : List (Option Nat)
def obD : Option Nat → D
  | none => .non
  | some k => .int k
def insF (b : Bd) (N : Nat) : List (PySem.Str × D) := [("count", .int b.m), ("width", .int b.n), ("lines", .ptr (N + 1)), ("basic", .ptr (N + 2))]
def mem (μ : List MO) (b : Bd) : List MO := μ ++ [.ins (insF b μ.length), .lst (b.ls.map rowD), .lst (b.bs.map obD)]
section
variable {μ : List MO} {b : Bd}
theorem mem_ins : (mem μ b)[μ.length]? = some (.ins (insF b μ.length)) := by
  unfold mem
  rw [List.getElem?_append_right (Nat.le_refl _), Nat.sub_self]
  rfl
theorem mem_ls : (mem μ b)[μ.length + 1]? = some (.lst (b.ls.map rowD)) := by
  unfold mem
  rw [List.getElem?_append_right (by omega), Nat.add_sub_cancel_left]
  rfl
theorem mem_bs : (mem μ b)[μ.length + 2]? = some (.lst (b.bs.map obD)) := by
  unfold mem
  rw [List.getElem?_append_right (by omega), Nat.add_sub_cancel_left]
  rfl
theorem mem_setL (l : List (List Rat)) : (mem μ b).set (μ.length + 1) (.lst (l.map rowD)) = mem μ { b with ls := l } := by
  unfold mem
  rw [List.set_append_right _ _ (by omega), Nat.add_sub_cancel_left]
  rfl
theorem mem_setB (l : List (Option Nat)) : (mem μ b).set (μ.length + 2) (.lst (l.map obD)) = mem μ { b with bs := l } := by
  unfold mem
  rw [List.set_append_right _ _ (by omega), Nat.add_sub_cancel_left]
  rfl
theorem mem_len : (mem μ b).length = μ.length + 3 := by simp [mem]
theorem lk_count (N : Nat) : (insF b N).lookup ("count" : PySem.Str) = some (.int b.m) := by
  unfold insF
  have h : (("count" : PySem.Str) == ("count" : PySem.Str)) = true := by decide +kernel
  simp only [List.lookup_cons, h]
theorem lk_width (N : Nat) : (insF b N).lookup ("width" : PySem.Str) = some (.int b.n) := by
  unfold insF
  have h1 : (("width" : PySem.Str) == ("count" : PySem.Str)) = false := by decide +kernel
  have h2 : (("width" : PySem.Str) == ("width" : PySem.Str)) = true := by decide +kernel
  simp only [List.lookup_cons, h1, h2]
theorem lk_lines (N : Nat) : (insF b N).lookup ("lines" : PySem.Str) = some (.ptr (N + 1)) := by
  unfold insF
  have h1 : (("lines" : PySem.Str) == ("count" : PySem.Str)) = false := by decide +kernel
  have h2 : (("lines" : PySem.Str) == ("width" : PySem.Str)) = false := by decide +kernel
  have h3 : (("lines" : PySem.Str) == ("lines" : PySem.Str)) = true := by decide +kernel
  simp only [List.lookup_cons, h1, h2, h3]
theorem lk_basic (N : Nat) : (insF b N).lookup ("basic" : PySem.Str) = some (.ptr (N + 2)) := by
  unfold insF
  have h1 : (("basic" : PySem.Str) == ("count" : PySem.Str)) = false := by decide +kernel
  have h2 : (("basic" : PySem.Str) == ("width" : PySem.Str)) = false := by decide +kernel
  have h3 : (("basic" : PySem.Str) == ("lines" : PySem.Str)) = false := by decide +kernel
  have h4 : (("basic" : PySem.Str) == ("basic" : PySem.Str)) = true := by decide +kernel
  simp only [List.lookup_cons, h1, h2, h3, h4]
end
section
variable {Φ : Nat → List D → M D} {δ δ' : List (Option D)} {μ μ' : List MO} {d : D} {b : Bd}
theorem x_fld {f : PySem.Str} {v : D} (h : δ[0]? = some (some (.ptr μ.length))) (hl : (insF b μ.length).lookup f = some v) : evE Gv Φ (.fld (.var 0) f) δ (mem μ b) = some (.ok v, mem μ b) := by
  have hv : evE Gv Φ (.var 0) δ (mem μ b) = some (.ok (.ptr μ.length), mem μ b) := x_var h
  simp only [evE, M.bind] at hv ⊢
  rw [hv]
  simp only [mem_ins, hl]
theorem x_count (h : δ[0]? = some (some (.ptr μ.length))) : evE Gv Φ (.fld (.var 0) "count") δ (mem μ b) = some (.ok (.int b.m), mem μ b) := x_fld h (lk_count _)
theorem x_width (h : δ[0]? = some (some (.ptr μ.length))) : evE Gv Φ (.fld (.var 0) "width") δ (mem μ b) = some (.ok (.int b.n), mem μ b) := x_fld h (lk_width _)
theorem x_lines (h : δ[0]? = some (some (.ptr μ.length))) : evE Gv Φ (.fld (.var 0) "lines") δ (mem μ b) = some (.ok (.ptr (μ.length + 1)), mem μ b) := x_fld h (lk_lines _)
theorem x_basic (h : δ[0]? = some (some (.ptr μ.length))) : evE Gv Φ (.fld (.var 0) "basic") δ (mem μ b) = some (.ok (.ptr (μ.length + 2)), mem μ b) := x_fld h (lk_basic _)
theorem sq_lines : seqOf (mem μ b) (.ptr (μ.length + 1)) = some (b.ls.map rowD) := by simp only [seqOf, mem_ls]
theorem sq_basic : seqOf (mem μ b) (.ptr (μ.length + 2)) = some (b.bs.map obD) := by simp only [seqOf, mem_bs]
theorem x_int (i : Int) : evE Gv Φ (.int i) δ μ = some (.ok (.int i), μ) := by
  simp only [evE]
  rfl
theorem x_add {p q : Ex} {i k : Int} (h : evE Gv Φ p δ μ = some (.ok (.int i), μ)) (h2 : evE Gv Φ q δ μ = some (.ok (.int k), μ)) : evE Gv Φ (.bin .add p q) δ μ = some (.ok (.int (i + k)), μ) := by
  simp only [evE, M.bind, h, h2, opB, addD]
theorem repl_zero : ∀ n : Nat, repl n [rt 0] = rts (List.replicate n 0)
  | 0 => rfl
  | n + 1 => by
    have ih := repl_zero n
    unfold repl rts at ih ⊢
    rw [List.replicate_succ, List.replicate_succ, List.flatten_cons, ih]
    rfl
/-- a row of n times ZERO -/
theorem x_zeros {q : Ex} {n : Nat} (h : evE Gv Φ q δ μ = some (.ok (.int n), μ)) (hn : n ≤ 1000) : evE Gv Φ (.bin .mul (.lst false (.cons (.glb "ZERO") .nil)) q) δ μ = some (.ok (rowD (List.replicate n 0)), μ) := by
  have e1 : evE Gv Φ (.lst false (.cons (.glb "ZERO") .nil)) δ μ = some (.ok (.lst [rt 0]), μ) := by
    simp only [evE, evA, M.bind, gZ, M.opt, M.ok]
    rfl
  have e2 := repl_zero n
  simp only [evE, M.bind] at e1 ⊢
  rw [e1]
  simp only [h, opB, mulD, lstOf]
  have : [rt 0].length * (n : Int).toNat ≤ lim ∧ (-1000000000 : Int) ≤ n ∧ (n : Int) ≤ 1000000000 := by
    refine ⟨?_, by omega, by omega⟩
    show 1 * (n : Int).toNat ≤ 1000000
    omega
  rw [if_pos this]
  simp only [Int.toNat_natCast, e2]
  rfl
end
/-! ### rows from two rows -/
def zipL (F : Rat → Rat → Rat) (xs ys : List Rat) : List Rat := (xs.zip ys).map fun p => F p.1 p.2
theorem zipL_len {F : Rat → Rat → Rat} {xs ys : List Rat} : (zipL F xs ys).length = min xs.length ys.length := by simp [zipL]
theorem zipL_get {F : Rat → Rat → Rat} : ∀ {xs ys : List Rat} {j : Nat}, j < xs.length → j < ys.length → (zipL F xs ys).getD j 0 = F (xs.getD j 0) (ys.getD j 0)
  | [], _, j, h, _ => absurd h (Nat.not_lt_zero j)
  | _ :: _, [], j, _, h => absurd h (Nat.not_lt_zero j)
  | x :: xs, y :: ys, 0, _, _ => rfl
  | x :: xs, y :: ys, j + 1, h1, h2 => by
    have := zipL_get (F := F) (xs := xs) (ys := ys) (j := j) (by simpa using h1) (by simpa using h2)
    simpa [zipL] using this
theorem zipL_all {F : Rat → Rat → Rat} {xs ys : List Rat} {Q : Rat → Prop} (h : ∀ x ∈ xs, ∀ y ∈ ys, Q (F x y)) : ∀ z ∈ zipL F xs ys, Q z := fun z hz => by
  obtain ⟨p, hp, rfl⟩ := List.mem_map.mp hz
  exact h _ (List.of_mem_zip hp).1 _ (List.of_mem_zip hp).2
section
variable {Φ : Nat → List D → M D} {δ δ' : List (Option D)} {μ μ' : List MO} {d : D}
theorem x_zipc {i k : Nat} {own : List Nat} {a b e : Ex} {x y : D} {xs ys : List Rat} {F : Rat → Rat → Rat} (ha : evE Gv Φ a δ μ = some (.ok x, μ)) (hb : evE Gv Φ b δ μ = some (.ok y, μ)) (hx : seqOf μ x = some (rts xs)) (hy : seqOf μ y = some (rts ys)) (hl : xs.length ≤ 1000)
    (h : ∀ p ∈ xs.zip ys, ∃ δ1, bindT (.cons (.nm i) (.cons (.nm k) .nil)) (.tup [rt p.1, rt p.2]) (wipeD δ own) = some δ1 ∧ evE Gv Φ e δ1 μ = some (.ok (rt (F p.1 p.2)), μ)) :
    evE Gv Φ (.comp false own (.cons (.nm i) (.cons (.nm k) .nil)) (.zip a b) .no e) δ μ = some (.ok (rowD (zipL F xs ys)), μ) := by
  refine (xE_comp1 (g := onPair F) (xI_zip ha hb hx hy) srcOk_at2 (Nat.le_trans (len_zip hl) (by decide)) fun d hd => ?_).trans ?_
  · rw [pairs_rts] at hd
    obtain ⟨p, hp, rfl⟩ := List.mem_map.mp hd
    obtain ⟨δ1, h1, h2⟩ := h p hp
    exact ⟨δ1, h1, by rw [onPair_rt]; exact h2⟩
  · show some (Except.ok (D.lst ((pairs (rts xs) (rts ys)).map _)), μ) = _
    rw [pairs_rts, zip_map_rt (onPair_rt _)]
    rfl
theorem x_isN {a : Ex} {o : Option Nat} (h : evE Gv Φ a δ μ = some (.ok (obD o), μ)) : evE Gv Φ (.cmp .is_ a .non) δ μ = some (.ok (.bl o.isNone), μ) := by
  simp only [evE, M.bind, h]
  cases o <;> rfl
theorem x_isnN {a : Ex} {o : Option Nat} (h : evE Gv Φ a δ μ = some (.ok (obD o), μ)) : evE Gv Φ (.cmp .isn a .non) δ μ = some (.ok (.bl o.isSome), μ) := by
  simp only [evE, M.bind, h]
  cases o <;> rfl
theorem xS_iteT {k : Ex} {a b : Sxs} {r : Option (Except PySem.Str Fl × List MO)} (h : evE Gv Φ k δ μ = some (.ok (.bl true), μ)) (ha : exB Gv Φ a δ μ = r) : exS Gv Φ (.ite k a b) δ μ = r := by
  rw [xS_ite h, if_pos rfl]
  exact ha
theorem xS_iteF {k : Ex} {a b : Sxs} {r : Option (Except PySem.Str Fl × List MO)} (h : evE Gv Φ k δ μ = some (.ok (.bl false), μ)) (hb : exB Gv Φ b δ μ = r) : exS Gv Φ (.ite k a b) δ μ = r := by
  rw [xS_ite h, if_neg Bool.false_ne_true]
  exact hb
end
/-! ### lack_line -/
def lackL : List (List Rat) → List (Option Nat) → List Rat → List Rat
  | l :: ls, none :: bs, acc => lackL ls bs (zipL (· + ·) acc l)
  | _ :: ls, some _ :: bs, acc => lackL ls bs acc
  | _, _, acc => acc
theorem lackL_len : ∀ (ls : List (List Rat)) (bs : List (Option Nat)) (acc : List Rat), (lackL ls bs acc).length ≤ acc.length
  | [], _, acc => Nat.le_refl _
  | _ :: _, [], acc => Nat.le_refl _
  | l :: ls, none :: bs, acc => by
    have := lackL_len ls bs (zipL (· + ·) acc l)
    rw [zipL_len] at this
    show (lackL ls bs (zipL (· + ·) acc l)).length ≤ _
    omega
  | _ :: ls, some _ :: bs, acc => lackL_len ls bs acc
theorem r16_loop (j : Nat) (μ : List MO) (src : List (Nat × MO)) (hs : srcOk src μ = true) (o0 : Option D) {a : Nat} : ∀ (ls : List (List Rat)) (bs : List (Option Nat)) (acc : List Rat) (c : Nat) (s2 s3 s4 s5 : Option D), (∀ l ∈ ls, ∀ x ∈ l, Sz a x) → (∀ x ∈ acc, Sz c x) → acc.length ≤ 1000 →
    c + (a + 1) * ls.length ≤ 8000 → ∃ s2' s3' s4' s5', forL src (.cons (.nm 2) (.cons (.nm 3) .nil)) (fun δ' => exB Gv (R (j + 3)) (.cons (.ite (.cmp .is_ (.var 3) .non)
    (.cons (.asg (.nm 1) (.comp false [4, 5] (.cons (.nm 4) (.cons (.nm 5) .nil)) (.zip (.var 1) (.var 2)) .no (.call 4 (.cons (.var 4) (.cons (.var 5) .nil)))))
    .nil) .nil) .nil) δ') (pairs (ls.map rowD) (bs.map obD)) [o0, some (rowD acc), s2, s3, s4, s5] μ = some (.ok (.nx [o0, some (rowD (lackL ls bs acc)), s2', s3', s4', s5']), μ)
  | [], bs, acc, c, s2, s3, s4, s5, _, _, _, _ => ⟨s2, s3, s4, s5, rfl⟩
  | _ :: _, [], acc, c, s2, s3, s4, s5, _, _, _, _ => ⟨s2, s3, s4, s5, rfl⟩
  | l :: ls, some k :: bs, acc, c, s2, s3, s4, s5, hl, ha, hn, hz => by
    have e1 : (a + 1) * (l :: ls).length = (a + 1) * ls.length + (a + 1) := by rw [List.length_cons, Nat.mul_succ]
    obtain ⟨s2', s3', s4', s5', ih⟩ := r16_loop j μ src hs o0 ls bs acc c (some (rowD l)) (some (obD (some k))) s4 s5 (fun z hz => hl z (List.mem_cons_of_mem _ hz)) ha hn (by omega)
    refine ⟨s2', s3', s4', s5', (forL_nx (δ1 := [o0, some (rowD acc), some (rowD l), some (obD (some k)), s4, s5]) (δ2 := [o0, some (rowD acc), some (rowD l), some (obD (some k)), s4, s5]) (μ' := μ) rfl ?_ hs).trans ih⟩
    refine (xB_nx (μ' := μ) (xS_iteF (x_isN (o := some k) (x_var rfl)) (xB_nil (G := Gv)))).trans xB_nil
  | l :: ls, none :: bs, acc, c, s2, s3, s4, s5, hl, ha, hn, hz => by
    have e1 : (a + 1) * (l :: ls).length = (a + 1) * ls.length + (a + 1) := by rw [List.length_cons, Nat.mul_succ]
    have sl := hl l List.mem_cons_self
    have hz2 := zipL_len (F := (· + ·)) (xs := acc) (ys := l)
    obtain ⟨s2', s3', s4', s5', ih⟩ := r16_loop j μ src hs o0 ls bs (zipL (· + ·) acc l) (c + a + 1) (some (rowD l)) (some (obD none)) s4 s5 (fun z hz => hl z (List.mem_cons_of_mem _ hz)) (zipL_all fun x hx y hy => (ha x hx).add (sl y hy)) (by omega) (by omega)
    refine ⟨s2', s3', s4', s5', (forL_nx (δ1 := [o0, some (rowD acc), some (rowD l), some (obD none), s4, s5]) (δ2 := [o0, some (rowD (zipL (· + ·) acc l)), some (rowD l), some (obD none), s4, s5]) (μ' := μ) rfl ?_ hs).trans ih⟩
    refine (xB_nx (μ' := μ) (xS_iteT (x_isN (o := none) (x_var rfl)) ((xB_nx (xS_asg (d := rowD (zipL (· + ·) acc l)) (μ' := μ) ?_ rfl)).trans xB_nil))).trans xB_nil
    refine x_zipc (x_var rfl) (x_var rfl) rfl rfl hn fun p hp => ⟨[o0, some (rowD acc), some (rowD l), some (obD none), some (rt p.1), some (rt p.2)], rfl, ?_⟩
    rw [xE_call (xA_cons (x_var rfl) (xA_cons (x_var rfl) xA_nil))]
    exact r_add j μ p.1 p.2 (ha _ (List.of_mem_zip hp).1) (sl _ (List.of_mem_zip hp).2) (by omega)
def Bd.lack (b : Bd) : List Rat := lackL b.ls b.bs (List.replicate (b.n + b.m + 1) 0)
theorem r_lack (j : Nat) (μ : List MO) (b : Bd) {a : Nat} (hl : ∀ l ∈ b.ls, ∀ x ∈ l, Sz a x) (hn : b.n + b.m + 1 ≤ 1000) (hz : 1 + (a + 1) * b.ls.length ≤ 8000) : R (j + 4) 16 [.ptr μ.length] (mem μ b) = some (.ok (rowD b.lack), mem μ b) := by
  rw [R_eq (f := f16) rfl]
  refine run_pure rfl rfl (plain_row _) ?_
  have h0 : ∀ x ∈ List.replicate (b.n + b.m + 1) (0 : Rat), Sz 1 x := fun x hx => by
    rw [List.eq_of_mem_replicate hx]
    exact .zero 1 (by decide)
  obtain ⟨s2', s3', s4', s5', hloop⟩ := r16_loop j (mem μ b) (srcOf (mem μ b) (.ptr (μ.length + 1)) ++ srcOf (mem μ b) (.ptr (μ.length + 2))) srcOk_at2 (some (.ptr μ.length)) b.ls b.bs (List.replicate (b.n + b.m + 1) 0) 1 none none none none hl h0 (by rw [List.length_replicate]; exact hn) hz
  show exB Gv (R (j + 3)) (.cons _ (.cons _ (.cons _ .nil))) [some (.ptr μ.length), none, none, none, none, none] (mem μ b) = _
  refine (xB_nx (xS_asg (d := rowD (List.replicate (b.n + b.m + 1) 0)) (μ' := mem μ b) (x_zeros ?_ hn) rfl)).trans ?_
  · exact x_add (x_add (x_width rfl) (x_count rfl)) (x_int 1)
  refine (xB_nx (xS_for (xI_zip (x_lines rfl) (x_basic rfl) sq_lines sq_basic) hloop)).trans ?_
  exact xB_rt (xS_ret (x_var rfl))
end K40
end
set_option maxHeartbeats 4000000
section
/-! What the board's methods do, II: price_line, turn. -/
namespace K40
open NB
section
variable {Φ : Nat → List D → M D} {δ δ' : List (Option D)} {μ μ' : List MO} {d : D}
theorem atI_nat {ds : List D} {k : Nat} {d : D} (h : ds[k]? = some d) : L2.atI ds (k : Int) = some d := by
  obtain ⟨hl, _⟩ := List.getElem?_eq_some_iff.mp h
  have : L2.ixN ds.length (k : Int) = some k := by
    unfold L2.ixN
    simp
    omega
  unfold L2.atI
  rw [this]
  exact h
theorem x_idx {a i : Ex} {x : D} {ds : List D} {k : Nat} (ha : evE Gv Φ a δ μ = some (.ok x, μ)) (hi : evE Gv Φ i δ μ = some (.ok (.int k), μ)) (hx : seqOf μ x = some ds) (hk : ds[k]? = some d) : evE Gv Φ (.idx a i) δ μ = some (.ok d, μ) := by
  simp only [evE, M.bind, ha, hi, hx, atI_nat hk]
theorem atI_last {ds : List D} {d : D} (h : ds.getLast? = some d) : L2.atI ds (-1) = some d := by
  have hl : ds.length ≠ 0 := by
    intro e
    have : ds = [] := List.eq_nil_of_length_eq_zero e
    rw [this] at h
    cases h
  have : L2.ixN ds.length (-1) = some (ds.length - 1) := by
    unfold L2.ixN
    simp
    omega
  unfold L2.atI
  rw [this]
  rw [List.getLast?_eq_getElem?] at h
  exact h
theorem x_last {a : Ex} {x : D} {ds : List D} (ha : evE Gv Φ a δ μ = some (.ok x, μ)) (hx : seqOf μ x = some ds) (hk : ds.getLast? = some d) : evE Gv Φ (.idx a (.neg (.int 1))) δ μ = some (.ok d, μ) := by
  have e : evE Gv Φ (.neg (.int 1)) δ μ = some (.ok (.int (-1)), μ) := by
    simp only [evE, M.bind, M.ok]
  simp only [evE, M.bind] at e ⊢
  rw [ha]
  simp only [e, hx, atI_last hk]
theorem rts_get {l : List Rat} {k : Nat} (h : k < l.length) : (rts l)[k]? = some (rt (l.getD k 0)) := by
  unfold rts
  rw [List.getElem?_map, List.getElem?_eq_getElem h]
  simp [List.getD_eq_getElem?_getD, List.getElem?_eq_getElem h]
theorem rows_get {ls : List (List Rat)} {k : Nat} (h : k < ls.length) : (ls.map rowD)[k]? = some (rowD (ls.getD k [])) := by
  rw [List.getElem?_map, List.getElem?_eq_getElem h]
  simp [List.getD_eq_getElem?_getD, List.getElem?_eq_getElem h]
theorem obs_get {bs : List (Option Nat)} {k : Nat} (h : k < bs.length) : (bs.map obD)[k]? = some (obD (bs.getD k none)) := by
  rw [List.getElem?_map, List.getElem?_eq_getElem h]
  simp [List.getD_eq_getElem?_getD, List.getElem?_eq_getElem h]
theorem getD_mem {α : Type} {l : List α} {k : Nat} {d : α} (h : k < l.length) : l.getD k d ∈ l := by
  rw [List.getD_eq_getElem?_getD, List.getElem?_eq_getElem h]
  exact List.getElem_mem h
end
/-! ### price_line -/
def subM (f : Rat) (x y : Rat) : Rat := x - f * y
def priceL (w : List Rat) : List (List Rat) → List (Option Nat) → List Rat → List Rat
  | l :: ls, some p :: bs, acc => if w.getD p 0 = 0 then priceL w ls bs acc else priceL w ls bs (zipL (subM (w.getD p 0)) acc l)
  | _ :: ls, none :: bs, acc => priceL w ls bs acc
  | _, _, acc => acc
theorem r15_loop (j : Nat) (μ : List MO) (src : List (Nat × MO)) (hs : srcOk src μ = true) (o0 : Option D) (w : List Rat) {a e : Nat} (hw : ∀ x ∈ w, Sz e x) : ∀ (ls : List (List Rat)) (bs : List (Option Nat)) (acc : List Rat) (c : Nat) (s3 s4 s5 s6 : Option D), (∀ l ∈ ls, ∀ x ∈ l, Sz a x) → (∀ p, some p ∈ bs → p < w.length) → (∀ x ∈ acc, Sz c x) → acc.length ≤ 1000 →
    c + (e + a + 1) * ls.length ≤ 8000 → ∃ s3' s4' s5' s6', forL src (.cons (.nm 3) (.cons (.nm 4) .nil)) (fun δ' => exB Gv (R (j + 3)) (.cons (.ite (.and_ (.cmp .isn (.var 4) .non) (.cmp .ne (.idx (.var 1) (.var 4)) (.glb "ZERO")))
    (.cons (.asg (.nm 2) (.comp false [5, 6] (.cons (.nm 5) (.cons (.nm 6) .nil)) (.zip (.var 2) (.var 3)) .no (.call 5 (.cons (.var 5) (.cons (.call 6 (.cons (.idx (.var 1) (.var 4)) (.cons (.var 6) .nil))) .nil)))))
    .nil) .nil) .nil) δ') (pairs (ls.map rowD) (bs.map obD)) [o0, some (tupD w), some (rowD acc), s3, s4, s5, s6] μ = some (.ok (.nx [o0, some (tupD w), some (rowD (priceL w ls bs acc)), s3', s4', s5', s6']), μ)
  | [], bs, acc, c, s3, s4, s5, s6, _, _, _, _, _ => ⟨s3, s4, s5, s6, rfl⟩
  | _ :: _, [], acc, c, s3, s4, s5, s6, _, _, _, _, _ => ⟨s3, s4, s5, s6, rfl⟩
  | l :: ls, none :: bs, acc, c, s3, s4, s5, s6, hl, hb, ha, hn, hz => by
    have e1 : (e + a + 1) * (l :: ls).length = (e + a + 1) * ls.length + (e + a + 1) := by rw [List.length_cons, Nat.mul_succ]
    obtain ⟨s3', s4', s5', s6', ih⟩ := r15_loop j μ src hs o0 w hw ls bs acc c (some (rowD l)) (some (obD none)) s5 s6 (fun z hz => hl z (List.mem_cons_of_mem _ hz)) (fun p hp => hb p (List.mem_cons_of_mem _ hp)) ha hn (by omega)
    refine ⟨s3', s4', s5', s6', (forL_nx (δ1 := [o0, some (tupD w), some (rowD acc), some (rowD l), some (obD none), s5, s6]) (δ2 := [o0, some (tupD w), some (rowD acc), some (rowD l), some (obD none), s5, s6]) (μ' := μ) rfl ?_ hs).trans ih⟩
    exact (xB_nx (μ' := μ) (xS_iteF (x_and (y := false) (x_isnN (o := none) (x_var rfl)) (fun h => by cases h)) (xB_nil (G := Gv)))).trans xB_nil
  | l :: ls, some p :: bs, acc, c, s3, s4, s5, s6, hl, hb, ha, hn, hz => by
    have e1 : (e + a + 1) * (l :: ls).length = (e + a + 1) * ls.length + (e + a + 1) := by rw [List.length_cons, Nat.mul_succ]
    have sl := hl l List.mem_cons_self
    have hp : p < w.length := hb p List.mem_cons_self
    have sw : Sz e (w.getD p 0) := hw _ (getD_mem hp)
    have hz2 := zipL_len (F := subM (w.getD p 0)) (xs := acc) (ys := l)
    have hwp : ∀ s5 s6 : Option D, evE Gv (R (j + 3)) (.idx (.var 1) (.var 4)) [o0, some (tupD w), some (rowD acc), some (rowD l), some (obD (some p)), s5, s6] μ = some (.ok (rt (w.getD p 0)), μ) := fun s5 s6 =>
      x_idx (x := tupD w) (x_var rfl) (x_var rfl) rfl (rts_get hp)
    have ht : evE Gv (R (j + 3)) (.and_ (.cmp .isn (.var 4) .non) (.cmp .ne (.idx (.var 1) (.var 4)) (.glb "ZERO"))) [o0, some (tupD w), some (rowD acc), some (rowD l), some (obD (some p)), s5, s6] μ = some (.ok (.bl (!decide (w.getD p 0 = 0))), μ) :=
      x_and (x := true) (x_isnN (o := some p) (x_var rfl)) fun _ => x_neZ (hwp s5 s6)
    by_cases h0 : w.getD p 0 = 0
    · have hb0 : (!decide (w.getD p 0 = 0)) = false := by rw [decide_eq_true h0]; rfl
      rw [hb0] at ht
      obtain ⟨s3', s4', s5', s6', ih⟩ := r15_loop j μ src hs o0 w hw ls bs acc c (some (rowD l)) (some (obD (some p))) s5 s6 (fun z hz => hl z (List.mem_cons_of_mem _ hz)) (fun p hp => hb p (List.mem_cons_of_mem _ hp)) ha hn (by omega)
      have er : priceL w (l :: ls) (some p :: bs) acc = priceL w ls bs acc := if_pos h0
      rw [er]
      refine ⟨s3', s4', s5', s6', (forL_nx (δ1 := [o0, some (tupD w), some (rowD acc), some (rowD l), some (obD (some p)), s5, s6]) (δ2 := [o0, some (tupD w), some (rowD acc), some (rowD l), some (obD (some p)), s5, s6]) (μ' := μ) rfl ?_ hs).trans ih⟩
      exact (xB_nx (μ' := μ) (xS_iteF ht (xB_nil (G := Gv)))).trans xB_nil
    · have hb0 : (!decide (w.getD p 0 = 0)) = true := by rw [decide_eq_false h0]; rfl
      rw [hb0] at ht
      obtain ⟨s3', s4', s5', s6', ih⟩ := r15_loop j μ src hs o0 w hw ls bs (zipL (subM (w.getD p 0)) acc l) (c + (e + a) + 1) (some (rowD l)) (some (obD (some p))) s5 s6 (fun z hz => hl z (List.mem_cons_of_mem _ hz)) (fun p hp => hb p (List.mem_cons_of_mem _ hp)) (zipL_all fun x hx y hy => (ha x hx).sub (sw.mul (sl y hy))) (by omega) (by omega)
      have er : priceL w (l :: ls) (some p :: bs) acc = priceL w ls bs (zipL (subM (w.getD p 0)) acc l) := if_neg h0
      rw [er]
      refine ⟨s3', s4', s5', s6', (forL_nx (δ1 := [o0, some (tupD w), some (rowD acc), some (rowD l), some (obD (some p)), s5, s6]) (δ2 := [o0, some (tupD w), some (rowD (zipL (subM (w.getD p 0)) acc l)), some (rowD l), some (obD (some p)), s5, s6]) (μ' := μ) rfl ?_ hs).trans ih⟩
      refine (xB_nx (μ' := μ) (xS_iteT ht ((xB_nx (xS_asg (d := rowD (zipL (subM (w.getD p 0)) acc l)) (μ' := μ) ?_ rfl)).trans xB_nil))).trans xB_nil
      refine x_zipc (x_var rfl) (x_var rfl) rfl rfl hn fun q hq => ⟨[o0, some (tupD w), some (rowD acc), some (rowD l), some (obD (some p)), some (rt q.1), some (rt q.2)], rfl, ?_⟩
      have m1 := r_mul j μ (w.getD p 0) q.2 sw (sl _ (List.of_mem_zip hq).2) (by omega)
      have m2 := r_sub j μ q.1 (w.getD p 0 * q.2) (ha _ (List.of_mem_zip hq).1) (sw.mul (sl _ (List.of_mem_zip hq).2)) (by omega)
      rw [xE_call (xA_cons (x_var rfl) (xA_cons ((xE_call (xA_cons (hwp _ _) (xA_cons (x_var rfl) xA_nil))).trans m1) xA_nil))]
      exact m2
def Bd.price (b : Bd) (w : List Rat) : List Rat := priceL w b.ls b.bs (w ++ List.replicate (b.m + 1) 0)
theorem r_price (j : Nat) (μ : List MO) (b : Bd) (w : List Rat) {a e : Nat} (he : 0 < e) (hw : ∀ x ∈ w, Sz e x) (hl : ∀ l ∈ b.ls, ∀ x ∈ l, Sz a x) (hb : ∀ p, some p ∈ b.bs → p < w.length) (hn : w.length + (b.m + 1) ≤ 1000) (hz : e + (e + a + 1) * b.ls.length ≤ 8000) :
    R (j + 4) 15 [.ptr μ.length, tupD w] (mem μ b) = some (.ok (rowD (b.price w)), mem μ b) := by
  rw [R_eq (f := f15) rfl]
  refine run_pure rfl rfl (plain_row _) ?_
  have h0 : ∀ x ∈ w ++ List.replicate (b.m + 1) (0 : Rat), Sz e x := fun x hx => by
    rcases List.mem_append.mp hx with h | h
    · exact hw x h
    · rw [List.eq_of_mem_replicate h]
      exact .zero e he
  obtain ⟨s3', s4', s5', s6', hloop⟩ := r15_loop j (mem μ b) (srcOf (mem μ b) (.ptr (μ.length + 1)) ++ srcOf (mem μ b) (.ptr (μ.length + 2))) srcOk_at2 (some (.ptr μ.length)) w hw b.ls b.bs (w ++ List.replicate (b.m + 1) 0) e none none none none hl hb h0 (by rw [List.length_append, List.length_replicate]; exact hn) hz
  show exB Gv (R (j + 3)) (.cons _ (.cons _ (.cons _ .nil))) [some (.ptr μ.length), some (tupD w), none, none, none, none, none] (mem μ b) = _
  refine (xB_nx (xS_asg (d := rowD (w ++ List.replicate (b.m + 1) 0)) (μ' := mem μ b) ?_ rfl)).trans ?_
  · have e1 : evE Gv (R (j + 3)) (.list false (.var 1)) [some (.ptr μ.length), some (tupD w), none, none, none, none, none] (mem μ b) = some (.ok (rowD w), mem μ b) := by
      have := x_var (Φ := R (j + 3)) (δ := [some (.ptr μ.length), some (tupD w), none, none, none, none, none]) (i := 1) (d := tupD w) (μ := mem μ b) rfl
      simp only [evE, M.bind] at this ⊢
      rw [this]
      rfl
    have e2 : evE Gv (R (j + 3)) (.bin .mul (.lst false (.cons (.glb "ZERO") .nil)) (.bin .add (.fld (.var 0) "count") (.int 1))) [some (.ptr μ.length), some (tupD w), none, none, none, none, none] (mem μ b) = some (.ok (rowD (List.replicate (b.m + 1) 0)), mem μ b) := x_zeros (x_add (x_count rfl) (x_int 1)) (by omega)
    simp only [evE, M.bind] at e1 e2 ⊢
    rw [e1]
    simp only
    rw [e2]
    simp only [opB, addD, rowD, lstOf]
    have : (rts w).length + (rts (List.replicate (b.m + 1) 0)).length ≤ lim := by
      simp only [rts, List.length_map, List.length_replicate]
      exact Nat.le_trans hn (by decide)
    rw [if_pos this]
    simp only [rts, List.map_append]
  refine (xB_nx (xS_for (xI_zip (x_lines rfl) (x_basic rfl) sq_lines sq_basic) hloop)).trans ?_
  exact xB_rt (xS_ret (x_var rfl))
end K40
end
set_option maxHeartbeats 4000000
section
/-! What the board's methods do, III: turn, leaving, numbers, multiples. -/
namespace K40
open NB
section
variable {Φ : Nat → List D → M D} {δ δ' : List (Option D)} {μ μ' : List MO} {d : D} {b : Bd}
theorem ixN_nat {n k : Nat} (h : k < n) : L2.ixN n (k : Int) = some k := by
  unfold L2.ixN
  simp
  omega
theorem xS_setL {i e : Ex} {l : List Rat} {k : Nat} (h0 : δ[0]? = some (some (.ptr μ.length))) (he : evE Gv Φ e δ (mem μ b) = some (.ok (rowD l), mem μ b)) (hi : evE Gv Φ i δ (mem μ b) = some (.ok (.int k), mem μ b)) (hk : k < b.ls.length) :
    exS Gv Φ (.setI (.fld (.var 0) "lines") i e) δ (mem μ b) = some (.ok (.nx δ), mem μ { b with ls := b.ls.set k l }) := by
  have ho := x_lines (Φ := Φ) (b := b) h0
  have hx : L2.ixN (b.ls.map rowD).length (k : Int) = some k := ixN_nat (by rw [List.length_map]; exact hk)
  have hm := mem_setL (μ := μ) (b := b) (b.ls.set k l)
  rw [List.map_set] at hm
  simp only [exS, M.bind, he, ho, hi, mem_ls, hx]
  rw [hm]
theorem xS_setB {i e : Ex} {o : Option Nat} {k : Nat} (h0 : δ[0]? = some (some (.ptr μ.length))) (he : evE Gv Φ e δ (mem μ b) = some (.ok (obD o), mem μ b)) (hi : evE Gv Φ i δ (mem μ b) = some (.ok (.int k), mem μ b)) (hk : k < b.bs.length) :
    exS Gv Φ (.setI (.fld (.var 0) "basic") i e) δ (mem μ b) = some (.ok (.nx δ), mem μ { b with bs := b.bs.set k o }) := by
  have ho := x_basic (Φ := Φ) (b := b) h0
  have hx : L2.ixN (b.bs.map obD).length (k : Int) = some k := ixN_nat (by rw [List.length_map]; exact hk)
  have hm := mem_setB (μ := μ) (b := b) (b.bs.set k o)
  rw [List.map_set] at hm
  simp only [exS, M.bind, he, ho, hi, mem_bs, hx]
  rw [hm]
theorem x_lineAt {i : Ex} {k : Nat} (h0 : δ[0]? = some (some (.ptr μ.length))) (hi : evE Gv Φ i δ (mem μ b) = some (.ok (.int k), mem μ b)) (hk : k < b.ls.length) :
    evE Gv Φ (.idx (.fld (.var 0) "lines") i) δ (mem μ b) = some (.ok (rowD (b.ls.getD k [])), mem μ b) := x_idx (x_lines h0) hi sq_lines (rows_get hk)
theorem x_basAt {i : Ex} {k : Nat} (h0 : δ[0]? = some (some (.ptr μ.length))) (hi : evE Gv Φ i δ (mem μ b) = some (.ok (.int k), mem μ b)) (hk : k < b.bs.length) :
    evE Gv Φ (.idx (.fld (.var 0) "basic") i) δ (mem μ b) = some (.ok (obD (b.bs.getD k none)), mem μ b) := x_idx (x_basic h0) hi sq_basic (obs_get hk)
theorem x_rowAt {a i : Ex} {l : List Rat} {k : Nat} (ha : evE Gv Φ a δ μ = some (.ok (rowD l), μ)) (hi : evE Gv Φ i δ μ = some (.ok (.int k), μ)) (hk : k < l.length) : evE Gv Φ (.idx a i) δ μ = some (.ok (rt (l.getD k 0)), μ) := x_idx ha hi rfl (rts_get hk)
end
theorem getD_set_eq {α : Type} {l : List α} {k : Nat} {x d : α} (h : k < l.length) : (l.set k x).getD k d = x := by
  rw [List.getD_eq_getElem?_getD, List.getElem?_set_self h]
  rfl
theorem getD_set_ne {α : Type} {l : List α} {k i : Nat} {x d : α} (h : k ≠ i) : (l.set k x).getD i d = l.getD i d := by
  rw [List.getD_eq_getElem?_getD, List.getElem?_set_ne h, ← List.getD_eq_getElem?_getD]
/-! ### turn -/
def divL (p : Rat) (l : List Rat) : List Rat := l.map fun x => x / p
def stepT (r c : Nat) (piv : List Rat) (k : Nat) (ls : List (List Rat)) : List (List Rat) := if k ≠ r ∧ (ls.getD k []).getD c 0 ≠ 0 then ls.set k (lessL ((ls.getD k []).getD c 0) (ls.getD k []) piv) else ls
def loopT (r c : Nat) (piv : List Rat) : Nat → Nat → List (List Rat) → List (List Rat)
  | _, 0, ls => ls
  | k, n + 1, ls => loopT r c piv (k + 1) n (stepT r c piv k ls)
def turnL (m r c : Nat) (ls : List (List Rat)) : List (List Rat) := loopT r c (divL ((ls.getD r []).getD c 0) (ls.getD r [])) 0 m (ls.set r (divL ((ls.getD r []).getD c 0) (ls.getD r [])))
def Bd.turn (b : Bd) (r c : Nat) : Bd := { b with ls := turnL b.m r c b.ls, bs := b.bs.set r (some c) }
theorem stepT_len {r c : Nat} {piv : List Rat} {k : Nat} {ls : List (List Rat)} : (stepT r c piv k ls).length = ls.length := by
  unfold stepT
  split <;> simp
theorem stepT_ne {r c : Nat} {piv : List Rat} {k i : Nat} {ls : List (List Rat)} (h : k ≠ i) : (stepT r c piv k ls).getD i [] = ls.getD i [] := by
  unfold stepT
  split
  · exact getD_set_ne h
  · rfl
theorem r17_loop (j : Nat) (μ : List MO) (r c : Nat) (lead : Option D) (piv : List Rat) {a : Nat} (ha : 4 * a ≤ 8000) (sp : ∀ x ∈ piv, Sz (2 * a) x) : ∀ (n k : Nat) (b : Bd) (s6 s7 : Option D), k + n = b.ls.length → (∀ i, k ≤ i → i < b.ls.length → (∀ x ∈ b.ls.getD i [], Sz a x) ∧ c < (b.ls.getD i []).length ∧ (b.ls.getD i []).length ≤ 1000 ∨ i = r ∧ c < (b.ls.getD i []).length) →
    ∃ s6' s7', forL [] (.nm 6) (fun δ' => exB Gv (R (j + 4)) (.cons (.asg (.nm 7) (.idx (.idx (.fld (.var 0) "lines") (.var 6)) (.var 2)))
    (.cons (.ite (.and_ (.cmp .ne (.var 6) (.var 1)) (.cmp .ne (.var 7) (.glb "ZERO")))
    (.cons (.setI (.fld (.var 0) "lines") (.var 6) (.call 12 (.cons (.idx (.fld (.var 0) "lines") (.var 6)) (.cons (.var 7) (.cons (.var 5) .nil)))))
    .nil) .nil) .nil)) δ') (intsD k n) [some (.ptr μ.length), some (.int r), some (.int c), lead, none, some (rowD piv), s6, s7] (mem μ b) =
      some (.ok (.nx [some (.ptr μ.length), some (.int r), some (.int c), lead, none, some (rowD piv), s6', s7']), mem μ { b with ls := loopT r c piv k n b.ls })
  | 0, k, b, s6, s7, _, _ => ⟨s6, s7, rfl⟩
  | n + 1, k, b, s6, s7, hk, hl => by
    have hkl : k < b.ls.length := by omega
    have hc : c < (b.ls.getD k []).length := by
      rcases hl k (Nat.le_refl k) hkl with h | h
      · exact h.2.1
      · exact h.2
    obtain ⟨s6', s7', ih⟩ := r17_loop j μ r c lead piv ha sp n (k + 1) { b with ls := stepT r c piv k b.ls } (some (.int k)) (some (rt ((b.ls.getD k []).getD c 0))) (by rw [stepT_len]; omega) (fun i h1 h2 => by
      have h2 : i < b.ls.length := by rw [stepT_len] at h2; exact h2
      show (∀ x ∈ (stepT r c piv k b.ls).getD i [], Sz a x) ∧ c < ((stepT r c piv k b.ls).getD i []).length ∧ ((stepT r c piv k b.ls).getD i []).length ≤ 1000 ∨ i = r ∧ c < ((stepT r c piv k b.ls).getD i []).length
      rw [stepT_ne (by omega)]
      exact hl i (by omega) h2)
    refine ⟨s6', s7', (forL_nx (δ1 := [some (.ptr μ.length), some (.int r), some (.int c), lead, none, some (rowD piv), some (.int k), s7]) (δ2 := [some (.ptr μ.length), some (.int r), some (.int c), lead, none, some (rowD piv), some (.int k), some (rt ((b.ls.getD k []).getD c 0))]) (μ' := mem μ { b with ls := stepT r c piv k b.ls }) rfl ?_ rfl).trans (by exact_mod_cast ih)⟩
    refine (xB_nx (xS_asg (d := rt ((b.ls.getD k []).getD c 0)) (μ' := mem μ b) (x_rowAt (x_lineAt rfl (x_var rfl) hkl) (x_var rfl) hc) rfl)).trans ?_
    have ht : evE Gv (R (j + 4)) (.and_ (.cmp .ne (.var 6) (.var 1)) (.cmp .ne (.var 7) (.glb "ZERO"))) [some (.ptr μ.length), some (.int r), some (.int c), lead, none, some (rowD piv), some (.int k), some (rt ((b.ls.getD k []).getD c 0))] (mem μ b) = some (.ok (.bl (!decide (k = r) && !decide ((b.ls.getD k []).getD c 0 = 0))), mem μ b) := by
      refine x_and ?_ fun _ => x_neZ (x_var rfl)
      simp [evE, M.bind, M.ok, opC, neD, open1, flat, peq]
      rw [Bool.eq_iff_iff]
      simp
      omega
    by_cases hq : k ≠ r ∧ (b.ls.getD k []).getD c 0 ≠ 0
    · have hb : (!decide (k = r) && !decide ((b.ls.getD k []).getD c 0 = 0)) = true := by rw [decide_eq_false hq.1, decide_eq_false hq.2]; rfl
      rw [hb] at ht
      obtain ⟨sl, _, hlen⟩ : (∀ x ∈ b.ls.getD k [], Sz a x) ∧ c < (b.ls.getD k []).length ∧ (b.ls.getD k []).length ≤ 1000 := by
        rcases hl k (Nat.le_refl k) hkl with h | h
        · exact h
        · exact absurd h.1 hq.1
      have es : stepT r c piv k b.ls = b.ls.set k (lessL ((b.ls.getD k []).getD c 0) (b.ls.getD k []) piv) := if_pos hq
      rw [es]
      refine (xB_nx (xS_iteT ht ((xB_nx (xS_setL rfl ?_ (x_var rfl) hkl)).trans xB_nil))).trans xB_nil
      rw [xE_call (xA_cons (x_lineAt rfl (x_var rfl) hkl) (xA_cons (x_var rfl) (xA_cons (x_var rfl) xA_nil)))]
      exact r_lessened j (mem μ b) rfl rfl sl sp (sl _ (getD_mem hc)) (by omega) hlen
    · have hb : (!decide (k = r) && !decide ((b.ls.getD k []).getD c 0 = 0)) = false := by
        by_cases h1 : k = r
        · rw [decide_eq_true h1]; rfl
        · have h2 : (b.ls.getD k []).getD c 0 = 0 := Classical.byContradiction fun h => hq ⟨h1, h⟩
          rw [decide_eq_true h2]; simp
      rw [hb] at ht
      have es : stepT r c piv k b.ls = b.ls := if_neg hq
      rw [es]
      exact (xB_nx (xS_iteF ht (xB_nil (G := Gv)))).trans xB_nil
theorem r_turn (j : Nat) (μ : List MO) (b : Bd) (r c : Nat) {a : Nat} (ha : 4 * a ≤ 8000) (hm : b.m = b.ls.length) (hbs : b.bs.length = b.ls.length) (hr : r < b.ls.length) (hl : ∀ l ∈ b.ls, (∀ x ∈ l, Sz a x) ∧ c < l.length ∧ l.length ≤ 1000) (h0 : (b.ls.getD r []).getD c 0 ≠ 0) (hm2 : b.m ≤ 1000) :
    R (j + 5) 17 [.ptr μ.length, .int r, .int c] (mem μ b) = some (.ok .non, mem μ (b.turn r c)) := by
  rw [R_eq (f := f17) rfl]
  obtain ⟨slr, hcr, hlr⟩ := hl _ (getD_mem (d := []) hr)
  have sp : ∀ x ∈ divL ((b.ls.getD r []).getD c 0) (b.ls.getD r []), Sz (2 * a) x := fun x hx => by
    obtain ⟨y, hy, rfl⟩ := List.mem_map.mp hx
    have := (slr y hy).div (slr _ (getD_mem hcr)) h0
    exact this.mono (by omega)
  have key : ∃ δ, exB Gv (R (j + 4)) f17.body [some (.ptr μ.length), some (.int r), some (.int c), none, none, none, none, none] (mem μ b) = some (.ok (.nx δ), mem μ (b.turn r c)) := by
    obtain ⟨s6', s7', hloop⟩ := r17_loop j μ r c (some (rt ((b.ls.getD r []).getD c 0))) (divL ((b.ls.getD r []).getD c 0) (b.ls.getD r [])) ha sp b.m 0 { b with ls := b.ls.set r (divL ((b.ls.getD r []).getD c 0) (b.ls.getD r [])) } none none (by simp [hm]) (fun i _ hi => by
      have hi : i < b.ls.length := by simpa using hi
      by_cases e : r = i
      · right
        refine ⟨e.symm, ?_⟩
        show c < ((b.ls.set r _).getD i []).length
        rw [← e, getD_set_eq hr]
        simpa [divL] using hcr
      · left
        show (∀ x ∈ (b.ls.set r _).getD i [], Sz a x) ∧ c < ((b.ls.set r _).getD i []).length ∧ ((b.ls.set r _).getD i []).length ≤ 1000
        rw [getD_set_ne e]
        exact hl _ (getD_mem hi))
    refine ⟨[some (.ptr μ.length), some (.int r), some (.int c), some (rt ((b.ls.getD r []).getD c 0)), none, some (rowD (divL ((b.ls.getD r []).getD c 0) (b.ls.getD r []))), s6', s7'], ?_⟩
    show exB Gv (R (j + 4)) (.cons _ (.cons _ (.cons _ (.cons _ (.cons _ .nil))))) _ _ = _
    refine (xB_nx (xS_asg (d := rt ((b.ls.getD r []).getD c 0)) (μ' := mem μ b) (x_rowAt (x_lineAt rfl (x_var rfl) hr) (x_var rfl) hcr) rfl)).trans ?_
    refine (xB_nx (xS_setL (l := divL ((b.ls.getD r []).getD c 0) (b.ls.getD r [])) (k := r) rfl ?_ (x_var rfl) hr)).trans ?_
    · refine (xE_comp1 (g := fun d => rt (unrt d / (b.ls.getD r []).getD c 0)) (xI_seq (d := rowD (b.ls.getD r [])) (x_lineAt rfl (x_var rfl) hr) rfl) rfl ?_ fun d hd => ?_).trans ?_
      · show (rts _).length ≤ lim
        simp only [rts, List.length_map]
        exact Nat.le_trans hlr (by decide)
      · obtain ⟨p, hp, rfl⟩ := List.mem_map.mp hd
        refine ⟨[some (.ptr μ.length), some (.int r), some (.int c), some (rt ((b.ls.getD r []).getD c 0)), some (rt p), none, none, none], rfl, ?_⟩
        rw [unrt_rt]
        have ht := x_neZ (Φ := R (j + 4)) (δ := [some (.ptr μ.length), some (.int r), some (.int c), some (rt ((b.ls.getD r []).getD c 0)), some (rt p), none, none, none]) (a := .var 4) (p := p) (μ := mem μ b) (x_var rfl)
        by_cases hz : p = 0
        · have : (!decide (p = 0)) = false := by rw [decide_eq_true hz]; rfl
          rw [this] at ht
          have e : p / (b.ls.getD r []).getD c 0 = 0 := by rw [hz, Rat.div_def]; grind
          rw [e]
          exact x_iteF ht x_zero
        · have : (!decide (p = 0)) = true := by rw [decide_eq_false hz]; rfl
          rw [this] at ht
          refine x_iteT ht ?_
          rw [xE_call (xA_cons (x_var rfl) (xA_cons (x_var rfl) xA_nil))]
          exact r_div (j + 1) (mem μ b) p _ (slr p hp) (slr _ (getD_mem hcr)) (by omega) h0
      · show some (Except.ok (D.lst ((rts _).map _)), _) = some (Except.ok (D.lst (rts (divL _ _))), _)
        congr 4
        unfold rts divL
        rw [List.map_map, List.map_map]
        exact List.map_congr_left fun p _ => by simp [unrt_rt]
    refine (xB_nx (xS_asg (d := rowD (divL ((b.ls.getD r []).getD c 0) (b.ls.getD r []))) (μ' := mem μ { b with ls := b.ls.set r (divL ((b.ls.getD r []).getD c 0) (b.ls.getD r [])) }) ?_ rfl)).trans ?_
    · have := x_lineAt (Φ := R (j + 4)) (μ := μ) (b := { b with ls := b.ls.set r (divL ((b.ls.getD r []).getD c 0) (b.ls.getD r [])) }) (δ := [some (.ptr μ.length), some (.int r), some (.int c), some (rt ((b.ls.getD r []).getD c 0)), none, none, none, none]) (i := .var 1) (k := r) rfl (x_var rfl) (by simpa using hr)
      refine this.trans ?_
      show some (Except.ok (rowD ((b.ls.set r _).getD r [])), _) = _
      rw [getD_set_eq hr]
    have e0 : ((0 : Nat) : Int) = 0 := rfl
    rw [e0] at hloop
    refine (xB_nx (xS_for (xI_rng (n := b.m) (x_count (μ := μ) (b := { b with ls := b.ls.set r (divL ((b.ls.getD r []).getD c 0) (b.ls.getD r [])) }) rfl) (by omega)) hloop)).trans ?_
    refine (xB_nx (xS_setB (o := some c) (k := r) rfl (x_var rfl) (x_var rfl) ?_)).trans xB_nil
    show r < b.bs.length
    omega
  obtain ⟨δ, hk⟩ := key
  exact run_cellsN rfl rfl (by rw [mem_len, mem_len]) hk
end K40
end
set_option maxHeartbeats 4000000
section
/-! What the board's methods do, IV: leaving, numbers, multiples. -/
namespace K40
open NB
section
variable {Φ : Nat → List D → M D} {δ δ' : List (Option D)} {μ μ' : List MO} {d : D} {b : Bd}
theorem num_pos_iff (p : Rat) : (0 < p.num) ↔ 0 < p := by
  have h1 : (0 ≤ p.num) ↔ 0 ≤ p := Rat.num_nonneg
  have h2 : p.num = 0 ↔ p = 0 := Rat.num_eq_zero
  constructor
  · intro h
    have a := h1.mp (by omega)
    have b : p ≠ 0 := fun e => by have := h2.mpr e; omega
    grind
  · intro h
    have a := h1.mpr (by grind)
    have b : p.num ≠ 0 := fun e => by have := h2.mp e; grind
    omega
/-- .. [0] > 0 -/
theorem x_pos {a : Ex} {p : Rat} (h : evE Gv Φ a δ μ = some (.ok (rt p), μ)) : evE Gv Φ (.cmp .gt (.idx a (.int 0)) (.int 0)) δ μ = some (.ok (.bl (decide (0 < p))), μ) := by
  have e : evE Gv Φ (.idx a (.int 0)) δ μ = some (.ok (.int p.num), μ) := x_idx (k := 0) h (x_int 0) rfl rfl
  have e2 : decide (0 < p.num) = decide (0 < p) := by
    rw [Bool.eq_iff_iff, decide_eq_true_eq, decide_eq_true_eq]
    exact num_pos_iff p
  simp only [evE, M.bind] at e ⊢
  rw [e]
  simp only [M.ok, opC, ordD]
  rw [← e2]
theorem x_or {a b : Ex} {x y : Bool} (ha : evE Gv Φ a δ μ = some (.ok (.bl x), μ)) (hb : x = false → evE Gv Φ b δ μ = some (.ok (.bl y), μ)) : evE Gv Φ (.or_ a b) δ μ = some (.ok (.bl (x || y)), μ) := by
  simp only [evE, M.bind, ha, asBl, M.ok]
  cases x with
  | true => rfl
  | false => simp [hb rfl]
theorem x_eqR {a b : Ex} {p q : Rat} (h : evE Gv Φ a δ μ = some (.ok (rt p), μ)) (h2 : evE Gv Φ b δ μ = some (.ok (rt q), μ)) : evE Gv Φ (.cmp .eq a b) δ μ = some (.ok (.bl (decide (p = q))), μ) := by
  simp only [evE, M.bind, h, h2, opC, eqD, open_rt, flat_rt, rt_ne, Bool.and_self, if_true]
theorem x_ltI {a b : Ex} {p q : Int} (h : evE Gv Φ a δ μ = some (.ok (.int p), μ)) (h2 : evE Gv Φ b δ μ = some (.ok (.int q), μ)) : evE Gv Φ (.cmp .lt a b) δ μ = some (.ok (.bl (decide (p < q))), μ) := by
  simp only [evE, M.bind, h, h2, opC, ordD]
theorem rts_last {l : List Rat} (h : l ≠ []) : (rts l).getLast? = some (rt (l.getLastD 0)) := by
  unfold rts
  rw [List.getLast?_map]
  cases l with
  | nil => exact absurd rfl h
  | cons x xs => simp [List.getLast?_cons, List.getLastD_cons]
end
/-! ### leaving -/
def keyI (o : Option Nat) : Int := match o with
  | some k => k
  | none => -1
/-- the best row till now -/
abbrev Best := Option (Rat × Nat × Int)
def bestS : Best → D
  | none => .non
  | some (s, _, _) => rt s
def bestF : Best → D
  | none => .non
  | some (_, k, i) => .tup [.int k, .int i]
def better (s : Rat) (i : Int) : Best → Bool
  | none => true
  | some (s0, _, i0) => decide (s < s0) || (decide (s = s0) && decide (i < i0))
def leavS (c : Nat) (o : Option Nat) (k : Nat) (l : List Rat) (st : Best) : Best :=
  if 0 < l.getD c 0 then (if better (l.getLastD 0 / l.getD c 0) (keyI o) st then some (l.getLastD 0 / l.getD c 0, k, keyI o) else st) else st
def leavL (c : Nat) (bs : List (Option Nat)) : Nat → List (List Rat) → Best → Best
  | _, [], st => st
  | k, l :: ls, st => leavL c bs (k + 1) ls (leavS c (bs.getD k none) k l st)
def Bd.leaving (b : Bd) (c : Nat) : Option Nat := (leavL c b.bs 0 b.ls none).map fun z => z.2.1
def BestSz (a : Nat) : Best → Prop
  | none => True
  | some (s, _, _) => Sz a s
theorem r18_loop (j : Nat) (μ : List MO) (b : Bd) (c : Nat) {a : Nat} (ha : 4 * a ≤ 8000) : ∀ (ls : List (List Rat)) (k : Nat) (st : Best) (s4 s5 s6 s7 : Option D), k + ls.length ≤ b.bs.length → (∀ l ∈ ls, (∀ x ∈ l, Sz a x) ∧ c < l.length) → BestSz (2 * a) st →
    ∃ s4' s5' s6' s7', forL (srcOf (mem μ b) (.ptr (μ.length + 1))) (.cons (.nm 4) (.cons (.nm 5) .nil)) (fun δ' => exB Gv (R (j + 3)) (.cons (.ite (.cmp .gt (.idx (.idx (.var 5) (.var 1)) (.int 0)) (.int 0))
    (.cons (.asg (.nm 6) (.call 7 (.cons (.idx (.var 5) (.neg (.int 1))) (.cons (.idx (.var 5) (.var 1)) .nil))))
    (.cons (.asg (.nm 7) (.ite (.cmp .isn (.idx (.fld (.var 0) "basic") (.var 4)) .non) (.idx (.fld (.var 0) "basic") (.var 4)) (.neg (.int 1))))
    (.cons (.ite (.or_ (.cmp .is_ (.var 2) .non) (.or_ (.call 8 (.cons (.var 6) (.cons (.var 2) .nil))) (.and_ (.cmp .eq (.var 6) (.var 2)) (.cmp .lt (.var 7) (.idx (.var 3) (.int 1))))))
    (.cons (.par 2 3 (.var 6) (.tup (.cons (.var 4) (.cons (.var 7) .nil))))
    .nil) .nil)
    .nil))) .nil) .nil) δ') (enums k (ls.map rowD)) [some (.ptr μ.length), some (.int c), some (bestS st), some (bestF st), s4, s5, s6, s7] (mem μ b) =
      some (.ok (.nx [some (.ptr μ.length), some (.int c), some (bestS (leavL c b.bs k ls st)), some (bestF (leavL c b.bs k ls st)), s4', s5', s6', s7']), mem μ b)
  | [], k, st, s4, s5, s6, s7, _, _, _ => ⟨s4, s5, s6, s7, rfl⟩
  | l :: ls, k, st, s4, s5, s6, s7, hk, hl, hst => by
    have hkb : k < b.bs.length := by rw [List.length_cons] at hk; omega
    obtain ⟨sl, hc⟩ := hl l List.mem_cons_self
    have hpos : ∀ s6 s7 : Option D, evE Gv (R (j + 3)) (.cmp .gt (.idx (.idx (.var 5) (.var 1)) (.int 0)) (.int 0)) [some (.ptr μ.length), some (.int c), some (bestS st), some (bestF st), some (.int k), some (rowD l), s6, s7] (mem μ b) = some (.ok (.bl (decide (0 < l.getD c 0))), mem μ b) := fun s6 s7 =>
      x_pos (x_rowAt (x_var rfl) (x_var rfl) hc)
    by_cases hp : 0 < l.getD c 0
    · have ht := hpos s6 s7
      rw [decide_eq_true hp] at ht
      have hne : l.getD c 0 ≠ 0 := by grind
      have hnil : l ≠ [] := by intro e; rw [e] at hc; exact absurd hc (Nat.not_lt_zero c)
      have slast : Sz a (l.getLastD 0) := by
        cases l with
        | nil => exact absurd rfl hnil
        | cons x xs => exact sl _ (by rw [List.getLastD_cons]; cases xs with
          | nil => simp
          | cons y ys => rw [List.getLastD_cons]; exact List.mem_cons_of_mem _ (by
              have : ∀ (z : Rat) (l : List Rat), l.getLastD z ∈ z :: l := by
                intro z l
                induction l generalizing z with
                | nil => simp
                | cons w ws ih => rw [List.getLastD_cons]; exact List.mem_cons_of_mem _ (ih w)
              exact this y ys))
      have sshare : Sz (2 * a) (l.getLastD 0 / l.getD c 0) := (slast.div (sl _ (getD_mem hc)) hne).mono (by omega)
      have m1 := r_div j (mem μ b) _ _ slast (sl _ (getD_mem hc)) (by omega) hne
      generalize hS : l.getLastD 0 / l.getD c 0 = S at *
      have e6 : evE Gv (R (j + 3)) (.call 7 (.cons (.idx (.var 5) (.neg (.int 1))) (.cons (.idx (.var 5) (.var 1)) .nil))) [some (.ptr μ.length), some (.int c), some (bestS st), some (bestF st), some (.int k), some (rowD l), s6, s7] (mem μ b) = some (.ok (rt S), mem μ b) := by
        rw [xE_call (xA_cons (x_last (x := rowD l) (x_var rfl) rfl (rts_last hnil)) (xA_cons (x_rowAt (x_var rfl) (x_var rfl) hc) xA_nil))]
        exact m1
      have e7 : evE Gv (R (j + 3)) (.ite (.cmp .isn (.idx (.fld (.var 0) "basic") (.var 4)) .non) (.idx (.fld (.var 0) "basic") (.var 4)) (.neg (.int 1))) [some (.ptr μ.length), some (.int c), some (bestS st), some (bestF st), some (.int k), some (rowD l), some (rt S), s7] (mem μ b) = some (.ok (.int (keyI (b.bs.getD k none))), mem μ b) := by
        have hb := x_basAt (Φ := R (j + 3)) (μ := μ) (b := b) (δ := [some (.ptr μ.length), some (.int c), some (bestS st), some (bestF st), some (.int k), some (rowD l), some (rt S), s7]) (i := .var 4) (k := k) rfl (x_var rfl) hkb
        generalize b.bs.getD k none = o at hb ⊢
        have hi := x_isnN hb
        cases o with
        | none =>
          refine x_iteF hi ?_
          simp only [evE, M.bind, M.ok]
          rfl
        | some p => exact x_iteT hi hb
      generalize hK : keyI (b.bs.getD k none) = K at *
      have e8 : evE Gv (R (j + 3)) (.or_ (.cmp .is_ (.var 2) .non) (.or_ (.call 8 (.cons (.var 6) (.cons (.var 2) .nil))) (.and_ (.cmp .eq (.var 6) (.var 2)) (.cmp .lt (.var 7) (.idx (.var 3) (.int 1)))))) [some (.ptr μ.length), some (.int c), some (bestS st), some (bestF st), some (.int k), some (rowD l), some (rt S), some (.int K)] (mem μ b) = some (.ok (.bl (better S K st)), mem μ b) := by
        cases st with
        | none =>
          have : better S K none = (true || false) := rfl
          rw [this]
          refine x_or ?_ fun h => by cases h
          simp only [evE, M.bind, M.ok, bestS]
          rfl
        | some z =>
          obtain ⟨s0, k0, i0⟩ := z
          have : better S K (some (s0, k0, i0)) = (false || (decide (S < s0) || (decide (S = s0) && decide (K < i0)))) := rfl
          rw [this]
          have hs0 : Sz (2 * a) s0 := hst
          refine x_or ?_ fun _ => x_or ?_ fun _ => x_and (x_eqR (x_var rfl) (x_var rfl)) fun _ => x_ltI (x_var rfl) (x_idx (k := 1) (x_var (d := .tup [.int k0, .int i0]) rfl) (x_int 1) rfl rfl)
          · simp only [evE, M.bind, M.ok, bestS]
            rfl
          · rw [xE_call (xA_cons (x_var rfl) (xA_cons (x_var rfl) xA_nil))]
            exact r_less (j + 2) (mem μ b) S s0 sshare hs0 (by omega) (by omega)
      have es : leavS c (b.bs.getD k none) k l st = if better S K st then some (S, k, K) else st := by
        unfold leavS
        rw [if_pos hp, hS, hK]
      have hst' : BestSz (2 * a) (leavS c (b.bs.getD k none) k l st) := by
        rw [es]
        split
        · exact sshare
        · exact hst
      obtain ⟨s4', s5', s6', s7', ih⟩ := r18_loop j μ b c ha ls (k + 1) (leavS c (b.bs.getD k none) k l st) (some (.int k)) (some (rowD l)) (some (rt S)) (some (.int K)) (by rw [List.length_cons] at hk; omega) (fun z hz => hl z (List.mem_cons_of_mem _ hz)) hst'
      refine ⟨s4', s5', s6', s7', (forL_nx (δ1 := [some (.ptr μ.length), some (.int c), some (bestS st), some (bestF st), some (.int k), some (rowD l), s6, s7]) (δ2 := [some (.ptr μ.length), some (.int c), some (bestS (leavS c (b.bs.getD k none) k l st)), some (bestF (leavS c (b.bs.getD k none) k l st)), some (.int k), some (rowD l), some (rt S), some (.int K)]) (μ' := mem μ b) rfl ?_ srcOk_at).trans ih⟩
      refine (xB_nx (μ' := mem μ b) (xS_iteT ht ((xB_nx (xS_asg e6 rfl)).trans ((xB_nx (xS_asg e7 rfl)).trans ((xB_nx (μ' := mem μ b) (δ' := [some (.ptr μ.length), some (.int c), some (bestS (leavS c (b.bs.getD k none) k l st)), some (bestF (leavS c (b.bs.getD k none) k l st)), some (.int k), some (rowD l), some (rt S), some (.int K)]) ?_).trans xB_nil))))).trans xB_nil
      rw [es]
      by_cases hb : better S K st = true
      · rw [if_pos hb]
        rw [hb] at e8
        refine xS_iteT e8 ((xB_nx (μ' := mem μ b) (δ' := [some (.ptr μ.length), some (.int c), some (rt S), some (.tup [.int k, .int K]), some (.int k), some (rowD l), some (rt S), some (.int K)]) ?_).trans xB_nil)
        simp [exS, evE, evA, M.bind, M.ok, lim]
      · have hb' : better S K st = false := by simpa using hb
        rw [if_neg hb]
        rw [hb'] at e8
        exact xS_iteF e8 xB_nil
    · have ht := hpos s6 s7
      rw [decide_eq_false hp] at ht
      have es : leavS c (b.bs.getD k none) k l st = st := if_neg hp
      have el : leavL c b.bs k (l :: ls) st = leavL c b.bs (k + 1) ls st := by
        show leavL c b.bs (k + 1) ls (leavS c (b.bs.getD k none) k l st) = _
        rw [es]
      rw [el]
      obtain ⟨s4', s5', s6', s7', ih⟩ := r18_loop j μ b c ha ls (k + 1) st (some (.int k)) (some (rowD l)) s6 s7 (by rw [List.length_cons] at hk; omega) (fun z hz => hl z (List.mem_cons_of_mem _ hz)) hst
      refine ⟨s4', s5', s6', s7', (forL_nx (δ1 := [some (.ptr μ.length), some (.int c), some (bestS st), some (bestF st), some (.int k), some (rowD l), s6, s7]) (δ2 := [some (.ptr μ.length), some (.int c), some (bestS st), some (bestF st), some (.int k), some (rowD l), s6, s7]) (μ' := mem μ b) rfl ?_ srcOk_at).trans ih⟩
      exact (xB_nx (μ' := mem μ b) (xS_iteF ht (xB_nil (G := Gv)))).trans xB_nil
theorem r_leaving (j : Nat) (μ : List MO) (b : Bd) (c : Nat) {a : Nat} (ha : 4 * a ≤ 8000) (hk : b.ls.length ≤ b.bs.length) (hl : ∀ l ∈ b.ls, (∀ x ∈ l, Sz a x) ∧ c < l.length) : R (j + 4) 18 [.ptr μ.length, .int c] (mem μ b) = some (.ok (obD (b.leaving c)), mem μ b) := by
  rw [R_eq (f := f18) rfl]
  refine run_pure rfl rfl (by cases b.leaving c <;> rfl) ?_
  obtain ⟨s4', s5', s6', s7', hloop⟩ := r18_loop j μ b c ha b.ls 0 none none none none none (by omega) hl trivial
  show exB Gv (R (j + 3)) (.cons _ (.cons _ (.cons _ .nil))) [some (.ptr μ.length), some (.int c), none, none, none, none, none, none] (mem μ b) = _
  refine (xB_nx (xS_asg (d := .tup [.non, .non]) (μ' := mem μ b) ?_ rfl)).trans ?_
  · simp [evE, evA, M.bind, M.ok, lim]
  refine (xB_nx (xS_for (xI_enm (x_lines rfl) sq_lines) hloop)).trans ?_
  refine xB_rt (xS_ret ?_)
  unfold Bd.leaving
  cases leavL c b.bs 0 b.ls none with
  | none =>
    refine x_iteT ?_ ?_
    · simp only [evE, M.bind, M.ok]
      rfl
    · simp only [evE]
      rfl
  | some z =>
    obtain ⟨s, k, i⟩ := z
    refine x_iteF ?_ (x_idx (k := 0) (x_var (d := .tup [.int k, .int i]) rfl) (x_int 0) rfl rfl)
    simp only [evE, M.bind, M.ok]
    rfl
end K40
end
set_option maxHeartbeats 4000000
section
/-! What the board's methods do, V: numbers, multiples, columns, clear. -/
namespace K40
open NB
/-! ### numbers -/
def numsL : List (List Rat) → List (Option Nat) → List Rat → List Rat
  | l :: ls, some p :: bs, acc => numsL ls bs (acc.set p (l.getLastD 0))
  | _ :: ls, none :: bs, acc => numsL ls bs acc
  | _, _, acc => acc
theorem numsL_len : ∀ (ls : List (List Rat)) (bs : List (Option Nat)) (acc : List Rat), (numsL ls bs acc).length = acc.length
  | [], _, acc => rfl
  | _ :: _, [], acc => rfl
  | l :: ls, some p :: bs, acc => by
    show (numsL ls bs (acc.set p _)).length = _
    rw [numsL_len ls bs, List.length_set]
  | _ :: ls, none :: bs, acc => numsL_len ls bs acc
def Bd.numbers (b : Bd) : List Rat := numsL b.ls b.bs (List.replicate b.n 0)
def memN (μ : List MO) (b : Bd) (acc : List Rat) : List MO := mem μ b ++ [.lst (rts acc)]
section
variable {μ : List MO} {b : Bd} {acc : List Rat}
theorem memN_at : (memN μ b acc)[μ.length + 3]? = some (.lst (rts acc)) := by
  unfold memN
  rw [List.getElem?_append_right (by rw [mem_len]; omega), mem_len, Nat.sub_self]
  rfl
theorem memN_set (acc' : List Rat) : (memN μ b acc).set (μ.length + 3) (.lst (rts acc')) = memN μ b acc' := by
  unfold memN
  rw [List.set_append_right _ _ (by rw [mem_len]; omega), mem_len, Nat.sub_self]
  rfl
theorem memN_old {k : Nat} (h : k < μ.length + 3) : (memN μ b acc)[k]? = (mem μ b)[k]? := by
  unfold memN
  exact List.getElem?_append_left (by rw [mem_len]; exact h)
end
theorem src_lb (μ : List MO) (b : Bd) : srcOf (mem μ b) (.ptr (μ.length + 1)) ++ srcOf (mem μ b) (.ptr (μ.length + 2)) = [(μ.length + 1, .lst (b.ls.map rowD)), (μ.length + 2, .lst (b.bs.map obD))] := by
  simp only [srcOf, mem_ls, mem_bs]
  rfl
theorem srcN (μ : List MO) (b : Bd) (acc : List Rat) : srcOk [(μ.length + 1, .lst (b.ls.map rowD)), (μ.length + 2, .lst (b.bs.map obD))] (memN μ b acc) = true := by
  simp only [srcOk, List.all_cons, List.all_nil, Bool.and_true, memN_old (show μ.length + 1 < μ.length + 3 by omega), memN_old (show μ.length + 2 < μ.length + 3 by omega), mem_ls, mem_bs, decide_true, Bool.and_self]
theorem r22_loop (j : Nat) (μ : List MO) (b : Bd) : ∀ (ls : List (List Rat)) (bs : List (Option Nat)) (acc : List Rat) (s2 s3 : Option D), (∀ l ∈ ls, l ≠ []) → (∀ p, some p ∈ bs → p < acc.length) →
    ∃ s2' s3', forL [(μ.length + 1, .lst (b.ls.map rowD)), (μ.length + 2, .lst (b.bs.map obD))] (.cons (.nm 2) (.cons (.nm 3) .nil)) (fun δ' => exB Gv (R j) (.cons (.ite (.cmp .isn (.var 3) .non)
    (.cons (.setI (.var 1) (.var 3) (.idx (.var 2) (.neg (.int 1)))) .nil) .nil) .nil) δ') (pairs (ls.map rowD) (bs.map obD)) [some (.ptr μ.length), some (.ptr (μ.length + 3)), s2, s3] (memN μ b acc) =
      some (.ok (.nx [some (.ptr μ.length), some (.ptr (μ.length + 3)), s2', s3']), memN μ b (numsL ls bs acc))
  | [], bs, acc, s2, s3, _, _ => ⟨s2, s3, rfl⟩
  | _ :: _, [], acc, s2, s3, _, _ => ⟨s2, s3, rfl⟩
  | l :: ls, none :: bs, acc, s2, s3, hl, hb => by
    obtain ⟨s2', s3', ih⟩ := r22_loop j μ b ls bs acc (some (rowD l)) (some (obD none)) (fun z hz => hl z (List.mem_cons_of_mem _ hz)) (fun p hp => hb p (List.mem_cons_of_mem _ hp))
    refine ⟨s2', s3', (forL_nx (δ1 := [some (.ptr μ.length), some (.ptr (μ.length + 3)), some (rowD l), some (obD none)]) (δ2 := [some (.ptr μ.length), some (.ptr (μ.length + 3)), some (rowD l), some (obD none)]) (μ' := memN μ b acc) rfl ?_ (srcN μ b acc)).trans ih⟩
    exact (xB_nx (μ' := memN μ b acc) (xS_iteF (x_isnN (o := none) (x_var rfl)) (xB_nil (G := Gv)))).trans xB_nil
  | l :: ls, some p :: bs, acc, s2, s3, hl, hb => by
    have hp : p < acc.length := hb p List.mem_cons_self
    obtain ⟨s2', s3', ih⟩ := r22_loop j μ b ls bs (acc.set p (l.getLastD 0)) (some (rowD l)) (some (obD (some p))) (fun z hz => hl z (List.mem_cons_of_mem _ hz)) (fun q hq => by rw [List.length_set]; exact hb q (List.mem_cons_of_mem _ hq))
    refine ⟨s2', s3', (forL_nx (δ1 := [some (.ptr μ.length), some (.ptr (μ.length + 3)), some (rowD l), some (obD (some p))]) (δ2 := [some (.ptr μ.length), some (.ptr (μ.length + 3)), some (rowD l), some (obD (some p))]) (μ' := memN μ b (acc.set p (l.getLastD 0))) rfl ?_ (srcN μ b _)).trans ih⟩
    refine (xB_nx (μ' := memN μ b (acc.set p (l.getLastD 0))) (δ' := [some (.ptr μ.length), some (.ptr (μ.length + 3)), some (rowD l), some (obD (some p))]) ?_).trans xB_nil
    rw [xS_ite (x_isnN (o := some p) (x_var rfl))]
    show exB Gv (R j) (.cons _ .nil) _ _ = _
    refine (xB_nx (μ' := memN μ b (acc.set p (l.getLastD 0))) (δ' := [some (.ptr μ.length), some (.ptr (μ.length + 3)), some (rowD l), some (obD (some p))]) ?_).trans xB_nil
    have e1 : evE Gv (R j) (.idx (.var 2) (.neg (.int 1))) [some (.ptr μ.length), some (.ptr (μ.length + 3)), some (rowD l), some (obD (some p))] (memN μ b acc) = some (.ok (rt (l.getLastD 0)), memN μ b acc) := x_last (x := rowD l) (x_var rfl) rfl (rts_last (hl l List.mem_cons_self))
    have e2 : evE Gv (R j) (.var 1) [some (.ptr μ.length), some (.ptr (μ.length + 3)), some (rowD l), some (obD (some p))] (memN μ b acc) = some (.ok (.ptr (μ.length + 3)), memN μ b acc) := x_var rfl
    have e3 : evE Gv (R j) (.var 3) [some (.ptr μ.length), some (.ptr (μ.length + 3)), some (rowD l), some (obD (some p))] (memN μ b acc) = some (.ok (.int p), memN μ b acc) := x_var rfl
    have hx : L2.ixN (rts acc).length (p : Int) = some p := ixN_nat (by simp only [rts, List.length_map]; exact hp)
    have hm : (memN μ b acc).set (μ.length + 3) (.lst ((rts acc).set p (rt (l.getLastD 0)))) = memN μ b (acc.set p (l.getLastD 0)) := by
      rw [← memN_set (μ := μ) (b := b) (acc := acc) (acc.set p (l.getLastD 0))]
      unfold rts
      rw [List.map_set]
    simp only [exS, M.bind, e1, e2, e3, memN_at, hx]
    rw [hm]
theorem r_numbers (j : Nat) (μ : List MO) (b : Bd) (hn : b.n ≤ 1000) (hl : ∀ l ∈ b.ls, l ≠ []) (hb : ∀ p, some p ∈ b.bs → p < b.n) : R (j + 1) 22 [.ptr μ.length] (mem μ b) = some (.ok (tupD b.numbers), mem μ b) := by
  rw [R_eq (f := f22) rfl]
  obtain ⟨s2', s3', hloop⟩ := r22_loop j μ b b.ls b.bs (List.replicate b.n 0) none none hl (fun p hp => by rw [List.length_replicate]; exact hb p hp)
  refine run_drop (μ' := memN μ b b.numbers) rfl rfl (plain_tup _) (by unfold memN; simp) ?_
  show exB Gv (R j) (.cons _ (.cons _ (.cons _ .nil))) [some (.ptr μ.length), none, none, none] (mem μ b) = _
  refine (xB_nx (xS_asg (d := .ptr (μ.length + 3)) (μ' := memN μ b (List.replicate b.n 0)) ?_ rfl)).trans ?_
  · have e1 : evE Gv (R j) (.lst false (.cons (.glb "ZERO") .nil)) [some (.ptr μ.length), none, none, none] (mem μ b) = some (.ok (.lst [rt 0]), mem μ b) := by
      simp only [evE, evA, M.bind, gZ, M.opt, M.ok]
      rfl
    have e2 := x_width (Φ := R j) (b := b) (μ := μ) (δ := [some (.ptr μ.length), none, none, none]) rfl
    simp only [evE, M.bind] at e1 e2 ⊢
    rw [e1]
    simp only
    rw [e2]
    simp only [opBL, lstOf]
    have : [rt 0].length * (b.n : Int).toNat ≤ lim ∧ (-1000000000 : Int) ≤ b.n ∧ (b.n : Int) ≤ 1000000000 := by
      refine ⟨?_, by omega, by omega⟩
      show 1 * (b.n : Int).toNat ≤ 1000000
      omega
    rw [if_pos this]
    simp only [fresh, if_true, mem_len, Int.toNat_natCast, repl_zero]
    rfl
  have hi : evI Gv (R j) (.zip (.fld (.var 0) "lines") (.fld (.var 0) "basic")) [some (.ptr μ.length), some (.ptr (μ.length + 3)), none, none] (memN μ b (List.replicate b.n 0)) = some (.ok ⟨pairs (b.ls.map rowD) (b.bs.map obD), [(μ.length + 1, .lst (b.ls.map rowD)), (μ.length + 2, .lst (b.bs.map obD))]⟩, memN μ b (List.replicate b.n 0)) := by
    have f : ∀ (g : PySem.Str) (v : D), (insF b μ.length).lookup g = some v → evE Gv (R j) (.fld (.var 0) g) [some (.ptr μ.length), some (.ptr (μ.length + 3)), none, none] (memN μ b (List.replicate b.n 0)) = some (.ok v, memN μ b (List.replicate b.n 0)) := fun g v hg => by
      have hv : evE Gv (R j) (.var 0) [some (.ptr μ.length), some (.ptr (μ.length + 3)), none, none] (memN μ b (List.replicate b.n 0)) = some (.ok (.ptr μ.length), memN μ b (List.replicate b.n 0)) := x_var rfl
      have hi : (memN μ b (List.replicate b.n 0))[μ.length]? = some (.ins (insF b μ.length)) := by
        rw [memN_old (by omega)]
        exact mem_ins
      simp only [evE, M.bind] at hv ⊢
      rw [hv]
      simp only [hi, hg]
    have q1 : (memN μ b (List.replicate b.n 0))[μ.length + 1]? = some (.lst (b.ls.map rowD)) := by rw [memN_old (by omega)]; exact mem_ls
    have q2 : (memN μ b (List.replicate b.n 0))[μ.length + 2]? = some (.lst (b.bs.map obD)) := by rw [memN_old (by omega)]; exact mem_bs
    have s1 : seqOf (memN μ b (List.replicate b.n 0)) (.ptr (μ.length + 1)) = some (b.ls.map rowD) := by simp only [seqOf, q1]
    have s2 : seqOf (memN μ b (List.replicate b.n 0)) (.ptr (μ.length + 2)) = some (b.bs.map obD) := by simp only [seqOf, q2]
    have z := xI_zip (f _ _ (lk_lines _)) (f _ _ (lk_basic _)) s1 s2
    rw [z]
    simp only [srcOf, q1, q2]
    rfl
  refine (xB_nx (xS_for hi hloop)).trans ?_
  refine xB_rt (xS_ret ?_)
  have e2 : evE Gv (R j) (.var 1) [some (.ptr μ.length), some (.ptr (μ.length + 3)), s2', s3'] (memN μ b b.numbers) = some (.ok (.ptr (μ.length + 3)), memN μ b b.numbers) := x_var rfl
  have s1 : seqOf (memN μ b b.numbers) (.ptr (μ.length + 3)) = some (rts b.numbers) := by simp only [seqOf, memN_at]
  show evE Gv (R j) (.tupl (.var 1)) _ (memN μ b b.numbers) = _
  simp only [evE, M.bind] at e2 ⊢
  rw [e2]
  simp only [s1]
  rfl
/-! ### columns -/
theorem intsD_map : ∀ (n : Nat) (k : Nat), intsD k n = (List.range' k n).map fun (i : Nat) => D.int i
  | 0, k => rfl
  | n + 1, k => by
    show D.int k :: intsD ((k : Int) + 1) n = _
    have : ((k : Int) + 1) = ((k + 1 : Nat) : Int) := by omega
    rw [this, intsD_map n (k + 1)]
    rfl
theorem intsD_range (n : Nat) : intsD 0 n = (List.range n).map fun (i : Nat) => D.int i := by
  have := intsD_map n 0
  rw [List.range_eq_range']
  exact this
def cols (P : Nat → Bool) (n : Nat) : List Nat := (List.range n).filter P
def intL (l : List Nat) : D := .lst (l.map fun (i : Nat) => D.int i)
section
variable {Φ : Nat → List D → M D} {δ δ' : List (Option D)} {μ μ' : List MO} {d : D} {b : Bd}
theorem x_cols {i : Nat} {a t : Ex} {n : Nat} {P : Nat → Bool} (ha : evE Gv Φ a δ μ = some (.ok (.int n), μ)) (hn : n ≤ 1000) (hi : i < δ.length)
    (h : ∀ k, k < n → evE Gv Φ t ((wipeD δ [i]).set i (some (.int k))) μ = some (.ok (.bl (P k)), μ)) :
    evE Gv Φ (.comp false [i] (.nm i) (.rng a) (.yes t) (.var i)) δ μ = some (.ok (intL (cols P n)), μ) := by
  have hw : (wipeD δ [i]).length = δ.length := by simp [wipeD]
  refine (xE_comp (g := fun d => match d with
    | .int k => if P k.toNat then some d else none
    | _ => none) (xI_rng ha (by omega)) rfl ?_ fun d hd => ?_).trans ?_
  · show (intsD 0 n).length ≤ lim
    rw [intsD_range, List.length_map, List.length_range]
    exact Nat.le_trans hn (by decide)
  · have hd : d ∈ intsD 0 n := hd
    rw [intsD_range] at hd
    obtain ⟨k, hk, rfl⟩ := List.mem_map.mp hd
    have hk : k < n := List.mem_range.mp hk
    refine ⟨(wipeD δ [i]).set i (some (.int k)), by simp only [bindT, hw, if_pos hi], ?_⟩
    have hv : evE Gv Φ (.var i) ((wipeD δ [i]).set i (some (.int k))) μ = some (.ok (.int k), μ) := x_var (by rw [List.getElem?_set_self (by rw [hw]; exact hi)])
    have ht := h k hk
    have hT : evT Gv Φ (.yes t) ((wipeD δ [i]).set i (some (.int k))) μ = some (.ok (P k), μ) := by
      simp only [evT, M.bind, ht]
      rfl
    have hx : (k : Int).toNat = k := by omega
    cases hP : P k with
    | true => exact .inl ⟨by rw [hT, hP], _, hv, by simp [hx, hP]⟩
    | false => exact .inr ⟨by rw [hT, hP], by simp [hx, hP]⟩
  · show some (Except.ok (D.lst ((intsD 0 n).filterMap _)), μ) = some (Except.ok (D.lst _), μ)
    rw [intsD_range, List.filterMap_map]
    congr 4
    unfold cols
    rw [← List.filterMap_eq_filter, List.map_filterMap]
    congr 1
    funext k
    have hx : (k : Int).toNat = k := by omega
    by_cases hP : P k = true
    · simp [Function.comp, hx, Option.guard, hP]
    · have hP' : P k = false := by simpa using hP
      simp [Function.comp, hx, Option.guard, hP']
theorem flats_ints : ∀ l : List Nat, flats 59 (l.map fun (i : Nat) => D.int i) = true
  | [] => rfl
  | _ :: l => by
    show (flat 59 (D.int _) && flats 59 _) = true
    rw [flats_ints l]
    rfl
theorem peq_nil (l : List Nat) : peq (intL l) (.lst []) = l.isEmpty := by cases l <;> rfl
theorem flat_intL (l : List Nat) : flat 60 (open1 μ (intL l)) = true := flats_ints l
theorem x_eqNil {a : Ex} {l : List Nat} (h : evE Gv Φ a δ μ = some (.ok (intL l), μ)) : evE Gv Φ (.cmp .eq a (.lst false .nil)) δ μ = some (.ok (.bl l.isEmpty), μ) := by
  have e : evE Gv Φ (.lst false .nil) δ μ = some (.ok (.lst []), μ) := by
    simp only [evE, evA, M.bind, M.ok]
    rfl
  have f2 : flat 60 (open1 μ (.lst [])) = true := rfl
  simp only [evE, M.bind] at e ⊢
  rw [h]
  simp only
  rw [e]
  simp only [opC, eqD, flat_intL, f2, Bool.and_self, if_true]
  show some (Except.ok (D.bl (peq (intL l) (.lst []))), μ) = _
  rw [peq_nil]
theorem x_neNil {a : Ex} {l : List Nat} (h : evE Gv Φ a δ μ = some (.ok (intL l), μ)) : evE Gv Φ (.cmp .ne a (.lst false .nil)) δ μ = some (.ok (.bl (!l.isEmpty)), μ) := by
  have e : evE Gv Φ (.lst false .nil) δ μ = some (.ok (.lst []), μ) := by
    simp only [evE, evA, M.bind, M.ok]
    rfl
  have f2 : flat 60 (open1 μ (.lst [])) = true := rfl
  simp only [evE, M.bind] at e ⊢
  rw [h]
  simp only
  rw [e]
  simp only [opC, neD, flat_intL, f2, Bool.and_self, if_true]
  show some (Except.ok (D.bl (!peq (intL l) (.lst []))), μ) = _
  rw [peq_nil]
theorem x_head {a : Ex} {k : Nat} {l : List Nat} (h : evE Gv Φ a δ μ = some (.ok (intL (k :: l)), μ)) : evE Gv Φ (.idx a (.int 0)) δ μ = some (.ok (.int k), μ) := x_idx (k := 0) h (x_int 0) rfl rfl
theorem x_mth {f : Nat} {m : PySem.Str} {es : Exs} {ds : List D} {r : D} {b' : Bd} (h0 : δ[0]? = some (some (.ptr μ.length))) (hm : (insF b μ.length).lookup m = none) (ha : evA Gv Φ es δ (mem μ b) = some (.ok ds, mem μ b)) (hr : Φ f (.ptr μ.length :: ds) (mem μ b) = some (.ok r, mem μ b')) :
    evE Gv Φ (.mth f m (.var 0) es) δ (mem μ b) = some (.ok r, mem μ b') := by
  have hv : evE Gv Φ (.var 0) δ (mem μ b) = some (.ok (.ptr μ.length), mem μ b) := x_var h0
  simp only [evE, M.bind] at hv ⊢
  rw [hv]
  simp only [mem_ins, hm, ha, M.calm, hr]
end
theorem lk_none {b : Bd} {N : Nat} {m : PySem.Str} (h : (m == ("count" : PySem.Str)) = false ∧ (m == ("width" : PySem.Str)) = false ∧ (m == ("lines" : PySem.Str)) = false ∧ (m == ("basic" : PySem.Str)) = false) : (insF b N).lookup m = none := by
  unfold insF
  simp only [List.lookup_cons, h.1, h.2.1, h.2.2.1, h.2.2.2, List.lookup_nil]
end K40
end
set_option maxHeartbeats 4000000
section
/-! What the board's methods do, VI: clear, fill, grow, multiples. -/
namespace K40
open NB
/-- a board of the right sizes -/
structure Fit (a : Nat) (b : Bd) : Prop where
  hm : b.m = b.ls.length
  hbs : b.bs.length = b.ls.length
  hl : ∀ l ∈ b.ls, (∀ x ∈ l, Sz a x) ∧ l.length = b.n + b.m + 1
  bas : ∀ p, some p ∈ b.bs → p < b.n
  sz : b.n + b.m + 1 ≤ 100
  m6 : b.m ≤ 5
  ha : a ≤ 500
def Bd.at (b : Bd) (i k : Nat) : Rat := (b.ls.getD i []).getD k 0
section
variable {a : Nat} {b : Bd}
theorem Fit.turn (F : Fit a b) (j : Nat) (μ : List MO) {r c : Nat} (hr : r < b.m) (hc : c < b.n) (h0 : b.at r c ≠ 0) : R (j + 5) 17 [.ptr μ.length, .int r, .int c] (mem μ b) = some (.ok .non, mem μ (b.turn r c)) := by
  have := F.sz
  have := F.ha
  refine r_turn j μ b r c (a := a) (by omega) F.hm F.hbs (by rw [← F.hm]; exact hr) (fun l hl => ?_) h0 (by omega)
  obtain ⟨h1, h2⟩ := F.hl l hl
  exact ⟨h1, by omega, by omega⟩
theorem Fit.leaving (F : Fit a b) (j : Nat) (μ : List MO) {c : Nat} (hc : c < b.n) : R (j + 4) 18 [.ptr μ.length, .int c] (mem μ b) = some (.ok (obD (b.leaving c)), mem μ b) := by
  have := F.ha
  refine r_leaving j μ b c (a := a) (by omega) (by rw [F.hbs]; exact Nat.le_refl _) fun l hl => ?_
  obtain ⟨h1, h2⟩ := F.hl l hl
  exact ⟨h1, by omega⟩
theorem Fit.numbers (F : Fit a b) (j : Nat) (μ : List MO) : R (j + 1) 22 [.ptr μ.length] (mem μ b) = some (.ok (tupD b.numbers), mem μ b) := by
  have := F.sz
  refine r_numbers j μ b (by omega) (fun l hl e => ?_) F.bas
  have := (F.hl l hl).2
  rw [e] at this
  simp at this
end
/-! ### clear -/
def Bd.free (b : Bd) (k : Nat) : List Nat := cols (fun c => !decide (b.at k c = 0)) b.n
def clearS (k : Nat) (b : Bd) : Bd := if b.bs.getD k none = none then (match b.free k with
  | [] => b
  | c :: _ => b.turn k c) else b
def clearL : Nat → Nat → Bd → Bd
  | _, 0, b => b
  | k, n + 1, b => clearL (k + 1) n (clearS k b)
def Bd.clear (b : Bd) : Bd := clearL 0 b.m b
theorem lkm (m : PySem.Str) {b : Bd} {N : Nat} (h : (m == ("count" : PySem.Str) || m == ("width" : PySem.Str) || m == ("lines" : PySem.Str) || m == ("basic" : PySem.Str)) = false) : (insF b N).lookup m = none := by
  simp only [Bool.or_eq_false_iff] at h
  exact lk_none ⟨h.1.1.1, h.1.1.2, h.1.2, h.2⟩
theorem cols_head {P : Nat → Bool} {n c : Nat} {l : List Nat} (h : cols P n = c :: l) : c < n ∧ P c = true := by
  have : c ∈ cols P n := by rw [h]; exact List.mem_cons_self
  unfold cols at this
  rw [List.mem_filter] at this
  exact ⟨List.mem_range.mp this.1, this.2⟩
theorem r20_loop (j : Nat) (μ : List MO) {a : Nat} (I : Bd → Prop) (hF : ∀ b, I b → Fit a b) (hT : ∀ b k, I b → k < b.m → I (clearS k b) ∧ (clearS k b).m = b.m) : ∀ (n k : Nat) (b : Bd) (s1 s2 s3 : Option D), I b → k + n = b.m →
    ∃ s1' s2' s3', forL [] (.nm 1) (fun δ' => exB Gv (R (j + 5)) (.cons (.ite (.cmp .is_ (.idx (.fld (.var 0) "basic") (.var 1)) .non)
    (.cons (.asg (.nm 3) (.comp false [2] (.nm 2) (.rng (.fld (.var 0) "width")) (.yes (.cmp .ne (.idx (.idx (.fld (.var 0) "lines") (.var 1)) (.var 2)) (.glb "ZERO"))) (.var 2)))
    (.cons (.ite (.cmp .ne (.var 3) (.lst false .nil))
    (.cons (.expr (.mth 17 "turn" (.var 0) (.cons (.var 1) (.cons (.idx (.var 3) (.int 0)) .nil))))
    .nil) .nil)
    .nil)) .nil) .nil) δ') (intsD k n) [some (.ptr μ.length), s1, s2, s3] (mem μ b) = some (.ok (.nx [some (.ptr μ.length), s1', s2', s3']), mem μ (clearL k n b))
  | 0, k, b, s1, s2, s3, _, _ => ⟨s1, s2, s3, rfl⟩
  | n + 1, k, b, s1, s2, s3, hI, hk => by
    have F := hF b hI
    have hkm : k < b.m := by omega
    have hkl : k < b.ls.length := by rw [← F.hm]; exact hkm
    have hkb : k < b.bs.length := by rw [F.hbs]; exact hkl
    obtain ⟨hI', hm'⟩ := hT b k hI hkm
    have tl : ∀ s1 s2 s3, ∃ s1' s2' s3', forL [] (.nm 1) _ (intsD ((k : Int) + 1) n) [some (.ptr μ.length), s1, s2, s3] (mem μ (clearS k b)) = some (.ok (.nx [some (.ptr μ.length), s1', s2', s3']), mem μ (clearL (k + 1) n (clearS k b))) := fun s1 s2 s3 => by
      have := r20_loop j μ I hF hT n (k + 1) (clearS k b) s1 s2 s3 hI' (by omega)
      rw [show ((k + 1 : Nat) : Int) = (k : Int) + 1 by omega] at this
      exact this
    have hb := fun (s2 s3 : Option D) => x_basAt (Φ := R (j + 5)) (μ := μ) (b := b) (δ := [some (.ptr μ.length), some (.int k), s2, s3]) (i := .var 1) (k := k) rfl (x_var rfl) hkb
    cases ho : b.bs.getD k none with
    | some p =>
      have es : clearS k b = b := by unfold clearS; rw [ho]; rfl
      obtain ⟨s1', s2', s3', ih⟩ := tl (some (.int k)) s2 s3
      refine ⟨s1', s2', s3', (forL_nx (δ1 := [some (.ptr μ.length), some (.int k), s2, s3]) (δ2 := [some (.ptr μ.length), some (.int k), s2, s3]) (μ' := mem μ (clearS k b)) rfl ?_ rfl).trans ih⟩
      rw [es]
      have h := hb s2 s3
      rw [ho] at h
      exact (xB_nx (μ' := mem μ b) (xS_iteF (x_isN h) (xB_nil (G := Gv)))).trans xB_nil
    | none =>
      have h := hb s2 s3
      rw [ho] at h
      have hc : evE Gv (R (j + 5)) (.comp false [2] (.nm 2) (.rng (.fld (.var 0) "width")) (.yes (.cmp .ne (.idx (.idx (.fld (.var 0) "lines") (.var 1)) (.var 2)) (.glb "ZERO"))) (.var 2)) [some (.ptr μ.length), some (.int k), s2, s3] (mem μ b) = some (.ok (intL (b.free k)), mem μ b) := by
        refine x_cols (x_width rfl) (by have := F.sz; omega) (by show 2 < 4; omega) fun c hc => ?_
        exact x_neZ (x_rowAt (x_lineAt rfl (x_var rfl) hkl) (x_var rfl) (by have := (F.hl _ (getD_mem (d := []) hkl)).2; omega))
      cases hf : b.free k with
      | nil =>
        have es : clearS k b = b := by unfold clearS; rw [ho, hf]; rfl
        obtain ⟨s1', s2', s3', ih⟩ := tl (some (.int k)) s2 (some (intL []))
        refine ⟨s1', s2', s3', (forL_nx (δ1 := [some (.ptr μ.length), some (.int k), s2, s3]) (δ2 := [some (.ptr μ.length), some (.int k), s2, some (intL [])]) (μ' := mem μ (clearS k b)) rfl ?_ rfl).trans ih⟩
        rw [es]
        rw [hf] at hc
        refine (xB_nx (μ' := mem μ b) (xS_iteT (x_isN h) ((xB_nx (xS_asg hc rfl)).trans ((xB_nx (μ' := mem μ b) (xS_iteF (x_neNil (l := []) (x_var rfl)) (xB_nil (G := Gv)))).trans xB_nil)))).trans xB_nil
      | cons c cs =>
        obtain ⟨hcn, hcP⟩ := cols_head hf
        have h0 : b.at k c ≠ 0 := by simpa using hcP
        have es : clearS k b = b.turn k c := by unfold clearS; rw [ho, hf]; rfl
        obtain ⟨s1', s2', s3', ih⟩ := tl (some (.int k)) s2 (some (intL (c :: cs)))
        refine ⟨s1', s2', s3', (forL_nx (δ1 := [some (.ptr μ.length), some (.int k), s2, s3]) (δ2 := [some (.ptr μ.length), some (.int k), s2, some (intL (c :: cs))]) (μ' := mem μ (clearS k b)) rfl ?_ rfl).trans ih⟩
        rw [es]
        rw [hf] at hc
        refine (xB_nx (μ' := mem μ (b.turn k c)) (xS_iteT (x_isN h) ((xB_nx (xS_asg hc rfl)).trans ((xB_nx (μ' := mem μ (b.turn k c)) (xS_iteT (x_neNil (l := c :: cs) (x_var rfl)) ((xB_nx (xS_expr (x_mth (b' := b.turn k c) (r := .non) rfl (lkm _ (by decide +kernel)) (xA_cons (x_var rfl) (xA_cons (x_head (x_var rfl)) xA_nil)) (F.turn j μ hkm hcn h0)))).trans (xB_nil (G := Gv))))).trans xB_nil)))).trans xB_nil
theorem r_clear (j : Nat) (μ : List MO) {a : Nat} (I : Bd → Prop) (hF : ∀ b, I b → Fit a b) (hT : ∀ b k, I b → k < b.m → I (clearS k b) ∧ (clearS k b).m = b.m) (b : Bd) (hI : I b) : R (j + 6) 20 [.ptr μ.length] (mem μ b) = some (.ok .non, mem μ b.clear) := by
  rw [R_eq (f := f20) rfl]
  obtain ⟨s1', s2', s3', hloop⟩ := r20_loop j μ I hF hT b.m 0 b none none none hI (by omega)
  have e0 : ((0 : Nat) : Int) = 0 := rfl
  rw [e0] at hloop
  have F := hF b hI
  have := F.sz
  refine run_cellsN (μ' := mem μ b.clear) rfl rfl (by rw [mem_len, mem_len]) (δ := [some (.ptr μ.length), s1', s2', s3']) ?_
  show exB Gv (R (j + 5)) (.cons _ .nil) [some (.ptr μ.length), none, none, none] (mem μ b) = _
  exact (xB_nx (xS_for (xI_rng (n := b.m) (x_count rfl) (by omega)) hloop)).trans xB_nil
/-! ### fill -/
def Bd.lackC (b : Bd) : List Nat := cols (fun c => decide (0 < b.lack.getD c 0)) b.n
def fillM : Nat → Bd → Option (Bool × Bd)
  | 0, _ => none
  | f + 1, b => if b.lack.getLastD 0 = 0 then some (true, b.clear) else match b.lackC with
    | [] => some (false, b)
    | c :: _ => match b.leaving c with
      | none => none
      | some r => fillM f (b.turn r c)
structure FillI (a : Nat) (I Ic : Bd → Prop) : Prop where
  F : ∀ b, I b → Fit a b
  Fc : ∀ b, Ic b → Fit a b
  Tc : ∀ b k, Ic b → k < b.m → Ic (clearS k b) ∧ (clearS k b).m = b.m
  C : ∀ b, I b → b.lack.getLastD 0 = 0 → Ic b
  len : ∀ b, I b → b.lack.length = b.n + b.m + 1
  T : ∀ b c cs r, I b → b.lack.getLastD 0 ≠ 0 → b.lackC = c :: cs → b.leaving c = some r → r < b.m ∧ b.at r c ≠ 0 ∧ I (b.turn r c)
theorem Fit.lack {a : Nat} {b : Bd} (F : Fit a b) (j : Nat) (μ : List MO) : R (j + 4) 16 [.ptr μ.length] (mem μ b) = some (.ok (rowD b.lack), mem μ b) := by
  have h1 := F.sz
  have h2 := F.ha
  have h3 := F.hm
  have h4 := F.m6
  refine r_lack j μ b (a := a) (fun l hl => (F.hl l hl).1) (by omega) ?_
  have : (a + 1) * b.ls.length ≤ 501 * 6 := Nat.mul_le_mul (by omega) (by omega)
  omega
theorem Fit.price {a : Nat} {b : Bd} (F : Fit a b) (j : Nat) (μ : List MO) {w : List Rat} (hw : ∀ x ∈ w, Sz 50 x) (hl : w.length = b.n) : R (j + 4) 15 [.ptr μ.length, tupD w] (mem μ b) = some (.ok (rowD (b.price w)), mem μ b) := by
  have h1 := F.sz
  have h2 := F.ha
  have h3 := F.hm
  have h4 := F.m6
  refine r_price j μ b w (a := a) (e := 50) (by decide) hw (fun l hl => (F.hl l hl).1) (fun p hp => by rw [hl]; exact F.bas p hp) (by omega) ?_
  have : (50 + a + 1) * b.ls.length ≤ 551 * 6 := Nat.mul_le_mul (by omega) (by omega)
  omega
theorem r19_loop (j : Nat) (μ : List MO) {a : Nat} {I Ic : Bd → Prop} (H : FillI a I Ic) : ∀ (f k : Nat) (b : Bd) (s1 s2 s3 s4 : Option D) (res : Bool) (b' : Bd), I b → fillM f b = some (res, b') →
    forL [] (.nm 1) (fun δ' => exB Gv (R (j + 6)) (.cons (.asg (.nm 2) (.mth 16 "lack_line" (.var 0) .nil))
    (.cons (.ite (.cmp .eq (.idx (.var 2) (.neg (.int 1))) (.glb "ZERO"))
    (.cons (.expr (.mth 20 "clear" (.var 0) .nil))
    (.cons (.ret (.bl true))
    .nil)) .nil)
    (.cons (.asg (.nm 4) (.comp false [3] (.nm 3) (.rng (.fld (.var 0) "width")) (.yes (.cmp .gt (.idx (.idx (.var 2) (.var 3)) (.int 0)) (.int 0))) (.var 3)))
    (.cons (.ite (.cmp .eq (.var 4) (.lst false .nil))
    (.cons (.ret (.bl false))
    .nil) .nil)
    (.cons (.expr (.mth 17 "turn" (.var 0) (.cons (.mth 18 "leaving" (.var 0) (.cons (.idx (.var 4) (.int 0)) .nil)) (.cons (.idx (.var 4) (.int 0)) .nil))))
    .nil))))) δ') (intsD k f) [some (.ptr μ.length), s1, s2, s3, s4] (mem μ b) = some (.ok (.rt (.bl res)), mem μ b')
  | 0, k, b, s1, s2, s3, s4, res, b', _, h => by cases h
  | f + 1, k, b, s1, s2, s3, s4, res, b', hI, h => by
    have F := H.F b hI
    have hlen := H.len b hI
    have hne : b.lack ≠ [] := by intro e; rw [e] at hlen; simp at hlen
    have e2 := F.lack (j + 2) μ
    have e2' : evE Gv (R (j + 6)) (.mth 16 "lack_line" (.var 0) .nil) [some (.ptr μ.length), some (.int k), s2, s3, s4] (mem μ b) = some (.ok (rowD b.lack), mem μ b) := x_mth (b' := b) rfl (lkm _ (by decide +kernel)) xA_nil e2
    have ht : evE Gv (R (j + 6)) (.cmp .eq (.idx (.var 2) (.neg (.int 1))) (.glb "ZERO")) [some (.ptr μ.length), some (.int k), some (rowD b.lack), s3, s4] (mem μ b) = some (.ok (.bl (decide (b.lack.getLastD 0 = 0))), mem μ b) := x_eqZ (x_last (x := rowD b.lack) (x_var rfl) rfl (rts_last hne))
    unfold fillM at h
    by_cases h0 : b.lack.getLastD 0 = 0
    · rw [if_pos h0] at h
      cases h
      rw [decide_eq_true h0] at ht
      refine forL_rt (δ1 := [some (.ptr μ.length), some (.int k), s2, s3, s4]) rfl ?_
      refine (xB_nx (xS_asg e2' rfl)).trans (xB_rt (xS_iteT ht ?_))
      refine (xB_nx (xS_expr (x_mth (b' := b.clear) (r := .non) rfl (lkm _ (by decide +kernel)) xA_nil (r_clear j μ Ic H.Fc H.Tc b (H.C b hI h0))))).trans (xB_rt (xS_ret ?_))
      simp only [evE]
      rfl
    · rw [if_neg h0] at h
      rw [decide_eq_false h0] at ht
      have hc : evE Gv (R (j + 6)) (.comp false [3] (.nm 3) (.rng (.fld (.var 0) "width")) (.yes (.cmp .gt (.idx (.idx (.var 2) (.var 3)) (.int 0)) (.int 0))) (.var 3)) [some (.ptr μ.length), some (.int k), some (rowD b.lack), s3, s4] (mem μ b) = some (.ok (intL b.lackC), mem μ b) := by
        refine x_cols (x_width rfl) (by have := F.sz; omega) (by show 3 < 5; omega) fun c hc => ?_
        exact x_pos (x_rowAt (x_var rfl) (x_var rfl) (by omega))
      cases hq : b.lackC with
      | nil =>
        rw [hq] at h hc
        cases h
        refine forL_rt (δ1 := [some (.ptr μ.length), some (.int k), s2, s3, s4]) rfl ?_
        refine (xB_nx (xS_asg e2' rfl)).trans ((xB_nx (μ' := mem μ b) (xS_iteF ht (xB_nil (G := Gv)))).trans ((xB_nx (xS_asg hc rfl)).trans (xB_rt (xS_iteT (x_eqNil (l := []) (x_var rfl)) (xB_rt (xS_ret ?_))))))
        simp only [evE]
        rfl
      | cons c cs =>
        rw [hq] at h hc
        simp only at h
        cases hr : b.leaving c with
        | none => rw [hr] at h; cases h
        | some r =>
          rw [hr] at h
          simp only at h
          obtain ⟨hrm, hat, hI'⟩ := H.T b c cs r hI h0 hq hr
          have hcn := (cols_head hq).1
          have ih := r19_loop j μ H f (k + 1) (b.turn r c) (some (.int k)) (some (rowD b.lack)) s3 (some (intL (c :: cs))) res b' hI' h
          rw [show ((k + 1 : Nat) : Int) = (k : Int) + 1 by omega] at ih
          refine (forL_nx (δ1 := [some (.ptr μ.length), some (.int k), s2, s3, s4]) (δ2 := [some (.ptr μ.length), some (.int k), some (rowD b.lack), s3, some (intL (c :: cs))]) (μ' := mem μ (b.turn r c)) rfl ?_ rfl).trans ih
          have el : evE Gv (R (j + 6)) (.mth 18 "leaving" (.var 0) (.cons (.idx (.var 4) (.int 0)) .nil)) [some (.ptr μ.length), some (.int k), some (rowD b.lack), s3, some (intL (c :: cs))] (mem μ b) = some (.ok (.int r), mem μ b) := by
            have := F.leaving (j + 2) μ hcn
            rw [hr] at this
            exact x_mth (b' := b) rfl (lkm _ (by decide +kernel)) (xA_cons (x_head (x_var rfl)) xA_nil) this
          refine (xB_nx (xS_asg e2' rfl)).trans ((xB_nx (μ' := mem μ b) (xS_iteF ht (xB_nil (G := Gv)))).trans ((xB_nx (xS_asg hc rfl)).trans ((xB_nx (μ' := mem μ b) (xS_iteF (x_eqNil (l := c :: cs) (x_var rfl)) (xB_nil (G := Gv)))).trans ((xB_nx (xS_expr (x_mth (b' := b.turn r c) (r := .non) rfl (lkm _ (by decide +kernel)) (xA_cons el (xA_cons (x_head (x_var rfl)) xA_nil)) (F.turn (j + 1) μ hrm hcn hat)))).trans xB_nil))))
theorem r_fill (j : Nat) (μ : List MO) {a : Nat} {I Ic : Bd → Prop} (H : FillI a I Ic) (b : Bd) (hI : I b) {res : Bool} {b' : Bd} (h : fillM 20000 b = some (res, b')) : R (j + 7) 19 [.ptr μ.length] (mem μ b) = some (.ok (.bl res), mem μ b') := by
  rw [R_eq (f := f19) rfl]
  have hloop := r19_loop j μ H 20000 0 b none none none none res b' hI h
  have e0 : ((0 : Nat) : Int) = 0 := rfl
  rw [e0] at hloop
  refine run_cells (μ' := mem μ b') rfl rfl rfl (by rw [mem_len, mem_len]) ?_
  show exB Gv (R (j + 6)) (.cons _ (.cons _ .nil)) [some (.ptr μ.length), none, none, none, none] (mem μ b) = _
  refine xB_rt (xS_for (xI_rng (n := 20000) ?_ (by decide)) hloop)
  simp only [evE, gMS, M.opt]
  rfl
/-! ### grow -/
def Bd.priceC (b : Bd) (w : List Rat) : List Nat := cols (fun c => decide (0 < (b.price w).getD c 0)) b.n
def growM (w : List Rat) : Nat → Bd → Option (Bool × Bd)
  | 0, _ => none
  | f + 1, b => match b.priceC w with
    | [] => some (true, b)
    | c :: _ => match b.leaving c with
      | none => some (false, b)
      | some r => growM w f (b.turn r c)
structure GrowI (a : Nat) (w : List Rat) (I : Bd → Prop) : Prop where
  F : ∀ b, I b → Fit a b
  sw : ∀ x ∈ w, Sz 50 x
  lw : ∀ b, I b → w.length = b.n
  len : ∀ b, I b → b.n ≤ (b.price w).length
  T : ∀ b c cs r, I b → b.priceC w = c :: cs → b.leaving c = some r → r < b.m ∧ b.at r c ≠ 0 ∧ I (b.turn r c)
theorem r21_loop (j : Nat) (μ : List MO) {a : Nat} {w : List Rat} {I : Bd → Prop} (H : GrowI a w I) : ∀ (f k : Nat) (b : Bd) (s2 s3 s4 s5 s6 : Option D) (res : Bool) (b' : Bd), I b → growM w f b = some (res, b') →
    forL [] (.nm 2) (fun δ' => exB Gv (R (j + 6)) (.cons (.asg (.nm 3) (.mth 15 "price_line" (.var 0) (.cons (.var 1) .nil)))
    (.cons (.asg (.nm 5) (.comp false [4] (.nm 4) (.rng (.fld (.var 0) "width")) (.yes (.cmp .gt (.idx (.idx (.var 3) (.var 4)) (.int 0)) (.int 0))) (.var 4)))
    (.cons (.ite (.cmp .eq (.var 5) (.lst false .nil))
    (.cons (.ret (.bl true))
    .nil) .nil)
    (.cons (.asg (.nm 6) (.mth 18 "leaving" (.var 0) (.cons (.idx (.var 5) (.int 0)) .nil)))
    (.cons (.ite (.cmp .is_ (.var 6) .non)
    (.cons (.ret (.bl false))
    .nil) .nil)
    (.cons (.expr (.mth 17 "turn" (.var 0) (.cons (.var 6) (.cons (.idx (.var 5) (.int 0)) .nil))))
    .nil)))))) δ') (intsD k f) [some (.ptr μ.length), some (tupD w), s2, s3, s4, s5, s6] (mem μ b) = some (.ok (.rt (.bl res)), mem μ b')
  | 0, k, b, s2, s3, s4, s5, s6, res, b', _, h => by cases h
  | f + 1, k, b, s2, s3, s4, s5, s6, res, b', hI, h => by
    have F := H.F b hI
    have hlen := H.len b hI
    have e2 := F.price (j + 2) μ H.sw (H.lw b hI)
    have e2' : evE Gv (R (j + 6)) (.mth 15 "price_line" (.var 0) (.cons (.var 1) .nil)) [some (.ptr μ.length), some (tupD w), some (.int k), s3, s4, s5, s6] (mem μ b) = some (.ok (rowD (b.price w)), mem μ b) := x_mth (b' := b) rfl (lkm _ (by decide +kernel)) (xA_cons (x_var rfl) xA_nil) e2
    have hc : evE Gv (R (j + 6)) (.comp false [4] (.nm 4) (.rng (.fld (.var 0) "width")) (.yes (.cmp .gt (.idx (.idx (.var 3) (.var 4)) (.int 0)) (.int 0))) (.var 4)) [some (.ptr μ.length), some (tupD w), some (.int k), some (rowD (b.price w)), s4, s5, s6] (mem μ b) = some (.ok (intL (b.priceC w)), mem μ b) := by
      refine x_cols (x_width rfl) (by have := F.sz; omega) (by show 4 < 7; omega) fun c hc => ?_
      exact x_pos (x_rowAt (x_var rfl) (x_var rfl) (by omega))
    unfold growM at h
    cases hq : b.priceC w with
    | nil =>
      rw [hq] at h hc
      cases h
      refine forL_rt (δ1 := [some (.ptr μ.length), some (tupD w), some (.int k), s3, s4, s5, s6]) rfl ?_
      refine (xB_nx (xS_asg e2' rfl)).trans ((xB_nx (xS_asg hc rfl)).trans (xB_rt (xS_iteT (x_eqNil (l := []) (x_var rfl)) (xB_rt (xS_ret ?_)))))
      simp only [evE]
      rfl
    | cons c cs =>
      rw [hq] at h hc
      simp only at h
      have hcn := (cols_head hq).1
      have el : evE Gv (R (j + 6)) (.mth 18 "leaving" (.var 0) (.cons (.idx (.var 5) (.int 0)) .nil)) [some (.ptr μ.length), some (tupD w), some (.int k), some (rowD (b.price w)), s4, some (intL (c :: cs)), s6] (mem μ b) = some (.ok (obD (b.leaving c)), mem μ b) :=
        x_mth (b' := b) rfl (lkm _ (by decide +kernel)) (xA_cons (x_head (x_var rfl)) xA_nil) (F.leaving (j + 2) μ hcn)
      cases hr : b.leaving c with
      | none =>
        rw [hr] at h el
        cases h
        refine forL_rt (δ1 := [some (.ptr μ.length), some (tupD w), some (.int k), s3, s4, s5, s6]) rfl ?_
        refine (xB_nx (xS_asg e2' rfl)).trans ((xB_nx (xS_asg hc rfl)).trans ((xB_nx (μ' := mem μ b) (xS_iteF (x_eqNil (l := c :: cs) (x_var rfl)) (xB_nil (G := Gv)))).trans ((xB_nx (xS_asg el rfl)).trans (xB_rt (xS_iteT (x_isN (o := none) (x_var rfl)) (xB_rt (xS_ret ?_)))))))
        simp only [evE]
        rfl
      | some r =>
        rw [hr] at h el
        simp only at h
        obtain ⟨hrm, hat, hI'⟩ := H.T b c cs r hI hq hr
        have ih := r21_loop j μ H f (k + 1) (b.turn r c) (some (.int k)) (some (rowD (b.price w))) s4 (some (intL (c :: cs))) (some (obD (some r))) res b' hI' h
        rw [show ((k + 1 : Nat) : Int) = (k : Int) + 1 by omega] at ih
        refine (forL_nx (δ1 := [some (.ptr μ.length), some (tupD w), some (.int k), s3, s4, s5, s6]) (δ2 := [some (.ptr μ.length), some (tupD w), some (.int k), some (rowD (b.price w)), s4, some (intL (c :: cs)), some (obD (some r))]) (μ' := mem μ (b.turn r c)) rfl ?_ rfl).trans ih
        refine (xB_nx (xS_asg e2' rfl)).trans ((xB_nx (xS_asg hc rfl)).trans ((xB_nx (μ' := mem μ b) (xS_iteF (x_eqNil (l := c :: cs) (x_var rfl)) (xB_nil (G := Gv)))).trans ((xB_nx (xS_asg el rfl)).trans ((xB_nx (μ' := mem μ b) (xS_iteF (x_isN (o := some r) (x_var rfl)) (xB_nil (G := Gv)))).trans ((xB_nx (xS_expr (x_mth (b' := b.turn r c) (r := .non) rfl (lkm _ (by decide +kernel)) (xA_cons (x_var (d := .int r) rfl) (xA_cons (x_head (x_var rfl)) xA_nil)) (F.turn (j + 1) μ hrm hcn hat)))).trans xB_nil)))))
theorem r_grow (j : Nat) (μ : List MO) {a : Nat} {w : List Rat} {I : Bd → Prop} (H : GrowI a w I) (b : Bd) (hI : I b) {res : Bool} {b' : Bd} (h : growM w 20000 b = some (res, b')) : R (j + 7) 21 [.ptr μ.length, tupD w] (mem μ b) = some (.ok (.bl res), mem μ b') := by
  rw [R_eq (f := f21) rfl]
  have hloop := r21_loop j μ H 20000 0 b none none none none none res b' hI h
  have e0 : ((0 : Nat) : Int) = 0 := rfl
  rw [e0] at hloop
  refine run_cells (μ' := mem μ b') rfl rfl rfl (by rw [mem_len, mem_len]) ?_
  show exB Gv (R (j + 6)) (.cons _ (.cons _ .nil)) [some (.ptr μ.length), some (tupD w), none, none, none, none, none] (mem μ b) = _
  refine xB_rt (xS_for (xI_rng (n := 20000) ?_ (by decide)) hloop)
  simp only [evE, gMS, M.opt]
  rfl
/-! ### multiples -/
theorem r_multiples (j : Nat) (μ : List MO) (b : Bd) (l : List Rat) (hl : l.length = b.n + b.m + 1) : R (j + 1) 23 [.ptr μ.length, rowD l] (mem μ b) = some (.ok (tupD ((l.drop b.n).take b.m)), mem μ b) := by
  rw [R_eq (f := f23) rfl]
  refine run_pure rfl rfl (plain_tup _) ?_
  show exB Gv (R j) (.cons _ .nil) [some (.ptr μ.length), some (rowD l)] (mem μ b) = _
  refine xB_rt (xS_ret ?_)
  have e1 := x_width (Φ := R j) (b := b) (μ := μ) (δ := [some (.ptr μ.length), some (rowD l)]) rfl
  have e2 : evE Gv (R j) (.bin .add (.fld (.var 0) "width") (.fld (.var 0) "count")) [some (.ptr μ.length), some (rowD l)] (mem μ b) = some (.ok (.int ((b.n : Int) + b.m)), mem μ b) := x_add e1 (x_count rfl)
  have e3 : evE Gv (R j) (.var 1) [some (.ptr μ.length), some (rowD l)] (mem μ b) = some (.ok (rowD l), mem μ b) := x_var rfl
  have hs : cutD (rts l) (some (b.n : Int)) (some ((b.n : Int) + b.m)) = rts ((l.drop b.n).take b.m) := by
    unfold cutD
    have h2 : ((b.n : Int) + b.m) = ((b.n + b.m : Nat) : Int) := by omega
    rw [h2, HT.sIx_nat, HT.sIx_nat]
    have hlen : (rts l).length = b.n + b.m + 1 := by simp only [rts, List.length_map, hl]
    rw [hlen]
    have h3 : min b.n (b.n + b.m + 1) = b.n := by omega
    have h4 : min (b.n + b.m) (b.n + b.m + 1) - b.n = b.m := by omega
    rw [h3, h4]
    unfold rts
    rw [List.map_take, List.map_drop]
  have e4 : evE Gv (R j) (.slc (.var 1) (.yes (.fld (.var 0) "width")) (.yes (.bin .add (.fld (.var 0) "width") (.fld (.var 0) "count")))) [some (.ptr μ.length), some (rowD l)] (mem μ b) = some (.ok (rowD ((l.drop b.n).take b.m)), mem μ b) := by
    rw [evE]
    simp only [M.bind, e3, evC, e1, e2, M.ok]
    simp only [rowD, lstOf, hs]
  rw [evE]
  simp only [M.bind, e4]
  rfl
end K40
end
set_option maxHeartbeats 4000000
section
/-! What the defs do: tests of rows, columns. -/
namespace K40
open NB
section
variable {Φ : Nat → List D → M D} {δ δ' : List (Option D)} {μ μ' : List MO} {d : D} {b : Bd}
theorem bls_map (B : D → Bool) : ∀ ds : List D, bls (ds.map fun d => .bl (B d)) = some (ds.map B)
  | [] => rfl
  | d :: ds => by
    show (bls (ds.map fun d => .bl (B d))).map _ = _
    rw [bls_map B ds]
    rfl
theorem x_all {own : List Nat} {t : Tg} {i : It} {e : Ex} {its : Its} {B : D → Bool} (hi : evI Gv Φ i δ μ = some (.ok its, μ)) (hs : srcOk its.src μ = true) (hl : its.items.length ≤ lim)
    (h : ∀ d, d ∈ its.items → ∃ δ1, bindT t d (wipeD δ own) = some δ1 ∧ evE Gv Φ e δ1 μ = some (.ok (.bl (B d)), μ)) : evE Gv Φ (.all (.comp false own t i .no e)) δ μ = some (.ok (.bl (its.items.all B)), μ) := by
  have hc := xE_comp1 (g := fun d => .bl (B d)) hi hs hl h
  rw [evE]
  simp only [M.bind, hc, lstOf, bls_map]
  rw [List.all_map]
  rfl
theorem x_not {a : Ex} {x : Bool} (h : evE Gv Φ a δ μ = some (.ok (.bl x), μ)) : evE Gv Φ (.not_ a) δ μ = some (.ok (.bl (!x)), μ) := by
  rw [evE]
  simp only [M.bind, h, asBl, M.ok]
theorem x_isi {a : Ex} {t : Ty} {x : D} {c : Bool} (h : evE Gv Φ a δ μ = some (.ok x, μ)) (hc : isT μ t x = some c) : evE Gv Φ (.isi t a) δ μ = some (.ok (.bl c), μ) := by
  rw [evE]
  simp only [M.bind, h, hc]
theorem x_len {a : Ex} {x : D} {ds : List D} (h : evE Gv Φ a δ μ = some (.ok x, μ)) (hx : seqOf μ x = some ds) : evE Gv Φ (.len a) δ μ = some (.ok (.int ds.length), μ) := by
  rw [evE]
  simp only [M.bind, h, hx]
theorem x_neI {a c : Ex} {i k : Int} (h : evE Gv Φ a δ μ = some (.ok (.int i), μ)) (h2 : evE Gv Φ c δ μ = some (.ok (.int k), μ)) : evE Gv Φ (.cmp .ne a c) δ μ = some (.ok (.bl (!decide (i = k))), μ) := by
  rw [evE]
  simp only [M.bind, h, h2, opC, neD, open1, flat, Bool.and_self, if_true, peq]
  rfl
theorem x_eqI {a c : Ex} {i k : Int} (h : evE Gv Φ a δ μ = some (.ok (.int i), μ)) (h2 : evE Gv Φ c δ μ = some (.ok (.int k), μ)) : evE Gv Φ (.cmp .eq a c) δ μ = some (.ok (.bl (decide (i = k))), μ) := by
  rw [evE]
  simp only [M.bind, h, h2, opC, eqD, open1, flat, Bool.and_self, if_true, peq]
  rfl
theorem x_gtI {a c : Ex} {i k : Int} (h : evE Gv Φ a δ μ = some (.ok (.int i), μ)) (h2 : evE Gv Φ c δ μ = some (.ok (.int k), μ)) : evE Gv Φ (.cmp .gt a c) δ μ = some (.ok (.bl (decide (k < i))), μ) := by
  rw [evE]
  simp only [M.bind, h, h2, opC, ordD]
theorem x_geI {a c : Ex} {i k : Int} (h : evE Gv Φ a δ μ = some (.ok (.int i), μ)) (h2 : evE Gv Φ c δ μ = some (.ok (.int k), μ)) : evE Gv Φ (.cmp .ge a c) δ μ = some (.ok (.bl (decide (k ≤ i))), μ) := by
  rw [evE]
  simp only [M.bind, h, h2, opC, ordD]
theorem x_orT {a c : Ex} (ha : evE Gv Φ a δ μ = some (.ok (.bl true), μ)) : evE Gv Φ (.or_ a c) δ μ = some (.ok (.bl true), μ) := x_or (y := true) ha fun h => by cases h
/-- [0] >= 0 -/
theorem x_nonneg {a : Ex} {p : Rat} (h : evE Gv Φ a δ μ = some (.ok (rt p), μ)) : evE Gv Φ (.cmp .ge (.idx a (.int 0)) (.int 0)) δ μ = some (.ok (.bl (decide (0 ≤ p))), μ) := by
  have e : evE Gv Φ (.idx a (.int 0)) δ μ = some (.ok (.int p.num), μ) := x_idx (k := 0) h (x_int 0) rfl rfl
  have e2 : decide ((0 : Int) ≤ p.num) = decide (0 ≤ p) := by
    rw [Bool.eq_iff_iff, decide_eq_true_eq, decide_eq_true_eq]
    exact Rat.num_nonneg
  rw [← e2]
  exact x_geI e (x_int 0)
theorem x_lt0 {a : Ex} {p : Rat} (h : evE Gv Φ a δ μ = some (.ok (rt p), μ)) : evE Gv Φ (.cmp .lt (.idx a (.int 0)) (.int 0)) δ μ = some (.ok (.bl (decide (p < 0))), μ) := by
  have e : evE Gv Φ (.idx a (.int 0)) δ μ = some (.ok (.int p.num), μ) := x_idx (k := 0) h (x_int 0) rfl rfl
  have e2 : decide (p.num < (0 : Int)) = decide (p < 0) := by
    rw [Bool.eq_iff_iff, decide_eq_true_eq, decide_eq_true_eq]
    have := Rat.num_nonneg (q := p)
    constructor
    · intro h; have : ¬ (0 ≤ p) := fun z => by have := this.mpr z; omega
      grind
    · intro h; have : ¬ (0 ≤ p.num) := fun z => by have := this.mp z; grind
      omega
  rw [← e2]
  exact x_ltI e (x_int 0)
end
/-! ### is_ratio -/
theorem r_isint (j : Nat) (μ : List MO) (i : Int) : R (j + 1) 0 [.int i] μ = some (.ok (.bl true), μ) := by
  rw [R_eq (f := f0) rfl]
  refine run_pure rfl rfl rfl ?_
  show exB Gv (R j) (.cons _ .nil) [some (.int i)] μ = _
  exact xB_rt (xS_ret (x_and (x := true) (y := true) (x_isi (x_var rfl) rfl) fun _ => x_not (x := false) (x_isi (x_var rfl) rfl)))
theorem r_isratio (j : Nat) (μ : List MO) (p : Rat) {a : Nat} (hp : Sz a p) (ha : a ≤ 400000) : R (j + 2) 1 [rt p] μ = some (.ok (.bl true), μ) := by
  rw [R_eq (f := f1) rfl]
  refine run_pure rfl rfl rfl ?_
  show exB Gv (R (j + 1)) (.cons _ (.cons _ .nil)) [some (rt p), none] μ = _
  have e1 : evE Gv (R (j + 1)) (.all (.comp false [1] (.nm 1) (.seq (.var 0)) .no (.call 0 (.cons (.var 1) .nil)))) [some (rt p), none] μ = some (.ok (.bl (([.int p.num, .int p.den] : List D).all fun _ => true)), μ) := by
    refine x_all (its := ⟨[.int p.num, .int p.den], []⟩) (xI_seq (d := rt p) (x_var rfl) rfl) rfl (by show 2 ≤ lim; decide) fun d hd => ⟨[some (rt p), some d], rfl, ?_⟩
    rw [xE_call (xA_cons (x_var rfl) xA_nil)]
    rcases List.mem_cons.mp hd with rfl | hd
    · exact r_isint j μ _
    · rcases List.mem_cons.mp hd with rfl | hd
      · exact r_isint j μ _
      · cases hd
  have ht : evE Gv (R (j + 1)) (.or_ (.not_ (.isi .tup (.var 0))) (.or_ (.cmp .ne (.len (.var 0)) (.int 2)) (.not_ (.all (.comp false [1] (.nm 1) (.seq (.var 0)) .no (.call 0 (.cons (.var 1) .nil))))))) [some (rt p), none] μ = some (.ok (.bl (!true || (!decide ((2 : Int) = 2) || !true))), μ) := by
    refine x_or (x_not (x_isi (x_var rfl) rfl)) fun _ => x_or (x_neI (x_len (ds := [.int p.num, .int p.den]) (x_var (d := rt p) rfl) rfl) (x_int 2)) fun _ => x_not e1
  refine (xB_nx (μ' := μ) (xS_iteF ht (xB_nil (G := Gv)))).trans (xB_rt (xS_ret ?_))
  refine x_and (x := true) (y := true) ?_ fun _ => ?_
  · have : decide ((0 : Int) < p.den) = true := decide_eq_true (by have := p.den_pos; omega)
    rw [← this]
    exact x_gtI (x_idx (k := 1) (x_var (d := rt p) rfl) (x_int 1) rfl rfl) (x_int 0)
  · have hg : Int.gcd p.num (p.den : Int) = 1 := by
      have := p.reduced
      simpa [Int.gcd, Nat.Coprime] using this
    have : decide (((Int.gcd p.num (p.den : Int) : Nat) : Int) = 1) = true := decide_eq_true (by omega)
    rw [← this]
    refine x_eqI ?_ (x_int 1)
    rw [xE_call (xA_cons (x_idx (k := 0) (x_var (d := rt p) rfl) (x_int 0) rfl rfl) (xA_cons (x_idx (k := 1) (x_var (d := rt p) rfl) (x_int 1) rfl rfl) xA_nil))]
    exact r_divisor j μ _ _ (by rw [Int.natAbs_natCast]; exact ok_huge hp.2 ha)
/-- all([is_ratio(item) for item in row]) -/
theorem x_ratios {Φ : Nat → List D → M D} {δ : List (Option D)} {μ : List MO} {k : Nat} {a : Ex} {x : D} {l : List Rat} (hx : evE Gv Φ a δ μ = some (.ok x, μ)) (hq : seqOf μ x = some (rts l)) (hk : k < δ.length) (hl : l.length ≤ 1000)
    (h : ∀ p ∈ l, Φ 1 [rt p] μ = some (.ok (.bl true), μ)) : evE Gv Φ (.all (.comp false [k] (.nm k) (.seq a) .no (.call 1 (.cons (.var k) .nil)))) δ μ = some (.ok (.bl true), μ) := by
  have hw : (wipeD δ [k]).length = δ.length := by simp [wipeD]
  have e := x_all (B := fun _ => true) (own := [k]) (t := .nm k) (e := .call 1 (.cons (.var k) .nil)) (xI_seq hx hq) srcOk_at (by show (rts l).length ≤ lim; simp only [rts, List.length_map]; exact Nat.le_trans hl (by decide)) (fun d hd => by
    obtain ⟨p, hp, rfl⟩ := List.mem_map.mp hd
    refine ⟨(wipeD δ [k]).set k (some (rt p)), by simp only [bindT, hw, if_pos hk], ?_⟩
    rw [xE_call (xA_cons (x_var (by rw [List.getElem?_set_self (by rw [hw]; exact hk)])) xA_nil)]
    exact h p hp)
  rw [e]
  have : (rts l).all (fun _ => true) = true := by simp
  show some (Except.ok (D.bl ((rts l).all fun _ => true)), μ) = _
  rw [this]
/-! ### check_rows -/
def matD (A : List (List Rat)) : D := .tup (A.map tupD)
theorem flats_rts (n : Nat) : ∀ l : List Rat, flats (n + 1) (rts l) = true
  | [] => rfl
  | p :: l => by
    show (flat (n + 1) (rt p) && flats (n + 1) (rts l)) = true
    rw [flat_rt, flats_rts n l]
    rfl
theorem flats_tups (n : Nat) : ∀ A : List (List Rat), flats (n + 2) (A.map tupD) = true
  | [] => rfl
  | l :: A => by
    show (flats (n + 1) (rts l) && flats (n + 2) (A.map tupD)) = true
    rw [flats_rts, flats_tups n A]
    rfl
theorem flat_mat (A : List (List Rat)) : flat 60 (matD A) = true := flats_tups 57 A
theorem x_neE {Φ : Nat → List D → M D} {δ : List (Option D)} {μ : List MO} {a : Ex} {A : List (List Rat)} (h : evE Gv Φ a δ μ = some (.ok (matD A), μ)) : evE Gv Φ (.cmp .ne a (.tup .nil)) δ μ = some (.ok (.bl (!A.isEmpty)), μ) := by
  have e : evE Gv Φ (.tup .nil) δ μ = some (.ok (.tup []), μ) := by
    simp only [evE, evA, M.bind, M.ok]
    rfl
  have f2 : flat 60 (open1 μ (.tup [])) = true := rfl
  have f1 : flat 60 (open1 μ (matD A)) = true := flat_mat A
  have hp : peq (open1 μ (matD A)) (open1 μ (.tup [])) = A.isEmpty := by cases A <;> rfl
  rw [evE]
  simp only [M.bind, h, e, opC, neD, f1, f2, hp, Bool.and_self, if_true]
theorem x_eqE {Φ : Nat → List D → M D} {δ : List (Option D)} {μ : List MO} {a : Ex} {A : List (List Rat)} (h : evE Gv Φ a δ μ = some (.ok (matD A), μ)) : evE Gv Φ (.cmp .eq a (.tup .nil)) δ μ = some (.ok (.bl (A.isEmpty)), μ) := by
  have e : evE Gv Φ (.tup .nil) δ μ = some (.ok (.tup []), μ) := by
    simp only [evE, evA, M.bind, M.ok]
    rfl
  have f2 : flat 60 (open1 μ (.tup [])) = true := rfl
  have f1 : flat 60 (open1 μ (matD A)) = true := flat_mat A
  have hp : peq (open1 μ (matD A)) (open1 μ (.tup [])) = A.isEmpty := by cases A <;> rfl
  rw [evE]
  simp only [M.bind, h, e, opC, eqD, f1, f2, hp, Bool.and_self, if_true]
def widthOf (A : List (List Rat)) : Nat := (A.getD 0 []).length
/-- len(rows[0]) if rows != () else 0 -/
theorem x_widthOf {Φ : Nat → List D → M D} {δ : List (Option D)} {μ : List MO} {a : Ex} {A : List (List Rat)} (h : evE Gv Φ a δ μ = some (.ok (matD A), μ)) : evE Gv Φ (.ite (.cmp .ne a (.tup .nil)) (.len (.idx a (.int 0))) (.int 0)) δ μ = some (.ok (.int (widthOf A)), μ) := by
  have ht := x_neE h
  cases A with
  | nil => exact x_iteF ht (x_int 0)
  | cons l A =>
    have hx : evE Gv Φ (.idx a (.int 0)) δ μ = some (.ok (tupD l), μ) := x_idx (k := 0) (x := matD (l :: A)) h (x_int 0) rfl rfl
    have := x_len (ds := rts l) hx rfl
    refine x_iteT ht ?_
    rw [this]
    simp [rts, widthOf]
section
variable (j : Nat) (μ : List MO)
theorem r10_loop (src : List (Nat × MO)) (hs : srcOk src μ = true) (o0 o1 : Option D) (W : Nat) {a : Nat} (ha : a ≤ 400000) (hW : W ≤ 1000) : ∀ (A rest : List (List Rat)) (s3 s4 : Option D), (∀ l ∈ A, l.length = W ∧ ∀ p ∈ l, Sz a p) →
    ∃ s3', forL src (.nm 3) (fun δ' => exB Gv (R (j + 2)) (.cons (.ite (.or_ (.not_ (.isi .tup (.var 3))) (.or_ (.cmp .ne (.len (.var 3)) (.var 2)) (.not_ (.all (.comp false [4] (.nm 4) (.seq (.var 3)) .no (.call 1 (.cons (.var 4) .nil)))))))
    (.cons (.raise "BadTable") .nil) .nil) .nil) δ') (A.map tupD ++ rest.map tupD) [o0, o1, some (.int W), s3, s4] μ =
      forL src (.nm 3) (fun δ' => exB Gv (R (j + 2)) (.cons (.ite (.or_ (.not_ (.isi .tup (.var 3))) (.or_ (.cmp .ne (.len (.var 3)) (.var 2)) (.not_ (.all (.comp false [4] (.nm 4) (.seq (.var 3)) .no (.call 1 (.cons (.var 4) .nil)))))))
    (.cons (.raise "BadTable") .nil) .nil) .nil) δ') (rest.map tupD) [o0, o1, some (.int W), s3', s4] μ
  | [], rest, s3, s4, _ => ⟨s3, rfl⟩
  | l :: A, rest, s3, s4, h => by
    obtain ⟨hl, hz⟩ := h l List.mem_cons_self
    obtain ⟨s3', ih⟩ := r10_loop src hs o0 o1 W ha hW A rest (some (tupD l)) s4 fun z hz => h z (List.mem_cons_of_mem _ hz)
    refine ⟨s3', (forL_nx (δ1 := [o0, o1, some (.int W), some (tupD l), s4]) (δ2 := [o0, o1, some (.int W), some (tupD l), s4]) (μ' := μ) rfl ?_ hs).trans ih⟩
    have e1 : evE Gv (R (j + 2)) (.all (.comp false [4] (.nm 4) (.seq (.var 3)) .no (.call 1 (.cons (.var 4) .nil)))) [o0, o1, some (.int W), some (tupD l), s4] μ = some (.ok (.bl true), μ) := x_ratios (l := l) (x_var rfl) rfl (by show 4 < 5; omega) (by omega) fun p hp => r_isratio j μ p (hz p hp) ha
    have ht : evE Gv (R (j + 2)) (.or_ (.not_ (.isi .tup (.var 3))) (.or_ (.cmp .ne (.len (.var 3)) (.var 2)) (.not_ (.all (.comp false [4] (.nm 4) (.seq (.var 3)) .no (.call 1 (.cons (.var 4) .nil))))))) [o0, o1, some (.int W), some (tupD l), s4] μ = some (.ok (.bl (!true || (!decide (((rts l).length : Int) = W) || !true))), μ) :=
      x_or (x_not (x_isi (x_var rfl) rfl)) fun _ => x_or (x_neI (x_len (x_var (d := tupD l) rfl) rfl) (x_var rfl)) fun _ => x_not e1
    have hb : (!true || (!decide (((rts l).length : Int) = W) || !true)) = false := by
      have : ((rts l).length : Int) = W := by simp [rts, hl]
      rw [decide_eq_true this]
      rfl
    rw [hb] at ht
    exact (xB_nx (μ' := μ) (xS_iteF ht (xB_nil (G := Gv)))).trans xB_nil
theorem r_check (A : List (List Rat)) (g : List Rat) {a : Nat} (ha : a ≤ 400000) (hlen : A.length = g.length) (hA : ∀ l ∈ A, l.length = widthOf A ∧ ∀ p ∈ l, Sz a p) (hg : ∀ p ∈ g, Sz a p) (hm : A.length ≤ 100) (hw : widthOf A ≤ 100) :
    R (j + 3) 10 [matD A, tupD g] μ = some (.ok .non, μ) := by
  rw [R_eq (f := f10) rfl]
  obtain ⟨s3', hloop⟩ := r10_loop j μ (srcOf μ (matD A)) srcOk_at (some (matD A)) (some (tupD g)) (widthOf A) ha (by omega) A [] none none hA
  rw [List.map_nil, List.append_nil] at hloop
  refine run_cellsN (μ' := μ) rfl rfl rfl (δ := [some (matD A), some (tupD g), some (.int (widthOf A)), s3', none]) ?_
  show exB Gv (R (j + 2)) (.cons _ (.cons _ (.cons _ (.cons _ (.cons _ .nil))))) [some (matD A), some (tupD g), none, none, none] μ = _
  have h1 : evE Gv (R (j + 2)) (.or_ (.not_ (.isi .tup (.var 0))) (.or_ (.not_ (.isi .tup (.var 1))) (.cmp .ne (.len (.var 0)) (.len (.var 1))))) [some (matD A), some (tupD g), none, none, none] μ = some (.ok (.bl (!true || (!true || !decide (((A.map tupD).length : Int) = (rts g).length)))), μ) :=
    x_or (x_not (x_isi (x_var rfl) rfl)) fun _ => x_or (x_not (x_isi (x_var rfl) rfl)) fun _ => x_neI (x_len (x_var (d := matD A) rfl) rfl) (x_len (x_var (d := tupD g) rfl) rfl)
  have hb : (!true || (!true || !decide (((A.map tupD).length : Int) = (rts g).length))) = false := by
    have : ((A.map tupD).length : Int) = (rts g).length := by simp [rts, hlen]
    rw [decide_eq_true this]
    rfl
  rw [hb] at h1
  refine (xB_nx (μ' := μ) (xS_iteF h1 (xB_nil (G := Gv)))).trans ?_
  refine (xB_nx (xS_asg (x_widthOf (x_var rfl)) rfl)).trans ?_
  refine (xB_nx (xS_for (xI_seq (x_var (d := matD A) rfl) rfl) hloop)).trans ?_
  have e1 : evE Gv (R (j + 2)) (.not_ (.all (.comp false [4] (.nm 4) (.seq (.var 1)) .no (.call 1 (.cons (.var 4) .nil))))) [some (matD A), some (tupD g), some (.int (widthOf A)), s3', none] μ = some (.ok (.bl (!true)), μ) :=
    x_not (x_ratios (l := g) (x_var rfl) rfl (by show 4 < 5; omega) (by omega) fun p hp => r_isratio j μ p (hg p hp) ha)
  refine (xB_nx (μ' := μ) (xS_iteF e1 (xB_nil (G := Gv)))).trans ?_
  have e2 : evE Gv (R (j + 2)) (.cmp .gt (.bin .mul (.len (.var 0)) (.var 2)) (.glb "MOST_CELLS")) [some (matD A), some (tupD g), some (.int (widthOf A)), s3', none] μ = some (.ok (.bl (decide ((60000 : Int) < ((A.map tupD).length : Int) * (widthOf A : Int)))), μ) := by
    refine x_gtI ?_ (by simp only [evE, gMC, M.opt]; rfl)
    have ea := x_len (Φ := R (j + 2)) (μ := μ) (x_var (δ := [some (matD A), some (tupD g), some (.int (widthOf A)), s3', none]) (i := 0) (d := matD A) rfl) (ds := A.map tupD) rfl
    have eb : evE Gv (R (j + 2)) (.var 2) [some (matD A), some (tupD g), some (.int (widthOf A)), s3', none] μ = some (.ok (.int (widthOf A)), μ) := x_var rfl
    rw [evE]
    simp only [M.bind, ea, eb, opB, mulD]
    have o1 : okBig ((A.map tupD).length : Int) = true := okBig_iff.mpr (by rw [Int.natAbs_natCast, List.length_map]; exact ok_huge (a := 10) (by omega) (by decide))
    have o2 : okBig (widthOf A : Int) = true := okBig_iff.mpr (by rw [Int.natAbs_natCast]; exact ok_huge (a := 10) (by omega) (by decide))
    rw [o1, o2]
    rfl
  have hb2 : decide ((60000 : Int) < ((A.map tupD).length : Int) * (widthOf A : Int)) = false := by
    refine decide_eq_false ?_
    rw [List.length_map, ← Int.natCast_mul]
    have : A.length * widthOf A ≤ 100 * 100 := Nat.mul_le_mul hm hw
    omega
  rw [hb2] at e2
  exact (xB_nx (μ' := μ) (xS_iteF e2 (xB_nil (G := Gv)))).trans xB_nil
/-- other lengths are refused -/
theorem r_check_len (A : List (List Rat)) (g : List Rat) (hlen : A.length ≠ g.length) : R (j + 3) 10 [matD A, tupD g] μ = some (.error "BadTable", μ) := by
  rw [R_eq (f := f10) rfl]
  refine run_err rfl ?_
  show exB Gv (R (j + 2)) (.cons _ (.cons _ (.cons _ (.cons _ (.cons _ .nil))))) [some (matD A), some (tupD g), none, none, none] μ = _
  have h1 : evE Gv (R (j + 2)) (.or_ (.not_ (.isi .tup (.var 0))) (.or_ (.not_ (.isi .tup (.var 1))) (.cmp .ne (.len (.var 0)) (.len (.var 1))))) [some (matD A), some (tupD g), none, none, none] μ = some (.ok (.bl (!true || (!true || !decide (((A.map tupD).length : Int) = (rts g).length)))), μ) :=
    x_or (x_not (x_isi (x_var rfl) rfl)) fun _ => x_or (x_not (x_isi (x_var rfl) rfl)) fun _ => x_neI (x_len (x_var (d := matD A) rfl) rfl) (x_len (x_var (d := tupD g) rfl) rfl)
  have hb : (!true || (!true || !decide (((A.map tupD).length : Int) = (rts g).length))) = true := by
    have : ¬ ((A.map tupD).length : Int) = (rts g).length := by simp [rts]; omega
    rw [decide_eq_false this]
    rfl
  rw [hb] at h1
  refine xB_er (xS_iteT h1 ?_)
  simp only [exB, exS, M.bind]
  rfl
theorem r_check_row (A : List (List Rat)) (l : List Rat) (rest : List (List Rat)) (g : List Rat) {a : Nat} (ha : a ≤ 400000) (hlen : A.length + (rest.length + 1) = g.length) (hA : ∀ z ∈ A, z.length = widthOf (A ++ l :: rest) ∧ ∀ p ∈ z, Sz a p) (hw : widthOf (A ++ l :: rest) ≤ 100) (hl : l.length ≠ widthOf (A ++ l :: rest)) :
    R (j + 3) 10 [matD (A ++ l :: rest), tupD g] μ = some (.error "BadTable", μ) := by
  rw [R_eq (f := f10) rfl]
  refine run_err rfl ?_
  obtain ⟨s3', hloop⟩ := r10_loop j μ (srcOf μ (matD (A ++ l :: rest))) srcOk_at (some (matD (A ++ l :: rest))) (some (tupD g)) (widthOf (A ++ l :: rest)) ha (by omega) A (l :: rest) none none hA
  show exB Gv (R (j + 2)) (.cons _ (.cons _ (.cons _ (.cons _ (.cons _ .nil))))) [some (matD (A ++ l :: rest)), some (tupD g), none, none, none] μ = _
  have h1 : evE Gv (R (j + 2)) (.or_ (.not_ (.isi .tup (.var 0))) (.or_ (.not_ (.isi .tup (.var 1))) (.cmp .ne (.len (.var 0)) (.len (.var 1))))) [some (matD (A ++ l :: rest)), some (tupD g), none, none, none] μ = some (.ok (.bl (!true || (!true || !decide ((((A ++ l :: rest).map tupD).length : Int) = (rts g).length)))), μ) :=
    x_or (x_not (x_isi (x_var rfl) rfl)) fun _ => x_or (x_not (x_isi (x_var rfl) rfl)) fun _ => x_neI (x_len (x_var (d := matD (A ++ l :: rest)) rfl) rfl) (x_len (x_var (d := tupD g) rfl) rfl)
  have hb : (!true || (!true || !decide ((((A ++ l :: rest).map tupD).length : Int) = (rts g).length))) = false := by
    have : (((A ++ l :: rest).map tupD).length : Int) = (rts g).length := by
      simp only [rts, List.length_map, List.length_append, List.length_cons]
      omega
    rw [decide_eq_true this]
    rfl
  rw [hb] at h1
  refine (xB_nx (μ' := μ) (xS_iteF h1 (xB_nil (G := Gv)))).trans ?_
  refine (xB_nx (xS_asg (x_widthOf (x_var rfl)) rfl)).trans ?_
  refine xB_er (xS_for (xI_seq (x_var (d := matD (A ++ l :: rest)) rfl) rfl) ?_)
  have em : (A ++ l :: rest).map tupD = A.map tupD ++ (l :: rest).map tupD := List.map_append
  show forL _ _ _ ((A ++ l :: rest).map tupD) _ μ = _
  rw [em]
  refine hloop.trans ?_
  have ht : evE Gv (R (j + 2)) (.or_ (.not_ (.isi .tup (.var 3))) (.or_ (.cmp .ne (.len (.var 3)) (.var 2)) (.not_ (.all (.comp false [4] (.nm 4) (.seq (.var 3)) .no (.call 1 (.cons (.var 4) .nil))))))) [some (matD (A ++ l :: rest)), some (tupD g), some (.int (widthOf (A ++ l :: rest))), some (tupD l), none] μ = some (.ok (.bl (!true || true)), μ) := by
    refine x_or (x_not (x_isi (x_var rfl) rfl)) fun _ => x_orT ?_
    have := x_neI (Φ := R (j + 2)) (μ := μ) (x_len (x_var (δ := [some (matD (A ++ l :: rest)), some (tupD g), some (.int (widthOf (A ++ l :: rest))), some (tupD l), none]) (i := 3) (d := tupD l) rfl) (ds := rts l) rfl) (x_var (i := 2) (d := .int (widthOf (A ++ l :: rest))) rfl)
    rw [this]
    have hne : ¬ ((rts l).length : Int) = (widthOf (A ++ l :: rest) : Int) := by
      simp only [rts, List.length_map]
      omega
    rw [decide_eq_false hne]
    rfl
  have hbody : exB Gv (R (j + 2)) (.cons (.ite (.or_ (.not_ (.isi .tup (.var 3))) (.or_ (.cmp .ne (.len (.var 3)) (.var 2)) (.not_ (.all (.comp false [4] (.nm 4) (.seq (.var 3)) .no (.call 1 (.cons (.var 4) .nil)))))))
    (.cons (.raise "BadTable") .nil) .nil) .nil) [some (matD (A ++ l :: rest)), some (tupD g), some (.int (widthOf (A ++ l :: rest))), some (tupD l), none] μ = some (.error "BadTable", μ) := by
    refine xB_er (xS_iteT ht ?_)
    simp only [exB, exS, M.bind]
    rfl
  show forL _ _ _ (tupD l :: rest.map tupD) _ μ = _
  simp only [forL, bindT]
  show M.bind _ _ μ = _
  unfold M.bind
  have : ([some (matD (A ++ l :: rest)), some (tupD g), some (.int (widthOf (A ++ l :: rest))), s3', none] : List (Option D)).set 3 (some (tupD l)) = [some (matD (A ++ l :: rest)), some (tupD g), some (.int (widthOf (A ++ l :: rest))), some (tupD l), none] := rfl
  rw [this, hbody]
end
end K40
end
set_option maxHeartbeats 4000000
section
/-! What the defs do: the board is made; columns. -/
namespace K40
open NB
section
variable {Φ : Nat → List D → M D} {δ δ' : List (Option D)} {μ μ' μ1 : List MO} {d : D} {b : Bd}
theorem xS_setF {e : Ex} {f : PySem.Str} {n : Nat} {fs : List (PySem.Str × D)} (he : evE Gv Φ e δ μ = some (.ok d, μ1)) (h0 : δ[0]? = some (some (.ptr n))) (hn : μ1[n]? = some (.ins fs)) (hl : fs.length ≤ 100) : exS Gv Φ (.setF (.var 0) f e) δ μ = some (.ok (.nx δ), μ1.set n (.ins (putD f d fs))) := by
  have ho : evE Gv Φ (.var 0) δ μ1 = some (.ok (.ptr n), μ1) := x_var h0
  simp only [exS, M.bind, he, ho, hn, if_pos hl]
theorem x_cat {a c : Ex} {xs ys : List Rat} (ha : evE Gv Φ a δ μ = some (.ok (rowD xs), μ)) (hc : evE Gv Φ c δ μ = some (.ok (rowD ys), μ)) (hl : xs.length + ys.length ≤ 1000) : evE Gv Φ (.bin .add a c) δ μ = some (.ok (rowD (xs ++ ys)), μ) := by
  rw [evE]
  simp only [M.bind, ha, hc, opB, addD, rowD, lstOf]
  have : (rts xs).length + (rts ys).length ≤ lim := by
    simp only [rts, List.length_map]
    exact Nat.le_trans hl (by decide)
  rw [if_pos this]
  simp only [rts, List.map_append]
theorem x_appL {e : Ex} {l : List Rat} (h0 : δ[0]? = some (some (.ptr μ.length))) (he : evE Gv Φ e δ (mem μ b) = some (.ok (rowD l), mem μ b)) (hl : b.ls.length ≤ 1000) : evE Gv Φ (.app (.fld (.var 0) "lines") e) δ (mem μ b) = some (.ok .non, mem μ { b with ls := b.ls ++ [l] }) := by
  have ho := x_lines (Φ := Φ) (b := b) h0
  have hm := mem_setL (μ := μ) (b := b) (b.ls ++ [l])
  rw [evE]
  simp only [M.bind, ho, isLst, mem_ls, if_true, he, appD]
  have : (b.ls.map rowD).length ≤ lim := by rw [List.length_map]; exact Nat.le_trans hl (by decide)
  rw [if_pos this]
  rw [List.map_append] at hm
  have hm' : (mem μ b).set (μ.length + 1) (.lst (b.ls.map rowD ++ [rowD l])) = mem μ { b with ls := b.ls ++ [l] } := hm
  rw [hm']
theorem x_appB {e : Ex} {o : Option Nat} (h0 : δ[0]? = some (some (.ptr μ.length))) (he : evE Gv Φ e δ (mem μ b) = some (.ok (obD o), mem μ b)) (hl : b.bs.length ≤ 1000) : evE Gv Φ (.app (.fld (.var 0) "basic") e) δ (mem μ b) = some (.ok .non, mem μ { b with bs := b.bs ++ [o] }) := by
  have ho := x_basic (Φ := Φ) (b := b) h0
  have hm := mem_setB (μ := μ) (b := b) (b.bs ++ [o])
  rw [evE]
  simp only [M.bind, ho, isLst, mem_bs, if_true, he, appD]
  have : (b.bs.map obD).length ≤ lim := by rw [List.length_map]; exact Nat.le_trans hl (by decide)
  rw [if_pos this]
  rw [List.map_append] at hm
  have hm' : (mem μ b).set (μ.length + 2) (.lst (b.bs.map obD ++ [obD o])) = mem μ { b with bs := b.bs ++ [o] } := hm
  rw [hm']
end
/-! ### the board's first lines -/
def sg (g : Rat) : Rat := if g < 0 then -1 else 1
def line0 (m k : Nat) (row : List Rat) (g : Rat) : List Rat := row.map (fun x => sg g * x) ++ (List.range m).map (fun i => if k = i then sg g else 0) ++ [sg g * g]
def lines0 (m : Nat) : Nat → List (List Rat) → List Rat → List (List Rat)
  | k, row :: rows, g :: gs => line0 m k row g :: lines0 m (k + 1) rows gs
  | _, _, _ => []
def nones : List (List Rat) → List Rat → List (Option Nat)
  | _ :: rows, _ :: gs => none :: nones rows gs
  | _, _ => []
theorem rt_m1 : D.tup [.int (-1), .int 1] = rt (-1) := by decide +kernel
theorem r14_loop (j : Nat) (μ : List MO) (src : List (Nat × MO)) (hs : src = []) (m W : Nat) (hm : m ≤ 100) {a : Nat} (ha : a + 1 ≤ 400) (o1 o2 : Option D) : ∀ (rows : List (List Rat)) (gs : List Rat) (k : Nat) (ls : List (List Rat)) (bs : List (Option Nat)) (s3 s4 s5 s6 s8 : Option D), (∀ l ∈ rows, l.length ≤ 100 ∧ ∀ p ∈ l, Sz a p) → (∀ g ∈ gs, Sz a g) → ls.length + rows.length ≤ 900 → bs.length + rows.length ≤ 900 →
    ∃ s3' s4' s5' s6' s8', forL src (.cons (.nm 3) (.cons (.cons (.nm 4) (.cons (.nm 5) .nil)) .nil)) (fun δ' => exB Gv (R (j + 3)) (.cons (.asg (.nm 6) (.ite (.cmp .lt (.idx (.var 5) (.int 0)) (.int 0)) (.tup (.cons (.neg (.int 1)) (.cons (.int 1) .nil))) (.glb "ONE")))
    (.cons (.asg (.nm 8) (.comp false [7] (.nm 7) (.rng (.fld (.var 0) "count")) .no (.ite (.cmp .eq (.var 3) (.var 7)) (.var 6) (.glb "ZERO"))))
    (.cons (.expr (.app (.fld (.var 0) "lines") (.bin .add (.bin .add (.comp false [9] (.nm 9) (.seq (.var 4)) .no (.call 6 (.cons (.var 6) (.cons (.var 9) .nil)))) (.var 8)) (.lst false (.cons (.call 6 (.cons (.var 6) (.cons (.var 5) .nil))) .nil)))))
    (.cons (.expr (.app (.fld (.var 0) "basic") .non))
    .nil)))) δ') (enums k (pairs (rows.map tupD) (rts gs))) [some (.ptr μ.length), o1, o2, s3, s4, s5, s6, none, s8, none] (mem μ ⟨W, m, ls, bs⟩) =
      some (.ok (.nx [some (.ptr μ.length), o1, o2, s3', s4', s5', s6', none, s8', none]), mem μ ⟨W, m, ls ++ lines0 m k rows gs, bs ++ nones rows gs⟩)
  | [], gs, k, ls, bs, s3, s4, s5, s6, s8, _, _, _, _ => ⟨s3, s4, s5, s6, s8, by rw [show lines0 m k [] gs = [] from rfl, show nones [] gs = [] from rfl, List.append_nil, List.append_nil]; rfl⟩
  | row :: rows, [], k, ls, bs, s3, s4, s5, s6, s8, _, _, _, _ => ⟨s3, s4, s5, s6, s8, by rw [show lines0 m k (row :: rows) [] = [] from rfl, show nones (row :: rows) [] = [] from rfl, List.append_nil, List.append_nil]; rfl⟩
  | row :: rows, g :: gs, k, ls, bs, s3, s4, s5, s6, s8, hr, hg, h1, h2 => by
    subst hs
    obtain ⟨hl, hz⟩ := hr row List.mem_cons_self
    have szg := hg g List.mem_cons_self
    have ssg : Sz 1 (sg g) := by
      unfold sg
      split
      · exact (Sz.one 1 (by decide)).neg
      · exact Sz.one 1 (by decide)
    obtain ⟨s3', s4', s5', s6', s8', ih⟩ := r14_loop j μ [] rfl m W hm ha o1 o2 rows gs (k + 1) (ls ++ [line0 m k row g]) (bs ++ [none]) (some (.int k)) (some (tupD row)) (some (rt g)) (some (rt (sg g))) (some (rowD ((List.range m).map (fun i => if k = i then sg g else 0)))) (fun z hz => hr z (List.mem_cons_of_mem _ hz)) (fun z hz => hg z (List.mem_cons_of_mem _ hz)) (by rw [List.length_append]; simp at h1 ⊢; omega) (by rw [List.length_append]; simp at h2 ⊢; omega)
    have e1 : ls ++ lines0 m k (row :: rows) (g :: gs) = ls ++ [line0 m k row g] ++ lines0 m (k + 1) rows gs := by rw [List.append_assoc]; rfl
    have e2 : bs ++ nones (row :: rows) (g :: gs) = bs ++ [none] ++ nones rows gs := by rw [List.append_assoc]; rfl
    rw [e1, e2]
    refine ⟨s3', s4', s5', s6', s8', (forL_nx (δ1 := [some (.ptr μ.length), o1, o2, some (.int k), some (tupD row), some (rt g), s6, none, s8, none]) (δ2 := [some (.ptr μ.length), o1, o2, some (.int k), some (tupD row), some (rt g), some (rt (sg g)), none, some (rowD ((List.range m).map (fun i => if k = i then sg g else 0))), none]) (μ' := mem μ ⟨W, m, ls ++ [line0 m k row g], bs ++ [none]⟩) rfl ?_ rfl).trans ih⟩
    refine (xB_nx (xS_asg (d := rt (sg g)) (μ' := mem μ ⟨W, m, ls, bs⟩) ?_ rfl)).trans ?_
    · have ht := x_lt0 (Φ := R (j + 3)) (δ := [some (.ptr μ.length), o1, o2, some (.int k), some (tupD row), some (rt g), s6, none, s8, none]) (a := .var 5) (p := g) (μ := mem μ ⟨W, m, ls, bs⟩) (x_var rfl)
      unfold sg
      by_cases hlt : g < 0
      · rw [decide_eq_true hlt] at ht
        rw [if_pos hlt, ← rt_m1]
        refine x_iteT ht ?_
        simp [evE, evA, M.bind, M.ok, lim]
      · rw [decide_eq_false hlt] at ht
        rw [if_neg hlt]
        refine x_iteF ht ?_
        simp only [evE, gO, M.opt]
        rfl
    refine (xB_nx (xS_asg (d := rowD ((List.range m).map (fun i => if k = i then sg g else 0))) (μ' := mem μ ⟨W, m, ls, bs⟩) ?_ rfl)).trans ?_
    · refine (xE_comp1 (g := fun d => match d with
        | .int i => rt (if (k : Int) = i then sg g else 0)
        | _ => .non) (xI_rng (n := m) (x_count (b := ⟨W, m, ls, bs⟩) rfl) (by omega)) rfl ?_ fun d hd => ?_).trans ?_
      · show (intsD 0 m).length ≤ lim
        rw [intsD_range, List.length_map, List.length_range]
        exact Nat.le_trans hm (by decide)
      · have hd : d ∈ intsD 0 m := hd
        rw [intsD_range] at hd
        obtain ⟨i, hi, rfl⟩ := List.mem_map.mp hd
        refine ⟨[some (.ptr μ.length), o1, o2, some (.int k), some (tupD row), some (rt g), some (rt (sg g)), some (.int i), s8, none], rfl, ?_⟩
        have ht := x_eqI (Φ := R (j + 3)) (δ := [some (.ptr μ.length), o1, o2, some (.int k), some (tupD row), some (rt g), some (rt (sg g)), some (.int i), s8, none]) (μ := mem μ ⟨W, m, ls, bs⟩) (a := .var 3) (c := .var 7) (i := k) (k := i) (x_var rfl) (x_var rfl)
        by_cases he : (k : Int) = i
        · rw [decide_eq_true he] at ht
          simp only [if_pos he]
          exact x_iteT ht (x_var rfl)
        · rw [decide_eq_false he] at ht
          simp only [if_neg he]
          exact x_iteF ht x_zero
      · show some (Except.ok (D.lst ((intsD 0 m).map _)), _) = some (Except.ok (D.lst (rts _)), _)
        rw [intsD_range, List.map_map]
        unfold rts
        rw [List.map_map]
        congr 4
        refine List.map_congr_left fun i _ => ?_
        show rt (if (k : Int) = (i : Int) then sg g else 0) = rt (if k = i then sg g else 0)
        by_cases he : k = i
        · rw [if_pos he, if_pos (show (k : Int) = i by omega)]
        · rw [if_neg he, if_neg (show ¬ (k : Int) = i by omega)]
    refine (xB_nx (xS_expr (x_appL (b := ⟨W, m, ls, bs⟩) (l := line0 m k row g) rfl ?_ (by simp at h1; show ls.length ≤ 1000; omega)))).trans ?_
    · refine x_cat (x_cat (xs := row.map (fun x => sg g * x)) (ys := (List.range m).map (fun i => if k = i then sg g else 0)) ?_ (x_var rfl) ?_) (ys := [sg g * g]) ?_ ?_
      · refine (xE_comp1 (g := fun d => rt (sg g * unrt d)) (xI_seq (d := tupD row) (x_var rfl) rfl) rfl ?_ fun d hd => ?_).trans ?_
        · show (rts row).length ≤ lim
          simp only [rts, List.length_map]
          exact Nat.le_trans hl (by decide)
        · obtain ⟨p, hp, rfl⟩ := List.mem_map.mp hd
          refine ⟨[some (.ptr μ.length), o1, o2, some (.int k), some (tupD row), some (rt g), some (rt (sg g)), none, some (rowD ((List.range m).map (fun i => if k = i then sg g else 0))), some (rt p)], rfl, ?_⟩
          rw [unrt_rt, xE_call (xA_cons (x_var rfl) (xA_cons (x_var rfl) xA_nil))]
          exact r_mul j _ _ p ssg (hz p hp) (by omega)
        · show some (Except.ok (D.lst ((rts row).map _)), _) = some (Except.ok (D.lst (rts _)), _)
          unfold rts
          rw [List.map_map, List.map_map]
          congr 4
          exact List.map_congr_left fun p _ => by simp [unrt_rt]
      · simp; omega
      · have m1 := r_mul j (mem μ ⟨W, m, ls, bs⟩) (sg g) g ssg szg (by omega)
        have e : evE Gv (R (j + 3)) (.call 6 (.cons (.var 6) (.cons (.var 5) .nil))) [some (.ptr μ.length), o1, o2, some (.int k), some (tupD row), some (rt g), some (rt (sg g)), none, some (rowD ((List.range m).map (fun i => if k = i then sg g else 0))), none] (mem μ ⟨W, m, ls, bs⟩) = some (.ok (rt (sg g * g)), mem μ ⟨W, m, ls, bs⟩) := (xE_call (xA_cons (x_var rfl) (xA_cons (x_var rfl) xA_nil))).trans m1
        have e' : evE Gv (R (j + 3)) (.lst false (.cons (.call 6 (.cons (.var 6) (.cons (.var 5) .nil))) .nil)) [some (.ptr μ.length), o1, o2, some (.int k), some (tupD row), some (rt g), some (rt (sg g)), none, some (rowD ((List.range m).map (fun i => if k = i then sg g else 0))), none] (mem μ ⟨W, m, ls, bs⟩) = some (.ok (rowD [sg g * g]), mem μ ⟨W, m, ls, bs⟩) := by
          rw [evE]
          simp only [M.bind, xA_cons e xA_nil]
          have hl1 : ([rt (sg g * g)] : List D).length ≤ lim := by show 1 ≤ 1000000; decide
          rw [if_pos hl1]
          rfl
        exact e'
      · simp; omega
    refine (xB_nx (xS_expr (x_appB (b := ⟨W, m, ls ++ [line0 m k row g], bs⟩) (o := none) rfl ?_ (by simp at h2; show bs.length ≤ 1000; omega)))).trans xB_nil
    simp only [evE]
    rfl
def board0 (A : List (List Rat)) (g : List Rat) : Bd := ⟨widthOf A, A.length, lines0 A.length 0 A g, nones A g⟩
theorem set_at (μ : List MO) (x y : MO) (r : List MO) : (μ ++ x :: r).set μ.length y = μ ++ y :: r := by
  rw [List.set_append_right _ _ (Nat.le_refl _), Nat.sub_self]
  rfl
theorem get_at (μ : List MO) (x : MO) (r : List MO) : (μ ++ x :: r)[μ.length]? = some x := by
  rw [List.getElem?_append_right (Nat.le_refl _), Nat.sub_self]
  rfl
theorem r_init (j : Nat) (μ : List MO) (A : List (List Rat)) (g : List Rat) {a : Nat} (ha : a + 1 ≤ 400) (hA : ∀ l ∈ A, l.length ≤ 100 ∧ ∀ p ∈ l, Sz a p) (hg : ∀ p ∈ g, Sz a p) (hm : A.length ≤ 100) : R (j + 4) 14 [.ptr μ.length, matD A, tupD g] (μ ++ [.ins []]) = some (.ok .non, mem μ (board0 A g)) := by
  rw [R_eq (f := f14) rfl]
  obtain ⟨s3', s4', s5', s6', s8', hloop⟩ := r14_loop j μ [] rfl A.length (widthOf A) hm ha (some (matD A)) (some (tupD g)) A g 0 [] [] none none none none none hA hg (by simp; omega) (by simp; omega)
  have key : exB Gv (R (j + 3)) f14.body [some (.ptr μ.length), some (matD A), some (tupD g), none, none, none, none, none, none, none] (μ ++ [.ins []]) = some (.ok (.nx [some (.ptr μ.length), some (matD A), some (tupD g), s3', s4', s5', s6', none, s8', none]), mem μ (board0 A g)) := by
    show exB Gv (R (j + 3)) (.cons _ (.cons _ (.cons _ (.cons _ (.cons _ .nil))))) _ _ = _
    have k1 : ¬ (("count" : PySem.Str) = ("width" : PySem.Str)) := by decide +kernel
    have k2 : ¬ (("count" : PySem.Str) = ("lines" : PySem.Str)) := by decide +kernel
    have k3 : ¬ (("width" : PySem.Str) = ("lines" : PySem.Str)) := by decide +kernel
    have k4 : ¬ (("count" : PySem.Str) = ("basic" : PySem.Str)) := by decide +kernel
    have k5 : ¬ (("width" : PySem.Str) = ("basic" : PySem.Str)) := by decide +kernel
    have k6 : ¬ (("lines" : PySem.Str) = ("basic" : PySem.Str)) := by decide +kernel
    have l1 : ((A.map tupD).length : Int) = (A.length : Int) := by rw [List.length_map]
    refine (xB_nx (xS_setF (d := .int A.length) (μ1 := μ ++ [.ins []]) (n := μ.length) (fs := []) ?_ rfl (get_at μ _ _) (by simp))).trans ?_
    · rw [← l1]
      exact x_len (x_var (d := matD A) rfl) rfl
    rw [set_at]
    refine (xB_nx (xS_setF (d := .int (widthOf A)) (μ1 := μ ++ [.ins [("count", .int A.length)]]) (n := μ.length) (fs := [("count", .int A.length)]) ?_ rfl (get_at μ _ _) (by simp))).trans ?_
    · exact x_widthOf (x_var rfl)
    rw [set_at]
    simp only [putD, if_neg k1]
    refine (xB_nx (xS_setF (d := .ptr (μ.length + 1)) (μ1 := μ ++ [.ins [("count", .int A.length), ("width", .int (widthOf A))], .lst []]) (n := μ.length) (fs := [("count", .int A.length), ("width", .int (widthOf A))]) ?_ rfl (get_at μ _ _) (by simp))).trans ?_
    · simp [evE, evA, M.bind, M.ok, fresh, lim]
    rw [set_at]
    simp only [putD, if_neg k2, if_neg k3]
    refine (xB_nx (xS_setF (d := .ptr (μ.length + 2)) (μ1 := μ ++ [.ins [("count", .int A.length), ("width", .int (widthOf A)), ("lines", .ptr (μ.length + 1))], .lst [], .lst []]) (n := μ.length) (fs := [("count", .int A.length), ("width", .int (widthOf A)), ("lines", .ptr (μ.length + 1))]) ?_ rfl (get_at μ _ _) (by simp))).trans ?_
    · simp [evE, evA, M.bind, M.ok, fresh, lim]
    rw [set_at]
    simp only [putD, if_neg k4, if_neg k5, if_neg k6]
    have em : μ ++ [.ins [("count", .int A.length), ("width", .int (widthOf A)), ("lines", .ptr (μ.length + 1)), ("basic", .ptr (μ.length + 2))], .lst [], .lst []] = mem μ ⟨widthOf A, A.length, [], []⟩ := rfl
    rw [em]
    exact (xB_nx (xS_for (xI_ezip (x_var (d := matD A) rfl) (x_var (d := tupD g) rfl) rfl rfl) hloop)).trans xB_nil
  unfold runFn
  rw [if_pos (show [D.ptr μ.length, matD A, tupD g].length = f14.np from rfl)]
  have hk : exB Gv (R (j + 3)) f14.body ([D.ptr μ.length, matD A, tupD g].map some ++ List.replicate (f14.nl - [D.ptr μ.length, matD A, tupD g].length) none) (μ ++ [.ins []]) = _ := key
  rw [hk]
  rfl
/-! ### columns_of -/
def colL (A : List (List Rat)) (k : Nat) : List Rat := A.map fun r => r.getD k 0
def colsL (A : List (List Rat)) : List (List Rat) := (List.range (widthOf A)).map (colL A)
def colsD (A : List (List Rat)) : D := .lst ((colsL A).map tupD)
theorem r_columns (j : Nat) (μ : List MO) (A : List (List Rat)) (hA : ∀ l ∈ A, l.length = widthOf A) (hm : A.length ≤ 100) (hw : widthOf A ≤ 100) : R (j + 1) 13 [matD A] μ = some (.ok (colsD A), μ) := by
  rw [R_eq (f := f13) rfl]
  have hp : plain (colsD A) = true := plains_iff.mpr fun d hd => by
    obtain ⟨l, _, rfl⟩ := List.mem_map.mp hd
    exact plain_tup l
  refine run_pure rfl rfl hp ?_
  show exB Gv (R j) (.cons _ .nil) [some (matD A), none, none] μ = _
  refine xB_rt (xS_ret ?_)
  refine (xE_comp1 (g := fun d => match d with
    | .int i => tupD (colL A i.toNat)
    | _ => .non) (xI_rng (n := widthOf A) (x_widthOf (x_var rfl)) (by omega)) rfl ?_ fun d hd => ?_).trans ?_
  · show (intsD 0 (widthOf A)).length ≤ lim
    rw [intsD_range, List.length_map, List.length_range]
    exact Nat.le_trans hw (by decide)
  · have hd : d ∈ intsD 0 (widthOf A) := hd
    rw [intsD_range] at hd
    obtain ⟨i, hi, rfl⟩ := List.mem_map.mp hd
    have hi : i < widthOf A := List.mem_range.mp hi
    refine ⟨[some (matD A), some (.int i), none], rfl, ?_⟩
    have hc : evE Gv (R j) (.comp false [2] (.nm 2) (.seq (.var 0)) .no (.idx (.var 2) (.var 1))) [some (matD A), some (.int i), none] μ = some (.ok (rowD (colL A i)), μ) := by
      refine (xE_comp1 (g := fun d => match d with
        | .tup ds => ds.getD i .non
        | _ => .non) (xI_seq (d := matD A) (x_var rfl) rfl) rfl ?_ fun d hd => ?_).trans ?_
      · show (A.map tupD).length ≤ lim
        rw [List.length_map]
        exact Nat.le_trans hm (by decide)
      · obtain ⟨l, hl, rfl⟩ := List.mem_map.mp hd
        have hil : i < l.length := by rw [hA l hl]; exact hi
        refine ⟨[some (matD A), some (.int i), some (tupD l)], rfl, ?_⟩
        refine x_idx (k := i) (x_var (d := tupD l) rfl) (x_var rfl) rfl ?_
        rw [rts_get hil]
        simp [tupD, List.getD_eq_getElem?_getD, rts_get hil]
      · show some (Except.ok (D.lst ((A.map tupD).map _)), _) = some (Except.ok (D.lst (rts _)), _)
        unfold rts colL
        rw [List.map_map, List.map_map]
        congr 4
        refine List.map_congr_left fun l hl => ?_
        have hil : i < l.length := by rw [hA l hl]; exact hi
        show (rts l).getD i .non = rt (l.getD i 0)
        rw [List.getD_eq_getElem?_getD, rts_get hil]
        rfl
    have hx : (i : Int).toNat = i := by omega
    rw [evE]
    simp only [M.bind, hc, hx]
    rfl
  · show some (Except.ok (D.lst ((intsD 0 (widthOf A)).map _)), _) = some (Except.ok (D.lst _), _)
    rw [intsD_range, List.map_map]
    unfold colsL
    rw [List.map_map]
    congr 4
end K40
end
set_option maxHeartbeats 4000000
section
/-! What the defs do: solve, greatest, is_bar, is_dual. -/
namespace K40
open NB
section
variable {Φ : Nat → List D → M D} {δ δ' : List (Option D)} {μ μ' μ1 : List MO} {d : D} {b : Bd}
theorem x_mthO {f : Nat} {m : PySem.Str} {o : Ex} {es : Exs} {ds : List D} {r : D} {b' : Bd} (ho : evE Gv Φ o δ (mem μ b) = some (.ok (.ptr μ.length), mem μ b)) (hm : (insF b μ.length).lookup m = none) (ha : evA Gv Φ es δ (mem μ b) = some (.ok ds, mem μ b)) (hr : Φ f (.ptr μ.length :: ds) (mem μ b) = some (.ok r, mem μ b')) :
    evE Gv Φ (.mth f m o es) δ (mem μ b) = some (.ok r, mem μ b') := by
  rw [evE]
  simp only [M.bind, ho, mem_ins, hm, ha, M.calm, hr]
theorem x_mk {es : Exs} {ds : List D} {b' : Bd} (ha : evA Gv Φ es δ μ = some (.ok ds, μ)) (hr : Φ 14 (.ptr μ.length :: ds) (μ ++ [.ins []]) = some (.ok .non, mem μ b')) : evE Gv Φ (.mk 14 es) δ μ = some (.ok (.ptr μ.length), mem μ b') := by
  rw [evE]
  simp only [M.bind, ha, hr]
theorem xS_itF {k : Ex} {a c : Sxs} {r : Option (Except PySem.Str Fl × List MO)} (h : evE Gv Φ k δ μ = some (.ok (.bl false), μ')) (hb : exB Gv Φ c δ μ' = r) : exS Gv Φ (.ite k a c) δ μ = r := by
  rw [xS_ite h, if_neg Bool.false_ne_true]
  exact hb
theorem xS_itT {k : Ex} {a c : Sxs} {r : Option (Except PySem.Str Fl × List MO)} (h : evE Gv Φ k δ μ = some (.ok (.bl true), μ')) (ha : exB Gv Φ a δ μ' = r) : exS Gv Φ (.ite k a c) δ μ = r := by
  rw [xS_ite h, if_pos rfl]
  exact ha
theorem mem_take (b : Bd) : (mem μ b).take μ.length = μ := by simp [mem]
/-- tuple([negative(item) for item in a]) -/
theorem x_negs {k : Nat} {a : Ex} {l : List Rat} (ha : evE Gv Φ a δ μ = some (.ok (tupD l), μ)) (hk : k < δ.length) (hl : l.length ≤ 1000) (hΦ : ∀ p, Φ 9 [rt p] μ = some (.ok (rt (-p)), μ)) :
    evE Gv Φ (.tupl (.comp false [k] (.nm k) (.seq a) .no (.call 9 (.cons (.var k) .nil)))) δ μ = some (.ok (tupD (l.map fun x => -x)), μ) := by
  have hw : (wipeD δ [k]).length = δ.length := by simp [wipeD]
  have hc := xE_comp1 (own := [k]) (t := .nm k) (a := .call 9 (.cons (.var k) .nil)) (g := fun d => rt (-(unrt d))) (xI_seq (d := tupD l) ha rfl) rfl (by show (rts l).length ≤ lim; simp only [rts, List.length_map]; exact Nat.le_trans hl (by decide)) (fun d hd => by
    obtain ⟨p, hp, rfl⟩ := List.mem_map.mp hd
    refine ⟨(wipeD δ [k]).set k (some (rt p)), by simp only [bindT, hw, if_pos hk], ?_⟩
    rw [xE_call (xA_cons (x_var (by rw [List.getElem?_set_self (by rw [hw]; exact hk)])) xA_nil), unrt_rt]
    exact hΦ p)
  rw [evE]
  simp only [M.bind, hc]
  have : (rts l).map (fun d => rt (-(unrt d))) = rts (l.map fun x => -x) := by
    unfold rts
    rw [List.map_map, List.map_map]
    exact List.map_congr_left fun p _ => by simp [unrt_rt]
  simp only [seqOf]
  show some (Except.ok (D.tup ((rts l).map _)), μ) = _
  rw [this]
  rfl
theorem x_pair {a c : Ex} {x y : D} (ha : evE Gv Φ a δ μ = some (.ok x, μ)) (hc : evE Gv Φ c δ μ = some (.ok y, μ)) : evE Gv Φ (.tup (.cons a (.cons c .nil))) δ μ = some (.ok (.tup [x, y]), μ) := by
  rw [evE]
  simp only [M.bind, xA_cons ha (xA_cons hc xA_nil)]
  have : ([x, y] : List D).length ≤ lim := by show 2 ≤ 1000000; decide
  rw [if_pos this]
  rfl
theorem x_str (s : PySem.Str) : evE Gv Φ (.str s) δ μ = some (.ok (.str s), μ) := by
  simp only [evE]
  rfl
end
theorem plain_pair (s : PySem.Str) (l : List Rat) : plain (.tup [.str s, tupD l]) = true := by
  show (true && (plain (tupD l) && true)) = true
  rw [plain_tup]
  rfl
/-- what a law's equations are like -/
structure Eqs (a : Nat) (A : List (List Rat)) (g : List Rat) : Prop where
  len : A.length = g.length
  row : ∀ l ∈ A, l.length = widthOf A ∧ ∀ p ∈ l, Sz a p
  gol : ∀ p ∈ g, Sz a p
  m6 : A.length ≤ 5
  w9 : widthOf A ≤ 9
  ha : a ≤ 100
def Bd.mult (b : Bd) (l : List Rat) : List Rat := (l.drop b.n).take b.m
def barL (b : Bd) : List Rat := (b.mult b.lack).map fun x => -x
section
variable {a e : Nat} {A : List (List Rat)} {g : List Rat} (E : Eqs a A g) (j : Nat) (μ : List MO)
include E
theorem Eqs.check : R (j + 3) 10 [matD A, tupD g] μ = some (.ok .non, μ) := by
  have := E.m6; have := E.w9; have := E.ha
  exact r_check j μ A g (a := a) (by omega) E.len E.row E.gol (by omega) (by omega)
theorem Eqs.init : R (j + 4) 14 [.ptr μ.length, matD A, tupD g] (μ ++ [.ins []]) = some (.ok .non, mem μ (board0 A g)) := by
  have := E.m6; have := E.w9; have := E.ha
  exact r_init j μ A g (a := a) (by omega) (fun l hl => ⟨by rw [(E.row l hl).1]; omega, (E.row l hl).2⟩) E.gol (by omega)
/-- the bar that a board tells -/
theorem x_bar {k s : Nat} {δ : List (Option D)} {b : Bd} (F : Fit e b) (hl : b.lack.length = b.n + b.m + 1) (h0 : δ[s]? = some (some (.ptr μ.length))) (hk : k < δ.length) :
    evE Gv (R (j + 4)) (.tup (.cons (.str "bar") (.cons (.tupl (.comp false [k] (.nm k) (.seq (.mth 23 "multiples" (.var s) (.cons (.mth 16 "lack_line" (.var s) .nil) .nil))) .no (.call 9 (.cons (.var k) .nil)))) .nil))) δ (mem μ b) = some (.ok (.tup [.str "bar", tupD (barL b)]), mem μ b) := by
  have hs := F.sz
  refine x_pair (x_str _) (x_negs (l := b.mult b.lack) ?_ hk ?_ fun p => r_neg (j + 3) _ p)
  · exact x_mthO (x_var h0) (lkm _ (by decide +kernel)) (xA_cons (x_mthO (x_var h0) (lkm _ (by decide +kernel)) xA_nil (F.lack j μ)) xA_nil) (r_multiples (j + 3) μ b b.lack hl)
  · unfold Bd.mult
    rw [List.length_take]
    omega
theorem r_solve_num {I Ic : Bd → Prop} (H : FillI e I Ic) (hI : I (board0 A g)) {b' : Bd} (hf : fillM 20000 (board0 A g) = some (true, b')) (F' : Fit e b') : R (j + 8) 24 [matD A, tupD g] μ = some (.ok (.tup [.str "numbers", tupD b'.numbers]), μ) := by
  rw [R_eq (f := f24) rfl]
  refine run_drop (μ' := mem μ b') rfl rfl (plain_pair _ _) (mem_take b') ?_
  show exB Gv (R (j + 7)) (.cons _ (.cons _ (.cons _ (.cons _ .nil)))) [some (matD A), some (tupD g), none, none] μ = _
  refine (xB_nx (xS_expr ((xE_call (xA_cons (x_var rfl) (xA_cons (x_var rfl) xA_nil))).trans (E.check (j + 4) μ)))).trans ?_
  refine (xB_nx (xS_asg (x_mk (xA_cons (x_var rfl) (xA_cons (x_var rfl) xA_nil)) (E.init (j + 3) μ)) rfl)).trans ?_
  refine xB_rt ((xS_ite (x_mthO (x_var rfl) (lkm _ (by decide +kernel)) xA_nil (r_fill j μ H (board0 A g) hI hf))).trans ?_)
  show exB Gv (R (j + 7)) (.cons _ .nil) _ (mem μ b') = _
  refine xB_rt (xS_ret (x_pair (x_str _) (x_mthO (b' := b') (x_var rfl) (lkm _ (by decide +kernel)) xA_nil (F'.numbers (j + 6) μ))))
theorem r_solve_bar {I Ic : Bd → Prop} (H : FillI e I Ic) (hI : I (board0 A g)) {b' : Bd} (hf : fillM 20000 (board0 A g) = some (false, b')) (F' : Fit e b') (hl : b'.lack.length = b'.n + b'.m + 1) : R (j + 8) 24 [matD A, tupD g] μ = some (.ok (.tup [.str "bar", tupD (barL b')]), μ) := by
  rw [R_eq (f := f24) rfl]
  refine run_drop (μ' := mem μ b') rfl rfl (plain_pair _ _) (mem_take b') ?_
  show exB Gv (R (j + 7)) (.cons _ (.cons _ (.cons _ (.cons _ .nil)))) [some (matD A), some (tupD g), none, none] μ = _
  refine (xB_nx (xS_expr ((xE_call (xA_cons (x_var rfl) (xA_cons (x_var rfl) xA_nil))).trans (E.check (j + 4) μ)))).trans ?_
  refine (xB_nx (xS_asg (x_mk (xA_cons (x_var rfl) (xA_cons (x_var rfl) xA_nil)) (E.init (j + 3) μ)) rfl)).trans ?_
  refine (xB_nx (μ' := mem μ b') (xS_itF (x_mthO (x_var rfl) (lkm _ (by decide +kernel)) xA_nil (r_fill j μ H (board0 A g) hI hf)) (xB_nil (G := Gv) (Φ := R (j + 7))))).trans ?_
  exact xB_rt (xS_ret (x_bar E (j + 3) μ (s := 2) (k := 3) (δ := [some (matD A), some (tupD g), some (.ptr μ.length), none]) F' hl rfl (by show 3 < 4; omega)))
theorem x_sizes {w : List Rat} (hw : w.length = widthOf A) (hne : A ≠ []) (δ : List (Option D)) (h0 : δ[0]? = some (some (matD A))) (h2 : δ[2]? = some (some (tupD w))) : evE Gv (R j) (.or_ (.cmp .eq (.var 0) (.tup .nil)) (.cmp .ne (.len (.var 2)) (.len (.idx (.var 0) (.int 0))))) δ μ = some (.ok (.bl false), μ) := by
  have hb : A.isEmpty = false := by cases A with
    | nil => exact absurd rfl hne
    | cons _ _ => rfl
  have hx : evE Gv (R j) (.idx (.var 0) (.int 0)) δ μ = some (.ok (tupD (A.getD 0 [])), μ) := by
    cases A with
    | nil => exact absurd rfl hne
    | cons l A => exact x_idx (k := 0) (x := matD (l :: A)) (x_var h0) (x_int 0) rfl rfl
  have e := x_eqE (Φ := R j) (δ := δ) (μ := μ) (a := .var 0) (A := A) (x_var h0)
  rw [hb] at e
  have n := x_neI (Φ := R j) (δ := δ) (μ := μ) (x_len (x_var h2) (ds := rts w) rfl) (x_len hx (ds := rts (A.getD 0 [])) rfl)
  have hd : decide (((rts w).length : Int) = ((rts (A.getD 0 [])).length : Int)) = true := decide_eq_true (by simp only [rts, List.length_map, hw]; rfl)
  rw [hd] at n
  exact x_or (x := false) (y := false) e fun _ => n
theorem r_greatest_bar {w : List Rat} (hw : w.length = widthOf A) (hne : A ≠ []) {I Ic : Bd → Prop} (H : FillI e I Ic) (hI : I (board0 A g)) {b' : Bd} (hf : fillM 20000 (board0 A g) = some (false, b')) (F' : Fit e b') (hl : b'.lack.length = b'.n + b'.m + 1) : R (j + 8) 26 [matD A, tupD g, tupD w] μ = some (.ok (.tup [.str "bar", tupD (barL b')]), μ) := by
  rw [R_eq (f := f26) rfl]
  refine run_drop (μ' := mem μ b') rfl rfl (plain_pair _ _) (mem_take b') ?_
  show exB Gv (R (j + 7)) (.cons _ (.cons _ (.cons _ (.cons _ _)))) [some (matD A), some (tupD g), some (tupD w), none, none, none, none] μ = _
  refine (xB_nx (xS_expr ((xE_call (xA_cons (x_var rfl) (xA_cons (x_var rfl) xA_nil))).trans (E.check (j + 4) μ)))).trans ?_
  refine (xB_nx (μ' := μ) (xS_iteF (x_sizes E (j + 7) μ hw hne _ rfl rfl) (xB_nil (G := Gv)))).trans ?_
  refine (xB_nx (xS_asg (x_mk (xA_cons (x_var rfl) (xA_cons (x_var rfl) xA_nil)) (E.init (j + 3) μ)) rfl)).trans ?_
  have ht : evE Gv (R (j + 7)) (.not_ (.mth 19 "fill" (.var 3) .nil)) [some (matD A), some (tupD g), some (tupD w), some (.ptr μ.length), none, none, none] (mem μ (board0 A g)) = some (.ok (.bl (!false)), mem μ b') := by
    have := x_mthO (Φ := R (j + 7)) (o := .var 3) (δ := [some (matD A), some (tupD g), some (tupD w), some (.ptr μ.length), none, none, none]) (x_var rfl) (lkm ("fill" : PySem.Str) (by decide +kernel)) xA_nil (r_fill j μ H (board0 A g) hI hf)
    rw [evE]
    simp only [M.bind, this, asBl, M.ok]
  refine xB_rt ((xS_ite ht).trans ?_)
  show exB Gv (R (j + 7)) (.cons _ .nil) _ (mem μ b') = _
  exact xB_rt (xS_ret (x_bar E (j + 3) μ (s := 3) (k := 4) (δ := [some (matD A), some (tupD g), some (tupD w), some (.ptr μ.length), none, none, none]) F' hl rfl (by show 4 < 7; omega)))
theorem r_greatest_far {w : List Rat} (hw : w.length = widthOf A) (hne : A ≠ []) {I Ic Ig : Bd → Prop} (H : FillI e I Ic) (hI : I (board0 A g)) {b1 b' : Bd} (hf : fillM 20000 (board0 A g) = some (true, b1)) (Hg : GrowI e w Ig) (hIg : Ig b1) (hg : growM w 20000 b1 = some (false, b')) (F' : Fit e b') : R (j + 8) 26 [matD A, tupD g, tupD w] μ = some (.ok (.tup [.str "far", tupD b'.numbers]), μ) := by
  rw [R_eq (f := f26) rfl]
  refine run_drop (μ' := mem μ b') rfl rfl (plain_pair _ _) (mem_take b') ?_
  show exB Gv (R (j + 7)) (.cons _ (.cons _ (.cons _ (.cons _ (.cons _ _))))) [some (matD A), some (tupD g), some (tupD w), none, none, none, none] μ = _
  refine (xB_nx (xS_expr ((xE_call (xA_cons (x_var rfl) (xA_cons (x_var rfl) xA_nil))).trans (E.check (j + 4) μ)))).trans ?_
  refine (xB_nx (μ' := μ) (xS_iteF (x_sizes E (j + 7) μ hw hne _ rfl rfl) (xB_nil (G := Gv)))).trans ?_
  refine (xB_nx (xS_asg (x_mk (xA_cons (x_var rfl) (xA_cons (x_var rfl) xA_nil)) (E.init (j + 3) μ)) rfl)).trans ?_
  have ht : evE Gv (R (j + 7)) (.not_ (.mth 19 "fill" (.var 3) .nil)) [some (matD A), some (tupD g), some (tupD w), some (.ptr μ.length), none, none, none] (mem μ (board0 A g)) = some (.ok (.bl (!true)), mem μ b1) := by
    have := x_mthO (Φ := R (j + 7)) (o := .var 3) (δ := [some (matD A), some (tupD g), some (tupD w), some (.ptr μ.length), none, none, none]) (x_var rfl) (lkm ("fill" : PySem.Str) (by decide +kernel)) xA_nil (r_fill j μ H (board0 A g) hI hf)
    rw [evE]
    simp only [M.bind, this, asBl, M.ok]
  refine (xB_nx (μ' := mem μ b1) (xS_itF ht (xB_nil (G := Gv) (Φ := R (j + 7))))).trans ?_
  have ht2 : evE Gv (R (j + 7)) (.not_ (.mth 21 "grow" (.var 3) (.cons (.var 2) .nil))) [some (matD A), some (tupD g), some (tupD w), some (.ptr μ.length), none, none, none] (mem μ b1) = some (.ok (.bl (!false)), mem μ b') := by
    have := x_mthO (Φ := R (j + 7)) (o := .var 3) (δ := [some (matD A), some (tupD g), some (tupD w), some (.ptr μ.length), none, none, none]) (x_var rfl) (lkm ("grow" : PySem.Str) (by decide +kernel)) (xA_cons (x_var (i := 2) (d := tupD w) rfl) xA_nil) (r_grow j μ Hg b1 hIg hg)
    rw [evE]
    simp only [M.bind, this, asBl, M.ok]
  refine xB_rt ((xS_ite ht2).trans ?_)
  show exB Gv (R (j + 7)) (.cons _ .nil) _ (mem μ b') = _
  exact xB_rt (xS_ret (x_pair (x_str _) (x_mthO (b' := b') (x_var rfl) (lkm _ (by decide +kernel)) xA_nil (F'.numbers (j + 6) μ))))
def dualL (b : Bd) (w : List Rat) : List Rat := (b.mult (b.price w)).map fun x => -x
theorem r_greatest_best {w : List Rat} (hw : w.length = widthOf A) (hne : A ≠ []) {I Ic Ig : Bd → Prop} (H : FillI e I Ic) (hI : I (board0 A g)) {b1 b' : Bd} (hf : fillM 20000 (board0 A g) = some (true, b1)) (Hg : GrowI e w Ig) (hIg : Ig b1) (hg : growM w 20000 b1 = some (true, b')) (F' : Fit e b') (hwn : w.length = b'.n) (hlp : (b'.price w).length = b'.n + b'.m + 1) {c : Nat} (hc : 1 + (50 + c + 1) * w.length ≤ 8000) (sn : ∀ z ∈ b'.numbers, Sz c z) :
    R (j + 8) 26 [matD A, tupD g, tupD w] μ = some (.ok (.tup [.str "best", tupD b'.numbers, rt (dotL w b'.numbers), tupD (dualL b' w)]), μ) := by
  rw [R_eq (f := f26) rfl]
  refine run_drop (μ' := mem μ b') rfl rfl (by show (true && (plain (tupD _) && (plain (rt _) && (plain (tupD _) && true)))) = true; rw [plain_tup, plain_tup, plain_rt]; rfl) (mem_take b') ?_
  show exB Gv (R (j + 7)) (.cons _ (.cons _ (.cons _ (.cons _ (.cons _ (.cons _ (.cons _ (.cons _ .nil)))))))) [some (matD A), some (tupD g), some (tupD w), none, none, none, none] μ = _
  refine (xB_nx (xS_expr ((xE_call (xA_cons (x_var rfl) (xA_cons (x_var rfl) xA_nil))).trans (E.check (j + 4) μ)))).trans ?_
  refine (xB_nx (μ' := μ) (xS_iteF (x_sizes E (j + 7) μ hw hne _ rfl rfl) (xB_nil (G := Gv)))).trans ?_
  refine (xB_nx (xS_asg (x_mk (xA_cons (x_var rfl) (xA_cons (x_var rfl) xA_nil)) (E.init (j + 3) μ)) rfl)).trans ?_
  have ht : evE Gv (R (j + 7)) (.not_ (.mth 19 "fill" (.var 3) .nil)) [some (matD A), some (tupD g), some (tupD w), some (.ptr μ.length), none, none, none] (mem μ (board0 A g)) = some (.ok (.bl (!true)), mem μ b1) := by
    have := x_mthO (Φ := R (j + 7)) (o := .var 3) (δ := [some (matD A), some (tupD g), some (tupD w), some (.ptr μ.length), none, none, none]) (x_var rfl) (lkm ("fill" : PySem.Str) (by decide +kernel)) xA_nil (r_fill j μ H (board0 A g) hI hf)
    rw [evE]
    simp only [M.bind, this, asBl, M.ok]
  refine (xB_nx (μ' := mem μ b1) (xS_itF ht (xB_nil (G := Gv) (Φ := R (j + 7))))).trans ?_
  have ht2 : evE Gv (R (j + 7)) (.not_ (.mth 21 "grow" (.var 3) (.cons (.var 2) .nil))) [some (matD A), some (tupD g), some (tupD w), some (.ptr μ.length), none, none, none] (mem μ b1) = some (.ok (.bl (!true)), mem μ b') := by
    have := x_mthO (Φ := R (j + 7)) (o := .var 3) (δ := [some (matD A), some (tupD g), some (tupD w), some (.ptr μ.length), none, none, none]) (x_var rfl) (lkm ("grow" : PySem.Str) (by decide +kernel)) (xA_cons (x_var (i := 2) (d := tupD w) rfl) xA_nil) (r_grow j μ Hg b1 hIg hg)
    rw [evE]
    simp only [M.bind, this, asBl, M.ok]
  refine (xB_nx (μ' := mem μ b') (xS_itF ht2 (xB_nil (G := Gv) (Φ := R (j + 7))))).trans ?_
  refine (xB_nx (xS_asg (d := rowD (b'.price w)) (μ' := mem μ b') (x_mthO (b' := b') (x_var rfl) (lkm _ (by decide +kernel)) (xA_cons (x_var rfl) xA_nil) (F'.price (j + 3) μ Hg.sw hwn)) rfl)).trans ?_
  refine (xB_nx (xS_asg (d := tupD b'.numbers) (μ' := mem μ b') (x_mthO (b' := b') (x_var rfl) (lkm _ (by decide +kernel)) xA_nil (F'.numbers (j + 6) μ)) rfl)).trans ?_
  refine xB_rt (xS_ret ?_)
  have hs := F'.sz
  have q1 : evE Gv (R (j + 7)) (.var 6) [some (matD A), some (tupD g), some (tupD w), some (.ptr μ.length), none, some (rowD (b'.price w)), some (tupD b'.numbers)] (mem μ b') = some (.ok (tupD b'.numbers), mem μ b') := x_var rfl
  have q2 : evE Gv (R (j + 7)) (.call 11 (.cons (.var 2) (.cons (.var 6) .nil))) [some (matD A), some (tupD g), some (tupD w), some (.ptr μ.length), none, some (rowD (b'.price w)), some (tupD b'.numbers)] (mem μ b') = some (.ok (rt (dotL w b'.numbers)), mem μ b') := (xE_call (xA_cons (x_var (d := tupD w) rfl) (xA_cons q1 xA_nil))).trans (r_dot (j + 3) (mem μ b') rfl rfl Hg.sw sn hc)
  have q3 : evE Gv (R (j + 7)) (.tupl (.comp false [4] (.nm 4) (.seq (.mth 23 "multiples" (.var 3) (.cons (.var 5) .nil))) .no (.call 9 (.cons (.var 4) .nil)))) [some (matD A), some (tupD g), some (tupD w), some (.ptr μ.length), none, some (rowD (b'.price w)), some (tupD b'.numbers)] (mem μ b') = some (.ok (tupD (dualL b' w)), mem μ b') := by
    refine x_negs (l := b'.mult (b'.price w)) ?_ (by show 4 < 7; omega) ?_ fun p => r_neg (j + 6) _ p
    · exact x_mthO (x_var rfl) (lkm _ (by decide +kernel)) (xA_cons (x_var rfl) xA_nil) (r_multiples (j + 6) μ b' (b'.price w) hlp)
    · unfold Bd.mult
      rw [List.length_take]
      omega
  show evE Gv (R (j + 7)) _ [some (matD A), some (tupD g), some (tupD w), some (.ptr μ.length), none, some (rowD (b'.price w)), some (tupD b'.numbers)] (mem μ b') = _
  rw [evE]
  simp only [M.bind, xA_cons (x_str ("best" : PySem.Str)) (xA_cons q1 (xA_cons q2 (xA_cons q3 xA_nil)))]
  have hl4 : ([.str "best", tupD b'.numbers, rt (dotL w b'.numbers), tupD (dualL b' w)] : List D).length ≤ lim := by show 4 ≤ 1000000; decide
  rw [if_pos hl4]
  rfl
end
end K40
end
set_option maxHeartbeats 4000000
section
/-! Boards are tableaux. -/
namespace K40
open NB KM
/-! ### what a turn makes -/
theorem lessL_get {f : Rat} : ∀ {xs ys : List Rat} (j : Nat), xs.length = ys.length → (lessL f xs ys).getD j 0 = xs.getD j 0 - f * ys.getD j 0
  | [], [], j, _ => by simp [lessL]; grind
  | [], _ :: _, j, h => by simp at h
  | _ :: _, [], j, h => by simp at h
  | x :: xs, y :: ys, 0, _ => rfl
  | x :: xs, y :: ys, j + 1, h => by
    have := lessL_get (f := f) (xs := xs) (ys := ys) j (by simpa using h)
    simpa [lessL] using this
theorem lessL_len {f : Rat} : ∀ {xs ys : List Rat}, xs.length = ys.length → (lessL f xs ys).length = xs.length
  | [], [], _ => rfl
  | [], _ :: _, h => by simp at h
  | _ :: _, [], h => by simp at h
  | x :: xs, y :: ys, h => by
    show (lessL f xs ys).length + 1 = _
    rw [lessL_len (by simpa using h)]
    rfl
theorem divL_get {p : Rat} : ∀ (xs : List Rat) (j : Nat), (divL p xs).getD j 0 = xs.getD j 0 / p
  | [], j => by simp [divL]; rw [Rat.div_def]; grind
  | x :: xs, 0 => rfl
  | x :: xs, j + 1 => by
    have := divL_get (p := p) xs j
    simpa [divL] using this
theorem loopT_get {r c : Nat} {piv : List Rat} : ∀ (n k : Nat) (ls : List (List Rat)) (i : Nat), k + n ≤ ls.length → (loopT r c piv k n ls).getD i [] = if k ≤ i ∧ i < k + n ∧ i ≠ r ∧ (ls.getD i []).getD c 0 ≠ 0 then lessL ((ls.getD i []).getD c 0) (ls.getD i []) piv else ls.getD i []
  | 0, k, ls, i, _ => by
    rw [if_neg (by omega)]
    rfl
  | n + 1, k, ls, i, h => by
    show (loopT r c piv (k + 1) n (stepT r c piv k ls)).getD i [] = _
    rw [loopT_get n (k + 1) (stepT r c piv k ls) i (by rw [stepT_len]; omega)]
    by_cases e : k = i
    · subst e
      rw [if_neg (by omega)]
      unfold stepT
      by_cases q : k ≠ r ∧ (ls.getD k []).getD c 0 ≠ 0
      · rw [if_pos q, getD_set_eq (by omega), if_pos ⟨Nat.le_refl k, by omega, q⟩]
      · rw [if_neg q, if_neg (fun z => q z.2.2)]
    · rw [stepT_ne e]
      by_cases q : k + 1 ≤ i ∧ i < k + 1 + n ∧ i ≠ r ∧ (ls.getD i []).getD c 0 ≠ 0
      · rw [if_pos q, if_pos ⟨by omega, by omega, q.2.2⟩]
      · rw [if_neg q, if_neg (fun z => q ⟨by omega, by omega, z.2.2⟩)]
theorem loopT_len {r c : Nat} {piv : List Rat} : ∀ (n k : Nat) (ls : List (List Rat)), (loopT r c piv k n ls).length = ls.length
  | 0, k, ls => rfl
  | n + 1, k, ls => by
    show (loopT r c piv (k + 1) n (stepT r c piv k ls)).length = _
    rw [loopT_len n, stepT_len]
/-- the shape of a board -/
structure Shp (b : Bd) : Prop where
  hm : b.m = b.ls.length
  hbs : b.bs.length = b.ls.length
  hl : ∀ l ∈ b.ls, l.length = b.n + b.m + 1
  bas : ∀ p, some p ∈ b.bs → p < b.n
theorem Shp.line {b : Bd} (S : Shp b) {i : Nat} (hi : i < b.m) : (b.ls.getD i []).length = b.n + b.m + 1 := S.hl _ (getD_mem (by rw [← S.hm]; exact hi))
theorem getD_out {α : Type} {l : List α} {i : Nat} {d : α} (h : l.length ≤ i) : l.getD i d = d := by
  rw [List.getD_eq_getElem?_getD, List.getElem?_eq_none h]
  rfl
theorem Shp.at_row {b : Bd} (S : Shp b) {i j : Nat} (hi : b.m ≤ i) : b.at i j = 0 := by
  have e : b.ls.getD i [] = [] := getD_out (by rw [← S.hm]; exact hi)
  show (b.ls.getD i []).getD j 0 = 0
  rw [e]
  rfl
theorem Shp.at_col {b : Bd} (S : Shp b) {i j : Nat} (hj : b.n + b.m < j) : b.at i j = 0 := by
  by_cases hi : i < b.m
  · unfold Bd.at
    exact getD_out (by rw [S.line hi]; omega)
  · exact S.at_row (by omega)
theorem turn_row {b : Bd} (S : Shp b) {r c i : Nat} (hr : r < b.m) : (b.turn r c).ls.getD i [] = if i = r then divL (b.at r c) (b.ls.getD r []) else if i < b.m ∧ b.at i c ≠ 0 then lessL (b.at i c) (b.ls.getD i []) (divL (b.at r c) (b.ls.getD r [])) else b.ls.getD i [] := by
  have hrl : r < b.ls.length := by rw [← S.hm]; exact hr
  show (turnL b.m r c b.ls).getD i [] = _
  unfold turnL
  rw [loopT_get b.m 0 _ i (by rw [List.length_set, S.hm]; omega)]
  by_cases e : i = r
  · subst e
    rw [if_neg (by omega), if_pos rfl, getD_set_eq hrl]
    rfl
  · rw [getD_set_ne (fun q => e q.symm), if_neg e]
    by_cases q : i < b.m ∧ b.at i c ≠ 0
    · rw [if_pos q, if_pos ⟨Nat.zero_le _, by omega, e, q.2⟩]
      rfl
    · rw [if_neg q, if_neg (fun z => q ⟨by omega, z.2.2.2⟩)]
theorem divL_len {p : Rat} {xs : List Rat} : (divL p xs).length = xs.length := by simp [divL]
theorem turn_at {b : Bd} (S : Shp b) {r c : Nat} (hr : r < b.m) (i j : Nat) : (b.turn r c).at i j = if i = r then b.at r j / b.at r c else b.at i j - b.at i c * (b.at r j / b.at r c) := by
  show ((b.turn r c).ls.getD i []).getD j 0 = _
  rw [turn_row S hr]
  by_cases e : i = r
  · rw [if_pos e, if_pos e, divL_get]
    rfl
  · rw [if_neg e, if_neg e]
    by_cases q : i < b.m ∧ b.at i c ≠ 0
    · rw [if_pos q, lessL_get j (by rw [S.line q.1, divL_len, S.line hr]), divL_get]
      rfl
    · rw [if_neg q]
      have h0 : b.at i c = 0 := by
        by_cases hi : i < b.m
        · exact Classical.byContradiction fun h => q ⟨hi, h⟩
        · exact S.at_row (by omega)
      rw [h0]
      show b.at i j = _
      grind
theorem turn_len {b : Bd} (S : Shp b) {r c : Nat} (hr : r < b.m) : (b.turn r c).ls.length = b.ls.length := by
  show (turnL b.m r c b.ls).length = _
  unfold turnL
  rw [loopT_len, List.length_set]
theorem Shp.turn {b : Bd} (S : Shp b) {r c : Nat} (hr : r < b.m) (hc : c < b.n) : Shp (b.turn r c) := by
  have hl := turn_len S (c := c) hr
  refine ⟨?_, ?_, fun l hmem => ?_, fun p hp => ?_⟩
  · show b.m = _
    rw [hl]
    exact S.hm
  · rw [hl]
    show (b.bs.set r (some c)).length = _
    rw [List.length_set]
    exact S.hbs
  · obtain ⟨i, hi, e⟩ := List.getElem_of_mem hmem
    have : l = (b.turn r c).ls.getD i [] := by
      rw [List.getD_eq_getElem?_getD, List.getElem?_eq_getElem hi, e]
      rfl
    rw [this, turn_row S hr]
    have him : i < b.m := by rw [hl] at hi; rw [S.hm]; exact hi
    show _ = b.n + b.m + 1
    split
    · rw [divL_len, S.line hr]
    · split
      · rw [lessL_len (by rw [S.line him, divL_len, S.line hr]), S.line him]
      · exact S.line him
  · have hp : some p ∈ b.bs.set r (some c) := hp
    rcases List.mem_or_eq_of_mem_set hp with h | h
    · exact S.bas p h
    · have : p = c := by simpa using h
      rw [this]
      exact hc
/-! ### the tableau of a board -/
def tab (s : Nat → Rat) (b : Bd) : Tab := fun i j => (if b.n ≤ j ∧ j < b.n + b.m then s (j - b.n) else 1) * b.at i j
def bet (b : Bd) (i : Nat) : Nat := match b.bs.getD i none with
  | some p => p
  | none => b.n + i
theorem tab_real {s : Nat → Rat} {b : Bd} {i j : Nat} (h : j < b.n) : tab s b i j = b.at i j := by
  unfold tab
  rw [if_neg (by omega)]
  grind
theorem tab_goal {s : Nat → Rat} {b : Bd} {i : Nat} : tab s b i (b.n + b.m) = b.at i (b.n + b.m) := by
  unfold tab
  rw [if_neg (by omega)]
  grind
theorem tab_art {s : Nat → Rat} {b : Bd} {i k : Nat} (h : k < b.m) : tab s b i (b.n + k) = s k * b.at i (b.n + k) := by
  unfold tab
  rw [if_pos ⟨by omega, by omega⟩, Nat.add_sub_cancel_left]
theorem tab_turn {s : Nat → Rat} {b : Bd} (S : Shp b) {r c : Nat} (hr : r < b.m) (hc : c < b.n) : tab s (b.turn r c) = turn (tab s b) r c := by
  funext i j
  have e1 : tab s (b.turn r c) i j = (if b.n ≤ j ∧ j < b.n + b.m then s (j - b.n) else 1) * (b.turn r c).at i j := rfl
  rw [e1, turn_at S hr]
  unfold turn
  rw [tab_real hc, tab_real hc]
  unfold tab
  generalize (if b.n ≤ j ∧ j < b.n + b.m then s (j - b.n) else 1) = q
  by_cases e : i = r
  · rw [if_pos e, if_pos e]
    rw [Rat.div_def, Rat.div_def]
    grind
  · rw [if_neg e, if_neg e]
    rw [Rat.div_def, Rat.div_def]
    grind
theorem bet_turn {b : Bd} (S : Shp b) {r c : Nat} (hr : r < b.m) : bet (b.turn r c) = updB (bet b) r c := by
  have hrb : r < b.bs.length := by rw [S.hbs, ← S.hm]; exact hr
  funext i
  unfold updB bet
  show (match (b.bs.set r (some c)).getD i none with
    | some p => p
    | none => b.n + i) = _
  by_cases e : i = r
  · rw [if_pos e, e, getD_set_eq hrb]
  · rw [if_neg e, getD_set_ne (fun q => e q.symm)]
/-! ### sums over the rows -/
theorem sm_left (n : Nat) (f : Nat → Rat) : sm (n + 1) f = f 0 + sm n fun i => f (i + 1) := by
  induction n with
  | zero => show sm 0 f + f 0 = f 0 + sm 0 _; show (0 : Rat) + f 0 = f 0 + 0; grind
  | succ n ih =>
    show sm (n + 1) f + f (n + 1) = f 0 + (sm n (fun i => f (i + 1)) + f (n + 1))
    rw [ih]
    grind
theorem lackL_get {j N : Nat} : ∀ (ls : List (List Rat)) (bs : List (Option Nat)) (acc : List Rat), bs.length = ls.length → (∀ l ∈ ls, l.length = N) → acc.length = N → j < N → (lackL ls bs acc).length = N ∧ (lackL ls bs acc).getD j 0 = acc.getD j 0 + sm ls.length fun i => if bs.getD i none = none then (ls.getD i []).getD j 0 else 0
  | [], bs, acc, _, _, h, _ => ⟨h, by show acc.getD j 0 = acc.getD j 0 + 0; grind⟩
  | l :: ls, [], acc, h, _, _, _ => by simp at h
  | l :: ls, some p :: bs, acc, h, hl, ha, hj => by
    obtain ⟨i1, i2⟩ := lackL_get ls bs acc (by simpa using h) (fun z hz => hl z (List.mem_cons_of_mem _ hz)) ha hj
    refine ⟨i1, ?_⟩
    show (lackL ls bs acc).getD j 0 = _
    rw [i2, List.length_cons, sm_left]
    show acc.getD j 0 + sm ls.length _ = acc.getD j 0 + ((if (some p : Option Nat) = none then l.getD j 0 else 0) + sm ls.length _)
    rw [if_neg (by intro e; cases e)]
    have : ∀ x y z : Rat, y = z → x + y = x + (0 + z) := by intros; grind
    exact this _ _ _ rfl
  | l :: ls, none :: bs, acc, h, hl, ha, hj => by
    have hll := hl l List.mem_cons_self
    have hz : (zipL (· + ·) acc l).length = N := by rw [zipL_len]; omega
    obtain ⟨i1, i2⟩ := lackL_get ls bs (zipL (· + ·) acc l) (by simpa using h) (fun z hz => hl z (List.mem_cons_of_mem _ hz)) hz hj
    refine ⟨i1, ?_⟩
    show (lackL ls bs (zipL (· + ·) acc l)).getD j 0 = _
    rw [i2, zipL_get (by omega) (by omega), List.length_cons, sm_left]
    show acc.getD j 0 + l.getD j 0 + sm ls.length _ = acc.getD j 0 + ((if (none : Option Nat) = none then l.getD j 0 else 0) + sm ls.length _)
    rw [if_pos rfl]
    have : ∀ x y z u : Rat, z = u → x + y + z = x + (y + u) := by intros; grind
    exact this _ _ _ _ rfl
theorem getD_replicate {n j : Nat} : (List.replicate n (0 : Rat)).getD j 0 = 0 := by
  rw [List.getD_eq_getElem?_getD, List.getElem?_replicate]
  split <;> rfl
theorem lack_get {b : Bd} (S : Shp b) : b.lack.length = b.n + b.m + 1 ∧ ∀ j, j < b.n + b.m + 1 → b.lack.getD j 0 = sm b.m fun i => if b.bs.getD i none = none then b.at i j else 0 := by
  have h : ∀ j, j < b.n + b.m + 1 → b.lack.length = b.n + b.m + 1 ∧ b.lack.getD j 0 = (List.replicate (b.n + b.m + 1) (0 : Rat)).getD j 0 + sm b.ls.length fun i => if b.bs.getD i none = none then b.at i j else 0 := fun j hj => lackL_get b.ls b.bs _ S.hbs S.hl (List.length_replicate ..) hj
  refine ⟨(h 0 (by omega)).1, fun j hj => ?_⟩
  have := (h j hj).2
  rw [this, getD_replicate, S.hm]
  grind
theorem priceL_get {w : List Rat} {j N : Nat} : ∀ (ls : List (List Rat)) (bs : List (Option Nat)) (acc : List Rat), bs.length = ls.length → (∀ l ∈ ls, l.length = N) → acc.length = N → j < N → (priceL w ls bs acc).length = N ∧ (priceL w ls bs acc).getD j 0 = acc.getD j 0 - sm ls.length fun i => (match bs.getD i none with
    | some p => w.getD p 0
    | none => 0) * (ls.getD i []).getD j 0
  | [], bs, acc, _, _, h, _ => ⟨h, by show acc.getD j 0 = acc.getD j 0 - 0; grind⟩
  | l :: ls, [], acc, h, _, _, _ => by simp at h
  | l :: ls, none :: bs, acc, h, hl, ha, hj => by
    obtain ⟨i1, i2⟩ := priceL_get ls bs acc (by simpa using h) (fun z hz => hl z (List.mem_cons_of_mem _ hz)) ha hj
    refine ⟨i1, ?_⟩
    show (priceL w ls bs acc).getD j 0 = _
    rw [i2, List.length_cons, sm_left]
    show acc.getD j 0 - sm ls.length _ = acc.getD j 0 - ((0 : Rat) * l.getD j 0 + sm ls.length _)
    have : ∀ x y z u : Rat, y = z → x - y = x - (0 * u + z) := by intros; grind
    exact this _ _ _ _ rfl
  | l :: ls, some p :: bs, acc, h, hl, ha, hj => by
    have hll := hl l List.mem_cons_self
    have hz : (zipL (subM (w.getD p 0)) acc l).length = N := by rw [zipL_len]; omega
    have fin : ∀ acc' : List Rat, acc'.length = N → acc'.getD j 0 = acc.getD j 0 - w.getD p 0 * l.getD j 0 → priceL w (l :: ls) (some p :: bs) acc = priceL w ls bs acc' → (priceL w (l :: ls) (some p :: bs) acc).length = N ∧ (priceL w (l :: ls) (some p :: bs) acc).getD j 0 = acc.getD j 0 - sm (l :: ls).length fun i => (match (some p :: bs).getD i none with
      | some p => w.getD p 0
      | none => 0) * ((l :: ls).getD i []).getD j 0 := fun acc' h1 h2 h3 => by
      obtain ⟨i1, i2⟩ := priceL_get ls bs acc' (by simpa using h) (fun z hz => hl z (List.mem_cons_of_mem _ hz)) h1 hj
      rw [h3]
      refine ⟨i1, ?_⟩
      rw [i2, h2, List.length_cons, sm_left]
      show acc.getD j 0 - w.getD p 0 * l.getD j 0 - sm ls.length _ = acc.getD j 0 - (w.getD p 0 * l.getD j 0 + sm ls.length _)
      have : ∀ x y z u : Rat, z = u → x - y - z = x - (y + u) := by intros; grind
      exact this _ _ _ _ rfl
    by_cases q : w.getD p 0 = 0
    · exact fin acc ha (by rw [q]; grind) (if_pos q)
    · exact fin _ hz (by rw [zipL_get (by omega) (by omega)]; rfl) (if_neg q)
theorem price_get {b : Bd} (S : Shp b) {w : List Rat} (hw : w.length = b.n) : (b.price w).length = b.n + b.m + 1 ∧ ∀ j, j < b.n + b.m + 1 → (b.price w).getD j 0 = w.getD j 0 - sm b.m fun i => (match b.bs.getD i none with
    | some p => w.getD p 0
    | none => 0) * b.at i j := by
  have hlen : (w ++ List.replicate (b.m + 1) (0 : Rat)).length = b.n + b.m + 1 := by
    rw [List.length_append, List.length_replicate, hw]
    omega
  have h := fun j hj => priceL_get (w := w) (j := j) (N := b.n + b.m + 1) b.ls b.bs _ S.hbs S.hl hlen hj
  refine ⟨(h 0 (by omega)).1, fun j hj => ?_⟩
  have e := (h j hj).2
  have e2 : (w ++ List.replicate (b.m + 1) (0 : Rat)).getD j 0 = w.getD j 0 := by
    by_cases q : j < w.length
    · rw [List.getD_eq_getElem?_getD, List.getElem?_append_left q, ← List.getD_eq_getElem?_getD]
    · rw [List.getD_eq_getElem?_getD, List.getElem?_append_right (by omega), ← List.getD_eq_getElem?_getD, getD_replicate, getD_out (by omega)]
  have e3 : b.price w = priceL w b.ls b.bs (w ++ List.replicate (b.m + 1) 0) := rfl
  rw [e3, e, e2, S.hm]
  rfl
theorem last_get : ∀ (l : List Rat) (n : Nat), l.length = n + 1 → l.getLastD 0 = l.getD n 0
  | [], n, h => by simp at h
  | [x], 0, _ => rfl
  | [x], n + 1, h => by simp at h
  | x :: y :: l, 0, h => by simp at h
  | x :: y :: l, n + 1, h => by
    have := last_get (y :: l) n (by simpa using h)
    rw [List.getLastD_cons] at this ⊢
    rw [List.getLastD_cons]
    simpa using this
theorem lineLast {b : Bd} (S : Shp b) {i : Nat} (hi : i < b.m) : (b.ls.getD i []).getLastD 0 = b.at i (b.n + b.m) := last_get _ _ (S.line hi)
/-! ### the leaving row -/
def BestOk (b : Bd) (c k : Nat) (st : Best) : Prop := match st with
  | none => ∀ i, i < k → b.at i c ≤ 0
  | some (s, r, key) => r < k ∧ 0 < b.at r c ∧ s = b.at r (b.n + b.m) / b.at r c ∧ key = keyI (b.bs.getD r none) ∧ ∀ i, i < k → 0 < b.at i c → s < b.at i (b.n + b.m) / b.at i c ∨ (s = b.at i (b.n + b.m) / b.at i c ∧ key ≤ keyI (b.bs.getD i none))
theorem leavL_ok {b : Bd} (S : Shp b) {c : Nat} : ∀ (ls : List (List Rat)) (k : Nat) (st : Best), b.ls.drop k = ls → k + ls.length = b.m → BestOk b c k st → BestOk b c b.m (leavL c b.bs k ls st)
  | [], k, st, _, h, hs => by
    rw [show b.m = k by simpa using h.symm]
    exact hs
  | l :: ls, k, st, hd, h, hs => by
    have hk : k < b.m := by rw [List.length_cons] at h; omega
    have hl : l = b.ls.getD k [] := by
      rw [List.getD_eq_getElem?_getD]
      have : (b.ls.drop k)[0]? = some l := by rw [hd]; rfl
      rw [List.getElem?_drop] at this
      rw [show b.ls[k]? = some l from this]
      rfl
    have hd2 : b.ls.drop (k + 1) = ls := by
      rw [← List.drop_drop, hd]
      rfl
    refine leavL_ok S ls (k + 1) (leavS c (b.bs.getD k none) k l st) hd2 (by rw [List.length_cons] at h; omega) ?_
    have ec : l.getD c 0 = b.at k c := by rw [hl]; rfl
    have eL : l.getLastD 0 = b.at k (b.n + b.m) := by rw [hl]; exact lineLast S hk
    unfold leavS
    rw [ec, eL]
    by_cases hp : 0 < b.at k c
    · rw [if_pos hp]
      cases st with
      | none =>
        show BestOk b c (k + 1) (some _)
        refine ⟨Nat.lt_succ_self k, hp, rfl, rfl, fun i hi hpi => ?_⟩
        have hsn : ∀ i, i < k → b.at i c ≤ 0 := hs
        by_cases e : i = k
        · subst e
          exact .inr ⟨rfl, Int.le_refl _⟩
        · have := hsn i (by omega)
          grind
      | some z =>
        obtain ⟨s0, r0, k0⟩ := z
        obtain ⟨h1, h2, h3, h4, h5⟩ : r0 < k ∧ 0 < b.at r0 c ∧ s0 = b.at r0 (b.n + b.m) / b.at r0 c ∧ k0 = keyI (b.bs.getD r0 none) ∧ ∀ i, i < k → 0 < b.at i c → s0 < b.at i (b.n + b.m) / b.at i c ∨ (s0 = b.at i (b.n + b.m) / b.at i c ∧ k0 ≤ keyI (b.bs.getD i none)) := hs
        by_cases hb : better (b.at k (b.n + b.m) / b.at k c) (keyI (b.bs.getD k none)) (some (s0, r0, k0)) = true
        · rw [if_pos hb]
          have hb' : (decide (b.at k (b.n + b.m) / b.at k c < s0) || (decide (b.at k (b.n + b.m) / b.at k c = s0) && decide (keyI (b.bs.getD k none) < k0))) = true := hb
          simp only [Bool.or_eq_true, Bool.and_eq_true, decide_eq_true_eq] at hb'
          refine ⟨Nat.lt_succ_self k, hp, rfl, rfl, fun i hi hpi => ?_⟩
          by_cases e : i = k
          · subst e
            exact .inr ⟨rfl, Int.le_refl _⟩
          · rcases h5 i (by omega) hpi with z | ⟨z1, z2⟩
            · rcases hb' with y | ⟨y1, y2⟩
              · left; grind
              · left; grind
            · rcases hb' with y | ⟨y1, y2⟩
              · left; grind
              · right; exact ⟨by rw [y1, z1], by omega⟩
        · rw [if_neg hb]
          have hb' : ¬ ((decide (b.at k (b.n + b.m) / b.at k c < s0) || (decide (b.at k (b.n + b.m) / b.at k c = s0) && decide (keyI (b.bs.getD k none) < k0))) = true) := hb
          simp only [Bool.or_eq_true, Bool.and_eq_true, decide_eq_true_eq, not_or, not_and] at hb'
          refine ⟨by omega, h2, h3, h4, fun i hi hpi => ?_⟩
          by_cases e : i = k
          · subst e
            have hb1 := hb'.1
            by_cases q : s0 = b.at i (b.n + b.m) / b.at i c
            · right
              have := hb'.2 q.symm
              exact ⟨q, by omega⟩
            · left
              grind
          · exact h5 i (by omega) hpi
    · rw [if_neg hp]
      have hneg : b.at k c ≤ 0 := by grind
      cases st with
      | none =>
        have hsn : ∀ i, i < k → b.at i c ≤ 0 := hs
        show ∀ i, i < k + 1 → b.at i c ≤ 0
        intro i hi
        by_cases e : i = k
        · rw [e]; exact hneg
        · exact hsn i (by omega)
      | some z =>
        obtain ⟨s0, r0, k0⟩ := z
        obtain ⟨h1, h2, h3, h4, h5⟩ : r0 < k ∧ 0 < b.at r0 c ∧ s0 = b.at r0 (b.n + b.m) / b.at r0 c ∧ k0 = keyI (b.bs.getD r0 none) ∧ ∀ i, i < k → 0 < b.at i c → s0 < b.at i (b.n + b.m) / b.at i c ∨ (s0 = b.at i (b.n + b.m) / b.at i c ∧ k0 ≤ keyI (b.bs.getD i none)) := hs
        refine ⟨by omega, h2, h3, h4, fun i hi hpi => ?_⟩
        by_cases e : i = k
        · rw [e] at hpi; grind
        · exact h5 i (by omega) hpi
theorem leaving_none {b : Bd} (S : Shp b) {c : Nat} (h : b.leaving c = none) : ∀ i, i < b.m → b.at i c ≤ 0 := by
  have := leavL_ok S (c := c) b.ls 0 none (by simp) (by rw [S.hm]; omega) (fun i hi => absurd hi (Nat.not_lt_zero i))
  unfold Bd.leaving at h
  cases q : leavL c b.bs 0 b.ls none with
  | none => rw [q] at this; exact this
  | some z => rw [q] at h; cases h
theorem keyI_key {b : Bd} (S : Shp b) {i r : Nat} (hi : i < b.m) (hr : r < b.m) (h : keyI (b.bs.getD r none) ≤ keyI (b.bs.getD i none)) : key b.n (bet b r) ≤ key b.n (bet b i) := by
  have mem : ∀ {i p : Nat}, i < b.m → b.bs.getD i none = some p → p < b.n := fun {i p} hi e => S.bas p (by rw [← e]; exact getD_mem (by rw [S.hbs, ← S.hm]; exact hi))
  unfold bet key
  cases h1 : b.bs.getD r none with
  | none =>
    show (if b.n + r < b.n then _ else 0) ≤ _
    rw [if_neg (by omega)]
    exact Nat.zero_le _
  | some p =>
    rw [h1] at h
    have hp := mem hr h1
    cases h2 : b.bs.getD i none with
    | none =>
      rw [h2] at h
      have : (p : Int) ≤ -1 := h
      omega
    | some q =>
      rw [h2] at h
      have h : (p : Int) ≤ q := h
      have hq := mem hi h2
      show (if p < b.n then p + 1 else 0) ≤ (if q < b.n then q + 1 else 0)
      rw [if_pos hp, if_pos hq]
      omega
theorem leaving_some {b : Bd} (S : Shp b) {c r : Nat} (h : b.leaving c = some r) : r < b.m ∧ 0 < b.at r c ∧ ∀ i, i < b.m → 0 < b.at i c → b.at r (b.n + b.m) / b.at r c < b.at i (b.n + b.m) / b.at i c ∨ (b.at r (b.n + b.m) / b.at r c = b.at i (b.n + b.m) / b.at i c ∧ key b.n (bet b r) ≤ key b.n (bet b i)) := by
  have := leavL_ok S (c := c) b.ls 0 none (by simp) (by rw [S.hm]; omega) (fun i hi => absurd hi (Nat.not_lt_zero i))
  unfold Bd.leaving at h
  cases q : leavL c b.bs 0 b.ls none with
  | none => rw [q] at h; cases h
  | some z =>
    obtain ⟨s, r', k⟩ := z
    rw [q] at this h
    have e : r' = r := by simpa using h
    subst e
    obtain ⟨h1, h2, h3, h4, h5⟩ : r' < b.m ∧ 0 < b.at r' c ∧ s = b.at r' (b.n + b.m) / b.at r' c ∧ k = keyI (b.bs.getD r' none) ∧ ∀ i, i < b.m → 0 < b.at i c → s < b.at i (b.n + b.m) / b.at i c ∨ (s = b.at i (b.n + b.m) / b.at i c ∧ k ≤ keyI (b.bs.getD i none)) := this
    refine ⟨h1, h2, fun i hi hp => ?_⟩
    rcases h5 i hi hp with z | ⟨z1, z2⟩
    · left; rw [← h3]; exact z
    · right
      exact ⟨by rw [← h3]; exact z1, keyI_key S hi h1 (by rw [← h4]; exact z2)⟩
end K40
end
set_option maxHeartbeats 4000000
section
/-! Fill and grow come to an end. -/
namespace K40
open NB KM
/-! ### pigeons -/
theorem nodup_lt : ∀ (N : Nat) (l : List Nat), l.Nodup → (∀ x ∈ l, x < N) → l.length ≤ N
  | 0, [], _, _ => Nat.le_refl _
  | 0, x :: l, _, h => absurd (h x List.mem_cons_self) (Nat.not_lt_zero x)
  | N + 1, l, nd, h => by
    by_cases hN : N ∈ l
    · have h1 := nodup_lt N (l.erase N) (nd.erase N) fun x hx => by
        obtain ⟨h2, h3⟩ := (List.Nodup.mem_erase_iff nd).mp hx
        have := h x h3
        omega
      rw [List.length_erase_of_mem hN] at h1
      omega
    · have := nodup_lt N l nd fun x hx => by
        have h1 := h x hx
        have : x ≠ N := fun e => hN (e ▸ hx)
        omega
      omega
theorem pigeon (N : Nat) (f : Nat → Nat) (h : ∀ k, k ≤ N → f k < N) : ∃ a b, a < b ∧ b ≤ N ∧ f a = f b := by
  apply Classical.byContradiction
  intro hno
  have nd : ((List.range (N + 1)).map f).Nodup := by
    rw [List.Nodup, List.pairwise_map]
    refine List.Pairwise.imp_of_mem (fun {a b} ha hb hlt => ?_) (List.pairwise_lt_range (n := N + 1))
    intro e
    exact hno ⟨a, b, hlt, by have := List.mem_range.mp hb; omega, e⟩
  have := nodup_lt N _ nd fun x hx => by
    obtain ⟨k, hk, rfl⟩ := List.mem_map.mp hx
    exact h k (by have := List.mem_range.mp hk; omega)
  simp at this
  omega
def code : Nat → (Nat → Bool) → Nat
  | 0, _ => 0
  | n + 1, P => code n P + (if P n then 2 ^ n else 0)
theorem code_lt (P : Nat → Bool) : ∀ n, code n P < 2 ^ n
  | 0 => by show 0 < 1; decide
  | n + 1 => by
    have := code_lt P n
    unfold code
    rw [Nat.pow_succ]
    split <;> omega
theorem code_inj {P Q : Nat → Bool} : ∀ n, code n P = code n Q → ∀ j, j < n → P j = Q j
  | 0, _, j, h => absurd h (Nat.not_lt_zero j)
  | n + 1, h, j, hj => by
    have h1 := code_lt P n
    have h2 := code_lt Q n
    unfold code at h
    have hn : P n = Q n := by
      cases hp : P n <;> cases hq : Q n <;> rw [hp, hq] at h <;> simp at h <;> first | rfl | omega
    rw [hn] at h
    by_cases e : j = n
    · rw [e]; exact hn
    · exact code_inj n (by omega) j (by omega)
/-! ### what stays -/
structure Inv (n m : Nat) (s : Nat → Rat) (T0 : Tab) (b : Bd) : Prop where
  S : Shp b
  hn : b.n = n
  hm : b.m = m
  nul : ∀ v, Null m (n + m) (tab s b) v ↔ Null m (n + m) T0 v
  B : Basis m (n + m) (tab s b) (bet b)
  g : ∀ i, i < m → 0 ≤ b.at i (n + m)
section
variable {n m : Nat} {s : Nat → Rat} {T0 : Tab} {b : Bd}
theorem Inv.goal (I : Inv n m s T0 b) (i : Nat) : tab s b i (n + m) = b.at i (n + m) := by
  have := tab_goal (s := s) (b := b) (i := i)
  rw [I.hn, I.hm] at this
  exact this
/-- a turn that keeps the goals from 0 on -/
theorem Inv.turn (I : Inv n m s T0 b) {r c : Nat} (hr : r < m) (hc : c < n) (h0 : b.at r c ≠ 0) (hg : ∀ i, i < m → 0 ≤ (b.turn r c).at i (n + m)) : Inv n m s T0 (b.turn r c) := by
  have hrb : r < b.m := by rw [I.hm]; exact hr
  have hcb : c < b.n := by rw [I.hn]; exact hc
  have ht : tab s b r c ≠ 0 := by rw [tab_real hcb]; exact h0
  refine ⟨I.S.turn hrb hcb, I.hn, I.hm, fun v => ?_, ?_, hg⟩
  · rw [tab_turn I.S hrb hcb]
    exact (null_turn hr ht v).trans (I.nul v)
  · rw [tab_turn I.S hrb hcb, bet_turn I.S hrb]
    exact I.B.turn hr (by omega) ht
/-- a step by the rule -/
theorem Inv.step (I : Inv n m s T0 b) {w : Nat → Rat} {r c : Nat} (hc : c < n) (hpos : 0 < red m w (tab s b) (bet b) c) (hleast : ∀ j, j < c → red m w (tab s b) (bet b) j ≤ 0) (hl : b.leaving c = some r) :
    r < m ∧ 0 < b.at r c ∧ Step m (n + m) n w (tab s b) (bet b) (tab s (b.turn r c)) (bet (b.turn r c)) c r ∧ Inv n m s T0 (b.turn r c) := by
  obtain ⟨h1, h2, h3⟩ := leaving_some I.S hl
  have hr : r < m := by rw [← I.hm]; exact h1
  have hcb : c < b.n := by rw [I.hn]; exact hc
  have eg := fun i => I.goal i
  have st : Step m (n + m) n w (tab s b) (bet b) (tab s (b.turn r c)) (bet (b.turn r c)) c r := by
    refine ⟨hc, hpos, hleast, hr, by rw [tab_real hcb]; exact h2, fun i hi hp => ?_, tab_turn I.S h1 hcb, bet_turn I.S h1⟩
    rw [tab_real hcb] at hp ⊢
    rw [eg, eg, tab_real hcb]
    have := h3 i (by rw [I.hm]; exact hi) hp
    rw [I.hn, I.hm] at this
    exact this
  refine ⟨hr, h2, st, I.turn hr hc (by grind) fun i hi => ?_⟩
  have := st.goals (fun i hi => by rw [eg]; exact I.g i hi) i hi
  have e2 := tab_goal (s := s) (b := b.turn r c) (i := i)
  have e3 : (b.turn r c).n + (b.turn r c).m = n + m := by show b.n + b.m = _; rw [I.hn, I.hm]
  rw [e3] at e2
  rw [e2] at this
  exact this
end
theorem cols_first {P : Nat → Bool} {n c : Nat} {l : List Nat} (h : cols P n = c :: l) : ∀ j, j < c → P j = false := by
  intro j hj
  have hc := (cols_head h).1
  cases hP : P j with
  | false => rfl
  | true =>
    have hm : j ∈ cols P n := by
      unfold cols
      rw [List.mem_filter]
      exact ⟨List.mem_range.mpr (by omega), hP⟩
    have hs : (cols P n).Pairwise (· < ·) := (List.pairwise_lt_range (n := n)).filter P
    rw [h] at hm hs
    rcases List.mem_cons.mp hm with e | e
    · omega
    · have := (List.pairwise_cons.mp hs).1 j e
      omega
theorem cols_nil {P : Nat → Bool} {n : Nat} (h : cols P n = []) : ∀ j, j < n → P j = false := by
  intro j hj
  cases hP : P j with
  | false => rfl
  | true =>
    have hm : j ∈ cols P n := by
      unfold cols
      rw [List.mem_filter]
      exact ⟨List.mem_range.mpr hj, hP⟩
    rw [h] at hm
    cases hm
/-! ### the costs -/
def wFill (n : Nat) (j : Nat) : Rat := if j < n then 0 else -1
def wGrow (n : Nat) (w : List Rat) (j : Nat) : Rat := if j < n then w.getD j 0 else 0
section
variable {n m : Nat} {s : Nat → Rat} {T0 : Tab} {b : Bd}
theorem Inv.bas (I : Inv n m s T0 b) {i p : Nat} (hi : i < m) (e : b.bs.getD i none = some p) : p < n := by
  rw [← I.hn]
  exact I.S.bas p (by rw [← e]; exact getD_mem (by rw [I.S.hbs, ← I.S.hm, I.hm]; exact hi))
theorem Inv.red_fill (I : Inv n m s T0 b) {j : Nat} (hj : j < n) : red m (wFill n) (tab s b) (bet b) j = b.lack.getD j 0 := by
  have hjb : j < b.n := by rw [I.hn]; exact hj
  rw [(lack_get I.S).2 j (by omega), I.hm]
  unfold red
  have e : sm m (fun k => wFill n (bet b k) * tab s b k j) = sm m fun i => (-1) * (if b.bs.getD i none = none then b.at i j else 0) := sm_congr fun i hi => by
    rw [tab_real hjb]
    unfold wFill bet
    cases h : b.bs.getD i none with
    | none =>
      show (if b.n + i < n then (0 : Rat) else -1) * _ = _
      rw [if_neg (by rw [I.hn]; omega), if_pos rfl]
    | some p =>
      have := I.bas hi h
      show (if p < n then (0 : Rat) else -1) * _ = _
      rw [if_pos this, if_neg (by intro e; cases e)]
      grind
  rw [e, sm_mul]
  have : wFill n j = 0 := if_pos hj
  rw [this]
  grind
theorem Inv.red_grow (I : Inv n m s T0 b) {w : List Rat} (hw : w.length = n) {j : Nat} (hj : j < n) : red m (wGrow n w) (tab s b) (bet b) j = (b.price w).getD j 0 := by
  have hjb : j < b.n := by rw [I.hn]; exact hj
  rw [(price_get I.S (by rw [I.hn]; exact hw)).2 j (by omega), I.hm]
  unfold red
  have h1 : wGrow n w j = w.getD j 0 := if_pos hj
  rw [h1]
  congr 1
  refine sm_congr fun i hi => ?_
  rw [tab_real hjb]
  congr 1
  unfold wGrow bet
  cases h : b.bs.getD i none with
  | none =>
    show (if b.n + i < n then _ else (0 : Rat)) = _
    rw [if_neg (by rw [I.hn]; omega)]
  | some p =>
    have := I.bas hi h
    show (if p < n then w.getD p 0 else (0 : Rat)) = _
    rw [if_pos this]
end
/-! ### no run is long -/
def isN (b : Bd) (i : Nat) : Bool := (b.bs.getD i none).isNone
def inC (b : Bd) (m : Nat) (j : Nat) : Bool := (List.range m).any fun i => decide (b.bs.getD i none = some j)
def cntN : Nat → Bd → Nat
  | 0, _ => 0
  | m + 1, b => cntN m b + (if isN b m then 1 else 0)
theorem cntN_le (b : Bd) : ∀ m, cntN m b ≤ m
  | 0 => Nat.le_refl _
  | m + 1 => by
    have := cntN_le b m
    unfold cntN
    split <;> omega
theorem cntN_mono {b b' : Bd} : ∀ m, (∀ i, i < m → isN b' i = true → isN b i = true) → cntN m b' ≤ cntN m b
  | 0, _ => Nat.le_refl _
  | m + 1, h => by
    have ih := cntN_mono m fun i hi => h i (by omega)
    unfold cntN
    have hm := h m (by omega)
    cases h1 : isN b' m with
    | false => simp; omega
    | true => rw [hm h1]; simp; omega
theorem cntN_lt {b b' : Bd} : ∀ m r, r < m → isN b r = true → isN b' r = false → (∀ i, i < m → isN b' i = true → isN b i = true) → cntN m b' < cntN m b
  | 0, r, h, _, _, _ => absurd h (Nat.not_lt_zero r)
  | m + 1, r, hr, h1, h2, h => by
    unfold cntN
    by_cases e : r = m
    · subst e
      have := cntN_mono (b := b) (b' := b') r fun i hi => h i (by omega)
      rw [h1, h2]
      simp
      omega
    · have ih := cntN_lt (b := b) (b' := b') m r (by omega) h1 h2 fun i hi => h i (by omega)
      have hm := h m (by omega)
      cases h3 : isN b' m with
      | false => simp; omega
      | true => rw [hm h3]; simp; omega
/-- a chain of steps by one rule -/
structure Chain (n m : Nat) (s : Nat → Rat) (T0 : Tab) (w : Nat → Rat) (b : Nat → Bd) (c r : Nat → Nat) (K : Nat) : Prop where
  I : ∀ k, k ≤ K → Inv n m s T0 (b k)
  st : ∀ k, k < K → Step m (n + m) n w (tab s (b k)) (bet (b k)) (tab s (b (k + 1))) (bet (b (k + 1))) (c k) (r k)
  nx : ∀ k, k < K → b (k + 1) = (b k).turn (r k) (c k)
section
variable {n m : Nat} {s : Nat → Rat} {T0 : Tab} {w : Nat → Rat} {b : Nat → Bd} {c r : Nat → Nat} {K : Nat}
theorem Chain.isN_next (H : Chain n m s T0 w b c r K) {k : Nat} (hk : k < K) {i : Nat} (hi : i < m) : isN (b (k + 1)) i = (if i = r k then false else isN (b k) i) := by
  have I := H.I k (by omega)
  have hrm := (H.st k hk).rm
  have hrb : r k < (b k).bs.length := by rw [I.S.hbs, ← I.S.hm, I.hm]; exact hrm
  rw [H.nx k hk]
  unfold isN
  show (((b k).bs.set (r k) (some (c k))).getD i none).isNone = _
  by_cases e : i = r k
  · rw [if_pos e, e, getD_set_eq hrb]
    rfl
  · rw [if_neg e, getD_set_ne (fun q => e q.symm)]
theorem Chain.sub (H : Chain n m s T0 w b c r K) {k : Nat} (hk : k < K) : ∀ i, i < m → isN (b (k + 1)) i = true → isN (b k) i = true := fun i hi h => by
  rw [H.isN_next hk hi] at h
  split at h
  · cases h
  · exact h
theorem Chain.cnt (H : Chain n m s T0 w b c r K) : ∀ d k, k + d ≤ K → cntN m (b (k + d)) ≤ cntN m (b k)
  | 0, k, _ => Nat.le_refl _
  | d + 1, k, h => Nat.le_trans (cntN_mono m (H.sub (k := k + d) (by omega))) (H.cnt d k (by omega))
theorem bet_lt {b : Bd} {n m : Nat} {s : Nat → Rat} {T0 : Tab} (I : Inv n m s T0 b) {i : Nat} (hi : i < m) : bet b i < n ↔ isN b i = false := by
  unfold bet isN
  cases h : b.bs.getD i none with
  | none =>
    show b.n + i < n ↔ (none : Option Nat).isNone = false
    have := I.hn
    constructor
    · intro h; omega
    · intro h; cases h
  | some p =>
    have := I.bas hi h
    exact ⟨fun _ => rfl, fun _ => this⟩
/-- a part where no artificial column leaves is short -/
theorem Chain.stage (H : Chain n m s T0 w b c r K) (hK : 2 ^ n ≤ K) (hc : cntN m (b K) = cntN m (b 0)) : False := by
  -- all leaving rows are real
  have real : ∀ k, k < K → isN (b k) (r k) = false := fun k hk => by
    cases h : isN (b k) (r k) with
    | false => rfl
    | true =>
      have hrm := (H.st k hk).rm
      have h1 : isN (b (k + 1)) (r k) = false := by rw [H.isN_next hk hrm, if_pos rfl]
      have h2 := cntN_lt m (r k) hrm h h1 (H.sub hk)
      have h3 := H.cnt k 0 (by omega)
      have h4 := H.cnt (K - (k + 1)) (k + 1) (by omega)
      rw [show k + 1 + (K - (k + 1)) = K by omega] at h4
      rw [Nat.zero_add] at h3
      omega
  have same : ∀ k, k ≤ K → ∀ i, i < m → isN (b k) i = isN (b 0) i := by
    intro k
    induction k with
    | zero => exact fun _ _ _ => rfl
    | succ k ih =>
      intro hk i hi
      rw [H.isN_next (by omega) hi]
      by_cases e : i = r k
      · rw [if_pos e, ← ih (by omega) i hi, e, real k (by omega)]
      · rw [if_neg e]; exact ih (by omega) i hi
  obtain ⟨p, q, hpq, hq, he⟩ := pigeon (2 ^ n) (fun k => code n (inC (b k) m)) fun k _ => code_lt _ n
  have hset := code_inj n he
  have tr : Trace m (n + m) n w (fun k => tab s (b k)) (fun k => bet (b k)) c r p q :=
    ⟨fun k h1 h2 => (H.I k (by omega)).B, fun k h1 h2 => H.st k (by omega), fun k h1 h2 i hi => by
      have I := H.I k (by omega)
      rw [I.goal]
      exact I.g i hi, fun k h1 h2 => (bet_lt (H.I k (by omega)) (H.st k (by omega)).rm).mpr (real k (by omega))⟩
  refine no_repeat tr (by omega) hpq fun j => ?_
  have key : ∀ k, k ≤ K → (inB m (bet (b k)) j ↔ if j < n then inC (b k) m j = true else ∃ i, i < m ∧ isN (b 0) i = true ∧ n + i = j) := fun k hk => by
    have I := H.I k hk
    by_cases hj : j < n
    · rw [if_pos hj]
      unfold inC
      rw [List.any_eq_true]
      constructor
      · rintro ⟨i, hi, e⟩
        refine ⟨i, List.mem_range.mpr hi, decide_eq_true ?_⟩
        unfold bet at e
        cases h : (b k).bs.getD i none with
        | none =>
          rw [h] at e
          have : (b k).n + i = j := e
          have := I.hn
          omega
        | some p =>
          rw [h] at e
          have : p = j := e
          rw [this]
      · rintro ⟨i, hi, e⟩
        refine ⟨i, List.mem_range.mp hi, ?_⟩
        unfold bet
        rw [of_decide_eq_true e]
    · rw [if_neg hj]
      constructor
      · rintro ⟨i, hi, e⟩
        refine ⟨i, hi, ?_, ?_⟩
        · rw [← same k hk i hi]
          cases h : isN (b k) i with
          | true => rfl
          | false =>
            have := (bet_lt I hi).mpr h
            omega
        · unfold bet at e
          cases h : (b k).bs.getD i none with
          | none =>
            rw [h] at e
            have : (b k).n + i = j := e
            have := I.hn
            omega
          | some p =>
            rw [h] at e
            have : p = j := e
            have := I.bas hi h
            omega
      · rintro ⟨i, hi, h, e⟩
        refine ⟨i, hi, ?_⟩
        rw [← same k hk i hi] at h
        unfold isN at h
        unfold bet
        cases h2 : (b k).bs.getD i none with
        | none =>
          show (b k).n + i = j
          rw [I.hn]
          exact e
        | some p => rw [h2] at h; cases h
  show inB m (bet (b p)) j ↔ inB m (bet (b q)) j
  rw [key p (by omega), key q (by omega)]
  by_cases hj : j < n
  · rw [if_pos hj, if_pos hj, hset j hj]
  · rw [if_neg hj, if_neg hj]
theorem Chain.shift (H : Chain n m s T0 w b c r K) (a L : Nat) (h : a + L ≤ K) : Chain n m s T0 w (fun k => b (a + k)) (fun k => c (a + k)) (fun k => r (a + k)) L :=
  ⟨fun k hk => H.I (a + k) (by omega), fun k hk => H.st (a + k) (by omega), fun k hk => H.nx (a + k) (by omega)⟩
/-- no chain is long -/
theorem Chain.short (H : Chain n m s T0 w b c r K) (hn : n ≤ 9) (hm : m ≤ 6) (hK : 4000 ≤ K) : False := by
  have hp : 2 ^ n ≤ 512 := by
    have : (2 : Nat) ^ n ≤ 2 ^ 9 := Nat.pow_le_pow_right (by decide) hn
    omega
  have go : ∀ u a, cntN m (b a) ≤ u → a + 512 * (u + 1) ≤ K → False := by
    intro u
    induction u with
    | zero =>
      intro a hu ha
      have h1 := H.cnt 512 a (by omega)
      exact (H.shift a 512 (by omega)).stage (by omega) (by show cntN m (b (a + 512)) = cntN m (b a); omega)
    | succ u ih =>
      intro a hu ha
      have h1 := H.cnt 512 a (by omega)
      by_cases e : cntN m (b (a + 512)) = cntN m (b a)
      · exact (H.shift a 512 (by omega)).stage (by omega) (by show cntN m (b (a + 512)) = cntN m (b a); exact e)
      · exact ih (a + 512) (by omega) (by omega)
  exact go 6 0 (Nat.le_trans (cntN_le _ m) hm) (by omega)
end
end K40
end
set_option maxHeartbeats 4000000
section
/-! The first board; fill and grow tell. -/
namespace K40
open NB KM
theorem lines0_get (m : Nat) : ∀ (rows : List (List Rat)) (gs : List Rat) (k i : Nat), rows.length = gs.length → i < rows.length → (lines0 m k rows gs).getD i [] = line0 m (k + i) (rows.getD i []) (gs.getD i 0)
  | [], _, k, i, _, h => absurd h (Nat.not_lt_zero i)
  | row :: rows, [], k, i, h, _ => by simp at h
  | row :: rows, g :: gs, k, 0, _, _ => rfl
  | row :: rows, g :: gs, k, i + 1, h, hi => by
    have := lines0_get m rows gs (k + 1) i (by simpa using h) (by simpa using hi)
    show (lines0 m (k + 1) rows gs).getD i [] = _
    rw [this, show k + 1 + i = k + (i + 1) by omega]
    rfl
theorem lines0_len (m : Nat) : ∀ (rows : List (List Rat)) (gs : List Rat) (k : Nat), rows.length = gs.length → (lines0 m k rows gs).length = rows.length
  | [], _, k, _ => rfl
  | row :: rows, [], k, h => by simp at h
  | row :: rows, g :: gs, k, h => by
    show (lines0 m (k + 1) rows gs).length + 1 = _
    rw [lines0_len m rows gs (k + 1) (by simpa using h)]
    rfl
theorem nones_get : ∀ (rows : List (List Rat)) (gs : List Rat) (i : Nat), (nones rows gs).getD i none = none
  | [], _, i => by simp [nones]
  | _ :: _, [], i => by simp [nones]
  | _ :: rows, _ :: gs, 0 => rfl
  | _ :: rows, _ :: gs, i + 1 => nones_get rows gs i
theorem nones_len : ∀ (rows : List (List Rat)) (gs : List Rat), rows.length = gs.length → (nones rows gs).length = rows.length
  | [], _, _ => rfl
  | row :: rows, [], h => by simp at h
  | row :: rows, g :: gs, h => by
    show (nones rows gs).length + 1 = _
    rw [nones_len rows gs (by simpa using h)]
    rfl
theorem nones_mem : ∀ (rows : List (List Rat)) (gs : List Rat) (p : Nat), some p ∉ nones rows gs
  | [], _, p, h => by simp [nones] at h
  | _ :: _, [], p, h => by simp [nones] at h
  | _ :: rows, _ :: gs, p, h => by
    rcases List.mem_cons.mp h with z | z
    · cases z
    · exact nones_mem rows gs p z
theorem line0_len {m k : Nat} {row : List Rat} {g : Rat} : (line0 m k row g).length = row.length + m + 1 := by
  unfold line0
  simp
  omega
theorem sm_split (n : Nat) (f : Nat → Rat) : ∀ m, sm (n + m) f = sm n f + sm m fun k => f (n + k)
  | 0 => by show sm n f = sm n f + 0; grind
  | m + 1 => by
    show sm (n + m) f + f (n + m) = sm n f + (sm m (fun k => f (n + k)) + f (n + m))
    rw [sm_split n f m]
    grind
theorem line0_real {m k j : Nat} {row : List Rat} {g : Rat} (h : j < row.length) : (line0 m k row g).getD j 0 = sg g * row.getD j 0 := by
  unfold line0
  rw [List.getD_eq_getElem?_getD, List.append_assoc, List.getElem?_append_left (by simpa using h), List.getElem?_map, List.getElem?_eq_getElem h]
  rw [List.getD_eq_getElem?_getD, List.getElem?_eq_getElem h]
  rfl
theorem line0_art {m k i : Nat} {row : List Rat} {g : Rat} (h : i < m) : (line0 m k row g).getD (row.length + i) 0 = if k = i then sg g else 0 := by
  unfold line0
  have hl : (row.map (fun x => sg g * x)).length = row.length := by simp
  rw [List.getD_eq_getElem?_getD, List.append_assoc, List.getElem?_append_right (by rw [hl]; omega), hl, Nat.add_sub_cancel_left, List.getElem?_append_left (by simpa using h), List.getElem?_map, List.getElem?_range h]
  rfl
theorem line0_goal {m k : Nat} {row : List Rat} {g : Rat} : (line0 m k row g).getD (row.length + m) 0 = sg g * g := by
  unfold line0
  rw [List.getD_eq_getElem?_getD, List.getElem?_append_right (by simp)]
  simp
theorem sg_sq (g : Rat) : sg g * sg g = 1 := by
  unfold sg
  split <;> grind
theorem sg_nonneg (g : Rat) : 0 ≤ sg g * g := by
  unfold sg
  split <;> grind
def aij (A : List (List Rat)) (i j : Nat) : Rat := (A.getD i []).getD j 0
def sOf (g : List Rat) (i : Nat) : Rat := sg (g.getD i 0)
abbrev tab0 (A : List (List Rat)) (g : List Rat) : Tab := tab (sOf g) (board0 A g)
section
variable {a : Nat} {A : List (List Rat)} {g : List Rat} (E : Eqs a A g)
include E
theorem Eqs.rlen {i : Nat} (hi : i < A.length) : (A.getD i []).length = widthOf A := (E.row _ (getD_mem hi)).1
theorem Eqs.at_real {i j : Nat} (hi : i < A.length) (hj : j < widthOf A) : (board0 A g).at i j = sOf g i * aij A i j := by
  show ((lines0 A.length 0 A g).getD i []).getD j 0 = _
  rw [lines0_get A.length A g 0 i E.len hi, line0_real (by rw [E.rlen hi]; exact hj)]
  rfl
theorem Eqs.at_art {i k : Nat} (hi : i < A.length) (hk : k < A.length) : (board0 A g).at i (widthOf A + k) = if i = k then sOf g i else 0 := by
  show ((lines0 A.length 0 A g).getD i []).getD (widthOf A + k) 0 = _
  rw [lines0_get A.length A g 0 i E.len hi, Nat.zero_add]
  have := line0_art (m := A.length) (k := i) (row := A.getD i []) (g := g.getD i 0) hk
  rw [E.rlen hi] at this
  exact this
theorem Eqs.at_goal {i : Nat} (hi : i < A.length) : (board0 A g).at i (widthOf A + A.length) = sOf g i * g.getD i 0 := by
  show ((lines0 A.length 0 A g).getD i []).getD (widthOf A + A.length) 0 = _
  rw [lines0_get A.length A g 0 i E.len hi, Nat.zero_add]
  have := line0_goal (m := A.length) (k := i) (row := A.getD i []) (g := g.getD i 0)
  rw [E.rlen hi] at this
  exact this
theorem Eqs.shp : Shp (board0 A g) := by
  refine ⟨(lines0_len A.length A g 0 E.len).symm, ?_, fun l hl => ?_, fun p hp => absurd hp (nones_mem A g p)⟩
  · show (nones A g).length = (lines0 A.length 0 A g).length
    rw [nones_len A g E.len, lines0_len A.length A g 0 E.len]
  · have hl : l ∈ lines0 A.length 0 A g := hl
    obtain ⟨i, hi, e⟩ := List.getElem_of_mem hl
    rw [lines0_len A.length A g 0 E.len] at hi
    have : l = (lines0 A.length 0 A g).getD i [] := by
      rw [List.getD_eq_getElem?_getD, List.getElem?_eq_getElem (by rw [lines0_len A.length A g 0 E.len]; exact hi), e]
      rfl
    rw [this, lines0_get A.length A g 0 i E.len hi, line0_len, E.rlen hi]
    rfl
theorem Eqs.inv : Inv (widthOf A) A.length (sOf g) (tab0 A g) (board0 A g) := by
  refine ⟨E.shp, rfl, rfl, fun v => Iff.rfl, ⟨fun i hi => ?_, fun i k hi hk => ?_⟩, fun i hi => ?_⟩
  · show (match (nones A g).getD i none with
      | some p => p
      | none => widthOf A + i) < _
    rw [nones_get]
    show widthOf A + i < _
    omega
  · have e : bet (board0 A g) k = widthOf A + k := by
      show (match (nones A g).getD k none with
        | some p => p
        | none => widthOf A + k) = _
      rw [nones_get]
    rw [e]
    have := tab_art (s := sOf g) (b := board0 A g) (i := i) (k := k) hk
    have e2 : tab (sOf g) (board0 A g) i (widthOf A + k) = sOf g k * (board0 A g).at i (widthOf A + k) := this
    rw [e2, E.at_art hi hk]
    by_cases q : i = k
    · rw [if_pos q, if_pos q, q]
      exact sg_sq _
    · rw [if_neg q, if_neg q]
      grind
  · rw [E.at_goal hi]
    exact sg_nonneg _
/-- a null vector of the first tableau -/
theorem Eqs.null0 (v : Nat → Rat) : Null A.length (widthOf A + A.length) (tab0 A g) v ↔ ∀ i, i < A.length → sm (widthOf A) (fun j => aij A i j * v j) + sOf g i * v (widthOf A + i) + g.getD i 0 * v (widthOf A + A.length) = 0 := by
  have row : ∀ i, i < A.length → sm (widthOf A + A.length + 1) (fun j => tab0 A g i j * v j) = sOf g i * (sm (widthOf A) (fun j => aij A i j * v j) + sOf g i * v (widthOf A + i) + g.getD i 0 * v (widthOf A + A.length)) := fun i hi => by
    show sm (widthOf A + A.length) _ + tab0 A g i (widthOf A + A.length) * v (widthOf A + A.length) = _
    rw [sm_split]
    have h1 : sm (widthOf A) (fun j => tab0 A g i j * v j) = sOf g i * sm (widthOf A) (fun j => aij A i j * v j) := by
      rw [← sm_mul]
      refine sm_congr fun j hj => ?_
      have e : tab0 A g i j = (board0 A g).at i j := tab_real hj
      rw [e, E.at_real hi hj]
      grind
    have h2 : sm A.length (fun k => tab0 A g i (widthOf A + k) * v (widthOf A + k)) = v (widthOf A + i) := by
      have e : ∀ k, k < A.length → tab0 A g i (widthOf A + k) = if i = k then 1 else 0 := fun k hk => by
        have e2 : tab0 A g i (widthOf A + k) = sOf g k * (board0 A g).at i (widthOf A + k) := tab_art (b := board0 A g) hk
        rw [e2, E.at_art hi hk]
        by_cases q : i = k
        · rw [if_pos q, if_pos q, q]; exact sg_sq _
        · rw [if_neg q, if_neg q]; grind
      rw [sm_one hi fun k hk ne => ?_, e i hi, if_pos rfl]
      · grind
      · rw [e k hk, if_neg (fun q => ne q.symm)]
        grind
    have h3 : tab0 A g i (widthOf A + A.length) = sOf g i * g.getD i 0 := by
      have e2 : tab0 A g i (widthOf A + A.length) = (board0 A g).at i (widthOf A + A.length) := tab_goal (b := board0 A g)
      rw [e2, E.at_goal hi]
    rw [h1, h2, h3]
    have := sg_sq (g.getD i 0)
    have hs : sOf g i * sOf g i = 1 := this
    grind
  constructor
  · intro h i hi
    have e := h i hi
    rw [row i hi] at e
    have hs : sOf g i * sOf g i = 1 := sg_sq (g.getD i 0)
    rcases Rat.mul_eq_zero.mp e with z | z
    · rw [z] at hs; grind
    · exact z
  · intro h i hi
    rw [row i hi, h i hi]
    grind
/-! ### what a board says of the equations -/
section
variable {b : Bd} (I : Inv (widthOf A) A.length (sOf g) (tab0 A g) b)
include I
/-- row i is the sum of the given rows by its multiples -/
theorem Eqs.mult {i j : Nat} (hi : i < A.length) (hj : j < widthOf A) : b.at i j = sm A.length fun k => b.at i (widthOf A + k) * aij A k j := by
  have hjn : j < widthOf A + A.length + 1 := by omega
  have nv : Null A.length (widthOf A + A.length) (tab0 A g) (fun c => (if c = j then 1 else 0) - (if widthOf A ≤ c ∧ c < widthOf A + A.length then sOf g (c - widthOf A) * aij A (c - widthOf A) j else 0)) := by
    refine (E.null0 _).mpr fun k hk => ?_
    have h1 : sm (widthOf A) (fun c => aij A k c * ((if c = j then 1 else 0) - (if widthOf A ≤ c ∧ c < widthOf A + A.length then sOf g (c - widthOf A) * aij A (c - widthOf A) j else 0))) = aij A k j := by
      rw [sm_one hj fun c hc ne => ?_]
      · rw [if_pos rfl, if_neg (by omega)]; grind
      · rw [if_neg ne, if_neg (by omega)]; grind
    rw [h1]
    rw [if_neg (by omega), if_pos (by omega), if_neg (by omega), if_neg (by omega), Nat.add_sub_cancel_left]
    have hs : sOf g k * sOf g k = 1 := sg_sq (g.getD k 0)
    grind
  have nb := (I.nul _).mpr nv i hi
  have e : sm (widthOf A + A.length + 1) (fun c => tab (sOf g) b i c * ((if c = j then 1 else 0) - (if widthOf A ≤ c ∧ c < widthOf A + A.length then sOf g (c - widthOf A) * aij A (c - widthOf A) j else 0))) = b.at i j - sm A.length fun k => b.at i (widthOf A + k) * aij A k j := by
    have hx : ∀ c, tab (sOf g) b i c * ((if c = j then 1 else 0) - (if widthOf A ≤ c ∧ c < widthOf A + A.length then sOf g (c - widthOf A) * aij A (c - widthOf A) j else 0)) = (if c = j then tab (sOf g) b i c else 0) - (if widthOf A ≤ c ∧ c < widthOf A + A.length then tab (sOf g) b i c * (sOf g (c - widthOf A) * aij A (c - widthOf A) j) else 0) := fun c => by
      by_cases q : c = j
      · rw [if_pos q, if_pos q]
        split <;> grind
      · rw [if_neg q, if_neg q]
        split <;> grind
    rw [sm_congr fun c _ => hx c, sm_sub, sm_one hjn (fun c _ hc => if_neg hc), if_pos rfl]
    have hr : tab (sOf g) b i j = b.at i j := tab_real (by rw [I.hn]; exact hj)
    rw [hr]
    congr 1
    show sm (widthOf A + A.length) _ + _ = _
    rw [sm_split, sm_zero fun c hc => if_neg (by omega)]
    dsimp only
    rw [if_neg (show ¬ (widthOf A ≤ widthOf A + A.length ∧ widthOf A + A.length < widthOf A + A.length) by omega)]
    have : ∀ x y : Rat, x = y → 0 + x + 0 = y := by intros; grind
    refine this _ _ (sm_congr fun k hk => ?_)
    rw [if_pos ⟨by omega, by omega⟩, Nat.add_sub_cancel_left]
    have ha := tab_art (s := sOf g) (b := b) (i := i) (k := k) (by rw [I.hm]; exact hk)
    rw [I.hn] at ha
    rw [ha]
    have hs : sOf g k * sOf g k = 1 := sg_sq (g.getD k 0)
    grind
  rw [e] at nb
  grind
theorem Eqs.multG {i : Nat} (hi : i < A.length) : b.at i (widthOf A + A.length) = sm A.length fun k => b.at i (widthOf A + k) * g.getD k 0 := by
  have nv : Null A.length (widthOf A + A.length) (tab0 A g) (fun c => (if c = widthOf A + A.length then 1 else 0) - (if widthOf A ≤ c ∧ c < widthOf A + A.length then sOf g (c - widthOf A) * g.getD (c - widthOf A) 0 else 0)) := by
    refine (E.null0 _).mpr fun k hk => ?_
    have h1 : sm (widthOf A) (fun c => aij A k c * ((if c = widthOf A + A.length then 1 else 0) - (if widthOf A ≤ c ∧ c < widthOf A + A.length then sOf g (c - widthOf A) * g.getD (c - widthOf A) 0 else 0))) = 0 := sm_zero fun c hc => by
      rw [if_neg (by omega), if_neg (by omega)]; grind
    rw [h1]
    rw [if_neg (by omega), if_pos (by omega), if_pos rfl, if_neg (by omega), Nat.add_sub_cancel_left]
    have hs : sOf g k * sOf g k = 1 := sg_sq (g.getD k 0)
    grind
  have nb := (I.nul _).mpr nv i hi
  have e : sm (widthOf A + A.length + 1) (fun c => tab (sOf g) b i c * ((if c = widthOf A + A.length then 1 else 0) - (if widthOf A ≤ c ∧ c < widthOf A + A.length then sOf g (c - widthOf A) * g.getD (c - widthOf A) 0 else 0))) = b.at i (widthOf A + A.length) - sm A.length fun k => b.at i (widthOf A + k) * g.getD k 0 := by
    have hx : ∀ c, tab (sOf g) b i c * ((if c = widthOf A + A.length then 1 else 0) - (if widthOf A ≤ c ∧ c < widthOf A + A.length then sOf g (c - widthOf A) * g.getD (c - widthOf A) 0 else 0)) = (if c = widthOf A + A.length then tab (sOf g) b i c else 0) - (if widthOf A ≤ c ∧ c < widthOf A + A.length then tab (sOf g) b i c * (sOf g (c - widthOf A) * g.getD (c - widthOf A) 0) else 0) := fun c => by
      by_cases q : c = widthOf A + A.length
      · rw [if_pos q, if_pos q]
        split <;> grind
      · rw [if_neg q, if_neg q]
        split <;> grind
    rw [sm_congr fun c _ => hx c, sm_sub, sm_one (Nat.lt_succ_self _) (fun c _ hc => if_neg hc), if_pos rfl]
    rw [I.goal]
    congr 1
    show sm (widthOf A + A.length) _ + _ = _
    rw [sm_split, sm_zero fun c hc => if_neg (by omega)]
    dsimp only
    rw [if_neg (show ¬ (widthOf A ≤ widthOf A + A.length ∧ widthOf A + A.length < widthOf A + A.length) by omega)]
    have : ∀ x y : Rat, x = y → 0 + x + 0 = y := by intros; grind
    refine this _ _ (sm_congr fun k hk => ?_)
    rw [if_pos ⟨by omega, by omega⟩, Nat.add_sub_cancel_left]
    have ha := tab_art (s := sOf g) (b := b) (i := i) (k := k) (by rw [I.hm]; exact hk)
    rw [I.hn] at ha
    rw [ha]
    have hs : sOf g k * sOf g k = 1 := sg_sq (g.getD k 0)
    grind
  rw [e] at nb
  grind
/-- an answer of the equations fulfils the board's rows -/
theorem Eqs.solves {x : Nat → Rat} (hx : ∀ i, i < A.length → sm (widthOf A) (fun j => aij A i j * x j) = g.getD i 0) {i : Nat} (hi : i < A.length) : sm (widthOf A) (fun j => b.at i j * x j) = b.at i (widthOf A + A.length) := by
  have h1 : sm (widthOf A) (fun j => b.at i j * x j) = sm (widthOf A) fun j => sm A.length fun k => b.at i (widthOf A + k) * (aij A k j * x j) := sm_congr fun j hj => by
    rw [E.mult I hi hj, ← sm_mulr]
    exact sm_congr fun k _ => by grind
  rw [h1, sm_swap, E.multG I hi]
  refine sm_congr fun k hk => ?_
  rw [sm_mul, hx k hk]
/-- what fulfils the board's rows is an answer -/
theorem Eqs.solves' {x : Nat → Rat} (hx : ∀ i, i < A.length → sm (widthOf A) (fun j => b.at i j * x j) = b.at i (widthOf A + A.length)) {i : Nat} (hi : i < A.length) : sm (widthOf A) (fun j => aij A i j * x j) = g.getD i 0 := by
  have nv : Null A.length (widthOf A + A.length) (tab (sOf g) b) (fun c => if c < widthOf A then x c else if c = widthOf A + A.length then -1 else 0) := by
    intro k hk
    show sm (widthOf A + A.length) _ + _ = _
    rw [sm_split]
    have h1 : sm (widthOf A) (fun j => tab (sOf g) b k j * (if j < widthOf A then x j else if j = widthOf A + A.length then -1 else 0)) = b.at k (widthOf A + A.length) := by
      rw [← hx k hk]
      refine sm_congr fun j hj => ?_
      rw [if_pos hj, tab_real (by rw [I.hn]; exact hj)]
    have h2 : sm A.length (fun j => tab (sOf g) b k (widthOf A + j) * (if widthOf A + j < widthOf A then x (widthOf A + j) else if widthOf A + j = widthOf A + A.length then -1 else 0)) = 0 := sm_zero fun j hj => by
      rw [if_neg (by omega), if_neg (by omega)]
      grind
    rw [h1, h2]
    dsimp only
    rw [if_neg (show ¬ widthOf A + A.length < widthOf A by omega), if_pos rfl, I.goal]
    grind
  have h := (E.null0 _).mp ((I.nul _).mp nv) i hi
  rw [if_neg (by omega), if_neg (by omega), if_neg (by omega), if_pos rfl] at h
  have h1 : sm (widthOf A) (fun j => aij A i j * (if j < widthOf A then x j else if j = widthOf A + A.length then -1 else 0)) = sm (widthOf A) (fun j => aij A i j * x j) := sm_congr fun j hj => by rw [if_pos hj]
  rw [h1] at h
  grind
end
end
end K40
end
set_option maxHeartbeats 4000000
section
/-! How great the numbers of a board are. -/
namespace K40
open NB KM
/-! ### eliminating -/
def lsum (vs : List Nat) (f : Nat → Rat) : Rat := match vs with
  | [] => 0
  | v :: vs => f v + lsum vs f
theorem lsum_congr {f g : Nat → Rat} : ∀ {vs : List Nat}, (∀ v ∈ vs, f v = g v) → lsum vs f = lsum vs g
  | [], _ => rfl
  | v :: vs, h => by
    show f v + lsum vs f = g v + lsum vs g
    rw [h v List.mem_cons_self, lsum_congr fun u hu => h u (List.mem_cons_of_mem _ hu)]
theorem lsum_lin {f g : Nat → Rat} (a c : Rat) : ∀ vs : List Nat, lsum vs (fun v => a * f v - c * g v) = a * lsum vs f - c * lsum vs g
  | [] => by show (0 : Rat) = a * 0 - c * 0; grind
  | v :: vs => by
    show a * f v - c * g v + lsum vs _ = a * (f v + lsum vs f) - c * (g v + lsum vs g)
    rw [lsum_lin a c vs]
    grind
abbrev Eqn := (Nat → Int) × Int
/-- the left side at y -/
def lhs (t : Nat) (vs : List Nat) (e : Eqn) (y : Nat → Rat) : Rat := (e.1 t : Rat) * y t + lsum vs fun v => (e.1 v : Rat) * y v
def elimE (v : Nat) (e0 e : Eqn) : Eqn := (fun u => e0.1 v * e.1 u - e.1 v * e0.1 u, e0.1 v * e.2 - e.1 v * e0.2)
theorem lhs_elim (t : Nat) (vs : List Nat) (v : Nat) (e0 e : Eqn) (y : Nat → Rat) : lhs t vs (elimE v e0 e) y = (e0.1 v : Rat) * lhs t vs e y - (e.1 v : Rat) * lhs t vs e0 y := by
  unfold lhs
  have h : lsum vs (fun u => (((elimE v e0 e).1 u : Int) : Rat) * y u) = (e0.1 v : Rat) * lsum vs (fun u => (e.1 u : Rat) * y u) - (e.1 v : Rat) * lsum vs fun u => (e0.1 u : Rat) * y u := by
    rw [← lsum_lin]
    refine lsum_congr fun u _ => ?_
    show ((e0.1 v * e.1 u - e.1 v * e0.1 u : Int) : Rat) * y u = _
    rw [Rat.intCast_sub, Rat.intCast_mul, Rat.intCast_mul]
    grind
  rw [h]
  show ((e0.1 v * e.1 t - e.1 v * e0.1 t : Int) : Rat) * y t + _ = _
  rw [Rat.intCast_sub, Rat.intCast_mul, Rat.intCast_mul]
  grind
theorem elim_bound {v u : Nat} {e0 e : Eqn} {b : Nat} (h1 : (e0.1 v).natAbs < 2 ^ b) (h2 : (e.1 u).natAbs < 2 ^ b) (h3 : (e.1 v).natAbs < 2 ^ b) (h4 : (e0.1 u).natAbs < 2 ^ b) : (e0.1 v * e.1 u - e.1 v * e0.1 u).natAbs < 2 ^ (2 * b + 1) := by
  have a1 := mul_lt_pow h1 h2
  have a2 := mul_lt_pow h3 h4
  have e1 : (e0.1 v * e.1 u).natAbs = (e0.1 v).natAbs * (e.1 u).natAbs := Int.natAbs_mul _ _
  have e2 : (e.1 v * e0.1 u).natAbs = (e.1 v).natAbs * (e0.1 u).natAbs := Int.natAbs_mul _ _
  rw [Nat.pow_succ, show 2 * b = b + b by omega]
  omega
def bits : Nat → Nat → Nat
  | 0, b => b
  | n + 1, b => bits n (2 * b + 1)
theorem bits_mono : ∀ (n : Nat) {b c : Nat}, b ≤ c → bits n b ≤ bits n c
  | 0, _, _, h => h
  | n + 1, _, _, h => bits_mono n (by omega)
theorem elim : ∀ (vs : List Nat) (t : Nat) (Es : List Eqn) (b : Nat) (y : Nat → Rat), t ∉ vs → vs.Nodup → (∀ e ∈ Es, (e.1 t).natAbs < 2 ^ b ∧ e.2.natAbs < 2 ^ b ∧ ∀ v ∈ vs, (e.1 v).natAbs < 2 ^ b) → (∀ e ∈ Es, lhs t vs e y = e.2) → (∀ z : Nat → Rat, (∀ e ∈ Es, lhs t vs e z = 0) → z t = 0) →
    ∃ p q : Int, p ≠ 0 ∧ p.natAbs < 2 ^ bits vs.length b ∧ q.natAbs < 2 ^ bits vs.length b ∧ (p : Rat) * y t = q
  | [], t, Es, b, y, _, _, hb, hy, hu => by
    apply Classical.byContradiction
    intro hno
    have h0 : ∀ e ∈ Es, e.1 t = 0 := fun e he => Classical.byContradiction fun hne => hno ⟨e.1 t, e.2, hne, (hb e he).1, (hb e he).2.1, by
      have := hy e he
      unfold lhs at this
      have h : lsum [] (fun v => (e.1 v : Rat) * y v) = 0 := rfl
      rw [h] at this
      grind⟩
    have := hu (fun _ => 1) fun e he => by
      unfold lhs
      rw [h0 e he]
      have h : lsum [] (fun v => (e.1 v : Rat) * 1) = 0 := rfl
      rw [h]
      have : ((0 : Int) : Rat) = 0 := rfl
      rw [this]
      grind
    grind
  | v :: vs, t, Es, b, y, ht, nd, hb, hy, hu => by
    have htv : t ≠ v := fun e => ht (e ▸ List.mem_cons_self)
    have htvs : t ∉ vs := fun h => ht (List.mem_cons_of_mem _ h)
    obtain ⟨hv, nd'⟩ := List.nodup_cons.mp nd
    have split : ∀ (e : Eqn) (z : Nat → Rat), lhs t (v :: vs) e z = lhs t vs e z + (e.1 v : Rat) * z v := fun e z => by
      unfold lhs
      have : lsum (v :: vs) (fun v => (e.1 v : Rat) * z v) = (e.1 v : Rat) * z v + lsum vs fun v => (e.1 v : Rat) * z v := rfl
      rw [this]
      grind
    by_cases hz : ∀ e ∈ Es, e.1 v = 0
    · obtain ⟨p, q, h1, h2, h3, h4⟩ := elim vs t Es b y htvs nd' (fun e he => ⟨(hb e he).1, (hb e he).2.1, fun u hu => (hb e he).2.2 u (List.mem_cons_of_mem _ hu)⟩) (fun e he => by
        have := hy e he
        rw [split, hz e he] at this
        have h0 : ((0 : Int) : Rat) = 0 := rfl
        rw [h0] at this
        grind) (fun z hz' => hu z fun e he => by
        rw [split, hz e he, hz' e he]
        have h0 : ((0 : Int) : Rat) = 0 := rfl
        rw [h0]
        grind)
      have hm : bits vs.length b ≤ bits (v :: vs).length b := bits_mono vs.length (by omega)
      exact ⟨p, q, h1, Nat.lt_of_lt_of_le h2 (pow_lt hm), Nat.lt_of_lt_of_le h3 (pow_lt hm), h4⟩
    · obtain ⟨e0, he0, hp⟩ : ∃ e0, e0 ∈ Es ∧ e0.1 v ≠ 0 := Classical.byContradiction fun h => hz fun e he => Classical.byContradiction fun h2 => h ⟨e, he, h2⟩
      have hpr : (e0.1 v : Rat) ≠ 0 := fun h => hp (by exact_mod_cast h)
      have b0 := hb e0 he0
      refine elim vs t (Es.map (elimE v e0)) (2 * b + 1) y htvs nd' (fun e he => ?_) (fun e he => ?_) (fun z hz' => ?_)
      · obtain ⟨e1, he1, rfl⟩ := List.mem_map.mp he
        have b1 := hb e1 he1
        refine ⟨elim_bound (b0.2.2 v List.mem_cons_self) b1.1 (b1.2.2 v List.mem_cons_self) b0.1, ?_, fun u hu => elim_bound (b0.2.2 v List.mem_cons_self) (b1.2.2 u (List.mem_cons_of_mem _ hu)) (b1.2.2 v List.mem_cons_self) (b0.2.2 u (List.mem_cons_of_mem _ hu))⟩
        have := elim_bound (v := v) (u := v) (e0 := (fun _ => e0.1 v, 0)) (e := (fun _ => e1.2, 0)) (b := b) (b0.2.2 v List.mem_cons_self) b1.2.1 b1.2.1 (b0.2.2 v List.mem_cons_self)
        show (e0.1 v * e1.2 - e1.1 v * e0.2).natAbs < _
        have a1 := mul_lt_pow (b0.2.2 v List.mem_cons_self) b1.2.1
        have a2 := mul_lt_pow (b1.2.2 v List.mem_cons_self) b0.2.1
        have q1 : (e0.1 v * e1.2).natAbs = (e0.1 v).natAbs * e1.2.natAbs := Int.natAbs_mul _ _
        have q2 : (e1.1 v * e0.2).natAbs = (e1.1 v).natAbs * e0.2.natAbs := Int.natAbs_mul _ _
        rw [Nat.pow_succ, show 2 * b = b + b by omega]
        omega
      · obtain ⟨e1, he1, rfl⟩ := List.mem_map.mp he
        rw [lhs_elim]
        have y0 := hy e0 he0
        have y1 := hy e1 he1
        rw [split] at y0 y1
        show _ = ((e0.1 v * e1.2 - e1.1 v * e0.2 : Int) : Rat)
        rw [Rat.intCast_sub, Rat.intCast_mul, Rat.intCast_mul, ← y0, ← y1]
        grind
      · -- the eliminated column's value
        generalize hQ : lhs t vs e0 z = Q
        have key := hu (fun u => if u = v then - Q / (e0.1 v : Rat) else z u) fun e he => by
          rw [split]
          have e1 : lhs t vs e (fun u => if u = v then - Q / (e0.1 v : Rat) else z u) = lhs t vs e z := by
            unfold lhs
            dsimp only
            rw [if_neg htv]
            congr 1
            refine lsum_congr fun u hu => ?_
            rw [if_neg (fun h : u = v => hv (h ▸ hu))]
          rw [e1]
          rw [if_pos rfl]
          have := hz' (elimE v e0 e) (List.mem_map.mpr ⟨e, he, rfl⟩)
          rw [lhs_elim, hQ] at this
          rw [Rat.div_def]
          have hinv := Rat.mul_inv_cancel _ hpr
          generalize ((e0.1 v : Int) : Rat)⁻¹ = i at hinv ⊢
          have : lhs t vs e z = (lhs t vs e z * ((e0.1 v : Rat) * i)) := by rw [hinv]; grind
          grind
        rw [if_neg htv] at key
        exact key
/-! ### a board's numbers -/
/-- 36 times a fraction is a small whole number -/
def W36 (p : Rat) : Prop := ∃ z : Int, 36 * p = z ∧ z.natAbs < 2 ^ 14
def rangeNo (m t : Nat) : List Nat := (List.range m).filter fun v => !decide (v = t)
theorem lsum_sm (f : Nat → Rat) : ∀ m, lsum (List.range m).reverse f = sm m f
  | 0 => rfl
  | m + 1 => by
    rw [List.range_succ, List.reverse_append]
    show f m + lsum (List.range m).reverse f = sm m f + f m
    rw [lsum_sm f m]
    grind
theorem lsum_perm {f : Nat → Rat} : ∀ {l1 l2 : List Nat}, l1.Perm l2 → lsum l1 f = lsum l2 f := fun h => by
  induction h with
  | nil => rfl
  | cons x _ ih => show f x + _ = f x + _; rw [ih]
  | swap x y l => show f y + (f x + lsum l f) = f x + (f y + lsum l f); grind
  | trans _ _ h1 h2 => exact h1.trans h2
theorem lsum_split {f : Nat → Rat} {m t : Nat} (ht : t < m) : f t + lsum (rangeNo m t) f = sm m f := by
  rw [← lsum_sm f m]
  have hp : (t :: rangeNo m t).Perm (List.range m).reverse := by
    refine (List.perm_ext_iff_of_nodup ?_ ?_).mpr fun a => ?_
    · refine List.nodup_cons.mpr ⟨fun h => ?_, (List.nodup_range (n := m)).filter _⟩
      have := (List.mem_filter.mp h).2
      simp at this
    · exact List.pairwise_reverse.mpr ((List.nodup_range (n := m)).imp fun h => h.symm)
    · unfold rangeNo
      simp only [List.mem_cons, List.mem_filter, List.mem_reverse, List.mem_range, Bool.not_eq_true', decide_eq_false_iff_not]
      constructor
      · rintro (h | h)
        · rw [h]; exact ht
        · exact h.1
      · intro h
        by_cases e : a = t
        · exact .inl e
        · exact .inr ⟨h, e⟩
  rw [← lsum_perm hp]
  rfl
theorem rangeNo_len {m t : Nat} (ht : t < m) : (rangeNo m t).length + 1 = m := by
  have hp : (t :: rangeNo m t).Perm (List.range m) := by
    refine (List.perm_ext_iff_of_nodup ?_ ?_).mpr fun a => ?_
    · refine List.nodup_cons.mpr ⟨fun h => ?_, (List.nodup_range (n := m)).filter _⟩
      have := (List.mem_filter.mp h).2
      simp at this
    · exact List.nodup_range
    · unfold rangeNo
      simp only [List.mem_cons, List.mem_filter, List.mem_range, Bool.not_eq_true', decide_eq_false_iff_not]
      constructor
      · rintro (h | h)
        · rw [h]; exact ht
        · exact h.1
      · intro h
        by_cases e : a = t
        · exact .inl e
        · exact .inr ⟨h, e⟩
  have := hp.length_eq
  simpa using this
theorem tab_size {m L : Nat} {T T0 : Tab} {β : Nat → Nat} (B : Basis m L T β) (hn : ∀ v, Null m L T0 v ↔ Null m L T v) (hw : ∀ i j, i < m → j ≤ L → W36 (T0 i j)) {t c : Nat} (ht : t < m) (hc : c ≤ L) : Sz (bits (m - 1) 14) (T t c) := by
  obtain ⟨h1, h2⟩ := col_of B hn hc
  -- the whole numbers
  have wh : ∀ i j, ∃ z : Int, i < m → j ≤ L → 36 * T0 i j = z ∧ z.natAbs < 2 ^ 14 := fun i j => by
    by_cases h : i < m ∧ j ≤ L
    · obtain ⟨z, hz⟩ := hw i j h.1 h.2
      exact ⟨z, fun _ _ => hz⟩
    · exact ⟨0, fun a b => absurd ⟨a, b⟩ h⟩
  obtain ⟨N, hN⟩ : ∃ N : Nat → Nat → Int, ∀ i j, i < m → j ≤ L → 36 * T0 i j = N i j ∧ (N i j).natAbs < 2 ^ 14 := ⟨fun i j => Classical.choose (wh i j), fun i j => Classical.choose_spec (wh i j)⟩
  have hβ : ∀ k, k < m → β k ≤ L := fun k hk => Nat.le_of_lt (B.lt k hk)
  have hlhs : ∀ (z : Nat → Rat) i, i < m → lhs t (rangeNo m t) (fun k => N i (β k), N i c) z = 36 * sm m fun k => T0 i (β k) * z k := fun z i hi => by
    unfold lhs
    rw [lsum_split (f := fun v => ((N i (β v) : Int) : Rat) * z v) ht, ← sm_mul]
    refine sm_congr fun k hk => ?_
    have := (hN i (β k) hi (hβ k hk)).1
    rw [← this]
    grind
  obtain ⟨p, q, hp, hpb, hqb, hpq⟩ := elim (rangeNo m t) t ((List.range m).map fun i => (fun k => N i (β k), N i c)) 14 (fun k => T k c) (fun h => by
      have := (List.mem_filter.mp h).2
      simp at this) ((List.nodup_range (n := m)).filter _) (fun e he => by
      obtain ⟨i, hi, rfl⟩ := List.mem_map.mp he
      have hi := List.mem_range.mp hi
      exact ⟨(hN i _ hi (hβ t ht)).2, (hN i c hi hc).2, fun v hv => (hN i _ hi (hβ v (List.mem_range.mp (List.mem_filter.mp hv).1))).2⟩) (fun e he => by
      obtain ⟨i, hi, rfl⟩ := List.mem_map.mp he
      have hi := List.mem_range.mp hi
      rw [hlhs _ i hi, ← h1 i hi]
      exact (hN i c hi hc).1) (fun z hz => by
      have hu := h2 (fun k => T k c + z k) fun i hi => by
        have := hz _ (List.mem_map.mpr ⟨i, List.mem_range.mpr hi, rfl⟩)
        rw [hlhs z i hi] at this
        have e : sm m (fun k => T0 i (β k) * (T k c + z k)) = sm m (fun k => T0 i (β k) * T k c) + sm m fun k => T0 i (β k) * z k := by
          rw [← sm_add]
          exact sm_congr fun k _ => by grind
        rw [e, ← h1 i hi]
        grind
      have := hu t ht
      grind)
  have hlen : (rangeNo m t).length = m - 1 := by have := rangeNo_len ht; omega
  rw [hlen] at hpb hqb
  have e : T t c = Rat.divInt q p := by
    have hpr : (p : Rat) ≠ 0 := fun h => hp (by exact_mod_cast h)
    rw [Rat.divInt_eq_div, ← hpq, Rat.div_def]
    have hinv := Rat.mul_inv_cancel _ hpr
    generalize ((p : Int) : Rat)⁻¹ = i at hinv ⊢
    have : T t c = T t c * ((p : Rat) * i) := by rw [hinv]; grind
    grind
  rw [e]
  exact .of_divInt hp hqb hpb
theorem W36.sz {p : Rat} (h : W36 p) : Sz 14 p := by
  obtain ⟨z, h1, h2⟩ := h
  have e : p = Rat.divInt z 36 := by
    rw [Rat.divInt_eq_div, ← h1]
    have : ((36 : Int) : Rat) = 36 := rfl
    rw [this]
    grind
  rw [e]
  exact .of_divInt (by decide) h2 (by decide)
section
variable {a : Nat} {A : List (List Rat)} {g : List Rat} (E : Eqs a A g) (hA : ∀ l ∈ A, ∀ p ∈ l, W36 p) (hg : ∀ p ∈ g, W36 p)
include E hA hg
theorem W36.sgm {p : Rat} (h : W36 p) (x : Rat) : W36 (sg x * p) := by
  obtain ⟨z, h1, h2⟩ := h
  unfold sg
  split
  · refine ⟨-z, ?_, by omega⟩
    rw [Rat.intCast_neg, ← h1]
    grind
  · exact ⟨z, by rw [← h1]; grind, h2⟩
theorem Eqs.t0 {i j : Nat} (hi : i < A.length) (hj : j ≤ widthOf A + A.length) : W36 (tab0 A g i j) := by
  have hgi : W36 (g.getD i 0) := hg _ (getD_mem (by rw [← E.len]; exact hi))
  by_cases h1 : j < widthOf A
  · have e : tab0 A g i j = (board0 A g).at i j := tab_real h1
    rw [e, E.at_real hi h1]
    refine W36.sgm E hA hg ?_ _
    exact hA _ (getD_mem hi) _ (getD_mem (by rw [E.rlen hi]; exact h1))
  · by_cases h2 : j = widthOf A + A.length
    · have e : tab0 A g i j = (board0 A g).at i (widthOf A + A.length) := by rw [h2]; exact tab_goal (b := board0 A g)
      rw [e, E.at_goal hi]
      exact W36.sgm E hA hg hgi _
    · obtain ⟨k, rfl⟩ : ∃ k, j = widthOf A + k := ⟨j - widthOf A, by omega⟩
      have hk : k < A.length := by omega
      have e : tab0 A g i (widthOf A + k) = sOf g k * (board0 A g).at i (widthOf A + k) := tab_art (b := board0 A g) hk
      rw [e, E.at_art hi hk]
      by_cases q : i = k
      · rw [if_pos q, q]
        have : sOf g k * sOf g k = 1 := sg_sq _
        rw [this]
        exact ⟨36, by show (36 : Rat) * 1 = 36; grind, by decide⟩
      · rw [if_neg q]
        exact ⟨0, by show (36 : Rat) * (sOf g k * 0) = 0; grind, by decide⟩
theorem Eqs.fit {b : Bd} (I : Inv (widthOf A) A.length (sOf g) (tab0 A g) b) : Fit 239 b := by
  have hbits : ∀ m, m ≤ 5 → bits (m - 1) 14 ≤ 239 := fun m hm => by
    have : bits (m - 1) 14 ≤ bits 4 14 := by
      have gen : ∀ k b, bits k b ≤ bits (k + 1) b := fun k b => bits_mono k (by omega)
      have h : ∀ d k, bits k 14 ≤ bits (k + d) 14 := fun d => by
        induction d with
        | zero => exact fun k => Nat.le_refl _
        | succ d ih => exact fun k => Nat.le_trans (ih k) (gen (k + d) 14)
      have := h (4 - (m - 1)) (m - 1)
      rw [show m - 1 + (4 - (m - 1)) = 4 by omega] at this
      exact this
    have h5 : bits 4 14 = 239 := by decide
    omega
  have sz : ∀ i j, i < A.length → j ≤ widthOf A + A.length → Sz 239 (tab (sOf g) b i j) := fun i j hi hj => (tab_size I.B (fun v => (I.nul v).symm) (fun i j hi hj => E.t0 hA hg hi hj) hi hj).mono (hbits _ E.m6)
  have hm := I.S.hm
  refine ⟨hm, I.S.hbs, fun l hl => ⟨fun x hx => ?_, I.S.hl l hl⟩, I.S.bas, by rw [I.hn, I.hm]; have := E.m6; have := E.w9; omega, by rw [I.hm]; exact E.m6, by decide⟩
  obtain ⟨i, hi, e⟩ := List.getElem_of_mem hl
  obtain ⟨j, hj, e2⟩ := List.getElem_of_mem hx
  have him : i < A.length := by rw [← hm, I.hm] at hi; exact hi
  have hlen : l.length = widthOf A + A.length + 1 := by rw [I.S.hl l hl, I.hn, I.hm]
  have ex : x = b.at i j := by
    unfold Bd.at
    have : b.ls.getD i [] = l := by rw [List.getD_eq_getElem?_getD, List.getElem?_eq_getElem hi, e]; rfl
    rw [this, List.getD_eq_getElem?_getD, List.getElem?_eq_getElem hj, e2]
    rfl
  rw [ex]
  by_cases h1 : j < widthOf A
  · have := sz i j him (by omega)
    rw [tab_real (by rw [I.hn]; exact h1)] at this
    exact this
  · by_cases h2 : j = widthOf A + A.length
    · have := sz i j him (by omega)
      rw [h2, I.goal] at this
      rw [h2]
      exact this
    · obtain ⟨k, rfl⟩ : ∃ k, j = widthOf A + k := ⟨j - widthOf A, by omega⟩
      have := sz i (widthOf A + k) him (by omega)
      have ha := tab_art (s := sOf g) (b := b) (i := i) (k := k) (by rw [I.hm]; omega)
      rw [I.hn] at ha
      rw [ha] at this
      unfold sOf sg at this
      split at this
      · have h3 := this.neg
        have : -(-1 * b.at i (widthOf A + k)) = b.at i (widthOf A + k) := by grind
        rw [this] at h3
        exact h3
      · have e3 : 1 * b.at i (widthOf A + k) = b.at i (widthOf A + k) := by grind
        rw [e3] at this
        exact this
end
end K40
end
set_option maxHeartbeats 4000000
section
/-! What fill and grow tell. -/
namespace K40
open NB KM
section
variable {n m : Nat} {s : Nat → Rat} {T0 : Tab} {b : Bd}
/-- the artificial rows are empty: their goals; their real columns -/
def GZ (m L : Nat) (b : Bd) : Prop := ∀ i, i < m → b.bs.getD i none = none → b.at i L = 0
def RZ (m n : Nat) (b : Bd) : Prop := ∀ i, i < m → b.bs.getD i none = none → ∀ j, j < n → b.at i j = 0
theorem Inv.atT (I : Inv n m s T0 b) {r c : Nat} (hr : r < m) (i j : Nat) : (b.turn r c).at i j = if i = r then b.at r j / b.at r c else b.at i j - b.at i c * (b.at r j / b.at r c) := turn_at I.S (by rw [I.hm]; exact hr) i j
theorem Inv.bsT (I : Inv n m s T0 b) {r c i : Nat} (hr : r < m) : (b.turn r c).bs.getD i none = if i = r then some c else b.bs.getD i none := by
  have hrb : r < b.bs.length := by rw [I.S.hbs, ← I.S.hm, I.hm]; exact hr
  show (b.bs.set r (some c)).getD i none = _
  by_cases e : i = r
  · rw [if_pos e, e, getD_set_eq hrb]
  · rw [if_neg e, getD_set_ne (fun q => e q.symm)]
/-- a turn on an empty goal -/
theorem Inv.turn0 (I : Inv n m s T0 b) {r c : Nat} (hr : r < m) (hc : c < n) (h0 : b.at r c ≠ 0) (hz : b.at r (n + m) = 0) : Inv n m s T0 (b.turn r c) ∧ ∀ i, i < m → (b.turn r c).at i (n + m) = b.at i (n + m) := by
  have e : ∀ i, i < m → (b.turn r c).at i (n + m) = b.at i (n + m) := fun i hi => by
    rw [I.atT hr, hz, Rat.div_def]
    by_cases q : i = r
    · rw [if_pos q, q, hz]; grind
    · rw [if_neg q]; grind
  exact ⟨I.turn hr hc h0 fun i hi => by rw [e i hi]; exact I.g i hi, e⟩
theorem clearS_ok (I : Inv n m s T0 b) (hz : GZ m (n + m) b) {k : Nat} (hk : k < m) : Inv n m s T0 (clearS k b) ∧ GZ m (n + m) (clearS k b) ∧ ((∀ i, i < k → b.bs.getD i none = none → ∀ j, j < n → b.at i j = 0) → ∀ i, i < k + 1 → (clearS k b).bs.getD i none = none → ∀ j, j < n → (clearS k b).at i j = 0) := by
  unfold clearS
  by_cases ho : b.bs.getD k none = none
  · rw [if_pos ho]
    cases hf : b.free k with
    | nil =>
      refine ⟨I, hz, fun h i hi hb j hj => ?_⟩
      by_cases e : i = k
      · subst e
        have := cols_nil hf j (by rw [I.hn]; exact hj)
        simpa using this
      · exact h i (by omega) hb j hj
    | cons c cs =>
      obtain ⟨h1, h2⟩ := cols_head hf
      have hc : c < n := by rw [← I.hn]; exact h1
      have h0 : b.at k c ≠ 0 := by simpa using h2
      obtain ⟨I', hg⟩ := I.turn0 hk hc h0 (hz k hk ho)
      show Inv n m s T0 (b.turn k c) ∧ GZ m (n + m) (b.turn k c) ∧ _
      refine ⟨I', fun i hi hb => ?_, fun h i hi hb j hj => ?_⟩
      · rw [I.bsT hk] at hb
        split at hb
        · cases hb
        · rw [hg i hi]; exact hz i hi hb
      · have hb : (b.turn k c).bs.getD i none = none := hb
        rw [I.bsT hk] at hb
        split at hb
        · cases hb
        · rename_i ne
          show (b.turn k c).at i j = 0
          rw [I.atT hk, if_neg ne, h i (by omega) hb j hj, h i (by omega) hb c hc]
          grind
  · rw [if_neg ho]
    refine ⟨I, hz, fun h i hi hb j hj => ?_⟩
    by_cases e : i = k
    · subst e; exact absurd hb ho
    · exact h i (by omega) hb j hj
theorem clearL_ok : ∀ (f k : Nat) (b : Bd), Inv n m s T0 b → GZ m (n + m) b → k + f = m → (∀ i, i < k → b.bs.getD i none = none → ∀ j, j < n → b.at i j = 0) → Inv n m s T0 (clearL k f b) ∧ GZ m (n + m) (clearL k f b) ∧ RZ m n (clearL k f b)
  | 0, k, b, I, hz, hk, h => ⟨I, hz, fun i hi hb j hj => h i (by omega) hb j hj⟩
  | f + 1, k, b, I, hz, hk, h => by
    obtain ⟨h1, h2, h3⟩ := clearS_ok I hz (k := k) (by omega)
    exact clearL_ok f (k + 1) (clearS k b) h1 h2 (by omega) (h3 h)
theorem clear_ok (I : Inv n m s T0 b) (hz : GZ m (n + m) b) : Inv n m s T0 b.clear ∧ GZ m (n + m) b.clear ∧ RZ m n b.clear := by
  unfold Bd.clear
  rw [I.hm]
  exact clearL_ok m 0 b I hz (by omega) fun i hi => absurd hi (Nat.not_lt_zero i)
/-- lack of goals: none -/
theorem lack_last (I : Inv n m s T0 b) : b.lack.getLastD 0 = sm m fun i => if b.bs.getD i none = none then b.at i (n + m) else 0 := by
  obtain ⟨h1, h2⟩ := lack_get I.S
  rw [last_get _ _ h1, h2 _ (by omega), I.hn, I.hm]
theorem lack_gz (I : Inv n m s T0 b) (h : b.lack.getLastD 0 = 0) : GZ m (n + m) b := by
  rw [lack_last I] at h
  intro i hi hb
  have := sm_all_zero (n := m) (f := fun i => if b.bs.getD i none = none then b.at i (n + m) else 0) (fun j hj => by
    split
    · exact I.g j hj
    · exact Rat.le_refl) h i hi
  rw [if_pos hb] at this
  exact this
theorem lack_nonneg (I : Inv n m s T0 b) : 0 ≤ b.lack.getLastD 0 := by
  rw [lack_last I]
  exact sm_nonneg fun j hj => by
    split
    · exact I.g j hj
    · exact Rat.le_refl
/-- a column that lacks has a row that leaves -/
theorem fill_leaves (I : Inv n m s T0 b) {c : Nat} (hc : c < n) (h : 0 < b.lack.getD c 0) : b.leaving c ≠ none := by
  intro hl
  have hneg := leaving_none I.S hl
  rw [(lack_get I.S).2 c (by rw [I.hn]; omega), I.hm] at h
  obtain ⟨i, hi, hp⟩ := sm_pos_term h
  have := hneg i (by rw [I.hm]; exact hi)
  split at hp
  · grind
  · grind
theorem fill_step (I : Inv n m s T0 b) {c : Nat} {cs : List Nat} {r : Nat} (hq : b.lackC = c :: cs) (hr : b.leaving c = some r) : c < n ∧ r < m ∧ 0 < b.at r c ∧ Step m (n + m) n (wFill n) (tab s b) (bet b) (tab s (b.turn r c)) (bet (b.turn r c)) c r ∧ Inv n m s T0 (b.turn r c) := by
  obtain ⟨h1, h2⟩ := cols_head hq
  have hc : c < n := by rw [← I.hn]; exact h1
  have hp : 0 < b.lack.getD c 0 := by simpa using h2
  obtain ⟨q1, q2, q3, q4⟩ := I.step (w := wFill n) hc (by rw [I.red_fill hc]; exact hp) (fun j hj => by
    rw [I.red_fill (by omega)]
    have := cols_first hq j hj
    have h3 : ¬ 0 < b.lack.getD j 0 := by simpa using this
    grind) hr
  exact ⟨hc, q1, q2, q3, q4⟩
theorem fillM_ok : ∀ (f : Nat) (b : Bd) (res : Bool) (b' : Bd), Inv n m s T0 b → fillM f b = some (res, b') → Inv n m s T0 b' ∧ (res = true → GZ m (n + m) b' ∧ RZ m n b') ∧ (res = false → (∀ j, j < n → b'.lack.getD j 0 ≤ 0) ∧ 0 < b'.lack.getLastD 0)
  | 0, b, res, b', _, h => by cases h
  | f + 1, b, res, b', I, h => by
    unfold fillM at h
    by_cases h0 : b.lack.getLastD 0 = 0
    · rw [if_pos h0] at h
      cases h
      obtain ⟨i1, i2, i3⟩ := clear_ok I (lack_gz I h0)
      exact ⟨i1, fun _ => ⟨i2, i3⟩, fun e => by cases e⟩
    · rw [if_neg h0] at h
      cases hq : b.lackC with
      | nil =>
        rw [hq] at h
        cases h
        refine ⟨I, fun e => (by cases e), fun _ => ⟨fun j hj => ?_, ?_⟩⟩
        · have := cols_nil hq j (by rw [I.hn]; exact hj)
          have h3 : ¬ 0 < b.lack.getD j 0 := by simpa using this
          grind
        · have := lack_nonneg I
          grind
      | cons c cs =>
        rw [hq] at h
        simp only at h
        cases hr : b.leaving c with
        | none => rw [hr] at h; cases h
        | some r =>
          rw [hr] at h
          obtain ⟨_, _, _, _, I'⟩ := fill_step I hq hr
          exact fillM_ok f (b.turn r c) res b' I' h
theorem fillM_chain : ∀ (f : Nat) (b : Bd), Inv n m s T0 b → fillM f b = none → ∃ (B : Nat → Bd) (c r : Nat → Nat), B 0 = b ∧ Chain n m s T0 (wFill n) B c r f
  | 0, b, I, _ => ⟨fun _ => b, fun _ => 0, fun _ => 0, rfl, ⟨fun k hk => I, fun k hk => absurd hk (Nat.not_lt_zero k), fun k hk => absurd hk (Nat.not_lt_zero k)⟩⟩
  | f + 1, b, I, h => by
    unfold fillM at h
    by_cases h0 : b.lack.getLastD 0 = 0
    · rw [if_pos h0] at h; cases h
    · rw [if_neg h0] at h
      cases hq : b.lackC with
      | nil => rw [hq] at h; cases h
      | cons c cs =>
        rw [hq] at h
        simp only at h
        obtain ⟨h1, h2⟩ := cols_head hq
        have hc : c < n := by rw [← I.hn]; exact h1
        cases hr : b.leaving c with
        | none => exact absurd hr (fill_leaves I hc (by simpa using h2))
        | some r =>
          rw [hr] at h
          obtain ⟨_, _, _, st, I'⟩ := fill_step I hq hr
          obtain ⟨B, cc, rr, e, H⟩ := fillM_chain f (b.turn r c) I' h
          refine ⟨fun k => match k with
            | 0 => b
            | k + 1 => B k, fun k => match k with
            | 0 => c
            | k + 1 => cc k, fun k => match k with
            | 0 => r
            | k + 1 => rr k, rfl, ⟨fun k hk => ?_, fun k hk => ?_, fun k hk => ?_⟩⟩
          · cases k with
            | zero => exact I
            | succ k => exact H.I k (by omega)
          · cases k with
            | zero =>
              show Step m (n + m) n (wFill n) (tab s b) (bet b) (tab s (B 0)) (bet (B 0)) c r
              rw [e]
              exact st
            | succ k => exact H.st k (by omega)
          · cases k with
            | zero => exact e
            | succ k => exact H.nx k (by omega)
/-! ### grow -/
structure InvG (n m : Nat) (s : Nat → Rat) (T0 : Tab) (b : Bd) : Prop where
  I : Inv n m s T0 b
  gz : GZ m (n + m) b
  rz : RZ m n b
theorem grow_step {w : List Rat} (hw : w.length = n) (J : InvG n m s T0 b) {c : Nat} {cs : List Nat} {r : Nat} (hq : b.priceC w = c :: cs) (hr : b.leaving c = some r) : c < n ∧ r < m ∧ 0 < b.at r c ∧ Step m (n + m) n (wGrow n w) (tab s b) (bet b) (tab s (b.turn r c)) (bet (b.turn r c)) c r ∧ InvG n m s T0 (b.turn r c) := by
  have I := J.I
  obtain ⟨h1, h2⟩ := cols_head hq
  have hc : c < n := by rw [← I.hn]; exact h1
  have hp : 0 < (b.price w).getD c 0 := by simpa using h2
  obtain ⟨q1, q2, q3, q4⟩ := I.step (w := wGrow n w) hc (by rw [I.red_grow hw hc]; exact hp) (fun j hj => by
    rw [I.red_grow hw (by omega)]
    have := cols_first hq j hj
    have h3 : ¬ 0 < (b.price w).getD j 0 := by simpa using this
    grind) hr
  refine ⟨hc, q1, q2, q3, q4, fun i hi hb => ?_, fun i hi hb j hj => ?_⟩
  · rw [I.bsT q1] at hb
    split at hb
    · cases hb
    · rename_i ne
      rw [I.atT q1, if_neg ne, J.gz i hi hb, J.rz i hi hb c hc]
      grind
  · rw [I.bsT q1] at hb
    split at hb
    · cases hb
    · rename_i ne
      rw [I.atT q1, if_neg ne, J.rz i hi hb j hj, J.rz i hi hb c hc]
      grind
theorem growM_ok {w : List Rat} (hw : w.length = n) : ∀ (f : Nat) (b : Bd) (res : Bool) (b' : Bd), InvG n m s T0 b → growM w f b = some (res, b') → InvG n m s T0 b' ∧ (res = true → ∀ j, j < n → (b'.price w).getD j 0 ≤ 0) ∧ (res = false → ∃ c, c < n ∧ 0 < (b'.price w).getD c 0 ∧ ∀ i, i < m → b'.at i c ≤ 0)
  | 0, b, res, b', _, h => by cases h
  | f + 1, b, res, b', J, h => by
    have I := J.I
    unfold growM at h
    cases hq : b.priceC w with
    | nil =>
      rw [hq] at h
      cases h
      refine ⟨J, fun _ j hj => ?_, fun e => by cases e⟩
      have := cols_nil hq j (by rw [I.hn]; exact hj)
      have h3 : ¬ 0 < (b.price w).getD j 0 := by simpa using this
      grind
    | cons c cs =>
      rw [hq] at h
      simp only at h
      obtain ⟨h1, h2⟩ := cols_head hq
      have hc : c < n := by rw [← I.hn]; exact h1
      cases hr : b.leaving c with
      | none =>
        rw [hr] at h
        cases h
        refine ⟨J, fun e => (by cases e), fun _ => ⟨c, hc, by simpa using h2, fun i hi => leaving_none I.S hr i (by rw [I.hm]; exact hi)⟩⟩
      | some r =>
        rw [hr] at h
        obtain ⟨_, _, _, _, J'⟩ := grow_step hw J hq hr
        exact growM_ok hw f (b.turn r c) res b' J' h
theorem growM_chain {w : List Rat} (hw : w.length = n) : ∀ (f : Nat) (b : Bd), InvG n m s T0 b → growM w f b = none → ∃ (B : Nat → Bd) (c r : Nat → Nat), B 0 = b ∧ Chain n m s T0 (wGrow n w) B c r f
  | 0, b, J, _ => ⟨fun _ => b, fun _ => 0, fun _ => 0, rfl, ⟨fun k hk => J.I, fun k hk => absurd hk (Nat.not_lt_zero k), fun k hk => absurd hk (Nat.not_lt_zero k)⟩⟩
  | f + 1, b, J, h => by
    have I := J.I
    unfold growM at h
    cases hq : b.priceC w with
    | nil => rw [hq] at h; cases h
    | cons c cs =>
      rw [hq] at h
      simp only at h
      cases hr : b.leaving c with
      | none => rw [hr] at h; cases h
      | some r =>
        rw [hr] at h
        obtain ⟨_, _, _, st, J'⟩ := grow_step hw J hq hr
        obtain ⟨B, cc, rr, e, H⟩ := growM_chain hw f (b.turn r c) J' h
        refine ⟨fun k => match k with
          | 0 => b
          | k + 1 => B k, fun k => match k with
          | 0 => c
          | k + 1 => cc k, fun k => match k with
          | 0 => r
          | k + 1 => rr k, rfl, ⟨fun k hk => ?_, fun k hk => ?_, fun k hk => ?_⟩⟩
        · cases k with
          | zero => exact I
          | succ k => exact H.I k (by omega)
        · cases k with
          | zero =>
            show Step m (n + m) n (wGrow n w) (tab s b) (bet b) (tab s (B 0)) (bet (B 0)) c r
            rw [e]
            exact st
          | succ k => exact H.st k (by omega)
        · cases k with
          | zero => exact e
          | succ k => exact H.nx k (by omega)
end
/-! ### for the equations -/
section
variable {a : Nat} {A : List (List Rat)} {g : List Rat} (E : Eqs a A g) (hA : ∀ l ∈ A, ∀ p ∈ l, W36 p) (hg : ∀ p ∈ g, W36 p)
include E hA hg
abbrev InvE (A : List (List Rat)) (g : List Rat) (b : Bd) : Prop := Inv (widthOf A) A.length (sOf g) (tab0 A g) b
theorem Eqs.fillI : FillI 239 (InvE A g) (fun b => InvE A g b ∧ GZ A.length (widthOf A + A.length) b) := by
  refine ⟨fun b I => E.fit hA hg I, fun b I => E.fit hA hg I.1, fun b k I hk => ?_, fun b I h => ⟨I, lack_gz I h⟩, fun b I => (lack_get I.S).1, fun b c cs r I h0 hq hr => ?_⟩
  · obtain ⟨h1, h2, h3⟩ := clearS_ok I.1 I.2 (k := k) (by rw [← I.1.hm]; exact hk)
    exact ⟨⟨h1, h2⟩, by rw [h1.hm, I.1.hm]⟩
  · obtain ⟨_, h1, h2, _, h3⟩ := fill_step I hq hr
    exact ⟨by rw [I.hm]; exact h1, by grind, h3⟩
theorem Eqs.growI {w : List Rat} (hw : w.length = widthOf A) (sw : ∀ x ∈ w, Sz 50 x) : GrowI 239 w (InvG (widthOf A) A.length (sOf g) (tab0 A g)) := by
  refine ⟨fun b J => E.fit hA hg J.I, sw, fun b J => by rw [hw, J.I.hn], fun b J => ?_, fun b c cs r J hq hr => ?_⟩
  · rw [(price_get J.I.S (by rw [hw, J.I.hn])).1]
    omega
  · obtain ⟨_, h1, h2, _, h3⟩ := grow_step hw J hq hr
    exact ⟨by rw [J.I.hm]; exact h1, by grind, h3⟩
theorem Eqs.fills : ∃ res b', fillM 20000 (board0 A g) = some (res, b') ∧ InvE A g b' ∧ (res = true → GZ A.length (widthOf A + A.length) b' ∧ RZ A.length (widthOf A) b') ∧ (res = false → (∀ j, j < widthOf A → b'.lack.getD j 0 ≤ 0) ∧ 0 < b'.lack.getLastD 0) := by
  cases h : fillM 20000 (board0 A g) with
  | none =>
    obtain ⟨B, c, r, _, H⟩ := fillM_chain 20000 (board0 A g) E.inv h
    exact (H.short E.w9 (by have := E.m6; omega) (by decide)).elim
  | some z =>
    obtain ⟨res, b'⟩ := z
    exact ⟨res, b', rfl, fillM_ok 20000 (board0 A g) res b' E.inv h⟩
theorem Eqs.grows {w : List Rat} (hw : w.length = widthOf A) {b : Bd} (J : InvG (widthOf A) A.length (sOf g) (tab0 A g) b) : ∃ res b', growM w 20000 b = some (res, b') ∧ InvG (widthOf A) A.length (sOf g) (tab0 A g) b' ∧ (res = true → ∀ j, j < widthOf A → (b'.price w).getD j 0 ≤ 0) ∧ (res = false → ∃ c, c < widthOf A ∧ 0 < (b'.price w).getD c 0 ∧ ∀ i, i < A.length → b'.at i c ≤ 0) := by
  cases h : growM w 20000 b with
  | none =>
    obtain ⟨B, c, r, _, H⟩ := growM_chain hw 20000 b J h
    exact (H.short E.w9 (by have := E.m6; omega) (by decide)).elim
  | some z =>
    obtain ⟨res, b'⟩ := z
    exact ⟨res, b', rfl, growM_ok hw 20000 b res b' J h⟩
end
end K40
end
set_option maxHeartbeats 4000000
section
/-! What is told is right: numbers, bars, duals. -/
namespace K40
open NB KM
theorem dotL_sm : ∀ (xs ys : List Rat) (n : Nat), xs.length = n → ys.length = n → dotL xs ys = sm n fun i => xs.getD i 0 * ys.getD i 0
  | [], [], 0, _, _ => rfl
  | [], _, n + 1, h, _ => by simp at h
  | _ :: _, _, 0, h, _ => by simp at h
  | _ :: _, [], n + 1, _, h => by simp at h
  | [], _ :: _, 0, _, h => by simp at h
  | x :: xs, y :: ys, n + 1, h1, h2 => by
    rw [sm_left]
    show x * y + dotL xs ys = x * y + _
    rw [dotL_sm xs ys n (by simpa using h1) (by simpa using h2)]
    rfl
structure Meets (A : List (List Rat)) (g x : List Rat) : Prop where
  len : x.length = widthOf A
  pos : ∀ v ∈ x, 0 ≤ v
  eqn : ∀ i, i < A.length → dotL (A.getD i []) x = g.getD i 0
structure IsBar (A : List (List Rat)) (g y : List Rat) : Prop where
  len : y.length = A.length
  neg : dotL y g < 0
  col : ∀ j, j < widthOf A → 0 ≤ dotL y (colL A j)
structure IsDual (A : List (List Rat)) (g w y : List Rat) (v : Rat) : Prop where
  len : y.length = A.length
  val : dotL y g = v
  col : ∀ j, j < widthOf A → w.getD j 0 ≤ dotL y (colL A j)
theorem colL_get {A : List (List Rat)} {j k : Nat} (hk : k < A.length) : (colL A j).getD k 0 = aij A k j := by
  unfold colL
  rw [List.getD_eq_getElem?_getD, List.getElem?_map, List.getElem?_eq_getElem hk]
  unfold aij
  simp [List.getD_eq_getElem?_getD, List.getElem?_eq_getElem hk]
theorem colL_len {A : List (List Rat)} {j : Nat} : (colL A j).length = A.length := by simp [colL]
/-! ### the numbers -/
theorem numsL_out {j : Nat} : ∀ (ls : List (List Rat)) (bs : List (Option Nat)) (acc : List Rat), (∀ i, bs.getD i none ≠ some j) → (numsL ls bs acc).getD j 0 = acc.getD j 0
  | [], _, _, _ => rfl
  | _ :: _, [], _, _ => rfl
  | l :: ls, none :: bs, acc, h => numsL_out ls bs acc fun i => h (i + 1)
  | l :: ls, some p :: bs, acc, h => by
    have hp : p ≠ j := fun e => h 0 (by rw [e]; rfl)
    show (numsL ls bs (acc.set p _)).getD j 0 = _
    rw [numsL_out ls bs _ fun i => h (i + 1), getD_set_ne hp]
theorem numsL_at {j : Nat} : ∀ (ls : List (List Rat)) (bs : List (Option Nat)) (acc : List Rat) (i0 : Nat), bs.length = ls.length → i0 < ls.length → j < acc.length → bs.getD i0 none = some j → (∀ i, i ≠ i0 → bs.getD i none ≠ some j) → (numsL ls bs acc).getD j 0 = (ls.getD i0 []).getLastD 0
  | [], _, _, i0, _, h, _, _, _ => absurd h (Nat.not_lt_zero i0)
  | _ :: _, [], _, _, h, _, _, _, _ => by simp at h
  | l :: ls, o :: bs, acc, 0, h, _, hj, h0, hu => by
    have h0 : o = some j := h0
    subst h0
    show (numsL ls bs (acc.set j (l.getLastD 0))).getD j 0 = l.getLastD 0
    rw [numsL_out ls bs _ fun i => hu (i + 1) (by omega), getD_set_eq hj]
  | l :: ls, none :: bs, acc, i0 + 1, h, hi, hj, h0, hu => numsL_at ls bs acc i0 (by simpa using h) (by simpa using hi) hj h0 fun i ne => hu (i + 1) (by omega)
  | l :: ls, some p :: bs, acc, i0 + 1, h, hi, hj, h0, hu => by
    show (numsL ls bs (acc.set p _)).getD j 0 = (ls.getD i0 []).getLastD 0
    exact numsL_at ls bs _ i0 (by simpa using h) (by simpa using hi) (by rw [List.length_set]; exact hj) h0 fun i ne => hu (i + 1) (by omega)
section
variable {n m : Nat} {s : Nat → Rat} {T0 : Tab} {b : Bd}
/-- the numbers are the tableau's values -/
theorem numbers_val (I : Inv n m s T0 b) {j : Nat} (hj : j < n) : b.numbers.getD j 0 = val m (n + m) (tab s b) (bet b) j := by
  have hout : ∀ i, m ≤ i → b.bs.getD i none = none := fun i hi => getD_out (by rw [I.S.hbs, ← I.S.hm, I.hm]; exact hi)
  have hb : ∀ i, i < m → (bet b i = j ↔ b.bs.getD i none = some j) := fun i hi => by
    unfold bet
    cases h : b.bs.getD i none with
    | none =>
      have := I.hn
      show b.n + i = j ↔ _
      exact ⟨fun e => by omega, fun e => by cases e⟩
    | some p => exact ⟨fun e => by rw [show p = j from e], fun e => by cases e; rfl⟩
  by_cases hex : ∃ i, i < m ∧ b.bs.getD i none = some j
  · obtain ⟨i0, hi0, h0⟩ := hex
    have e0 := (hb i0 hi0).mpr h0
    have hu : ∀ i, i ≠ i0 → b.bs.getD i none ≠ some j := fun i ne h => by
      by_cases hi : i < m
      · exact ne (I.B.inj hi0 hi (((hb i hi).mpr h).trans e0.symm))
      · rw [hout i (by omega)] at h; cases h
    unfold Bd.numbers
    rw [numsL_at b.ls b.bs _ i0 I.S.hbs (by rw [← I.S.hm, I.hm]; exact hi0) (by rw [List.length_replicate, I.hn]; exact hj) h0 hu, lineLast I.S (by rw [I.hm]; exact hi0), I.hn, I.hm, ← I.goal i0, ← e0]
    exact (comb_at (a := fun k => tab s b k (n + m)) hi0 fun k hk e => I.B.inj hi0 hk e).symm
  · have hno : ∀ i, b.bs.getD i none ≠ some j := fun i h => by
      by_cases hi : i < m
      · exact hex ⟨i, hi, h⟩
      · rw [hout i (by omega)] at h; cases h
    unfold Bd.numbers
    rw [numsL_out b.ls b.bs _ hno, getD_replicate]
    exact (comb_out fun k hk e => hno k ((hb k hk).mp e)).symm
theorem val_art (I : Inv n m s T0 b) (hz : GZ m (n + m) b) {k : Nat} (hk : k < m) : val m (n + m) (tab s b) (bet b) (n + k) = 0 := by
  unfold val comb
  refine sm_zero fun i hi => ?_
  by_cases e : bet b i = n + k
  · rw [if_pos e]
    show tab s b i (n + m) = 0
    rw [I.goal]
    refine hz i hi ?_
    cases h : b.bs.getD i none with
    | none => rfl
    | some p =>
      have := I.bas hi h
      unfold bet at e
      rw [h] at e
      have : p = n + k := e
      omega
  · rw [if_neg e]
theorem numbers_row (I : Inv n m s T0 b) (hz : GZ m (n + m) b) {i : Nat} (hi : i < m) : sm n (fun j => b.at i j * b.numbers.getD j 0) = b.at i (n + m) := by
  have h1 : sm (n + m) (fun j => tab s b i j * val m (n + m) (tab s b) (bet b) j) = b.at i (n + m) := by
    unfold val
    rw [sm_comb I.B.lt, sm_one hi fun k hk ne => ?_, I.B.unit i i hi hi, if_pos rfl, I.goal]
    · grind
    · rw [I.B.unit i k hi hk, if_neg (fun q => ne q.symm)]
      grind
  rw [sm_split] at h1
  have h2 : sm m (fun k => tab s b i (n + k) * val m (n + m) (tab s b) (bet b) (n + k)) = 0 := sm_zero fun k hk => by
    rw [val_art I hz hk]
    grind
  rw [h2] at h1
  rw [← h1]
  have : ∀ x y : Rat, x = y → x = y + 0 := by intros; grind
  refine this _ _ (sm_congr fun j hj => ?_)
  rw [numbers_val I hj, tab_real (by rw [I.hn]; exact hj)]
theorem numbers_len (I : Inv n m s T0 b) : b.numbers.length = n := by
  unfold Bd.numbers
  rw [numsL_len, List.length_replicate, I.hn]
theorem numbers_pos (I : Inv n m s T0 b) : ∀ v ∈ b.numbers, 0 ≤ v := by
  intro v hv
  obtain ⟨j, hj, e⟩ := List.getElem_of_mem hv
  rw [numbers_len I] at hj
  have e2 : v = b.numbers.getD j 0 := by
    rw [List.getD_eq_getElem?_getD, List.getElem?_eq_getElem (by rw [numbers_len I]; exact hj), e]
    rfl
  rw [e2, numbers_val I hj]
  unfold val comb
  exact sm_nonneg fun k hk => by
    split
    · show 0 ≤ tab s b k (n + m)
      rw [I.goal]; exact I.g k hk
    · exact Rat.le_refl
end
section
variable {a : Nat} {A : List (List Rat)} {g : List Rat} (E : Eqs a A g)
include E
theorem Eqs.gd {x : List Rat} (hx : x.length = widthOf A) {i : Nat} (hi : i < A.length) : dotL (A.getD i []) x = sm (widthOf A) fun j => aij A i j * x.getD j 0 := dotL_sm _ _ _ (E.rlen hi) hx
/-- the numbers told meet the equations -/
theorem Eqs.numbers {b : Bd} (I : InvE A g b) (hz : GZ A.length (widthOf A + A.length) b) : Meets A g b.numbers := by
  refine ⟨numbers_len I, numbers_pos I, fun i hi => ?_⟩
  rw [E.gd (numbers_len I) hi]
  exact E.solves' I (fun i hi => numbers_row I hz hi) hi
theorem lack_sum {b : Bd} (I : InvE A g b) {j : Nat} (hj : j < widthOf A + A.length + 1) : b.lack.getD j 0 = sm A.length fun i => if b.bs.getD i none = none then b.at i j else 0 := by
  rw [(lack_get I.S).2 j (by rw [I.hn, I.hm]; exact hj), I.hm]
theorem mult_get {b : Bd} (I : InvE A g b) {l : List Rat} (hl : l.length = widthOf A + A.length + 1) {k : Nat} (hk : k < A.length) : (b.mult l).getD k 0 = l.getD (widthOf A + k) 0 := by
  unfold Bd.mult
  rw [I.hn, I.hm, List.getD_eq_getElem?_getD, List.getElem?_take, if_pos hk, List.getElem?_drop, ← List.getD_eq_getElem?_getD]
theorem mult_len {b : Bd} (I : InvE A g b) {l : List Rat} (hl : l.length = widthOf A + A.length + 1) : (b.mult l).length = A.length := by
  unfold Bd.mult
  rw [I.hn, I.hm, List.length_take, List.length_drop]
  omega
theorem neg_get {l : List Rat} {k : Nat} : (l.map fun x => -x).getD k 0 = - l.getD k 0 := by
  rw [List.getD_eq_getElem?_getD, List.getElem?_map, List.getD_eq_getElem?_getD]
  cases l[k]? with
  | none => show (0 : Rat) = -0; grind
  | some x => rfl
/-- a row of multiples times what the equations have -/
theorem rows_times {b : Bd} (I : InvE A g b) (u : Nat → Rat) (c : Nat → Nat → Rat) (f : Nat → Rat) (hf : ∀ i, i < A.length → b.at i (widthOf A + A.length + 1) = 0) : True := trivial
theorem bar_ok {b : Bd} (I : InvE A g b) (h1 : ∀ j, j < widthOf A → b.lack.getD j 0 ≤ 0) (h2 : 0 < b.lack.getLastD 0) : IsBar A g (barL b) := by
  have hl : b.lack.length = widthOf A + A.length + 1 := by rw [(lack_get I.S).1, I.hn, I.hm]
  have hlen : (barL b).length = A.length := by unfold barL; rw [List.length_map, mult_len E I hl]
  have hget : ∀ k, k < A.length → (barL b).getD k 0 = - sm A.length fun i => if b.bs.getD i none = none then b.at i (widthOf A + k) else 0 := fun k hk => by
    unfold barL
    rw [neg_get E, mult_get E I hl hk, lack_sum E I (by omega)]
  have dot : ∀ (c : Nat → Rat) (r : Nat → Rat), (∀ i, i < A.length → r i = sm A.length fun k => b.at i (widthOf A + k) * c k) → sm A.length (fun k => (barL b).getD k 0 * c k) = - sm A.length fun i => if b.bs.getD i none = none then r i else 0 := fun c r hr => by
    have e1 : sm A.length (fun k => (barL b).getD k 0 * c k) = sm A.length fun k => - sm A.length fun i => (if b.bs.getD i none = none then b.at i (widthOf A + k) else 0) * c k := sm_congr fun k hk => by
      rw [hget k hk, sm_mulr]
      grind
    rw [e1, sm_neg, sm_swap]
    congr 1
    refine sm_congr fun i hi => ?_
    by_cases q : b.bs.getD i none = none
    · rw [if_pos q, hr i hi]
      exact sm_congr fun k _ => by rw [if_pos q]
    · rw [if_neg q]
      exact sm_zero fun k _ => by rw [if_neg q]; grind
  refine ⟨hlen, ?_, fun j hj => ?_⟩
  · rw [dotL_sm _ _ A.length hlen E.len.symm, dot (fun k => g.getD k 0) (fun i => b.at i (widthOf A + A.length)) fun i hi => E.multG I hi]
    rw [lack_last I] at h2
    grind
  · rw [dotL_sm _ _ A.length hlen colL_len]
    have e : sm A.length (fun k => (barL b).getD k 0 * (colL A j).getD k 0) = sm A.length fun k => (barL b).getD k 0 * aij A k j := sm_congr fun k hk => by rw [colL_get hk]
    rw [e, dot (fun k => aij A k j) (fun i => b.at i j) fun i hi => E.mult I hi hj]
    have := h1 j hj
    rw [lack_sum E I (by omega)] at this
    grind
/-- where there are answers no bar stands -/
theorem no_bar {x y : List Rat} (hx : Meets A g x) (hy : IsBar A g y) : False := by
  have h1 := hy.neg
  rw [dotL_sm _ _ A.length hy.len E.len.symm] at h1
  have e : sm A.length (fun k => y.getD k 0 * g.getD k 0) = sm (widthOf A) fun j => dotL y (colL A j) * x.getD j 0 := by
    have e1 : sm A.length (fun k => y.getD k 0 * g.getD k 0) = sm A.length fun k => sm (widthOf A) fun j => y.getD k 0 * aij A k j * x.getD j 0 := sm_congr fun k hk => by
      rw [← hx.eqn k hk, E.gd hx.len hk, ← sm_mul]
      exact sm_congr fun j _ => by grind
    rw [e1, sm_swap]
    refine sm_congr fun j hj => ?_
    rw [dotL_sm _ _ A.length hy.len colL_len, ← sm_mulr]
    exact sm_congr fun k hk => by rw [colL_get hk]
  rw [e] at h1
  have := sm_nonneg (n := widthOf A) (f := fun j => dotL y (colL A j) * x.getD j 0) fun j hj => Rat.mul_nonneg (hy.col j hj) (hx.pos _ (getD_mem (by rw [hx.len]; exact hj)))
  grind
/-- the dual row -/
theorem dual_ok {b : Bd} (I : InvE A g b) (hz : GZ A.length (widthOf A + A.length) b) {w : List Rat} (hw : w.length = widthOf A) (h1 : ∀ j, j < widthOf A → (b.price w).getD j 0 ≤ 0) : IsDual A g w (dualL b w) (dotL w b.numbers) := by
  have hp := price_get I.S (w := w) (by rw [hw, I.hn])
  have hl : (b.price w).length = widthOf A + A.length + 1 := by rw [hp.1, I.hn, I.hm]
  have hlen : (dualL b w).length = A.length := by unfold dualL; rw [List.length_map, mult_len E I hl]
  have pget : ∀ j, j < widthOf A + A.length + 1 → (b.price w).getD j 0 = w.getD j 0 - sm A.length fun i => wGrow (widthOf A) w (bet b i) * b.at i j := fun j hj => by
    rw [hp.2 j (by rw [I.hn, I.hm]; exact hj), I.hm]
    congr 1
    refine sm_congr fun i hi => ?_
    congr 1
    unfold wGrow bet
    cases h : b.bs.getD i none with
    | none =>
      show (0 : Rat) = (if b.n + i < widthOf A then _ else 0)
      rw [if_neg (by rw [I.hn]; omega)]
    | some p =>
      have := I.bas hi h
      show w.getD p 0 = (if p < widthOf A then w.getD p 0 else (0 : Rat))
      rw [if_pos this]
  have hget : ∀ k, k < A.length → (dualL b w).getD k 0 = sm A.length fun i => wGrow (widthOf A) w (bet b i) * b.at i (widthOf A + k) := fun k hk => by
    unfold dualL
    rw [neg_get E, mult_get E I hl hk, pget _ (by omega), getD_out (by omega)]
    grind
  have dot : ∀ (c : Nat → Rat) (r : Nat → Rat), (∀ i, i < A.length → r i = sm A.length fun k => b.at i (widthOf A + k) * c k) → sm A.length (fun k => (dualL b w).getD k 0 * c k) = sm A.length fun i => wGrow (widthOf A) w (bet b i) * r i := fun c r hr => by
    have e1 : sm A.length (fun k => (dualL b w).getD k 0 * c k) = sm A.length fun k => sm A.length fun i => wGrow (widthOf A) w (bet b i) * b.at i (widthOf A + k) * c k := sm_congr fun k hk => by
      rw [hget k hk, sm_mulr]
    rw [e1, sm_swap]
    refine sm_congr fun i hi => ?_
    rw [hr i hi, ← sm_mul]
    exact sm_congr fun k _ => by grind
  refine ⟨hlen, ?_, fun j hj => ?_⟩
  · rw [dotL_sm _ _ A.length hlen E.len.symm, dot (fun k => g.getD k 0) (fun i => b.at i (widthOf A + A.length)) fun i hi => E.multG I hi]
    rw [dotL_sm _ _ _ hw (numbers_len I)]
    have e : sm (widthOf A) (fun j => w.getD j 0 * b.numbers.getD j 0) = sm (widthOf A + A.length) fun j => wGrow (widthOf A) w j * val A.length (widthOf A + A.length) (tab (sOf g) b) (bet b) j := by
      rw [sm_split]
      have h2 : sm A.length (fun k => wGrow (widthOf A) w (widthOf A + k) * val A.length (widthOf A + A.length) (tab (sOf g) b) (bet b) (widthOf A + k)) = 0 := sm_zero fun k hk => by
        rw [val_art I hz hk]; grind
      rw [h2]
      have : ∀ x y : Rat, x = y → x = y + 0 := by intros; grind
      refine this _ _ (sm_congr fun j hj => ?_)
      rw [numbers_val I hj]
      unfold wGrow
      rw [if_pos hj]
    rw [e]
    unfold val
    rw [sm_comb I.B.lt]
    exact sm_congr fun k _ => by rw [I.goal]
  · rw [dotL_sm _ _ A.length hlen colL_len]
    have e : sm A.length (fun k => (dualL b w).getD k 0 * (colL A j).getD k 0) = sm A.length fun k => (dualL b w).getD k 0 * aij A k j := sm_congr fun k hk => by rw [colL_get hk]
    rw [e, dot (fun k => aij A k j) (fun i => b.at i j) fun i hi => E.mult I hi hj]
    have := h1 j hj
    rw [pget j (by omega)] at this
    grind
/-- where a row of ones stands nothing is far -/
theorem no_far {b : Bd} (J : InvG (widthOf A) A.length (sOf g) (tab0 A g) b) {r c : Nat} (hr : r < A.length) (h1 : ∀ j, j < widthOf A → aij A r j = 1) (hc : c < widthOf A) (hneg : ∀ i, i < A.length → b.at i c ≤ 0) (hnb : ∀ i, i < A.length → bet b i ≠ c) : False := by
  have I := J.I
  have nd := (I.nul _).mp (null_dv I.B (c := c) (by omega))
  have h := (E.null0 _).mp nd r hr
  have hL : dv A.length (tab (sOf g) b) (bet b) c (widthOf A + A.length) = 0 := dv_L I.B (by omega)
  have hart : dv A.length (tab (sOf g) b) (bet b) c (widthOf A + r) = 0 := by
    unfold dv
    rw [if_neg (by omega)]
    have : comb A.length (bet b) (fun k => tab (sOf g) b k c) (widthOf A + r) = 0 := by
      unfold comb
      refine sm_zero fun i hi => ?_
      by_cases e : bet b i = widthOf A + r
      · rw [if_pos e]
        have hn : b.bs.getD i none = none := by
          cases q : b.bs.getD i none with
          | none => rfl
          | some p =>
            have := I.bas hi q
            unfold bet at e
            rw [q] at e
            have : p = widthOf A + r := e
            omega
        show tab (sOf g) b i c = 0
        rw [tab_real (by rw [I.hn]; exact hc)]
        exact J.rz i hi hn c hc
      · rw [if_neg e]
    rw [this]
    grind
  rw [hL, hart] at h
  have hpos : ∀ j, j < widthOf A → 0 ≤ dv A.length (tab (sOf g) b) (bet b) c j := fun j hj => by
    unfold dv
    have hcomb : comb A.length (bet b) (fun k => tab (sOf g) b k c) j ≤ 0 := sm_nonpos fun i hi => by
      split
      · show tab (sOf g) b i c ≤ 0
        rw [tab_real (by rw [I.hn]; exact hc)]; exact hneg i hi
      · exact Rat.le_refl
    split <;> grind
  have hone : dv A.length (tab (sOf g) b) (bet b) c c = 1 := by
    unfold dv
    rw [if_pos rfl, comb_out hnb]
    grind
  have hs : sm (widthOf A) (fun j => aij A r j * dv A.length (tab (sOf g) b) (bet b) c j) = sm (widthOf A) fun j => dv A.length (tab (sOf g) b) (bet b) c j := sm_congr fun j hj => by rw [h1 j hj]; grind
  rw [hs] at h
  have hz : sm (widthOf A) (fun j => dv A.length (tab (sOf g) b) (bet b) c j) = 0 := by grind
  have := sm_all_zero hpos hz c hc
  rw [hone] at this
  grind
end
end K40
end
set_option maxHeartbeats 4000000
section
/-! What solve and greatest tell. -/
namespace K40
open NB KM
theorem lackL_sz {a : Nat} : ∀ (ls : List (List Rat)) (bs : List (Option Nat)) (acc : List Rat) (c : Nat), (∀ l ∈ ls, ∀ x ∈ l, Sz a x) → (∀ x ∈ acc, Sz c x) → ∀ x ∈ lackL ls bs acc, Sz (c + (a + 1) * ls.length) x
  | [], bs, acc, c, _, h, x, hx => (h x hx).mono (by simp)
  | _ :: _, [], acc, c, _, h, x, hx => (h x hx).mono (by omega)
  | l :: ls, some k :: bs, acc, c, hl, h, x, hx => by
    have := lackL_sz ls bs acc c (fun z hz => hl z (List.mem_cons_of_mem _ hz)) h x hx
    exact this.mono (by rw [List.length_cons, Nat.mul_succ]; omega)
  | l :: ls, none :: bs, acc, c, hl, h, x, hx => by
    have := lackL_sz ls bs (zipL (· + ·) acc l) (c + a + 1) (fun z hz => hl z (List.mem_cons_of_mem _ hz)) (zipL_all fun x hx y hy => (h x hx).add (hl l List.mem_cons_self y hy)) x hx
    exact this.mono (by rw [List.length_cons, Nat.mul_succ]; omega)
theorem priceL_sz {w : List Rat} {a e : Nat} (hw : ∀ x ∈ w, Sz e x) : ∀ (ls : List (List Rat)) (bs : List (Option Nat)) (acc : List Rat) (c : Nat), (∀ l ∈ ls, ∀ x ∈ l, Sz a x) → (∀ p, some p ∈ bs → p < w.length) → (∀ x ∈ acc, Sz c x) → ∀ x ∈ priceL w ls bs acc, Sz (c + (e + a + 1) * ls.length) x
  | [], bs, acc, c, _, _, h, x, hx => (h x hx).mono (by simp)
  | _ :: _, [], acc, c, _, _, h, x, hx => (h x hx).mono (by omega)
  | l :: ls, none :: bs, acc, c, hl, hb, h, x, hx => by
    have := priceL_sz hw ls bs acc c (fun z hz => hl z (List.mem_cons_of_mem _ hz)) (fun p hp => hb p (List.mem_cons_of_mem _ hp)) h x hx
    exact this.mono (by rw [List.length_cons, Nat.mul_succ]; omega)
  | l :: ls, some p :: bs, acc, c, hl, hb, h, x, hx => by
    have sw : Sz e (w.getD p 0) := hw _ (getD_mem (hb p List.mem_cons_self))
    by_cases q : w.getD p 0 = 0
    · have er : priceL w (l :: ls) (some p :: bs) acc = priceL w ls bs acc := if_pos q
      rw [er] at hx
      have := priceL_sz hw ls bs acc c (fun z hz => hl z (List.mem_cons_of_mem _ hz)) (fun p hp => hb p (List.mem_cons_of_mem _ hp)) h x hx
      exact this.mono (by rw [List.length_cons, Nat.mul_succ]; omega)
    · have er : priceL w (l :: ls) (some p :: bs) acc = priceL w ls bs (zipL (subM (w.getD p 0)) acc l) := if_neg q
      rw [er] at hx
      have := priceL_sz hw ls bs (zipL (subM (w.getD p 0)) acc l) (c + (e + a) + 1) (fun z hz => hl z (List.mem_cons_of_mem _ hz)) (fun p hp => hb p (List.mem_cons_of_mem _ hp)) (zipL_all fun x hx y hy => (h x hx).sub (sw.mul (hl l List.mem_cons_self y hy))) x hx
      exact this.mono (by rw [List.length_cons, Nat.mul_succ]; omega)
theorem numsL_sz {a : Nat} (ha : 0 < a) : ∀ (ls : List (List Rat)) (bs : List (Option Nat)) (acc : List Rat), (∀ l ∈ ls, ∀ x ∈ l, Sz a x) → (∀ x ∈ acc, Sz a x) → ∀ x ∈ numsL ls bs acc, Sz a x
  | [], bs, acc, _, h, x, hx => h x hx
  | _ :: _, [], acc, _, h, x, hx => h x hx
  | l :: ls, none :: bs, acc, hl, h, x, hx => numsL_sz ha ls bs acc (fun z hz => hl z (List.mem_cons_of_mem _ hz)) h x hx
  | l :: ls, some p :: bs, acc, hl, h, x, hx => by
    refine numsL_sz ha ls bs (acc.set p (l.getLastD 0)) (fun z hz => hl z (List.mem_cons_of_mem _ hz)) (fun y hy => ?_) x hx
    rcases List.mem_or_eq_of_mem_set hy with z | z
    · exact h y z
    · rw [z]
      have last : ∀ l : List Rat, (∀ x ∈ l, Sz a x) → Sz a (l.getLastD 0) := by
        intro l hl
        cases l with
        | nil => exact .zero a ha
        | cons x xs =>
          rw [List.getLastD_cons]
          have : ∀ (z : Rat) (l : List Rat), l.getLastD z ∈ z :: l := by
            intro z l
            induction l generalizing z with
            | nil => simp
            | cons w ws ih => rw [List.getLastD_cons]; exact List.mem_cons_of_mem _ (ih w)
          exact hl _ (this x xs)
      exact last l (hl l List.mem_cons_self)
section
variable {b : Bd} (F : Fit 239 b)
include F
theorem Fit.ents : ∀ l ∈ b.ls, ∀ x ∈ l, Sz 239 x := fun l hl => (F.hl l hl).1
theorem numbers_sz : ∀ x ∈ b.numbers, Sz 239 x := numsL_sz (by decide) b.ls b.bs _ F.ents fun x hx => by
  rw [List.eq_of_mem_replicate hx]
  exact .zero _ (by decide)
theorem bar_sz : ∀ x ∈ barL b, Sz 1201 x := fun x hx => by
  obtain ⟨y, hy, rfl⟩ := List.mem_map.mp hx
  have hy2 : y ∈ b.lack := List.mem_of_mem_drop (List.mem_of_mem_take hy)
  have := lackL_sz b.ls b.bs _ 1 F.ents (fun x hx => by
    rw [List.eq_of_mem_replicate hx]
    exact .zero _ (by decide)) y hy2
  have hm := F.hm
  have h6 := F.m6
  have : Sz 1201 y := this.mono (by
    have : (239 + 1) * b.ls.length ≤ 240 * 5 := Nat.mul_le_mul (by omega) (by omega)
    omega)
  exact this.neg
theorem dual_sz {w : List Rat} (hw : ∀ x ∈ w, Sz 50 x) (hl : w.length = b.n) : ∀ x ∈ dualL b w, Sz 1500 x := fun x hx => by
  obtain ⟨y, hy, rfl⟩ := List.mem_map.mp hx
  have hy2 : y ∈ b.price w := List.mem_of_mem_drop (List.mem_of_mem_take hy)
  have := priceL_sz hw b.ls b.bs _ 50 F.ents (fun p hp => by rw [hl]; exact F.bas p hp) (fun x hx => by
    rcases List.mem_append.mp hx with h | h
    · exact hw x h
    · rw [List.eq_of_mem_replicate h]
      exact .zero _ (by decide)) y hy2
  have hm := F.hm
  have h6 := F.m6
  have : Sz 1500 y := this.mono (by
    have : (50 + 239 + 1) * b.ls.length ≤ 290 * 5 := Nat.mul_le_mul (by omega) (by omega)
    omega)
  exact this.neg
end
section
variable {a : Nat} {A : List (List Rat)} {g : List Rat} (E : Eqs a A g) (hA : ∀ l ∈ A, ∀ p ∈ l, W36 p) (hg : ∀ p ∈ g, W36 p)
include E hA hg
/-- solve, where there are answers -/
theorem p_solve_num (hx : ∃ x, Meets A g x) : ∃ x, Meets A g x ∧ (∀ v ∈ x, Sz 239 v) ∧ ∀ j μ, R (j + 8) 24 [matD A, tupD g] μ = some (.ok (.tup [.str "numbers", tupD x]), μ) := by
  obtain ⟨res, b', h1, I, h2, h3⟩ := E.fills hA hg
  cases res with
  | false =>
    obtain ⟨x, hx⟩ := hx
    exact (no_bar E hx (bar_ok E I (h3 rfl).1 (h3 rfl).2)).elim
  | true =>
    exact ⟨b'.numbers, E.numbers I (h2 rfl).1, numbers_sz (E.fit hA hg I), fun j μ => r_solve_num E j μ (E.fillI hA hg) E.inv h1 (E.fit hA hg I)⟩
/-- solve, where a row bars -/
theorem p_solve_bar (hy : ∃ y, IsBar A g y) : ∃ y, IsBar A g y ∧ (∀ v ∈ y, Sz 1201 v) ∧ ∀ j μ, R (j + 8) 24 [matD A, tupD g] μ = some (.ok (.tup [.str "bar", tupD y]), μ) := by
  obtain ⟨res, b', h1, I, h2, h3⟩ := E.fills hA hg
  cases res with
  | true =>
    obtain ⟨y, hy⟩ := hy
    exact (no_bar E (E.numbers I (h2 rfl).1) hy).elim
  | false =>
    exact ⟨barL b', bar_ok E I (h3 rfl).1 (h3 rfl).2, bar_sz (E.fit hA hg I), fun j μ => r_solve_bar E j μ (E.fillI hA hg) E.inv h1 (E.fit hA hg I) (lack_get I.S).1⟩
theorem p_greatest_bar {w : List Rat} (hw : w.length = widthOf A) (hne : A ≠ []) (hy : ∃ y, IsBar A g y) : ∃ y, IsBar A g y ∧ (∀ v ∈ y, Sz 1201 v) ∧ ∀ j μ, R (j + 8) 26 [matD A, tupD g, tupD w] μ = some (.ok (.tup [.str "bar", tupD y]), μ) := by
  obtain ⟨res, b', h1, I, h2, h3⟩ := E.fills hA hg
  cases res with
  | true =>
    obtain ⟨y, hy⟩ := hy
    exact (no_bar E (E.numbers I (h2 rfl).1) hy).elim
  | false =>
    exact ⟨barL b', bar_ok E I (h3 rfl).1 (h3 rfl).2, bar_sz (E.fit hA hg I), fun j μ => r_greatest_bar E j μ hw hne (E.fillI hA hg) E.inv h1 (E.fit hA hg I) (lack_get I.S).1⟩
/-- greatest, where a row of ones stands -/
theorem p_best {w : List Rat} (hw : w.length = widthOf A) (sw : ∀ x ∈ w, Sz 50 x) (hne : A ≠ []) (hx : ∃ x, Meets A g x) {r : Nat} (hr : r < A.length) (hone : ∀ j, j < widthOf A → aij A r j = 1) :
    ∃ x y v, Meets A g x ∧ (∀ v ∈ x, Sz 239 v) ∧ IsDual A g w y v ∧ (∀ v ∈ y, Sz 1500 v) ∧ v = dotL w x ∧ ∀ j μ, R (j + 8) 26 [matD A, tupD g, tupD w] μ = some (.ok (.tup [.str "best", tupD x, rt v, tupD y]), μ) := by
  obtain ⟨res, b1, h1, I, h2, h3⟩ := E.fills hA hg
  cases res with
  | false =>
    obtain ⟨x, hx⟩ := hx
    exact (no_bar E hx (bar_ok E I (h3 rfl).1 (h3 rfl).2)).elim
  | true =>
    have J : InvG (widthOf A) A.length (sOf g) (tab0 A g) b1 := ⟨I, (h2 rfl).1, (h2 rfl).2⟩
    obtain ⟨res2, b2, g1, J2, g2, g3⟩ := E.grows hA hg hw J
    cases res2 with
    | false =>
      obtain ⟨c, hc, hp, hneg⟩ := g3 rfl
      refine (no_far E J2 hr hone hc hneg fun i hi e => ?_).elim
      have z := red_basic (w := wGrow (widthOf A) w) J2.I.B hi
      rw [e, J2.I.red_grow hw hc] at z
      grind
    | true =>
      have I2 := J2.I
      have F2 := E.fit hA hg I2
      have hp := price_get I2.S (w := w) (by rw [hw, I2.hn])
      refine ⟨b2.numbers, dualL b2 w, dotL w b2.numbers, E.numbers I2 J2.gz, numbers_sz F2, dual_ok E I2 J2.gz hw (g2 rfl), dual_sz F2 sw (by rw [hw, I2.hn]), rfl, fun j μ => r_greatest_best E j μ hw hne (E.fillI hA hg) E.inv h1 (E.growI hA hg hw sw) J g1 F2 (by rw [hw, I2.hn]) hp.1 (c := 239) ?_ (numbers_sz F2)⟩
      rw [hw]
      have : (50 + 239 + 1) * widthOf A ≤ 290 * 9 := Nat.mul_le_mul (by omega) E.w9
      omega
/-- greatest, where a column is free -/
theorem p_far {w : List Rat} (hw : w.length = widthOf A) (sw : ∀ x ∈ w, Sz 50 x) (hne : A ≠ []) (hx : ∃ x, Meets A g x) {c : Nat} (hc : c < widthOf A) (hz : ∀ k, k < A.length → aij A k c = 0) (hp : 0 < w.getD c 0) :
    ∃ x, Meets A g x ∧ (∀ v ∈ x, Sz 239 v) ∧ ∀ j μ, R (j + 8) 26 [matD A, tupD g, tupD w] μ = some (.ok (.tup [.str "far", tupD x]), μ) := by
  obtain ⟨res, b1, h1, I, h2, h3⟩ := E.fills hA hg
  cases res with
  | false =>
    obtain ⟨x, hx⟩ := hx
    exact (no_bar E hx (bar_ok E I (h3 rfl).1 (h3 rfl).2)).elim
  | true =>
    have J : InvG (widthOf A) A.length (sOf g) (tab0 A g) b1 := ⟨I, (h2 rfl).1, (h2 rfl).2⟩
    obtain ⟨res2, b2, g1, J2, g2, g3⟩ := E.grows hA hg hw J
    have I2 := J2.I
    have F2 := E.fit hA hg I2
    cases res2 with
    | true =>
      have h := g2 rfl c hc
      rw [(price_get I2.S (w := w) (by rw [hw, I2.hn])).2 c (by rw [I2.hn]; omega), I2.hm] at h
      have e : ∀ f : Nat → Rat, sm A.length (fun i => f i * b2.at i c) = 0 := fun f => sm_zero fun i hi => by
        have : b2.at i c = 0 := by
          rw [E.mult I2 hi hc]
          exact sm_zero fun k hk => by rw [hz k hk]; grind
        rw [this]
        grind
      rw [e] at h
      grind
    | false =>
      exact ⟨b2.numbers, E.numbers I2 J2.gz, numbers_sz F2, fun j μ => r_greatest_far E j μ hw hne (E.fillI hA hg) E.inv h1 (E.growI hA hg hw sw) J g1 F2⟩
end
end K40
end
set_option maxHeartbeats 4000000
section
/-! What the law's own defs do: fractions, sums, tests. -/
namespace K40
open NB KM
theorem r32_loop (j : Nat) (μ : List MO) (o0 o1 : Option D) : ∀ (N : Nat) (a b : Int), 0 ≤ a → 0 ≤ b → b.toNat < N →
    whileL (fun δ' => M.bind (evE Gv (R j) (.cmp .gt (.var 3) (.int 0)) δ') asBl) (fun δ' => exB Gv (R j) (.cons (.par 2 3 (.var 3) (.bin .mod (.var 2) (.var 3))) .nil) δ') N [o0, o1, some (.int a), some (.int b)] μ =
      some (.ok (.nx [o0, o1, some (.int (Int.gcd a b)), some (.int 0)]), μ)
  | 0, a, b, _, _, h => absurd h (Nat.not_lt_zero _)
  | N + 1, a, b, ha, hb, h => by
    unfold whileL
    by_cases q : b = 0
    · subst q
      have e : Int.gcd a 0 = a.natAbs := Int.gcd_zero_right a
      simp [evE, M.bind, M.ok, opC, ordD, asBl, e, Int.natAbs_of_nonneg ha]
    · have hb1 : 0 < b := by omega
      have hm : 0 ≤ a.fmod b := Int.fmod_nonneg_of_pos a hb1
      have hl : a.fmod b < b := Int.fmod_lt_of_pos a hb1
      have ih := r32_loop j μ o0 o1 N b (a.fmod b) hb hm (by omega)
      have e : Int.gcd b (a.fmod b) = Int.gcd a b := by
        rw [Int.fmod_eq_emod_of_nonneg a (Int.le_of_lt hb1), Int.gcd_comm a b]
        have e2 : a % b = a + b * (-(a / b)) := by
          have := Int.emod_add_mul_ediv a b
          rw [Int.mul_neg]
          omega
        rw [e2]
        exact Int.gcd_add_mul_left_right b a (-(a / b))
      rw [e] at ih
      have hdec : decide (b > 0) = true := decide_eq_true hb1
      simp [evE, exB, exS, M.bind, M.ok, opC, ordD, opB, modD, asBl, q, hb1]
      exact ih
theorem r_lfrac (j : Nat) (μ : List MO) (a b : Int) (h0 : b ≠ 0) (hb : b.natAbs < big) : R (j + 1) 32 [.int a, .int b] μ = some (.ok (rt (Rat.divInt a b)), μ) := by
  rw [R_eq (f := f32) rfl]
  refine run_pure rfl rfl (plain_rt _) ?_
  have hh : big ≤ huge := Nat.pow_le_pow_right (by decide) (by decide)
  have habs : ∀ x : Int, (if x < 0 then -x else x) = (x.natAbs : Int) := fun x => by split <;> omega
  have hl := r32_loop j μ (some (.int a)) (some (.int b)) fuel a.natAbs b.natAbs (by omega) (by omega) (by unfold fuel; omega)
  have eg : Int.gcd (a.natAbs : Int) (b.natAbs : Int) = Int.gcd a b := by simp [Int.gcd]
  rw [eg] at hl
  have gp : 0 < Int.gcd a b := Int.gcd_pos_of_ne_zero_right a h0
  have gb : Int.gcd a b ≤ b.natAbs := Nat.le_of_dvd (by omega) (Int.gcd_dvd_natAbs_right a b)
  have g1 : (Int.gcd a b : Int) ∣ a := Int.gcd_dvd_left a b
  have g2 : (Int.gcd a b : Int) ∣ b := Int.gcd_dvd_right a b
  have ok1 : okInt (Int.gcd a b : Int) = true := okInt_iff.mpr (by omega)
  have ne : (Int.gcd a b : Int) ≠ 0 := by omega
  have gc : Int.gcd b a = Int.gcd a b := Int.gcd_comm b a
  have e1 : (Rat.divInt a b).num = b.sign * a / Int.gcd a b := by rw [Rat.num_divInt, gc]
  have e2 : (((Rat.divInt a b).den : Nat) : Int) = (b.natAbs : Int) / Int.gcd a b := by
    rw [Rat.den_divInt, if_neg h0, gc]
    rfl
  show exB Gv (R j) (.cons _ (.cons _ (.cons _ .nil))) [some (.int a), some (.int b), none, none] μ = _
  refine (xB_nx (δ' := [some (.int a), some (.int b), some (.int a.natAbs), some (.int b.natAbs)]) (μ' := μ) ?_).trans ?_
  · simp [exS, evE, M.bind, M.ok, habs]
  refine (xB_nx (δ' := [some (.int a), some (.int b), some (.int (Int.gcd a b)), some (.int 0)]) (μ' := μ) ?_).trans ?_
  · simp only [exS]
    exact hl
  refine xB_rt (xS_ret ?_)
  have ht := x_gtI (Φ := R j) (δ := [some (.int a), some (.int b), some (.int (Int.gcd a b)), some (.int 0)]) (μ := μ) (a := .var 1) (c := .int 0) (i := b) (k := 0) (x_var rfl) (x_int 0)
  by_cases hpos : 0 < b
  · rw [decide_eq_true hpos] at ht
    refine x_iteT ht ?_
    have s1 : b.sign = 1 := Int.sign_eq_one_of_pos hpos
    have r1 : a.fdiv (Int.gcd a b : Int) = (Rat.divInt a b).num := by rw [fdiv_pos (by omega) g1, e1, s1, Int.one_mul]
    have r2 : b.fdiv (Int.gcd a b : Int) = ((Rat.divInt a b).den : Int) := by rw [fdiv_pos (by omega) g2, e2, Int.natAbs_of_nonneg (by omega)]
    simp [evE, evA, M.bind, M.ok, M.bad, opB, fdivD, ok1, ne, h0, rt, lim, r1, r2]
  · rw [decide_eq_false hpos] at ht
    refine x_iteF ht ?_
    have hneg : b < 0 := by omega
    have s1 : b.sign = -1 := Int.sign_eq_neg_one_of_neg hneg
    have r1 : (-a).fdiv (Int.gcd a b : Int) = (Rat.divInt a b).num := by rw [fdiv_pos (by omega) (Int.dvd_neg.mpr g1), e1, s1, Int.neg_one_mul]
    have r2 : (-b).fdiv (Int.gcd a b : Int) = ((Rat.divInt a b).den : Int) := by
      have hb2 : (b.natAbs : Int) = -b := by omega
      rw [fdiv_pos (by omega) (Int.dvd_neg.mpr g2), e2, hb2]
    simp [evE, evA, M.bind, M.ok, M.bad, opB, fdivD, ok1, ne, h0, rt, lim, r1, r2]
theorem r_lby (j : Nat) (μ : List MO) (p q : Rat) {a b : Nat} (hp : Sz a p) (hq : Sz b q) (h : a + b ≤ 8000) : R (j + 2) 34 [rt p, rt q] μ = some (.ok (rt (p * q)), μ) := by
  rw [R_eq (f := f34) rfl]
  refine run_pure rfl rfl (plain_rt _) ?_
  have o1 := okB hp (by omega)
  have o2 := okB hq (by omega)
  have hd : R (j + 1) 32 [.int (p.num * q.num), .int ((p.den : Int) * (q.den : Int))] μ = _ := r_lfrac j μ _ _ (by
    have := den_prod_pos p q
    rw [← Int.natCast_mul]
    omega) (by
    rw [← Int.natCast_mul, Int.natAbs_natCast]
    exact ok_big (mul_lt_pow hp.2 hq.2) h)
  have e : Rat.divInt (p.num * q.num) ((p.den : Int) * (q.den : Int)) = p * q := by
    rw [Rat.mul_def', ← Int.natCast_mul, Rat.divInt_ofNat]
  rw [e] at hd
  simp [f34, rt, exB, exS, evE, evA, M.bind, M.ok, opB, mulD, seqOf, L2.atI, L2.ixN, o1, o2, List.replicate]
  have hd' : R (j + 1) 32 [.int (p.num * q.num), .int ((p.den : Int) * (q.den : Int))] μ = some (.ok (.tup [.int (p * q).num, .int ((p * q).den : Int)]), μ) := hd
  rw [hd']
  rfl
theorem r_lplus (j : Nat) (μ : List MO) (p q : Rat) {a b : Nat} (hp : Sz a p) (hq : Sz b q) (h : a + b ≤ 8000) : R (j + 2) 33 [rt p, rt q] μ = some (.ok (rt (p + q)), μ) := by
  rw [R_eq (f := f33) rfl]
  refine run_pure rfl rfl (plain_rt _) ?_
  have o1 := okB hp (by omega)
  have o2 := okB hq (by omega)
  have hd : R (j + 1) 32 [.int (p.num * q.den + q.num * p.den), .int ((p.den : Int) * (q.den : Int))] μ = _ := r_lfrac j μ _ _ (by
    have := den_prod_pos p q
    rw [← Int.natCast_mul]
    omega) (by
    rw [← Int.natCast_mul, Int.natAbs_natCast]
    exact ok_big (mul_lt_pow hp.2 hq.2) h)
  have e : Rat.divInt (p.num * q.den + q.num * p.den) ((p.den : Int) * (q.den : Int)) = p + q := by
    rw [Rat.add_def', ← Int.natCast_mul, Rat.divInt_ofNat]
  rw [e] at hd
  simp [f33, rt, exB, exS, evE, evA, M.bind, M.ok, opB, mulD, addD, seqOf, L2.atI, L2.ixN, o1, o2, List.replicate]
  have hd' : R (j + 1) 32 [.int (p.num * q.den + q.num * p.den), .int ((p.den : Int) * (q.den : Int))] μ = some (.ok (.tup [.int (p + q).num, .int ((p + q).den : Int)]), μ) := hd
  rw [hd']
  rfl
theorem r_lminus (j : Nat) (μ : List MO) (p : Rat) : R (j + 1) 35 [rt p] μ = some (.ok (rt (-p)), μ) := by
  rw [R_eq (f := f35) rfl]
  refine run_pure rfl rfl (plain_rt _) ?_
  simp [f35, rt, exB, exS, evE, evA, M.bind, M.ok, M.bad, lim, seqOf, L2.atI, L2.ixN, List.replicate]
theorem r_lless (j : Nat) (μ : List MO) (p q : Rat) {a b : Nat} (hp : Sz a p) (hq : Sz b q) (h : a ≤ 400000) (h' : b ≤ 400000) : R (j + 1) 38 [rt p, rt q] μ = some (.ok (.bl (decide (p < q))), μ) := by
  rw [R_eq (f := f38) rfl]
  refine run_pure rfl rfl rfl ?_
  have o1 := okB hp h
  have o2 := okB hq h'
  have e : decide (p.num * (q.den : Int) < q.num * (p.den : Int)) = decide (p < q) := by
    rw [Bool.eq_iff_iff, decide_eq_true_eq, decide_eq_true_eq]
    exact (Rat.lt_iff p q).symm
  simp [f38, rt, exB, exS, evE, evA, M.bind, M.ok, opB, opC, ordD, mulD, seqOf, L2.atI, L2.ixN, o1, o2, List.replicate]
  exact (Rat.lt_iff p q).symm
/-! ### the law's dot -/
theorem r37_loop (j : Nat) (μ : List MO) (src : List (Nat × MO)) (hs : srcOk src μ = true) (o1 o2 : Option D) {a b : Nat} : ∀ (xs ys : List Rat) (acc : Rat) (c : Nat) (l r : Option D), (∀ x ∈ xs, Sz a x) → (∀ y ∈ ys, Sz b y) → Sz c acc →
    c + (a + b + 1) * xs.length ≤ 8000 → ∃ l' r', forL src (.cons (.nm 3) (.cons (.nm 4) .nil)) (fun δ' => exB Gv (R (j + 2)) (.cons (.asg (.nm 2) (.call 33 (.cons (.var 2) (.cons (.call 34 (.cons (.var 3) (.cons (.var 4) .nil))) .nil)))) .nil) δ') (pairs (rts xs) (rts ys)) [o1, o2, some (rt acc), l, r] μ =
      some (.ok (.nx [o1, o2, some (rt (acc + dotL xs ys)), l', r']), μ)
  | [], ys, acc, c, l, r, _, _, _, _ => ⟨l, r, by
    have : acc + dotL [] ys = acc := by simp [dotL]; grind
    rw [this]
    rfl⟩
  | x :: xs, [], acc, c, l, r, _, _, _, _ => ⟨l, r, by
    have : acc + dotL (x :: xs) [] = acc := by simp [dotL]; grind
    rw [this]
    rfl⟩
  | x :: xs, y :: ys, acc, c, l, r, hx, hy, hacc, hsz => by
    have e1 : (a + b + 1) * (x :: xs).length = (a + b + 1) * xs.length + (a + b + 1) := by rw [List.length_cons, Nat.mul_succ]
    have sx := hx x List.mem_cons_self
    have sy := hy y List.mem_cons_self
    have step : exB Gv (R (j + 2)) (.cons (.asg (.nm 2) (.call 33 (.cons (.var 2) (.cons (.call 34 (.cons (.var 3) (.cons (.var 4) .nil))) .nil)))) .nil) [o1, o2, some (rt acc), some (rt x), some (rt y)] μ = some (.ok (.nx [o1, o2, some (rt (acc + x * y)), some (rt x), some (rt y)]), μ) := by
      have m1 := r_lby j μ x y sx sy (by omega)
      have m2 := r_lplus j μ acc (x * y) hacc (sx.mul sy) (by omega)
      refine (xB_nx (xS_asg (d := rt (acc + x * y)) (μ' := μ) ?_ rfl)).trans xB_nil
      rw [xE_call (xA_cons (x_var rfl) (xA_cons ((xE_call (xA_cons (x_var rfl) (xA_cons (x_var rfl) xA_nil))).trans m1) xA_nil))]
      exact m2
    obtain ⟨l', r', ih⟩ := r37_loop j μ src hs o1 o2 xs ys (acc + x * y) (c + (a + b) + 1) (some (rt x)) (some (rt y)) (fun z hz => hx z (List.mem_cons_of_mem _ hz)) (fun z hz => hy z (List.mem_cons_of_mem _ hz)) (hacc.add (sx.mul sy)) (by omega)
    refine ⟨l', r', ?_⟩
    have e2 : acc + dotL (x :: xs) (y :: ys) = acc + x * y + dotL xs ys := by
      show acc + (x * y + dotL xs ys) = _
      grind
    rw [e2, ← ih]
    exact forL_nx rfl step hs
theorem rt_0 : D.tup [.int 0, .int 1] = rt 0 := by decide +kernel
theorem rt_1 : D.tup [.int 1, .int 1] = rt 1 := by decide +kernel
theorem x_rt0 {Φ : Nat → List D → M D} {δ : List (Option D)} {μ : List MO} : evE Gv Φ (.tup (.cons (.int 0) (.cons (.int 1) .nil))) δ μ = some (.ok (rt 0), μ) := by
  rw [← rt_0]
  exact x_pair (x_int 0) (x_int 1)
theorem x_rt1 {Φ : Nat → List D → M D} {δ : List (Option D)} {μ : List MO} : evE Gv Φ (.tup (.cons (.int 1) (.cons (.int 1) .nil))) δ μ = some (.ok (rt 1), μ) := by
  rw [← rt_1]
  exact x_pair (x_int 1) (x_int 1)
theorem r_ldot (j : Nat) (μ : List MO) {x y : D} {xs ys : List Rat} (hx : seqOf μ x = some (rts xs)) (hy : seqOf μ y = some (rts ys)) {a b : Nat} (sx : ∀ z ∈ xs, Sz a z) (sy : ∀ z ∈ ys, Sz b z) (h : 1 + (a + b + 1) * xs.length ≤ 8000) :
    R (j + 3) 37 [x, y] μ = some (.ok (rt (dotL xs ys)), μ) := by
  rw [R_eq (f := f37) rfl]
  refine run_pure rfl rfl (plain_rt _) ?_
  obtain ⟨l', r', hl⟩ := r37_loop j μ (srcOf μ x ++ srcOf μ y) srcOk_at2 (some x) (some y) xs ys 0 1 none none sx sy (.zero 1 (by decide)) h
  have e0 : (0 : Rat) + dotL xs ys = dotL xs ys := by grind
  rw [e0] at hl
  show exB Gv (R (j + 2)) (.cons _ (.cons _ (.cons _ .nil))) [some x, some y, none, none, none] μ = _
  refine (xB_nx (xS_asg (μ' := μ) x_rt0 rfl)).trans ?_
  refine (xB_nx (xS_for (xI_zip (x_var rfl) (x_var rfl) hx hy) hl)).trans ?_
  exact xB_rt (xS_ret (x_var rfl))
/-! ### tests -/
theorem r_lisnum (j : Nat) (μ : List MO) (p : Rat) {a : Nat} (hp : Sz a p) (ha : a ≤ 8000) : R (j + 2) 40 [rt p] μ = some (.ok (.bl true), μ) := by
  rw [R_eq (f := f40) rfl]
  refine run_pure rfl rfl rfl ?_
  show exB Gv (R (j + 1)) (.cons _ (.cons _ .nil)) [some (rt p), none] μ = _
  have e1 : evE Gv (R (j + 1)) (.all (.comp false [1] (.nm 1) (.seq (.var 0)) .no (.and_ (.isi .int (.var 1)) (.not_ (.isi .bool (.var 1)))))) [some (rt p), none] μ = some (.ok (.bl (([.int p.num, .int p.den] : List D).all fun _ => true)), μ) := by
    refine x_all (its := ⟨[.int p.num, .int p.den], []⟩) (xI_seq (d := rt p) (x_var rfl) rfl) rfl (by show 2 ≤ lim; decide) fun d hd => ⟨[some (rt p), some d], rfl, ?_⟩
    rcases List.mem_cons.mp hd with rfl | hd
    · exact x_and (x := true) (y := true) (x_isi (x_var rfl) rfl) fun _ => x_not (x := false) (x_isi (x_var rfl) rfl)
    · rcases List.mem_cons.mp hd with rfl | hd
      · exact x_and (x := true) (y := true) (x_isi (x_var rfl) rfl) fun _ => x_not (x := false) (x_isi (x_var rfl) rfl)
      · cases hd
  have ht : evE Gv (R (j + 1)) (.or_ (.not_ (.isi .tup (.var 0))) (.or_ (.cmp .ne (.len (.var 0)) (.int 2)) (.not_ (.all (.comp false [1] (.nm 1) (.seq (.var 0)) .no (.and_ (.isi .int (.var 1)) (.not_ (.isi .bool (.var 1))))))))) [some (rt p), none] μ = some (.ok (.bl (!true || (!decide ((2 : Int) = 2) || !true))), μ) := by
    refine x_or (x_not (x_isi (x_var rfl) rfl)) fun _ => x_or (x_neI (x_len (ds := [.int p.num, .int p.den]) (x_var (d := rt p) rfl) rfl) (x_int 2)) fun _ => x_not e1
  refine (xB_nx (μ' := μ) (xS_iteF ht (xB_nil (G := Gv)))).trans (xB_rt (xS_ret ?_))
  refine x_and (x := true) (y := true) ?_ fun _ => ?_
  · have : decide ((0 : Int) < p.den) = true := decide_eq_true (by have := p.den_pos; omega)
    rw [← this]
    exact x_gtI (x_idx (k := 1) (x_var (d := rt p) rfl) (x_int 1) rfl rfl) (x_int 0)
  · have h1 := r_lfrac j μ p.num p.den (by have := p.den_nz; omega) (by rw [Int.natAbs_natCast]; exact ok_big hp.2 ha)
    rw [Rat.num_divInt_den] at h1
    have : decide (p = p) = true := decide_eq_true rfl
    rw [← this]
    exact x_eqR ((xE_call (xA_cons (x_idx (k := 0) (x_var (d := rt p) rfl) (x_int 0) rfl rfl) (xA_cons (x_idx (k := 1) (x_var (d := rt p) rfl) (x_int 1) rfl rfl) xA_nil))).trans h1) (x_var rfl)
end K40
end
set_option maxHeartbeats 4000000
section
/-! What the law's own defs do: columns, meets, bars, duals; is_bar, is_dual. -/
namespace K40
open NB KM
theorem r_lcolumns (j : Nat) (μ : List MO) (A : List (List Rat)) (hne : A ≠ []) (hA : ∀ l ∈ A, l.length = widthOf A) (hm : A.length ≤ 100) (hw : widthOf A ≤ 100) : R (j + 1) 41 [matD A] μ = some (.ok (colsD A), μ) := by
  rw [R_eq (f := f41) rfl]
  have hp : plain (colsD A) = true := plains_iff.mpr fun d hd => by
    obtain ⟨l, _, rfl⟩ := List.mem_map.mp hd
    exact plain_tup l
  refine run_pure rfl rfl hp ?_
  show exB Gv (R j) (.cons _ .nil) [some (matD A), none, none] μ = _
  refine xB_rt (xS_ret ?_)
  have hlen : evE Gv (R j) (.len (.idx (.var 0) (.int 0))) [some (matD A), none, none] μ = some (.ok (.int (widthOf A)), μ) := by
    cases A with
    | nil => exact absurd rfl hne
    | cons l A =>
      have hx : evE Gv (R j) (.idx (.var 0) (.int 0)) [some (matD (l :: A)), none, none] μ = some (.ok (tupD l), μ) := x_idx (k := 0) (x := matD (l :: A)) (x_var rfl) (x_int 0) rfl rfl
      have := x_len (ds := rts l) hx rfl
      rw [this]
      simp [rts, widthOf]
  refine (xE_comp1 (g := fun d => match d with
    | .int i => tupD (colL A i.toNat)
    | _ => .non) (xI_rng (n := widthOf A) hlen (by omega)) rfl ?_ fun d hd => ?_).trans ?_
  · show (intsD 0 (widthOf A)).length ≤ lim
    rw [intsD_range, List.length_map, List.length_range]
    exact Nat.le_trans hw (by decide)
  · have hd : d ∈ intsD 0 (widthOf A) := hd
    rw [intsD_range] at hd
    obtain ⟨i, hi, rfl⟩ := List.mem_map.mp hd
    have hi : i < widthOf A := List.mem_range.mp hi
    refine ⟨[some (matD A), some (.int i), none], rfl, ?_⟩
    have hc : evE Gv (R j) (.comp false [2] (.nm 2) (.seq (.var 0)) .no (.idx (.var 2) (.var 1))) [some (matD A), some (.int i), none] μ = some (.ok (rowD (colL A i)), μ) := by
      refine (xE_comp1 (g := fun d => match d with
        | .tup ds => ds.getD i .non
        | _ => .non) (xI_seq (d := matD A) (x_var rfl) rfl) rfl ?_ fun d hd => ?_).trans ?_
      · show (A.map tupD).length ≤ lim
        rw [List.length_map]
        exact Nat.le_trans hm (by decide)
      · obtain ⟨l, hl, rfl⟩ := List.mem_map.mp hd
        have hil : i < l.length := by rw [hA l hl]; exact hi
        refine ⟨[some (matD A), some (.int i), some (tupD l)], rfl, ?_⟩
        refine x_idx (k := i) (x_var (d := tupD l) rfl) (x_var rfl) rfl ?_
        rw [rts_get hil]
        simp [tupD, List.getD_eq_getElem?_getD, rts_get hil]
      · show some (Except.ok (D.lst ((A.map tupD).map _)), _) = some (Except.ok (D.lst (rts _)), _)
        unfold rts colL
        rw [List.map_map, List.map_map]
        congr 4
        refine List.map_congr_left fun l hl => ?_
        have hil : i < l.length := by rw [hA l hl]; exact hi
        show (rts l).getD i .non = rt (l.getD i 0)
        rw [List.getD_eq_getElem?_getD, rts_get hil]
        rfl
    have hx : (i : Int).toNat = i := by omega
    rw [evE]
    simp only [M.bind, hc, hx]
    rfl
  · show some (Except.ok (D.lst ((intsD 0 (widthOf A)).map _)), _) = some (Except.ok (D.lst _), _)
    rw [intsD_range, List.map_map]
    unfold colsL
    rw [List.map_map]
    congr 4
section
variable {a e : Nat} {A : List (List Rat)} {g : List Rat} (E : Eqs a A g) (j : Nat) (μ : List MO)
include E
theorem Eqs.col_sz {c : List Rat} (hc : c ∈ colsL A) : ∀ z ∈ c, Sz (a + 1) z := by
  obtain ⟨k, _, rfl⟩ := List.mem_map.mp hc
  intro z hz
  obtain ⟨l, hl, rfl⟩ := List.mem_map.mp hz
  by_cases hk : k < l.length
  · exact ((E.row l hl).2 _ (getD_mem hk)).mono (by omega)
  · rw [getD_out (by omega)]
    exact .zero _ (by omega)
def barB (A : List (List Rat)) (g y : List Rat) : Bool := decide (y.length = A.length) && (decide (dotL y g < 0) && (colsL A).all fun c => decide (0 ≤ dotL y c))
theorem barB_iff {y : List Rat} : barB A g y = true ↔ IsBar A g y := by
  unfold barB
  simp only [Bool.and_eq_true, decide_eq_true_eq, List.all_eq_true]
  constructor
  · rintro ⟨h1, h2, h3⟩
    exact ⟨h1, h2, fun j hj => h3 _ (List.mem_map.mpr ⟨j, List.mem_range.mpr hj, rfl⟩)⟩
  · rintro ⟨h1, h2, h3⟩
    refine ⟨h1, h2, fun c hc => ?_⟩
    obtain ⟨j, hj, rfl⟩ := List.mem_map.mp hc
    exact h3 j (List.mem_range.mp hj)
theorem all_cols (P : List Rat → Bool) : ((colsL A).map tupD).all (fun d => match d with
    | .tup ds => P (ds.map unrt)
    | _ => false) = (colsL A).all P := by
  rw [List.all_map]
  congr 1
  funext c
  show P ((rts c).map unrt) = P c
  congr 1
  unfold rts
  rw [List.map_map]
  conv => rhs; rw [← List.map_id c]
  exact List.map_congr_left fun p _ => unrt_rt p
theorem unrts (c : List Rat) : (rts c).map unrt = c := by
  unfold rts
  rw [List.map_map]
  conv => rhs; rw [← List.map_id c]
  exact List.map_congr_left fun p _ => unrt_rt p
theorem sz_ok {y : List Rat} {c d : Nat} (hl : y.length = A.length) (hc : c + d ≤ 1530) : 1 + (c + d + 1) * y.length ≤ 8000 := by
  have := E.m6
  have : (c + d + 1) * y.length ≤ 1531 * 5 := Nat.mul_le_mul (by omega) (by omega)
  omega
end
end K40
end
set_option maxHeartbeats 4000000
section
/-! is_bar, is_dual, and the law's own. -/
namespace K40
open NB KM
section
variable {a c : Nat} {A : List (List Rat)} {g : List Rat} (E : Eqs a A g) (j : Nat) (μ : List MO)
include E
/-- all columns' dots -/
theorem x_colAll {Φ : Nat → List D → M D} {δ : List (Option D)} {k : Nat} {src e : Ex} {P : List Rat → Bool} (hs : evE Gv Φ src δ μ = some (.ok (colsD A), μ)) (hk : k < δ.length)
    (h : ∀ l ∈ colsL A, evE Gv Φ e ((wipeD δ [k]).set k (some (tupD l))) μ = some (.ok (.bl (P l)), μ)) : evE Gv Φ (.all (.comp false [k] (.nm k) (.seq src) .no e)) δ μ = some (.ok (.bl ((colsL A).all P)), μ) := by
  have hw : (wipeD δ [k]).length = δ.length := by simp [wipeD]
  have e1 := x_all (own := [k]) (t := .nm k) (e := e) (B := fun d => match d with
    | .tup ds => P (ds.map unrt)
    | _ => false) (xI_seq (d := colsD A) hs rfl) rfl (by
      show ((colsL A).map tupD).length ≤ lim
      rw [List.length_map]
      unfold colsL
      rw [List.length_map, List.length_range]
      exact Nat.le_trans E.w9 (by decide)) (fun d hd => by
    obtain ⟨l, hl, rfl⟩ := List.mem_map.mp hd
    refine ⟨(wipeD δ [k]).set k (some (tupD l)), by simp only [bindT, hw, if_pos hk], ?_⟩
    have e2 := h l hl
    have e3 : (rts l).map unrt = l := unrts E l
    show evE Gv Φ e _ μ = some (.ok (.bl (P ((rts l).map unrt))), μ)
    rw [e3]
    exact e2)
  have e4 := all_cols E P
  rw [e1]
  exact congrArg (fun z => some (Except.ok (D.bl z), μ)) e4
theorem Eqs.columns : R (j + 1) 13 [matD A] μ = some (.ok (colsD A), μ) := r_columns j μ A (fun l hl => (E.row l hl).1) (by have := E.m6; omega) (by have := E.w9; omega)
theorem Eqs.dotG {y : List Rat} (hy : ∀ z ∈ y, Sz c z) (hl : y.length = A.length) (hc : c + a ≤ 1520) : R (j + 4) 11 [tupD y, tupD g] μ = some (.ok (rt (dotL y g)), μ) := r_dot j μ rfl rfl hy E.gol (sz_ok E (c := c) (d := a) hl (by omega))
theorem Eqs.dotC {y : List Rat} (hy : ∀ z ∈ y, Sz c z) (hl : y.length = A.length) (hc : c + a ≤ 1520) {l : List Rat} (hm : l ∈ colsL A) : R (j + 4) 11 [tupD y, tupD l] μ = some (.ok (rt (dotL y l)), μ) := r_dot j μ rfl rfl hy (E.col_sz hm) (sz_ok E (c := c) (d := a + 1) hl (by omega))
theorem Eqs.ldotG {y : List Rat} (hy : ∀ z ∈ y, Sz c z) (hl : y.length = A.length) (hc : c + a ≤ 1520) : R (j + 3) 37 [tupD y, tupD g] μ = some (.ok (rt (dotL y g)), μ) := r_ldot j μ rfl rfl hy E.gol (sz_ok E (c := c) (d := a) hl (by omega))
theorem Eqs.ldotC {y : List Rat} (hy : ∀ z ∈ y, Sz c z) (hl : y.length = A.length) (hc : c + a ≤ 1520) {l : List Rat} (hm : l ∈ colsL A) : R (j + 3) 37 [tupD y, tupD l] μ = some (.ok (rt (dotL y l)), μ) := r_ldot j μ rfl rfl hy (E.col_sz hm) (sz_ok E (c := c) (d := a + 1) hl (by omega))
theorem r_isbar {y : List Rat} (hy : ∀ z ∈ y, Sz c z) (hc : c + a ≤ 1520) (hl9 : y.length ≤ 900) : R (j + 5) 25 [matD A, tupD g, tupD y] μ = some (.ok (.bl (barB A g y)), μ) := by
  rw [R_eq (f := f25) rfl]
  refine run_pure rfl rfl rfl ?_
  show exB Gv (R (j + 4)) (.cons _ (.cons _ (.cons _ (.cons _ .nil)))) [some (matD A), some (tupD g), some (tupD y), none, none] μ = _
  refine (xB_nx (xS_expr ((xE_call (xA_cons (x_var rfl) (xA_cons (x_var rfl) xA_nil))).trans (E.check (j + 1) μ)))).trans ?_
  have hlen := x_neI (Φ := R (j + 4)) (δ := [some (matD A), some (tupD g), some (tupD y), none, none]) (μ := μ) (a := .len (.var 2)) (c := .len (.var 0)) (x_len (x_var (d := tupD y) rfl) (ds := rts y) rfl) (x_len (x_var (d := matD A) rfl) (ds := A.map tupD) rfl)
  by_cases hl : y.length = A.length
  · have hd : decide (((rts y).length : Int) = ((A.map tupD).length : Int)) = true := decide_eq_true (by simp [rts, hl])
    rw [hd] at hlen
    have ht : evE Gv (R (j + 4)) (.or_ (.not_ (.isi .tup (.var 2))) (.or_ (.cmp .ne (.len (.var 2)) (.len (.var 0))) (.not_ (.all (.comp false [3] (.nm 3) (.seq (.var 2)) .no (.call 1 (.cons (.var 3) .nil))))))) [some (matD A), some (tupD g), some (tupD y), none, none] μ = some (.ok (.bl (!true || (!true || !true))), μ) :=
      x_or (x_not (x_isi (x_var rfl) rfl)) fun _ => x_or hlen fun _ => x_not (x_ratios (l := y) (x_var rfl) rfl (by show 3 < 5; omega) (by omega) fun p hp => r_isratio (j + 2) μ p (hy p hp) (by omega))
    refine (xB_nx (μ' := μ) (xS_iteF ht (xB_nil (G := Gv)))).trans ?_
    have hg := x_nonneg (Φ := R (j + 4)) (δ := [some (matD A), some (tupD g), some (tupD y), none, none]) (a := .call 11 (.cons (.var 2) (.cons (.var 1) .nil))) ((xE_call (xA_cons (x_var rfl) (xA_cons (x_var rfl) xA_nil))).trans (E.dotG j μ hy hl hc))
    unfold barB
    rw [decide_eq_true hl, Bool.true_and]
    by_cases h0 : 0 ≤ dotL y g
    · rw [decide_eq_true h0] at hg
      have : decide (dotL y g < 0) = false := decide_eq_false (by grind)
      rw [this]
      exact xB_rt (xS_iteT hg (xB_rt (xS_ret (by simp only [evE]; rfl))))
    · rw [decide_eq_false h0] at hg
      have : decide (dotL y g < 0) = true := decide_eq_true (by grind)
      rw [this]
      refine (xB_nx (μ' := μ) (xS_iteF hg (xB_nil (G := Gv)))).trans (xB_rt (xS_ret ?_))
      exact x_colAll E μ ((xE_call (xA_cons (x_var rfl) xA_nil)).trans (E.columns (j + 3) μ)) (by show 4 < 5; omega) fun l hm => x_nonneg ((xE_call (xA_cons (x_var rfl) (xA_cons (x_var rfl) xA_nil))).trans (E.dotC j μ hy hl hc hm))
  · have hd : decide (((rts y).length : Int) = ((A.map tupD).length : Int)) = false := decide_eq_false (by simp only [rts, List.length_map]; omega)
    rw [hd] at hlen
    have ht : evE Gv (R (j + 4)) (.or_ (.not_ (.isi .tup (.var 2))) (.or_ (.cmp .ne (.len (.var 2)) (.len (.var 0))) (.not_ (.all (.comp false [3] (.nm 3) (.seq (.var 2)) .no (.call 1 (.cons (.var 3) .nil))))))) [some (matD A), some (tupD g), some (tupD y), none, none] μ = some (.ok (.bl (!true || true)), μ) :=
      x_or (x_not (x_isi (x_var rfl) rfl)) fun _ => x_orT hlen
    have hb : barB A g y = false := by unfold barB; rw [decide_eq_false hl]; rfl
    rw [hb]
    exact xB_rt (xS_iteT ht (xB_rt (xS_ret (by simp only [evE]; rfl))))
theorem r_isbar_no {x : D} (hx : isT μ .tup x = some false) : R (j + 5) 25 [matD A, tupD g, x] μ = some (.ok (.bl false), μ) := by
  rw [R_eq (f := f25) rfl]
  refine run_pure rfl rfl rfl ?_
  show exB Gv (R (j + 4)) (.cons _ (.cons _ (.cons _ (.cons _ .nil)))) [some (matD A), some (tupD g), some x, none, none] μ = _
  refine (xB_nx (xS_expr ((xE_call (xA_cons (x_var rfl) (xA_cons (x_var rfl) xA_nil))).trans (E.check (j + 1) μ)))).trans ?_
  exact xB_rt (xS_iteT (x_orT (x_not (x_isi (x_var rfl) hx))) (xB_rt (xS_ret (by simp only [evE]; rfl))))
theorem r_lisbar_no {x : D} (hx : isT μ .tup x = some false) : R (j + 5) 43 [matD A, tupD g, x] μ = some (.ok (.bl false), μ) := by
  rw [R_eq (f := f43) rfl]
  refine run_pure rfl rfl rfl ?_
  show exB Gv (R (j + 4)) (.cons _ (.cons _ .nil)) [some (matD A), some (tupD g), some x, none, none] μ = _
  exact xB_rt (xS_iteT (x_orT (x_not (x_isi (x_var rfl) hx))) (xB_rt (xS_ret (by simp only [evE]; rfl))))
theorem x_lnums {Φ : Nat → List D → M D} {δ : List (Option D)} {k : Nat} {b : Ex} {x : D} {l : List Rat} (hx : evE Gv Φ b δ μ = some (.ok x, μ)) (hq : seqOf μ x = some (rts l)) (hk : k < δ.length) (hl : l.length ≤ 1000)
    (h : ∀ p ∈ l, Φ 40 [rt p] μ = some (.ok (.bl true), μ)) : evE Gv Φ (.all (.comp false [k] (.nm k) (.seq b) .no (.call 40 (.cons (.var k) .nil)))) δ μ = some (.ok (.bl true), μ) := by
  have hw : (wipeD δ [k]).length = δ.length := by simp [wipeD]
  have e := x_all (B := fun _ => true) (own := [k]) (t := .nm k) (e := .call 40 (.cons (.var k) .nil)) (xI_seq hx hq) srcOk_at (by show (rts l).length ≤ lim; simp only [rts, List.length_map]; exact Nat.le_trans hl (by decide)) (fun d hd => by
    obtain ⟨p, hp, rfl⟩ := List.mem_map.mp hd
    refine ⟨(wipeD δ [k]).set k (some (rt p)), by simp only [bindT, hw, if_pos hk], ?_⟩
    rw [xE_call (xA_cons (x_var (by rw [List.getElem?_set_self (by rw [hw]; exact hk)])) xA_nil)]
    exact h p hp)
  rw [e]
  have : (rts l).all (fun _ => true) = true := by simp
  show some (Except.ok (D.bl ((rts l).all fun _ => true)), μ) = _
  rw [this]
theorem Eqs.lcolumns (hne : A ≠ []) : R (j + 1) 41 [matD A] μ = some (.ok (colsD A), μ) := r_lcolumns j μ A hne (fun l hl => (E.row l hl).1) (by have := E.m6; omega) (by have := E.w9; omega)
theorem r_lisbar (hne : A ≠ []) {y : List Rat} (hy : ∀ z ∈ y, Sz c z) (hc : c + a ≤ 1520) (hl9 : y.length ≤ 900) : R (j + 5) 43 [matD A, tupD g, tupD y] μ = some (.ok (.bl (barB A g y)), μ) := by
  rw [R_eq (f := f43) rfl]
  refine run_pure rfl rfl rfl ?_
  show exB Gv (R (j + 4)) (.cons _ (.cons _ .nil)) [some (matD A), some (tupD g), some (tupD y), none, none] μ = _
  have hlen := x_neI (Φ := R (j + 4)) (δ := [some (matD A), some (tupD g), some (tupD y), none, none]) (μ := μ) (a := .len (.var 2)) (c := .len (.var 0)) (x_len (x_var (d := tupD y) rfl) (ds := rts y) rfl) (x_len (x_var (d := matD A) rfl) (ds := A.map tupD) rfl)
  by_cases hl : y.length = A.length
  · have hd : decide (((rts y).length : Int) = ((A.map tupD).length : Int)) = true := decide_eq_true (by simp [rts, hl])
    rw [hd] at hlen
    have ht : evE Gv (R (j + 4)) (.or_ (.not_ (.isi .tup (.var 2))) (.or_ (.cmp .ne (.len (.var 2)) (.len (.var 0))) (.not_ (.all (.comp false [3] (.nm 3) (.seq (.var 2)) .no (.call 40 (.cons (.var 3) .nil))))))) [some (matD A), some (tupD g), some (tupD y), none, none] μ = some (.ok (.bl (!true || (!true || !true))), μ) :=
      x_or (x_not (x_isi (x_var rfl) rfl)) fun _ => x_or hlen fun _ => x_not (x_lnums E μ (l := y) (x_var rfl) rfl (by show 3 < 5; omega) (by omega) fun p hp => r_lisnum (j + 2) μ p (hy p hp) (by omega))
    refine (xB_nx (μ' := μ) (xS_iteF ht (xB_nil (G := Gv)))).trans (xB_rt (xS_ret ?_))
    unfold barB
    rw [decide_eq_true hl, Bool.true_and]
    refine x_and (x_lt0 ((xE_call (xA_cons (x_var rfl) (xA_cons (x_var rfl) xA_nil))).trans (E.ldotG (j + 1) μ hy hl hc))) fun _ => ?_
    exact x_colAll E μ ((xE_call (xA_cons (x_var rfl) xA_nil)).trans (E.lcolumns (j + 3) μ hne)) (by show 4 < 5; omega) fun l hm => x_nonneg ((xE_call (xA_cons (x_var rfl) (xA_cons (x_var rfl) xA_nil))).trans (E.ldotC (j + 1) μ hy hl hc hm))
  · have hd : decide (((rts y).length : Int) = ((A.map tupD).length : Int)) = false := decide_eq_false (by simp only [rts, List.length_map]; omega)
    rw [hd] at hlen
    have ht : evE Gv (R (j + 4)) (.or_ (.not_ (.isi .tup (.var 2))) (.or_ (.cmp .ne (.len (.var 2)) (.len (.var 0))) (.not_ (.all (.comp false [3] (.nm 3) (.seq (.var 2)) .no (.call 40 (.cons (.var 3) .nil))))))) [some (matD A), some (tupD g), some (tupD y), none, none] μ = some (.ok (.bl (!true || true)), μ) :=
      x_or (x_not (x_isi (x_var rfl) rfl)) fun _ => x_orT hlen
    have hb : barB A g y = false := by unfold barB; rw [decide_eq_false hl]; rfl
    rw [hb]
    exact xB_rt (xS_iteT ht (xB_rt (xS_ret (by simp only [evE]; rfl))))
end
end K40
end
set_option maxHeartbeats 4000000
section
/-! is_dual, and the law's own; meets. -/
namespace K40
open NB KM
def onTR (P : List Rat → Rat → Bool) : D → Bool
  | .tup [.tup ds, q] => P (ds.map unrt) (unrt q)
  | _ => false
theorem onTR_rt (P : List Rat → Rat → Bool) (l : List Rat) (q : Rat) : onTR P (.tup [tupD l, rt q]) = P l q := by
  show P ((rts l).map unrt) (unrt (rt q)) = _
  rw [unrt_rt]
  congr 1
  unfold rts
  rw [List.map_map]
  conv => rhs; rw [← List.map_id l]
  exact List.map_congr_left fun p _ => unrt_rt p
theorem pairs_tr : ∀ (ls : List (List Rat)) (w : List Rat), pairs (ls.map tupD) (rts w) = (ls.zip w).map fun p => .tup [tupD p.1, rt p.2]
  | [], _ => by simp [pairs]
  | _ :: _, [] => by simp [pairs, rts]
  | l :: ls, q :: w => by
    have := pairs_tr ls w
    simp only [rts] at this
    simp [pairs, rts, this]
theorem dotL_sz {a b : Nat} : ∀ (xs ys : List Rat), (∀ z ∈ xs, Sz a z) → (∀ z ∈ ys, Sz b z) → Sz (1 + (a + b + 1) * xs.length) (dotL xs ys)
  | [], ys, _, _ => .zero _ (by omega)
  | _ :: _, [], _, _ => .zero _ (by omega)
  | x :: xs, y :: ys, h1, h2 => by
    have ih := dotL_sz xs ys (fun z hz => h1 z (List.mem_cons_of_mem _ hz)) (fun z hz => h2 z (List.mem_cons_of_mem _ hz))
    have := ((h1 x (List.mem_cons_self ..)).mul (h2 y (List.mem_cons_self ..))).add ih
    refine this.mono ?_
    rw [List.length_cons, Nat.mul_add]
    omega
theorem x_allP {Φ : Nat → List D → M D} {δ : List (Option D)} {μ : List MO} {own : List Nat} {t : Tg} {a b e : Ex} {x y : D} {ls : List (List Rat)} {w : List Rat} {P : List Rat → Rat → Bool}
    (ha : evE Gv Φ a δ μ = some (.ok x, μ)) (hb : evE Gv Φ b δ μ = some (.ok y, μ)) (hx : seqOf μ x = some (ls.map tupD)) (hy : seqOf μ y = some (rts w)) (hl : ls.length ≤ 1000)
    (h : ∀ p ∈ ls.zip w, ∃ δ1, bindT t (.tup [tupD p.1, rt p.2]) (wipeD δ own) = some δ1 ∧ evE Gv Φ e δ1 μ = some (.ok (.bl (P p.1 p.2)), μ)) :
    evE Gv Φ (.all (.comp false own t (.zip a b) .no e)) δ μ = some (.ok (.bl ((ls.zip w).all fun p => P p.1 p.2)), μ) := by
  have e1 := x_all (own := own) (t := t) (e := e) (B := onTR P) (xI_zip ha hb hx hy) srcOk_at2 (by
    show (pairs _ _).length ≤ lim
    rw [pairs_tr, List.length_map, List.length_zip]
    exact Nat.le_trans (Nat.le_trans (Nat.min_le_left ..) hl) (by decide)) (fun d hd => by
    rw [show (Its.mk (pairs (ls.map tupD) (rts w)) (srcOf μ x ++ srcOf μ y)).items = _ from pairs_tr ls w] at hd
    obtain ⟨p, hp, rfl⟩ := List.mem_map.mp hd
    obtain ⟨δ1, h1, h2⟩ := h p hp
    exact ⟨δ1, h1, by rw [onTR_rt]; exact h2⟩)
  rw [e1]
  refine congrArg (fun z => some (Except.ok (D.bl z), μ)) ?_
  show (pairs _ _).all _ = _
  rw [pairs_tr, List.all_map]
  congr 1
  funext p
  exact onTR_rt P p.1 p.2
end K40
end
set_option maxHeartbeats 4000000
section
namespace K40
open NB KM
def dualB (A : List (List Rat)) (g w y : List Rat) (v : Rat) : Bool := !decide (v < dotL y g) && ((colsL A).zip w).all fun p => !decide (dotL y p.1 < p.2)
def meetsB (A : List (List Rat)) (g x : List Rat) : Bool := (A.zip g).all fun p => decide (dotL p.1 x = p.2)
section
variable {a c e : Nat} {A : List (List Rat)} {g : List Rat} (E : Eqs a A g) (j : Nat) (μ : List MO)
include E
theorem colsL_len9 : (colsL A).length ≤ 1000 := by
  unfold colsL
  rw [List.length_map, List.length_range]
  exact Nat.le_trans E.w9 (by decide)
theorem dot_szA {y z : List Rat} {d : Nat} (hy : ∀ z ∈ y, Sz c z) (hz : ∀ x ∈ z, Sz d x) (hl : y.length = A.length) (hc : c + d ≤ 1530) : Sz 8000 (dotL y z) := (dotL_sz y z hy hz).mono (sz_ok E (c := c) (d := d) hl hc)
theorem r_isdual {y w : List Rat} {v : Rat} (hy : ∀ z ∈ y, Sz c z) (hc : c + a ≤ 1520) (hl : y.length = A.length) (hv : Sz 9000 v) (hw : ∀ z ∈ w, Sz 9000 z) : R (j + 5) 27 [matD A, tupD g, tupD w, tupD y, rt v] μ = some (.ok (.bl (dualB A g w y v)), μ) := by
  rw [R_eq (f := f27) rfl]
  refine run_pure rfl rfl rfl ?_
  show exB Gv (R (j + 4)) (.cons _ (.cons _ (.cons _ (.cons _ .nil)))) [some (matD A), some (tupD g), some (tupD w), some (tupD y), some (rt v), none, none] μ = _
  refine (xB_nx (xS_expr ((xE_call (xA_cons (x_var rfl) (xA_cons (x_var rfl) xA_nil))).trans (E.check (j + 1) μ)))).trans ?_
  have hlen := x_neI (Φ := R (j + 4)) (δ := [some (matD A), some (tupD g), some (tupD w), some (tupD y), some (rt v), none, none]) (μ := μ) (a := .len (.var 3)) (c := .len (.var 0)) (x_len (x_var (d := tupD y) rfl) (ds := rts y) rfl) (x_len (x_var (d := matD A) rfl) (ds := A.map tupD) rfl)
  have hd : decide (((rts y).length : Int) = ((A.map tupD).length : Int)) = true := decide_eq_true (by simp [rts, hl])
  rw [hd] at hlen
  have ht : evE Gv (R (j + 4)) (.or_ (.not_ (.isi .tup (.var 3))) (.or_ (.cmp .ne (.len (.var 3)) (.len (.var 0))) (.not_ (.all (.comp false [5] (.nm 5) (.seq (.var 3)) .no (.call 1 (.cons (.var 5) .nil))))))) [some (matD A), some (tupD g), some (tupD w), some (tupD y), some (rt v), none, none] μ = some (.ok (.bl (!true || (!true || !true))), μ) :=
    x_or (x_not (x_isi (x_var rfl) rfl)) fun _ => x_or hlen fun _ => x_not (x_ratios (l := y) (x_var rfl) rfl (by show 5 < 7; omega) (by have := E.m6; omega) fun p hp => r_isratio (j + 2) μ p (hy p hp) (by omega))
  refine (xB_nx (μ' := μ) (xS_iteF ht (xB_nil (G := Gv)))).trans ?_
  have hg : evE Gv (R (j + 4)) (.call 8 (.cons (.var 4) (.cons (.call 11 (.cons (.var 3) (.cons (.var 1) .nil))) .nil))) [some (matD A), some (tupD g), some (tupD w), some (tupD y), some (rt v), none, none] μ = some (.ok (.bl (decide (v < dotL y g))), μ) :=
    (xE_call (xA_cons (x_var rfl) (xA_cons ((xE_call (xA_cons (x_var rfl) (xA_cons (x_var rfl) xA_nil))).trans (E.dotG j μ hy hl hc)) xA_nil))).trans (r_less (j + 3) μ v (dotL y g) hv (dot_szA E hy E.gol hl (by omega)) (by decide) (by decide))
  unfold dualB
  by_cases h0 : v < dotL y g
  · rw [decide_eq_true h0] at hg ⊢
    exact xB_rt (xS_iteT hg (xB_rt (xS_ret (by simp only [evE]; rfl))))
  · rw [decide_eq_false h0] at hg ⊢
    rw [Bool.not_false, Bool.true_and]
    refine (xB_nx (μ' := μ) (xS_iteF hg (xB_nil (G := Gv)))).trans (xB_rt (xS_ret ?_))
    refine x_allP (ls := colsL A) (w := w) (P := fun l q => !decide (dotL y l < q)) ((xE_call (xA_cons (x_var rfl) xA_nil)).trans (E.columns (j + 3) μ)) (x_var (d := tupD w) rfl) rfl rfl (colsL_len9 E) fun p hp => ?_
    have hm := (List.of_mem_zip hp).1
    have hq := (List.of_mem_zip hp).2
    refine ⟨[some (matD A), some (tupD g), some (tupD w), some (tupD y), some (rt v), some (rt p.2), some (tupD p.1)], rfl, x_not ?_⟩
    exact (xE_call (xA_cons ((xE_call (xA_cons (x_var rfl) (xA_cons (x_var rfl) xA_nil))).trans (E.dotC j μ hy hl hc hm)) (xA_cons (x_var rfl) xA_nil))).trans (r_less (j + 3) μ _ _ (dot_szA E hy (E.col_sz hm) hl (by omega)) (hw _ hq) (by decide) (by decide))
theorem r_lisdual (hne : A ≠ []) {y w : List Rat} {v : Rat} (hy : ∀ z ∈ y, Sz c z) (hc : c + a ≤ 1520) (hl : y.length = A.length) (hv : Sz 9000 v) (hw : ∀ z ∈ w, Sz 9000 z) : R (j + 5) 44 [matD A, tupD g, tupD w, tupD y, rt v] μ = some (.ok (.bl (dualB A g w y v)), μ) := by
  rw [R_eq (f := f44) rfl]
  refine run_pure rfl rfl rfl ?_
  show exB Gv (R (j + 4)) (.cons _ (.cons _ .nil)) [some (matD A), some (tupD g), some (tupD w), some (tupD y), some (rt v), none, none] μ = _
  have hlen := x_neI (Φ := R (j + 4)) (δ := [some (matD A), some (tupD g), some (tupD w), some (tupD y), some (rt v), none, none]) (μ := μ) (a := .len (.var 3)) (c := .len (.var 0)) (x_len (x_var (d := tupD y) rfl) (ds := rts y) rfl) (x_len (x_var (d := matD A) rfl) (ds := A.map tupD) rfl)
  have hd : decide (((rts y).length : Int) = ((A.map tupD).length : Int)) = true := decide_eq_true (by simp [rts, hl])
  rw [hd] at hlen
  have hg : evE Gv (R (j + 4)) (.call 38 (.cons (.var 4) (.cons (.call 37 (.cons (.var 3) (.cons (.var 1) .nil))) .nil))) [some (matD A), some (tupD g), some (tupD w), some (tupD y), some (rt v), none, none] μ = some (.ok (.bl (decide (v < dotL y g))), μ) :=
    (xE_call (xA_cons (x_var rfl) (xA_cons ((xE_call (xA_cons (x_var rfl) (xA_cons (x_var rfl) xA_nil))).trans (E.ldotG (j + 1) μ hy hl hc)) xA_nil))).trans (r_lless (j + 3) μ v (dotL y g) hv (dot_szA E hy E.gol hl (by omega)) (by decide) (by decide))
  have ht : evE Gv (R (j + 4)) (.or_ (.not_ (.isi .tup (.var 3))) (.or_ (.cmp .ne (.len (.var 3)) (.len (.var 0))) (.call 38 (.cons (.var 4) (.cons (.call 37 (.cons (.var 3) (.cons (.var 1) .nil))) .nil))))) [some (matD A), some (tupD g), some (tupD w), some (tupD y), some (rt v), none, none] μ = some (.ok (.bl (!true || (!true || decide (v < dotL y g)))), μ) :=
    x_or (x_not (x_isi (x_var rfl) rfl)) fun _ => x_or hlen fun _ => hg
  unfold dualB
  by_cases h0 : v < dotL y g
  · rw [decide_eq_true h0] at ht ⊢
    exact xB_rt (xS_iteT ht (xB_rt (xS_ret (by simp only [evE]; rfl))))
  · rw [decide_eq_false h0] at ht ⊢
    rw [Bool.not_false, Bool.true_and]
    refine (xB_nx (μ' := μ) (xS_iteF ht (xB_nil (G := Gv)))).trans (xB_rt (xS_ret ?_))
    refine x_allP (ls := colsL A) (w := w) (P := fun l q => !decide (dotL y l < q)) ((xE_call (xA_cons (x_var rfl) xA_nil)).trans (E.lcolumns (j + 3) μ hne)) (x_var (d := tupD w) rfl) rfl rfl (colsL_len9 E) fun p hp => ?_
    have hm := (List.of_mem_zip hp).1
    have hq := (List.of_mem_zip hp).2
    refine ⟨[some (matD A), some (tupD g), some (tupD w), some (tupD y), some (rt v), some (tupD p.1), some (rt p.2)], rfl, x_not ?_⟩
    exact (xE_call (xA_cons ((xE_call (xA_cons (x_var rfl) (xA_cons (x_var rfl) xA_nil))).trans (E.ldotC (j + 1) μ hy hl hc hm)) (xA_cons (x_var rfl) xA_nil))).trans (r_lless (j + 3) μ _ _ (dot_szA E hy (E.col_sz hm) hl (by omega)) (hw _ hq) (by decide) (by decide))
end
end K40
end
set_option maxHeartbeats 4000000
section
namespace K40
open NB KM
theorem all_true_of {α : Type _} {l : List α} {P : α → Bool} (h : ∀ x ∈ l, P x = true) : l.all P = true := List.all_eq_true.mpr h
section
variable {a c e : Nat} {A : List (List Rat)} {g : List Rat} (E : Eqs a A g) (j : Nat) (μ : List MO)
include E
theorem r_lmeets (hne : A ≠ []) {x : List Rat} (hx : Meets A g x) (sx : ∀ z ∈ x, Sz c z) (hc : c ≤ 700) : R (j + 5) 42 [matD A, tupD g, tupD x] μ = some (.ok (.bl true), μ) := by
  rw [R_eq (f := f42) rfl]
  refine run_pure rfl rfl rfl ?_
  show exB Gv (R (j + 4)) (.cons _ (.cons _ .nil)) [some (matD A), some (tupD g), some (tupD x), none, none, none] μ = _
  have w9 := E.w9
  have ha := E.ha
  have l0 : evE Gv (R (j + 4)) (.len (.idx (.var 0) (.int 0))) [some (matD A), some (tupD g), some (tupD x), none, none, none] μ = some (.ok (.int (widthOf A)), μ) := by
    cases A with
    | nil => exact absurd rfl hne
    | cons l A =>
      have hx : evE Gv (R (j + 4)) (.idx (.var 0) (.int 0)) [some (matD (l :: A)), some (tupD g), some (tupD x), none, none, none] μ = some (.ok (tupD l), μ) := x_idx (k := 0) (x := matD (l :: A)) (x_var rfl) (x_int 0) rfl rfl
      have := x_len (ds := rts l) hx rfl
      rw [this]
      simp [rts, widthOf]
  have hlen := x_neI (Φ := R (j + 4)) (δ := [some (matD A), some (tupD g), some (tupD x), none, none, none]) (μ := μ) (a := .len (.var 2)) (x_len (x_var (d := tupD x) rfl) (ds := rts x) rfl) l0
  have hd : decide (((rts x).length : Int) = (widthOf A : Int)) = true := decide_eq_true (by have := hx.len; simp [rts]; omega)
  rw [hd] at hlen
  have hn : evE Gv (R (j + 4)) (.all (.comp false [3] (.nm 3) (.seq (.var 2)) .no (.and_ (.call 40 (.cons (.var 3) .nil)) (.cmp .ge (.idx (.var 3) (.int 0)) (.int 0))))) [some (matD A), some (tupD g), some (tupD x), none, none, none] μ = some (.ok (.bl true), μ) := by
    have e1 := x_all (Φ := R (j + 4)) (δ := [some (matD A), some (tupD g), some (tupD x), none, none, none]) (μ := μ) (own := [3]) (t := .nm 3) (i := .seq (.var 2)) (e := .and_ (.call 40 (.cons (.var 3) .nil)) (.cmp .ge (.idx (.var 3) (.int 0)) (.int 0))) (B := fun _ => true) (xI_seq (d := tupD x) (x_var rfl) (rfl : _ = some (rts x))) rfl (by
      show (rts x).length ≤ lim
      simp only [rts, List.length_map]
      have := hx.len
      exact Nat.le_trans (m := 9) (by omega) (by decide)) (fun d hd => by
      obtain ⟨p, hp, rfl⟩ := List.mem_map.mp hd
      refine ⟨[some (matD A), some (tupD g), some (tupD x), some (rt p), none, none], rfl, ?_⟩
      have e := x_and (Φ := R (j + 4)) (δ := [some (matD A), some (tupD g), some (tupD x), some (rt p), none, none]) (μ := μ) (a := .call 40 (.cons (.var 3) .nil)) (b := .cmp .ge (.idx (.var 3) (.int 0)) (.int 0)) ((xE_call (xA_cons (x_var rfl) xA_nil)).trans (r_lisnum (j + 2) μ p (sx p hp) (by omega))) fun _ => x_nonneg (p := p) (x_var rfl)
      rw [decide_eq_true (hx.pos p hp)] at e
      exact e)
    rw [e1]
    refine congrArg (fun z => some (Except.ok (D.bl z), μ)) ?_
    exact all_true_of fun _ _ => rfl
  have ht : evE Gv (R (j + 4)) (.or_ (.not_ (.isi .tup (.var 2))) (.or_ (.cmp .ne (.len (.var 2)) (.len (.idx (.var 0) (.int 0)))) (.not_ (.all (.comp false [3] (.nm 3) (.seq (.var 2)) .no (.and_ (.call 40 (.cons (.var 3) .nil)) (.cmp .ge (.idx (.var 3) (.int 0)) (.int 0)))))))) [some (matD A), some (tupD g), some (tupD x), none, none, none] μ = some (.ok (.bl (!true || (!true || !true))), μ) :=
    x_or (x_not (x_isi (x_var rfl) rfl)) fun _ => x_or hlen fun _ => x_not hn
  refine (xB_nx (μ' := μ) (xS_iteF ht (xB_nil (G := Gv)))).trans (xB_rt (xS_ret ?_))
  have e2 := x_allP (Φ := R (j + 4)) (δ := [some (matD A), some (tupD g), some (tupD x), none, none, none]) (μ := μ) (a := .var 0) (b := .var 1) (own := [4, 5]) (t := .cons (.nm 4) (.cons (.nm 5) .nil)) (e := .cmp .eq (.call 37 (.cons (.var 4) (.cons (.var 2) .nil))) (.var 5)) (ls := A) (w := g) (P := fun l q => decide (dotL l x = q)) (x_var (d := matD A) rfl) (x_var (d := tupD g) rfl) rfl rfl (by have := E.m6; omega) fun p hp => by
    have hm := (List.of_mem_zip hp).1
    refine ⟨[some (matD A), some (tupD g), some (tupD x), none, some (tupD p.1), some (rt p.2)], rfl, x_eqR ?_ (x_var rfl)⟩
    refine (xE_call (xA_cons (x_var rfl) (xA_cons (x_var rfl) xA_nil))).trans (r_ldot (j + 1) μ rfl rfl (E.row _ hm).2 sx ?_)
    have h1 := (E.row _ hm).1
    have : (a + c + 1) * p.1.length ≤ 801 * 9 := Nat.mul_le_mul (by omega) (by omega)
    omega
  rw [e2]
  refine congrArg (fun z => some (Except.ok (D.bl z), μ)) ?_
  refine all_true_of fun p hp => ?_
  obtain ⟨i, hi, rfl⟩ := List.mem_iff_getElem.mp hp
  have hlz : i < A.length ∧ i < g.length := by rw [List.length_zip] at hi; omega
  refine decide_eq_true ?_
  rw [List.getElem_zip]
  have h := hx.eqn i hlz.1
  rw [List.getD_eq_getElem?_getD, List.getElem?_eq_getElem hlz.1, List.getD_eq_getElem?_getD, List.getElem?_eq_getElem hlz.2] at h
  exact h
theorem dualB_true {w y : List Rat} {v : Rat} (h : IsDual A g w y v) : dualB A g w y v = true := by
  unfold dualB
  rw [decide_eq_false (by rw [h.val]; grind), Bool.not_false, Bool.true_and]
  refine all_true_of fun p hp => ?_
  obtain ⟨i, hi, rfl⟩ := List.mem_iff_getElem.mp hp
  have hlz : i < (colsL A).length ∧ i < w.length := by rw [List.length_zip] at hi; omega
  rw [List.getElem_zip]
  have hw : i < widthOf A := by have := hlz.1; simpa [colsL] using this
  have h1 := h.col i hw
  rw [List.getD_eq_getElem?_getD, List.getElem?_eq_getElem hlz.2] at h1
  have h2 : (colsL A)[i]'hlz.1 = colL A i := by simp [colsL]
  show (!decide (dotL y ((colsL A)[i]'hlz.1) < w[i]'hlz.2)) = true
  rw [h2]
  have h3 : (some (w[i]'hlz.2)).getD 0 = w[i]'hlz.2 := rfl
  rw [h3] at h1
  rw [decide_eq_false (by grind)]
  rfl
end
end K40
end
set_option maxHeartbeats 4000000
section
/-! The tape, and draws from it. -/
namespace K40
open NB KM
def natsD (cs : List Nat) : List D := cs.map fun (c : Nat) => D.int (c : Int)
def Tp (cs : List Nat) (t : Nat) (ν : List MO) : List MO := .lst (natsD cs) :: .lst [.ptr 0, .int (t : Int)] :: ν
def Tape (μ ν : List MO) : Prop := ∃ cs t, cs.length ≤ 63 ∧ t < 2147483648 ∧ μ = Tp cs t ν
theorem Tape.len {μ ν : List MO} (h : Tape μ ν) : μ.length = ν.length + 2 := by
  obtain ⟨cs, t, _, _, rfl⟩ := h
  rfl
/-- it takes from the tape, and gives a thing of a kind -/
def Dr (x : M D) (P : D → Prop) : Prop := ∀ μ ν, Tape μ ν → ∃ d μ', P d ∧ Tape μ' ν ∧ x μ = some (.ok d, μ')
theorem huge_ge : (2147483648 : Nat) * 2147483648 < huge := by
  unfold huge
  exact Nat.lt_of_lt_of_le (m := 2 ^ 63) (by decide) (Nat.pow_le_pow_right (by decide) (by decide))
theorem okBig_nat {t : Nat} (h : t < 2147483648) : okBig (t : Int) = true := by
  unfold okBig
  refine decide_eq_true ?_
  have := huge_ge
  omega
theorem okInt_nat {t : Nat} (h : t < 2147483648) : okInt (t : Int) = true := by
  unfold okInt
  refine decide_eq_true ?_
  have : (2147483648 : Nat) ≤ big := by
    unfold big
    exact Nat.le_trans (m := 2 ^ 31) (by decide) (Nat.pow_le_pow_right (by decide) (by decide))
  omega
theorem x_len0 {Φ : Nat → List D → M D} {s : Option D} {w : D} {many : Nat} {cs : List Nat} {t : Nat} {ν : List MO} :
    evE Gv Φ (.cmp .gt (.len (.var 2)) (.int 0)) [some (.ptr 1), some w, some (.ptr 0), s] (Tp cs t ν) = some (.ok (.bl (decide ((0 : Int) < (natsD cs).length))), Tp cs t ν) := x_gtI (x_len (x_var rfl) rfl) (x_int 0)
theorem x_pop {Φ : Nat → List D → M D} (c : Nat) (cs : List Nat) (t : Nat) (ν : List MO) (s : Option D) (w : D) :
    exB Gv Φ (.cons (.expr (.pop (.var 2) (.int 0))) .nil) [some (.ptr 1), some w, some (.ptr 0), s] (Tp (c :: cs) t ν) = some (.ok (.nx [some (.ptr 1), some w, some (.ptr 0), s]), Tp cs t ν) := by
  simp [exB, exS, evE, M.bind, M.ok, Tp, natsD, isLst, popD, L2.ixN]
theorem r29_loop (j : Nat) (many : Nat) (t : Nat) (ν : List MO) : ∀ (N : Nat) (cs : List Nat), cs.length < N → ∃ cs', (cs'.length ≤ cs.length) ∧ (∀ c r, cs' = c :: r → c ≠ 0) ∧
    whileL (fun δ' => M.bind (evE Gv (R j) (.and_ (.cmp .gt (.len (.var 2)) (.int 0)) (.cmp .eq (.idx (.var 2) (.int 0)) (.int 0))) δ') asBl) (fun δ' => exB Gv (R j) (.cons (.expr (.pop (.var 2) (.int 0))) .nil) δ') N [some (.ptr 1), some (.int many), some (.ptr 0), none] (Tp cs t ν) =
      some (.ok (.nx [some (.ptr 1), some (.int many), some (.ptr 0), none]), Tp cs' t ν)
  | 0, cs, h => absurd h (Nat.not_lt_zero _)
  | N + 1, [], h => by
    refine ⟨[], Nat.le_refl _, (fun c r e => by cases e), ?_⟩
    have hc : evE Gv (R j) (.and_ (.cmp .gt (.len (.var 2)) (.int 0)) (.cmp .eq (.idx (.var 2) (.int 0)) (.int 0))) [some (.ptr 1), some (.int many), some (.ptr 0), none] (Tp [] t ν) = some (.ok (.bl (decide ((0 : Int) < (natsD []).length) && true)), Tp [] t ν) := x_and (x_len0 (many := 0)) fun h => by cases h
    have hd : decide ((0 : Int) < (natsD []).length) = false := rfl
    rw [hd, Bool.false_and] at hc
    unfold whileL
    simp only [M.bind, hc, asBl, M.ok, Bool.false_eq_true, if_false]
  | N + 1, c :: cs, h => by
    have hc : evE Gv (R j) (.and_ (.cmp .gt (.len (.var 2)) (.int 0)) (.cmp .eq (.idx (.var 2) (.int 0)) (.int 0))) [some (.ptr 1), some (.int many), some (.ptr 0), none] (Tp (c :: cs) t ν) = some (.ok (.bl (decide ((0 : Int) < (natsD (c :: cs)).length) && decide ((c : Int) = 0))), Tp (c :: cs) t ν) :=
      x_and (x_len0 (many := 0)) fun _ => x_eqI (x_idx (k := 0) (ds := natsD (c :: cs)) (x_var rfl) (x_int 0) rfl rfl) (x_int 0)
    have hd : decide ((0 : Int) < (natsD (c :: cs)).length) = true := decide_eq_true (by simp [natsD])
    rw [hd, Bool.true_and] at hc
    by_cases q : c = 0
    · subst q
      obtain ⟨cs', h1, h2, h3⟩ := r29_loop j many t ν N cs (by simpa using h)
      refine ⟨cs', by rw [List.length_cons]; omega, h2, ?_⟩
      have : decide (((0 : Nat) : Int) = 0) = true := rfl
      rw [this] at hc
      unfold whileL
      simp only [M.bind, hc, asBl, M.ok, if_true, x_pop]
      exact h3
    · refine ⟨c :: cs, Nat.le_refl _, (fun c' r e => by cases e; exact q), ?_⟩
      have : decide ((c : Int) = 0) = false := decide_eq_false (by omega)
      rw [this] at hc
      unfold whileL
      simp only [M.bind, hc, asBl, M.ok, Bool.false_eq_true, if_false]
theorem fmod_nat (a b : Nat) : (a : Int).fmod (b : Int) = ((a % b : Nat) : Int) := by
  rw [Int.fmod_eq_emod_of_nonneg _ (by omega)]
  rfl
theorem fdiv_nat (a b : Nat) : (a : Int).fdiv (b : Int) = ((a / b : Nat) : Int) := by
  rw [Int.fdiv_eq_ediv_of_nonneg _ (by omega)]
  rfl
theorem d_draw (j many : Nat) (h0 : 0 < many) (h1 : many ≤ 1000) : Dr (R (j + 1) 29 [.ptr 1, .int many]) fun d => ∃ v : Nat, v < many ∧ d = .int v := by
  rintro μ ν ⟨cs, t, hc, ht, rfl⟩
  have hf : cs.length < fuel := by
    unfold fuel
    have := huge_ge
    omega
  obtain ⟨cs', l1, l2, l3⟩ := r29_loop j many t ν fuel cs hf
  have hm0 : ¬ ((many : Int) = 0) := by omega
  cases cs' with
  | nil =>
    refine ⟨.int ((((t * 48271 + 12345) % 2147483647) / 64 % many : Nat) : Int), Tp [] ((t * 48271 + 12345) % 2147483647) ν, ⟨_, Nat.mod_lt _ h0, rfl⟩, ⟨[], _, by decide, Nat.lt_trans (Nat.mod_lt _ (by decide)) (by decide), rfl⟩, ?_⟩
    rw [R_eq (f := f29) rfl]
    refine run_cells rfl rfl rfl rfl ?_
    show exB Gv (R j) (.cons _ (.cons _ (.cons _ (.cons _ (.cons _ .nil))))) [some (.ptr 1), some (.int many), none, none] (Tp cs t ν) = _
    refine (xB_nx (δ' := [some (.ptr 1), some (.int many), some (.ptr 0), none]) (μ' := Tp cs t ν) (xS_asg (d := .ptr 0) (x_idx (k := 0) (ds := [.ptr 0, .int t]) (x_var rfl) (x_int 0) rfl rfl) rfl)).trans ?_
    refine (xB_nx (δ' := [some (.ptr 1), some (.int many), some (.ptr 0), none]) (μ' := Tp [] t ν) ?_).trans ?_
    · simp only [exS]
      exact l3
    have hg := x_len0 (Φ := R j) (s := none) (w := .int many) (many := 0) (cs := []) (t := t) (ν := ν)
    have hd : decide ((0 : Int) < (natsD []).length) = false := rfl
    rw [hd] at hg
    refine (xB_nx (xS_iteF hg (xB_nil (G := Gv)))).trans ?_
    have e1 : ((t : Int) * 48271 + 12345).fmod 2147483647 = (((t * 48271 + 12345) % 2147483647 : Nat) : Int) := by
      rw [← fmod_nat]
      rfl
    refine (xB_nx (δ' := [some (.ptr 1), some (.int many), some (.ptr 0), none]) (μ' := Tp [] ((t * 48271 + 12345) % 2147483647) ν) ?_).trans ?_
    · have o1 := okBig_nat ht
      have o2 : okBig 48271 = true := okBig_nat (t := 48271) (by decide)
      simp only [exS, evE, M.bind, M.ok]
      simp [M.ok, M.bind, Tp, seqOf, L2.atI, L2.ixN, opB, mulD, addD, modD, o1, o2, e1]
    · have e2 : (((t * 48271 + 12345) % 2147483647 : Nat) : Int).fdiv 64 = ((((t * 48271 + 12345) % 2147483647) / 64 : Nat) : Int) := fdiv_nat _ 64
      have e3 := fmod_nat (((t * 48271 + 12345) % 2147483647) / 64) many
      have o3 : okInt 64 = true := okInt_nat (t := 64) (by decide)
      refine xB_rt (xS_ret ?_)
      rw [← e3]
      rw [← e2]
      simp only [evE, M.bind, M.ok]
      simp [M.ok, M.bind, Tp, seqOf, L2.atI, L2.ixN, opB, fdivD, modD, o3, hm0, Nat.ne_of_gt h0]
  | cons c r =>
    refine ⟨.int ((c % many : Nat) : Int), Tp ((c / many) :: r) t ν, ⟨_, Nat.mod_lt _ h0, rfl⟩, ⟨_, t, by rw [List.length_cons] at l1 ⊢; omega, ht, rfl⟩, ?_⟩
    rw [R_eq (f := f29) rfl]
    refine run_cells rfl rfl rfl rfl ?_
    show exB Gv (R j) (.cons _ (.cons _ (.cons _ (.cons _ (.cons _ .nil))))) [some (.ptr 1), some (.int many), none, none] (Tp cs t ν) = _
    refine (xB_nx (δ' := [some (.ptr 1), some (.int many), some (.ptr 0), none]) (μ' := Tp cs t ν) (xS_asg (d := .ptr 0) (x_idx (k := 0) (ds := [.ptr 0, .int t]) (x_var rfl) (x_int 0) rfl rfl) rfl)).trans ?_
    refine (xB_nx (δ' := [some (.ptr 1), some (.int many), some (.ptr 0), none]) (μ' := Tp (c :: r) t ν) ?_).trans ?_
    · simp only [exS]
      exact l3
    have hg := x_len0 (Φ := R j) (s := none) (w := .int many) (many := 0) (cs := c :: r) (t := t) (ν := ν)
    have hd : decide ((0 : Int) < (natsD (c :: r)).length) = true := decide_eq_true (by simp [natsD])
    rw [hd] at hg
    have om : okInt (many : Int) = true := okInt_nat (by omega)
    refine xB_rt (xS_iteT hg ?_)
    refine (xB_nx (δ' := [some (.ptr 1), some (.int many), some (.ptr 0), some (.int c)]) (μ' := Tp (c :: r) t ν) (xS_asg (d := .int c) (x_idx (k := 0) (ds := natsD (c :: r)) (x_var rfl) (x_int 0) rfl rfl) rfl)).trans ?_
    refine (xB_nx (δ' := [some (.ptr 1), some (.int many), some (.ptr 0), some (.int c)]) (μ' := Tp ((c / many) :: r) t ν) ?_).trans ?_
    · have e1 := fdiv_nat c many
      simp only [exS, evE, M.bind, M.ok]
      simp [M.ok, M.bind, Tp, natsD, seqOf, L2.atI, L2.ixN, opB, fdivD, om, Nat.ne_of_gt h0, e1]
    · have e1 := fmod_nat c many
      refine xB_rt (xS_ret ?_)
      rw [← e1]
      simp only [evE, M.bind, M.ok]
      simp [M.ok, M.bind, opB, modD, Nat.ne_of_gt h0]
end K40
end
set_option maxHeartbeats 4000000
section
/-! Numbers, sizes and rows from the tape. -/
namespace K40
open NB KM
def W6 (n : Nat) (p : Rat) : Prop := ∃ z : Int, 6 * p = z ∧ z.natAbs ≤ n
def WN (n : Nat) (p : Rat) : Prop := ∃ z : Int, 36 * p = z ∧ z.natAbs ≤ n
theorem WN.w36 {n : Nat} {p : Rat} (h : WN n p) (hn : n < 2 ^ 14) : W36 p := by
  obtain ⟨z, h1, h2⟩ := h
  exact ⟨z, h1, by omega⟩
theorem W6.wn {n : Nat} {p : Rat} (h : W6 n p) : WN (6 * n) p := by
  obtain ⟨z, h1, h2⟩ := h
  refine ⟨6 * z, ?_, by omega⟩
  rw [Rat.intCast_mul, ← h1]
  grind
theorem W6.mul {m n : Nat} {p q : Rat} (h : W6 m p) (g : W6 n q) : WN (m * n) (p * q) := by
  obtain ⟨z, h1, h2⟩ := h
  obtain ⟨y, g1, g2⟩ := g
  refine ⟨z * y, ?_, ?_⟩
  · rw [Rat.intCast_mul, ← h1, ← g1]
    grind
  · rw [Int.natAbs_mul]
    exact Nat.mul_le_mul h2 g2
theorem WN.add {m n : Nat} {p q : Rat} (h : WN m p) (g : WN n q) : WN (m + n) (p + q) := by
  obtain ⟨z, h1, h2⟩ := h
  obtain ⟨y, g1, g2⟩ := g
  refine ⟨z + y, ?_, by omega⟩
  rw [Rat.intCast_add, ← h1, ← g1]
  grind
theorem WN.neg {m : Nat} {p : Rat} (h : WN m p) : WN m (-p) := by
  obtain ⟨z, h1, h2⟩ := h
  refine ⟨-z, ?_, by omega⟩
  rw [Rat.intCast_neg, ← h1]
  grind
theorem WN.mono {m n : Nat} {p : Rat} (h : WN m p) (hn : m ≤ n) : WN n p := by
  obtain ⟨z, h1, h2⟩ := h
  exact ⟨z, h1, by omega⟩
theorem WN.zero (n : Nat) : WN n 0 := ⟨0, by grind, by simp⟩
theorem W6.zero (n : Nat) : W6 n 0 := ⟨0, by grind, by simp⟩
theorem W6.mono {m n : Nat} {p : Rat} (h : W6 m p) (hn : m ≤ n) : W6 n p := by
  obtain ⟨z, h1, h2⟩ := h
  exact ⟨z, h1, by omega⟩
theorem WN.dot {m n : Nat} : ∀ (xs ys : List Rat), (∀ z ∈ xs, W6 m z) → (∀ z ∈ ys, W6 n z) → WN (m * n * xs.length) (dotL xs ys)
  | [], ys, _, _ => WN.zero _
  | _ :: _, [], _, _ => WN.zero _
  | x :: xs, y :: ys, h1, h2 => by
    have ih := WN.dot xs ys (fun z hz => h1 z (List.mem_cons_of_mem _ hz)) (fun z hz => h2 z (List.mem_cons_of_mem _ hz))
    refine (((h1 x List.mem_cons_self).mul (h2 y List.mem_cons_self)).add ih).mono ?_
    rw [List.length_cons, Nat.mul_add]
    omega
theorem w6_frac {a : Int} {u n : Nat} (hu : u < 3) (ha : 6 * a.natAbs ≤ n) : W6 n (Rat.divInt a (1 + (u : Int))) := by
  have e : Rat.divInt a (1 + (u : Int)) = (a : Rat) / ((1 + (u : Int) : Int) : Rat) := Rat.divInt_eq_div _ _
  rw [e]
  have h : u = 0 ∨ u = 1 ∨ u = 2 := by omega
  rcases h with rfl | rfl | rfl
  · refine ⟨6 * a, ?_, by omega⟩
    rw [Rat.intCast_mul]
    have : (((1 + ((0 : Nat) : Int) : Int)) : Rat) = 1 := by rfl
    rw [this]
    grind
  · refine ⟨3 * a, ?_, by omega⟩
    rw [Rat.intCast_mul]
    have : (((1 + ((1 : Nat) : Int) : Int)) : Rat) = 2 := by rfl
    rw [this]
    grind
  · refine ⟨2 * a, ?_, by omega⟩
    rw [Rat.intCast_mul]
    have : (((1 + ((2 : Nat) : Int) : Int)) : Rat) = 3 := by rfl
    rw [this]
    grind
def IsNum (d : D) : Prop := ∃ p, d = rt p ∧ W6 24 p
def IsSize (d : D) : Prop := ∃ p, d = rt p ∧ W6 36 p ∧ 0 < p
section
variable {Φ : Nat → List D → M D} {δ : List (Option D)} {μ μ' μ'' : List MO} {d : D}
theorem x_addS {p q : Ex} {i k : Int} (h : evE Gv Φ p δ μ = some (.ok (.int i), μ')) (h2 : evE Gv Φ q δ μ' = some (.ok (.int k), μ'')) : evE Gv Φ (.bin .add p q) δ μ = some (.ok (.int (i + k)), μ'') := by
  simp only [evE, M.bind, h, h2, opB, addD]
theorem x_subS {p q : Ex} {i k : Int} (h : evE Gv Φ p δ μ = some (.ok (.int i), μ')) (h2 : evE Gv Φ q δ μ' = some (.ok (.int k), μ'')) : evE Gv Φ (.bin .sub p q) δ μ = some (.ok (.int (i - k)), μ'') := by
  simp only [evE, M.bind, h, h2, opB, subD]
theorem x_idxS {a i : Ex} {x : D} {ds : List D} {k : Nat} (ha : evE Gv Φ a δ μ = some (.ok x, μ')) (hi : evE Gv Φ i δ μ' = some (.ok (.int k), μ'')) (hx : seqOf μ'' x = some ds) (hk : ds[k]? = some d) : evE Gv Φ (.idx a i) δ μ = some (.ok d, μ'') := by
  simp only [evE, M.bind, ha, hi, hx, atI_nat hk]
end
theorem big_ge : (2147483648 : Nat) ≤ big := by
  unfold big
  exact Nat.le_trans (m := 2 ^ 31) (by decide) (Nat.pow_le_pow_right (by decide) (by decide))
theorem d_number (j : Nat) : Dr (R (j + 2) 36 [.ptr 1]) IsNum := by
  intro μ ν hT
  obtain ⟨d1, μ1, ⟨v, hv, rfl⟩, T1, e1⟩ := d_draw j 9 (by decide) (by decide) μ ν hT
  obtain ⟨d2, μ2, ⟨u, hu, rfl⟩, T2, e2⟩ := d_draw j 3 (by decide) (by decide) μ1 ν T1
  refine ⟨rt (Rat.divInt ((v : Int) - 4) (1 + (u : Int))), μ2, ⟨_, rfl, w6_frac hu (by omega)⟩, T2, ?_⟩
  rw [R_eq (f := f36) rfl]
  refine run_cells rfl rfl (plain_rt _) (by rw [T2.len, hT.len]) ?_
  show exB Gv (R (j + 1)) (.cons _ .nil) [some (.ptr 1)] μ = _
  refine xB_rt (xS_ret ?_)
  have := big_ge
  refine (xE_call (xA_cons (x_subS ((xE_call (xA_cons (x_var rfl) (xA_cons (x_int 9) xA_nil))).trans e1) (x_int 4)) (xA_cons (x_addS (x_int 1) ((xE_call (xA_cons (x_var rfl) (xA_cons (x_int 3) xA_nil))).trans e2)) xA_nil))).trans ?_
  exact r_lfrac j μ2 _ _ (by omega) (by omega)
theorem d_size (j : Nat) : Dr (R (j + 2) 39 [.ptr 1]) IsSize := by
  intro μ ν hT
  obtain ⟨d1, μ1, ⟨v, hv, rfl⟩, T1, e1⟩ := d_draw j 6 (by decide) (by decide) μ ν hT
  obtain ⟨d2, μ2, ⟨u, hu, rfl⟩, T2, e2⟩ := d_draw j 3 (by decide) (by decide) μ1 ν T1
  refine ⟨rt (Rat.divInt (1 + (v : Int)) (1 + (u : Int))), μ2, ⟨_, rfl, w6_frac hu (by omega), ?_⟩, T2, ?_⟩
  · have e : Rat.divInt (1 + (v : Int)) (1 + (u : Int)) = ((1 + (v : Int) : Int) : Rat) / ((1 + (u : Int) : Int) : Rat) := Rat.divInt_eq_div _ _
    rw [e]
    have h1 : (0 : Rat) < ((1 + (v : Int) : Int) : Rat) := by exact_mod_cast (by omega : (0 : Int) < 1 + (v : Int))
    have h2 : (0 : Rat) < ((1 + (u : Int) : Int) : Rat) := by exact_mod_cast (by omega : (0 : Int) < 1 + (u : Int))
    rw [Rat.div_def]
    exact Rat.mul_pos h1 (Rat.inv_pos.mpr h2)
  · rw [R_eq (f := f39) rfl]
    refine run_cells rfl rfl (plain_rt _) (by rw [T2.len, hT.len]) ?_
    show exB Gv (R (j + 1)) (.cons _ .nil) [some (.ptr 1)] μ = _
    refine xB_rt (xS_ret ?_)
    have := big_ge
    refine (xE_call (xA_cons (x_addS (x_int 1) ((xE_call (xA_cons (x_var rfl) (xA_cons (x_int 6) xA_nil))).trans e1)) (xA_cons (x_addS (x_int 1) ((xE_call (xA_cons (x_var rfl) (xA_cons (x_int 3) xA_nil))).trans e2)) xA_nil))).trans ?_
    exact r_lfrac j μ2 _ _ (by omega) (by omega)
theorem d_pick (j : Nat) {ds : List D} (h0 : 0 < ds.length) (h1 : ds.length ≤ 1000) (hp : plains ds = true) : Dr (R (j + 2) 30 [.ptr 1, .lst ds]) fun d => d ∈ ds := by
  intro μ ν hT
  obtain ⟨d1, μ1, ⟨v, hv, rfl⟩, T1, e1⟩ := d_draw j ds.length h0 h1 μ ν hT
  have hx : ds[v]? = some ds[v] := List.getElem?_eq_getElem hv
  refine ⟨ds[v], μ1, List.getElem_mem hv, T1, ?_⟩
  rw [R_eq (f := f30) rfl]
  refine run_cells rfl rfl (plains_iff.mp hp _ (List.getElem_mem hv)) (by rw [T1.len, hT.len]) ?_
  show exB Gv (R (j + 1)) (.cons _ .nil) [some (.ptr 1), some (.lst ds)] μ = _
  refine xB_rt (xS_ret ?_)
  exact x_idxS (k := v) (x := .lst ds) (x_var rfl) ((xE_call (xA_cons (x_var rfl) (xA_cons (x_len (x := .lst ds) (x_var rfl) rfl) xA_nil))).trans e1) rfl hx
end K40
end
set_option maxHeartbeats 4000000
section
/-! Rows and tables from the tape; the tape itself. -/
namespace K40
open NB KM
theorem Dr.map {x : M D} {P Q : D → Prop} (h : Dr x P) (hq : ∀ d, P d → Q d) : Dr x Q := fun μ ν hT => by
  obtain ⟨d, μ', p, T, e⟩ := h μ ν hT
  exact ⟨d, μ', hq d p, T, e⟩
theorem Dr.compL {f : D → M (Option D)} {P : D → Prop} : ∀ {ds : List D}, (∀ d ∈ ds, ∀ μ ν, Tape μ ν → ∃ x μ', P x ∧ Tape μ' ν ∧ f d μ = some (.ok (some x), μ')) → ∀ μ ν, Tape μ ν → ∃ xs μ', xs.length = ds.length ∧ (∀ x ∈ xs, P x) ∧ Tape μ' ν ∧ NB.compL [] f ds μ = some (.ok xs, μ')
  | [], _, μ, ν, hT => ⟨[], μ, rfl, (fun _ h => nomatch h), hT, rfl⟩
  | d :: ds, h, μ, ν, hT => by
    obtain ⟨x, μ1, p, T1, e1⟩ := h d List.mem_cons_self μ ν hT
    obtain ⟨xs, μ2, l, ps, T2, e2⟩ := Dr.compL (ds := ds) (fun d hd => h d (List.mem_cons_of_mem _ hd)) μ1 ν T1
    refine ⟨x :: xs, μ2, by simp [l], fun y hy => ?_, T2, ?_⟩
    · rcases List.mem_cons.mp hy with rfl | hy
      · exact p
      · exact ps y hy
    · simp only [NB.compL, M.bind, M.calm, e1, NB.guard, srcOk, List.all_nil, if_true, e2]
      rfl
/-- lists of a kind -/
def LstOf (n : Nat) (P : D → Prop) (x : D) : Prop := ∃ ds, x = .lst ds ∧ ds.length = n ∧ ∀ d ∈ ds, P d
def TupOf (n : Nat) (P : D → Prop) (x : D) : Prop := ∃ ds, x = .tup ds ∧ ds.length = n ∧ ∀ d ∈ ds, P d
section
variable {Φ : Nat → List D → M D} {δ : List (Option D)} {P : D → Prop}
theorem Dr.comp {own : List Nat} {t : Tg} {i : It} {a : Ex} {items : List D} (hi : ∀ μ, evI Gv Φ i δ μ = some (.ok ⟨items, []⟩, μ)) (hl : items.length ≤ lim) (h : ∀ d ∈ items, ∃ δ1, bindT t d (wipeD δ own) = some δ1 ∧ Dr (evE Gv Φ a δ1) P) :
    Dr (evE Gv Φ (.comp false own t i .no a) δ) (LstOf items.length P) := by
  intro μ ν hT
  obtain ⟨xs, μ', l, ps, T, e⟩ := Dr.compL (f := fun d => match bindT t d (wipeD δ own) with
      | none => M.bad
      | some δ1 => M.bind (evT Gv Φ .no δ1) fun b => if b then M.bind (evE Gv Φ a δ1) fun x => M.ok (some x) else M.ok none) (P := P) (ds := items) (fun d hd μ ν hT => by
    obtain ⟨δ1, h1, h2⟩ := h d hd
    obtain ⟨x, μ', p, T, e⟩ := h2 μ ν hT
    refine ⟨x, μ', p, T, ?_⟩
    rw [h1]
    have e0 : evT Gv Φ .no δ1 μ = some (.ok true, μ) := by simp only [evT]; rfl
    simp only [M.bind, e0, if_true, e]
    rfl) μ ν hT
  refine ⟨.lst xs, μ', ⟨xs, rfl, l, ps⟩, T, ?_⟩
  simp only [evE, M.bind, hi, if_pos hl]
  erw [e]
  rfl
theorem Dr.tupl {a : Ex} {n : Nat} (h : Dr (evE Gv Φ a δ) (LstOf n P)) : Dr (evE Gv Φ (.tupl a) δ) (TupOf n P) := by
  intro μ ν hT
  obtain ⟨d, μ', ⟨ds, rfl, l, p⟩, T, e⟩ := h μ ν hT
  refine ⟨.tup ds, μ', ⟨ds, rfl, l, p⟩, T, ?_⟩
  simp only [evE, M.bind, e, seqOf]
theorem xI_rngA {a : Ex} {n : Nat} (h : ∀ μ, evE Gv Φ a δ μ = some (.ok (.int n), μ)) (hn : n ≤ 1000) (μ : List MO) : evI Gv Φ (.rng a) δ μ = some (.ok ⟨intsD 0 n, []⟩, μ) := xI_rng (h μ) (by omega)
theorem intsD_len : ∀ (lo : Int) (n : Nat), (intsD lo n).length = n
  | _, 0 => rfl
  | lo, n + 1 => by simp [intsD, intsD_len (lo + 1) n]
/-- a row of draws -/
theorem Dr.row {own : List Nat} {k : Nat} {a e : Ex} {n : Nat} (h : ∀ μ, evE Gv Φ a δ μ = some (.ok (.int n), μ)) (hn : n ≤ 1000) (hk : k < δ.length) (hd : ∀ d, Dr (evE Gv Φ e ((wipeD δ own).set k (some d))) P) (hw : (wipeD δ own).length = δ.length) :
    Dr (evE Gv Φ (.comp false own (.nm k) (.rng a) .no e) δ) (LstOf n P) := by
  have := Dr.comp (own := own) (t := .nm k) (i := .rng a) (a := e) (P := P) (xI_rngA h hn) (by rw [intsD_len]; exact Nat.le_trans hn (by decide)) (fun d _ => ⟨(wipeD δ own).set k (some d), by simp only [bindT, hw, if_pos hk], hd d⟩)
  rw [intsD_len] at this
  exact this
end
/-- rows of numbers -/
theorem nums_of {n : Nat} {ds : List D} (h : ds.length = n) (hp : ∀ d ∈ ds, IsNum d) : ∃ l : List Rat, ds = rts l ∧ l.length = n ∧ ∀ p ∈ l, W6 24 p := by
  subst h
  induction ds with
  | nil => exact ⟨[], rfl, rfl, fun _ h => nomatch h⟩
  | cons d ds ih =>
    obtain ⟨p, rfl, w⟩ := hp d List.mem_cons_self
    obtain ⟨l, rfl, hl, hw⟩ := ih fun d hd => hp d (List.mem_cons_of_mem _ hd)
    refine ⟨p :: l, rfl, by simp [hl], fun q hq => ?_⟩
    rcases List.mem_cons.mp hq with rfl | hq
    · exact w
    · exact hw q hq
theorem rows_of {m n : Nat} {ds : List D} (h : ds.length = m) (hp : ∀ d ∈ ds, TupOf n IsNum d) : ∃ A : List (List Rat), ds = A.map tupD ∧ A.length = m ∧ ∀ l ∈ A, l.length = n ∧ ∀ p ∈ l, W6 24 p := by
  subst h
  induction ds with
  | nil => exact ⟨[], rfl, rfl, fun _ h => nomatch h⟩
  | cons d ds ih =>
    obtain ⟨es, rfl, le, w⟩ := hp d List.mem_cons_self
    obtain ⟨l, rfl, l2, l3⟩ := nums_of le w
    obtain ⟨A, rfl, hl, hw⟩ := ih fun d hd => hp d (List.mem_cons_of_mem _ hd)
    refine ⟨l :: A, rfl, by rw [List.length_cons, List.length_cons, hl], fun q hq => ?_⟩
    rcases List.mem_cons.mp hq with rfl | hq
    · exact ⟨l2, l3⟩
    · exact hw q hq
theorem rowsL_of {m n : Nat} {ds : List D} (h : ds.length = m) (hp : ∀ d ∈ ds, LstOf n IsNum d) : ∃ A : List (List Rat), ds = A.map rowD ∧ A.length = m ∧ ∀ l ∈ A, l.length = n ∧ ∀ p ∈ l, W6 24 p := by
  subst h
  induction ds with
  | nil => exact ⟨[], rfl, rfl, fun _ h => nomatch h⟩
  | cons d ds ih =>
    obtain ⟨es, rfl, le, w⟩ := hp d List.mem_cons_self
    obtain ⟨l, rfl, l2, l3⟩ := nums_of le w
    obtain ⟨A, rfl, hl, hw⟩ := ih fun d hd => hp d (List.mem_cons_of_mem _ hd)
    refine ⟨l :: A, rfl, by rw [List.length_cons, List.length_cons, hl], fun q hq => ?_⟩
    rcases List.mem_cons.mp hq with rfl | hq
    · exact ⟨l2, l3⟩
    · exact hw q hq
/-! ### the tape -/
theorem x_abs {Φ : Nat → List D → M D} {δ : List (Option D)} {μ : List MO} {a : Ex} {i : Int} (h : evE Gv Φ a δ μ = some (.ok (.int i), μ)) : evE Gv Φ (.abs a) δ μ = some (.ok (.int (i.natAbs : Int)), μ) := by
  have e : (if i < 0 then -i else i) = (i.natAbs : Int) := by split <;> omega
  simp only [evE, M.bind, h, e]
  rfl
theorem r28_loop (Φ : Nat → List D → M D) (μ : List MO) (src : List (Nat × MO)) (hs : srcOk src μ = true) (o0 : Option D) : ∀ (ns : List Int) (t : Nat) (o2 : Option D), t < 1000003 → ∃ (t' : Nat) (o2' : Option D), t' < 1000003 ∧
    forL src (.nm 2) (fun δ' => exB Gv Φ (.cons (.asg (.nm 1) (.bin .mod (.int_ (.bin .add (.bin .mul (.var 1) (.int 31)) (.var 2))) (.int 1000003))) .nil) δ') (ns.map D.int) [o0, some (.int t), o2] μ = some (.ok (.nx [o0, some (.int t'), o2']), μ)
  | [], t, o2, h => ⟨t, o2, h, rfl⟩
  | n :: ns, t, o2, h => by
    have hb : ((t : Int) * 31 + n).fmod 1000003 = ((((t : Int) * 31 + n).fmod 1000003).toNat : Int) := by
      have := Int.fmod_nonneg_of_pos ((t : Int) * 31 + n) (b := 1000003) (by decide)
      omega
    have hlt : (((t : Int) * 31 + n).fmod 1000003).toNat < 1000003 := by
      have := Int.fmod_lt_of_pos ((t : Int) * 31 + n) (b := 1000003) (by decide)
      omega
    obtain ⟨t', o2', h', ih⟩ := r28_loop Φ μ src hs o0 ns _ (some (.int n)) hlt
    refine ⟨t', o2', h', (forL_nx (δ1 := [o0, some (.int t), some (.int n)]) (δ2 := [o0, some (.int ((((t : Int) * 31 + n).fmod 1000003).toNat : Int)), some (.int n)]) (μ' := μ) rfl ?_ hs).trans ih⟩
    refine (xB_nx (μ' := μ) (xS_asg (d := .int ((((t : Int) * 31 + n).fmod 1000003).toNat : Int)) ?_ rfl)).trans xB_nil
    have o1 := okBig_nat (t := t) (by omega)
    have o2 : okBig 31 = true := okBig_nat (t := 31) (by decide)
    rw [← hb]
    simp only [evE, M.bind, M.ok]
    simp [M.ok, M.bind, opB, mulD, addD, modD, o1, o2]
theorem run_open {G : PySem.Str → Option D} {Φ : Nat → List D → M D} {f : Fn} {ds : List D} {d : D} {μ μ' : List MO} (hn : ds.length = f.np) (hz : f.frz = false)
    (h : exB G Φ f.body (ds.map some ++ List.replicate (f.nl - ds.length) none) μ = some (.ok (.rt d), μ')) : runFn G Φ f ds μ = some (.ok d, μ') := by
  unfold runFn
  rw [if_pos hn, h]
  simp only [hz, Bool.false_eq_true, if_false]
theorem r_tape (j : Nat) (ns : List Int) (hn : ns.length ≤ 63) : ∃ μ, Tape μ [] ∧ R (j + 1) 28 [.scr (ns.map D.int)] [] = some (.ok (.ptr 1), μ) := by
  obtain ⟨t', o2', ht, hl⟩ := r28_loop (R j) [] [] rfl (some (.scr (ns.map D.int))) ns 7 none (by decide)
  refine ⟨Tp (ns.map Int.natAbs) (t' + 1) [], ⟨_, _, by simpa using hn, by omega, rfl⟩, ?_⟩
  rw [R_eq (f := f28) rfl]
  have hb : exB Gv (R j) f28.body [some (.scr (ns.map D.int)), none, none] [] = some (.ok (.rt (.ptr 1)), Tp (ns.map Int.natAbs) (t' + 1) []) := by
    show exB Gv (R j) (.cons _ (.cons _ (.cons _ .nil))) _ [] = _
    refine (xB_nx (xS_asg (d := .int 7) (μ' := []) (x_int 7) rfl)).trans ?_
    refine (xB_nx (xS_for (xI_seq (d := .scr (ns.map D.int)) (ds := ns.map D.int) (x_var rfl) rfl) hl)).trans ?_
    refine xB_rt (xS_ret ?_)
    have hc : evE Gv (R j) (.comp true [2] (.nm 2) (.seq (.var 0)) .no (.abs (.int_ (.var 2)))) [some (.scr (ns.map D.int)), some (.int t'), o2'] [] = some (.ok (.ptr 0), [.lst (natsD (ns.map Int.natAbs))]) := by
      have hf := compL_map (src := []) (μ := []) (f := fun d => match bindT (.nm 2) d (wipeD [some (.scr (ns.map D.int)), some (.int (t' : Int)), o2'] [2]) with
        | none => M.bad
        | some δ1 => M.bind (evT Gv (R j) .no δ1) fun b => if b then M.bind (evE Gv (R j) (.abs (.int_ (.var 2))) δ1) fun x => M.ok (some x) else M.ok none) (g := fun d => match d with
        | .int i => some (.int (i.natAbs : Int))
        | _ => none) (ds := ns.map D.int) rfl (fun d hd => by
        obtain ⟨i, _, rfl⟩ := List.mem_map.mp hd
        have e0 : evE Gv (R j) (.abs (.int_ (.var 2))) [some (.scr (ns.map D.int)), some (.int (t' : Int)), some (.int i)] [] = some (.ok (.int (i.natAbs : Int)), []) := x_abs (by simp [evE, M.bind, M.ok])
        simp [bindT, wipeD, evT, M.bind, M.ok, e0])
      have hl : (ns.map D.int).length ≤ lim := by rw [List.length_map]; exact Nat.le_trans hn (by decide)
      simp only [evE, evI, M.bind, List.getElem?_cons_zero, M.ok, seqOf, srcOf, if_pos hl, fresh]
      erw [hf]
      have e2 : (ns.map D.int).filterMap (fun d => match d with
        | .int i => some (D.int (i.natAbs : Int))
        | _ => none) = natsD (ns.map Int.natAbs) := by
        unfold natsD
        rw [List.filterMap_map, List.map_map, ← List.filterMap_eq_map]
        rfl
      rw [e2]
      rfl
    rw [evE]
    simp only [evA, M.bind, hc]
    simp [evE, M.bind, M.ok, opB, addD, fresh, Tp]
    rw [if_pos (by decide : 2 ≤ lim)]
    rfl
  exact run_open rfl rfl hb
end K40
end
set_option maxHeartbeats 4000000
section
/-! Barred equations. -/
namespace K40
open NB KM
section
variable {δ : List (Option D)} {P : D → Prop}
theorem d_num {j i : Nat} (h : δ[i]? = some (some (.ptr 1))) : Dr (evE Gv (R (j + 2)) (.call 36 (.cons (.var i) .nil)) δ) IsNum := by
  intro μ ν hT
  obtain ⟨d, μ', p, T, e⟩ := d_number j μ ν hT
  exact ⟨d, μ', p, T, (xE_call (xA_cons (x_var h) xA_nil)).trans e⟩
theorem d_siz {j i : Nat} (h : δ[i]? = some (some (.ptr 1))) : Dr (evE Gv (R (j + 2)) (.call 39 (.cons (.var i) .nil)) δ) IsSize := by
  intro μ ν hT
  obtain ⟨d, μ', p, T, e⟩ := d_size j μ ν hT
  exact ⟨d, μ', p, T, (xE_call (xA_cons (x_var h) xA_nil)).trans e⟩
theorem x_slc1 {Φ : Nat → List D → M D} {μ : List MO} {a : Ex} {p : Rat} {l : List Rat} (h : evE Gv Φ a δ μ = some (.ok (rowD (p :: l)), μ)) : evE Gv Φ (.slc a (.yes (.int 1)) .no) δ μ = some (.ok (rowD l), μ) := by
  have e : cutD (rts (p :: l)) (some 1) none = rts l := by
    have h1 : HT.sIx (rts (p :: l)).length 0 (some 1) = 1 := by
      simp [HT.sIx, rts]
    have h2 : HT.sIx (rts (p :: l)).length (rts (p :: l)).length none = (rts (p :: l)).length := rfl
    unfold cutD
    rw [h1, h2]
    simp only [rts, List.map_cons, List.length_cons, List.length_map, List.drop_succ_cons, List.drop_zero, Nat.add_sub_cancel]
    exact List.take_of_length_le (by simp)
  have e1 : evC Gv Φ (.yes (.int 1)) δ μ = some (.ok (some 1), μ) := by simp [evC, evE, M.bind, M.ok]
  have e2 : evC Gv Φ .no δ μ = some (.ok none, μ) := by simp [evC, M.ok]
  simp only [evE, M.bind, h, e1, e2, rowD, lstOf, e]
theorem x_addL {Φ : Nat → List D → M D} {μ μ' μ'' : List MO} {a b : Ex} {xs ys : List D} (h : evE Gv Φ a δ μ = some (.ok (.lst xs), μ')) (h2 : evE Gv Φ b δ μ' = some (.ok (.lst ys), μ'')) (hl : xs.length + ys.length ≤ 1000) : evE Gv Φ (.bin .add a b) δ μ = some (.ok (.lst (xs ++ ys)), μ'') := by
  have : xs.length + ys.length ≤ lim := Nat.le_trans hl (by decide)
  simp only [evE, M.bind, h, h2, opB, addD, lstOf, if_pos this]
theorem x_addT {Φ : Nat → List D → M D} {μ μ' μ'' : List MO} {a b : Ex} {xs ys : List D} (h : evE Gv Φ a δ μ = some (.ok (.tup xs), μ')) (h2 : evE Gv Φ b δ μ' = some (.ok (.tup ys), μ'')) (hl : xs.length + ys.length ≤ 1000) : evE Gv Φ (.bin .add a b) δ μ = some (.ok (.tup (xs ++ ys)), μ'') := by
  have : xs.length + ys.length ≤ lim := Nat.le_trans hl (by decide)
  simp only [evE, M.bind, h, h2, opB, addD, if_pos this]
theorem x_tupS {Φ : Nat → List D → M D} {μ μ' : List MO} {es : Exs} {ds : List D} (h : evA Gv Φ es δ μ = some (.ok ds, μ')) (hl : ds.length ≤ 1000) : evE Gv Φ (.tup es) δ μ = some (.ok (.tup ds), μ') := by
  have : ds.length ≤ lim := Nat.le_trans hl (by decide)
  simp only [evE, M.bind, h, if_pos this]
  rfl
theorem x_lstS {Φ : Nat → List D → M D} {μ μ' : List MO} {es : Exs} {ds : List D} (h : evA Gv Φ es δ μ = some (.ok ds, μ')) (hl : ds.length ≤ 1000) : evE Gv Φ (.lst false es) δ μ = some (.ok (.lst ds), μ') := by
  have : ds.length ≤ lim := Nat.le_trans hl (by decide)
  simp only [evE, M.bind, h, if_pos this]
  rfl
theorem x_tuplS {Φ : Nat → List D → M D} {μ μ' : List MO} {a : Ex} {x : D} {ds : List D} (h : evE Gv Φ a δ μ = some (.ok x, μ')) (hx : seqOf μ' x = some ds) : evE Gv Φ (.tupl a) δ μ = some (.ok (.tup ds), μ') := by
  simp only [evE, M.bind, h, hx]
theorem x_one {Φ : Nat → List D → M D} {μ : List MO} : evE Gv Φ (.tup (.cons (.int 1) (.cons (.int 1) .nil))) δ μ = some (.ok (rt 1), μ) := x_tupS (xA_cons (x_int 1) (xA_cons (x_int 1) xA_nil)) (by decide)
end
theorem W6.sz {n : Nat} {p : Rat} (h : W6 n p) (hn : n ≤ 100) : Sz 14 p := (h.wn.w36 (by omega)).sz
theorem belowM_tape {cs : List Nat} {t : Nat} {ν : List MO} {n : Nat} (hn : 0 < n) : ((Tp cs t ν).take 2).all (belowM n) = true := by
  have h : ∀ cs : List Nat, belows n (natsD cs) = true := fun cs => by
    induction cs with
    | nil => rfl
    | cons c cs ih => exact ih
  simp [Tp, belowM, h cs, belows, below, hn]
/-- a def that makes cells of its own, and changes others -/
theorem run_shed {G : PySem.Str → Option D} {Φ : Nat → List D → M D} {f : Fn} {ds : List D} {d : D} {μ μ' : List MO} (hn : ds.length = f.np) (hz : f.frz = true) (hd : plain d = true) (hl : (μ'.take μ.length).all (belowM μ.length) = true) (hg : μ.length < μ'.length)
    (h : exB G Φ f.body (ds.map some ++ List.replicate (f.nl - ds.length) none) μ = some (.ok (.rt d), μ')) : runFn G Φ f ds μ = some (.ok d, μ'.take μ.length) := by
  unfold runFn
  rw [if_pos hn, h]
  simp only [hz, if_true, frz_plain μ' μ.length d hd, back]
  rw [if_neg (by omega)]
  by_cases e : μ'.take μ.length = μ
  · rw [if_pos e, e]
  · rw [if_neg e, if_pos hl]
end K40
end
set_option maxHeartbeats 4000000
section
namespace K40
open NB KM
theorem x_app2 {Φ : Nat → List D → M D} {δ : List (Option D)} {i : Nat} {e : Ex} {μ μ' : List MO} {fs : List Rat} {q : Rat} (hi : δ[i]? = some (some (.ptr 2))) (hT : Tape μ [.lst (rts fs)]) (hT' : Tape μ' [.lst (rts fs)]) (hl : fs.length ≤ 1000) (h : evE Gv Φ e δ μ = some (.ok (rt q), μ')) :
    ∃ μ'', Tape μ'' [.lst (rts (fs ++ [q]))] ∧ evE Gv Φ (.app (.var i) e) δ μ = some (.ok .non, μ'') := by
  obtain ⟨cs, t, h1, h2, rfl⟩ := hT
  obtain ⟨cs', t', h1', h2', rfl⟩ := hT'
  refine ⟨Tp cs' t' [.lst (rts (fs ++ [q]))], ⟨cs', t', h1', h2', rfl⟩, ?_⟩
  have hx : evE Gv Φ (.var i) δ (Tp cs t [.lst (rts fs)]) = some (.ok (.ptr 2), Tp cs t [.lst (rts fs)]) := x_var hi
  have hll : (rts fs).length ≤ lim := by simp only [rts, List.length_map]; exact Nat.le_trans hl (by decide)
  have ha : appD (.ptr 2) (rt q) (Tp cs' t' [.lst (rts fs)]) = some (.ok .non, Tp cs' t' [.lst (rts (fs ++ [q]))]) := by
    have e1 : rts (fs ++ [q]) = rts fs ++ [rt q] := by simp [rts]
    rw [e1]
    show (if (rts fs).length ≤ lim then _ else _) = _
    rw [if_pos hll]
    rfl
  have hil : isLst (Tp cs t [.lst (rts fs)]) (.ptr 2) = true := rfl
  simp only [evE, M.bind] at hx ⊢
  rw [hx]
  show (if isLst (Tp cs t [.lst (rts fs)]) (.ptr 2) = true then _ else _) = _
  rw [if_pos hil, h]
  exact ha
theorem rt_nat {v : Nat} (h : v < 3) : (.tup [.int (v : Int), .int 1] : D) = rt (v : Rat) := by
  have : v = 0 ∨ v = 1 ∨ v = 2 := by omega
  rcases this with rfl | rfl | rfl <;> rfl
theorem x_colK {Φ : Nat → List D → M D} {δ : List (Option D)} {μ : List MO} {k own : Nat} {a b : Ex} {A : List (List Rat)} (ha : evE Gv Φ a δ μ = some (.ok (.lst (A.map rowD)), μ)) (hb : ∀ d, evE Gv Φ b ((wipeD δ [own]).set own d) μ = some (.ok (.int (k : Int)), μ)) (ho : own < δ.length) (hl : A.length ≤ 1000) (hA : ∀ l ∈ A, k < l.length) :
    evE Gv Φ (.comp false [own] (.nm own) (.seq a) .no (.idx (.var own) b)) δ μ = some (.ok (rowD (colL A k)), μ) := by
  have hw : (wipeD δ [own]).length = δ.length := by simp [wipeD]
  refine (xE_comp1 (g := fun d => match d with
    | .lst ds => ds.getD k .non
    | _ => .non) (xI_seq (d := .lst (A.map rowD)) ha rfl) rfl ?_ fun d hd => ?_).trans ?_
  · show (A.map rowD).length ≤ lim
    rw [List.length_map]
    exact Nat.le_trans hl (by decide)
  · obtain ⟨l, hm, rfl⟩ := List.mem_map.mp hd
    refine ⟨(wipeD δ [own]).set own (some (rowD l)), by simp only [bindT, hw, if_pos ho], ?_⟩
    have hkl := hA l hm
    refine x_idx (k := k) (x := rowD l) (x_var (by rw [List.getElem?_set_self (by rw [hw]; exact ho)])) (hb _) rfl ?_
    rw [rts_get hkl]
    simp [rowD, List.getD_eq_getElem?_getD, rts_get hkl]
  · show some (Except.ok (D.lst ((A.map rowD).map _)), μ) = some (Except.ok (D.lst (rts (colL A k))), μ)
    unfold rts colL
    rw [List.map_map, List.map_map]
    congr 4
    refine List.map_congr_left fun l hm => ?_
    have hkl := hA l hm
    show (rts l).getD k .non = rt (l.getD k 0)
    rw [List.getD_eq_getElem?_getD, rts_get hkl]
    rfl
end K40
end
set_option maxHeartbeats 4000000
section
namespace K40
open NB KM
def b45 : Sxs := (.cons (.expr (.app (.var 8) (.call 33 (.cons (.tup (.cons (.call 29 (.cons (.var 0) (.cons (.int 3) .nil))) (.cons (.int 1) .nil))) (.cons (.call 35 (.cons (.call 37 (.cons (.slc (.var 4) (.yes (.int 1)) .no) (.cons (.comp false [9] (.nm 9) (.seq (.var 6)) .no (.idx (.var 9) (.var 3))) .nil))) .nil)) .nil))))) .nil)
def FirstOk (ml : List Rat) (A : List (List Rat)) (fs : List Rat) : Prop := ∀ i, i < fs.length → ∃ v : Nat, v < 3 ∧ fs.getD i 0 = (v : Rat) + -(dotL ml (colL A i))
theorem colL_w6 {A : List (List Rat)} {k n : Nat} (hA : ∀ l ∈ A, ∀ p ∈ l, W6 n p) : ∀ p ∈ colL A k, W6 n p := by
  intro p hp
  obtain ⟨l, hl, rfl⟩ := List.mem_map.mp hp
  by_cases h : k < l.length
  · exact hA l hl _ (getD_mem h)
  · rw [getD_out (by omega)]
    exact .zero n
theorem r45_loop (j : Nat) (o1 o2 o5 o7 : Option D) (ml : List Rat) (A : List (List Rat)) (w : Nat) (hw : w ≤ 900) (hA : ∀ l ∈ A, l.length = w ∧ ∀ p ∈ l, W6 24 p) (hm : ∀ p ∈ ml, W6 24 p) (hml : ml.length ≤ 200) (hAl : A.length ≤ 200) :
    ∀ (n lo : Nat) (fs : List Rat) (μ : List MO) (s3 s9 : Option D), lo + n = w → fs.length = lo → FirstOk ml A fs → Tape μ [.lst (rts fs)] → ∃ fs' μ' s3' s9', fs'.length = w ∧ FirstOk ml A fs' ∧ Tape μ' [.lst (rts fs')] ∧
      forL [] (.nm 3) (fun δ' => exB Gv (R (j + 4)) b45 δ') (intsD lo n) [some (.ptr 1), o1, o2, s3, some (rowD (1 :: ml)), o5, some (.lst (A.map rowD)), o7, some (.ptr 2), s9, none] μ = some (.ok (.nx [some (.ptr 1), o1, o2, s3', some (rowD (1 :: ml)), o5, some (.lst (A.map rowD)), o7, some (.ptr 2), s9', none]), μ')
  | 0, lo, fs, μ, s3, s9, h1, h2, h3, hT => ⟨fs, μ, s3, s9, by omega, h3, hT, rfl⟩
  | n + 1, lo, fs, μ, s3, s9, h1, h2, h3, hT => by
    obtain ⟨d1, μ1, ⟨v, hv, rfl⟩, T1, e1⟩ := d_draw (j + 3) 3 (by decide) (by decide) μ _ hT
    have hcol : ∀ p ∈ colL A lo, W6 24 p := colL_w6 fun l hl => (hA l hl).2
    have hz : Sz 7000 (dotL ml (colL A lo)) := by
      refine (dotL_sz (a := 14) (b := 14) ml (colL A lo) (fun z hz => (hm z hz).sz (by decide)) fun z hz => (hcol z hz).sz (by decide)).mono ?_
      have : (14 + 14 + 1) * ml.length ≤ 29 * 200 := Nat.mul_le_mul (by omega) hml
      omega
    have hsv : Sz 14 (v : Rat) := by
      have : v = 0 ∨ v = 1 ∨ v = 2 := by omega
      rcases this with rfl | rfl | rfl <;> exact ⟨by decide, by decide⟩
    have ha : evE Gv (R (j + 4)) (.call 33 (.cons (.tup (.cons (.call 29 (.cons (.var 0) (.cons (.int 3) .nil))) (.cons (.int 1) .nil))) (.cons (.call 35 (.cons (.call 37 (.cons (.slc (.var 4) (.yes (.int 1)) .no) (.cons (.comp false [9] (.nm 9) (.seq (.var 6)) .no (.idx (.var 9) (.var 3))) .nil))) .nil)) .nil)))
        [some (.ptr 1), o1, o2, some (.int (lo : Int)), some (rowD (1 :: ml)), o5, some (.lst (A.map rowD)), o7, some (.ptr 2), s9, none] μ = some (.ok (rt ((v : Rat) + -(dotL ml (colL A lo)))), μ1) := by
      refine (xE_call (xA_cons (x_tupS (xA_cons ((xE_call (xA_cons (x_var rfl) (xA_cons (x_int 3) xA_nil))).trans e1) (xA_cons (x_int 1) xA_nil)) (by decide : 2 ≤ 1000)) (xA_cons ((xE_call (xA_cons ((xE_call (xA_cons (x_slc1 (x_var rfl)) (xA_cons (x_colK (A := A) (k := lo) (x_var rfl) (fun d => x_var rfl) (by show 9 < 11; omega) (by omega) fun l hl => by rw [(hA l hl).1]; omega) xA_nil))).trans (r_ldot (j + 1) μ1 (a := 14) (b := 14) (x := rowD ml) (y := rowD (colL A lo)) rfl rfl (fun z hz => (hm z hz).sz (by decide)) (fun z hz => (hcol z hz).sz (by decide)) ?_)) xA_nil)).trans (r_lminus (j + 3) μ1 _)) xA_nil))).trans ?_
      · have : (14 + 14 + 1) * ml.length ≤ 29 * 200 := Nat.mul_le_mul (by omega) hml
        omega
      · rw [rt_nat hv]
        exact r_lplus (j + 2) μ1 _ _ hsv hz.neg (by decide)
    obtain ⟨μ2, T2, e2⟩ := x_app2 (i := 8) rfl hT T1 (by omega) ha
    have hF : FirstOk ml A (fs ++ [(v : Rat) + -(dotL ml (colL A lo))]) := by
      intro i hi
      rw [List.length_append, List.length_singleton] at hi
      by_cases q : i < fs.length
      · obtain ⟨u, hu, e⟩ := h3 i q
        refine ⟨u, hu, ?_⟩
        rw [← e]
        simp [List.getD_eq_getElem?_getD, List.getElem?_append_left q]
      · have : i = lo := by omega
        subst this
        refine ⟨v, hv, ?_⟩
        rw [List.getD_eq_getElem?_getD, List.getElem?_append_right (by omega), ← h2]
        simp
    obtain ⟨fs', μ', s3', s9', l1, l2, l3, ih⟩ := r45_loop j o1 o2 o5 o7 ml A w hw hA hm hml hAl n (lo + 1) (fs ++ [(v : Rat) + -(dotL ml (colL A lo))]) μ2 (some (.int (lo : Int))) s9 (by omega) (by simp [h2]) hF T2
    refine ⟨fs', μ', s3', s9', l1, l2, l3, (forL_nx (δ1 := [some (.ptr 1), o1, o2, some (.int (lo : Int)), some (rowD (1 :: ml)), o5, some (.lst (A.map rowD)), o7, some (.ptr 2), s9, none]) (δ2 := [some (.ptr 1), o1, o2, some (.int (lo : Int)), some (rowD (1 :: ml)), o5, some (.lst (A.map rowD)), o7, some (.ptr 2), s9, none]) (μ' := μ2) rfl ?_ rfl).trans ih⟩
    exact (xB_nx (xS_expr e2)).trans xB_nil
end K40
end
set_option maxHeartbeats 4000000
section
namespace K40
open NB KM
/-- what _law_barred gives -/
structure Barred (c w : Nat) (A : List (List Rat)) (g y : List Rat) : Prop where
  len : A.length = c
  row : ∀ l ∈ A, l.length = w ∧ ∀ p ∈ l, WN 4000 p
  gol : g.length = c ∧ ∀ p ∈ g, WN 4000 p
  mul : y.length = c ∧ ∀ p ∈ y, W6 24 p
  bar : IsBar A g y
theorem Tape.take {μ ν : List MO} (h : Tape μ ν) : Tape (μ.take 2) [] := by
  obtain ⟨cs, t, h1, h2, rfl⟩ := h
  exact ⟨cs, t, h1, h2, rfl⟩
theorem Tape.app {μ : List MO} {m : MO} (h : Tape μ []) : Tape (μ ++ [m]) [m] := by
  obtain ⟨cs, t, h1, h2, rfl⟩ := h
  exact ⟨cs, t, h1, h2, rfl⟩
theorem barred_bar {c w : Nat} {ml gl fs : List Rat} {A : List (List Rat)} {s : Rat} (hc : A.length = c) (hg : gl.length = c) (hm : ml.length = c) (hf : fs.length = w) (hF : FirstOk ml A fs) (hs : 0 < s) : IsBar (fs :: A) ((-s + -(dotL ml gl)) :: gl) (1 :: ml) := by
  refine ⟨by simp [hc, hm], ?_, fun k hk => ?_⟩
  · show 1 * (-s + -(dotL ml gl)) + dotL ml gl < 0
    grind
  · have hk : k < fs.length := by simpa [widthOf] using hk
    obtain ⟨v, hv, e⟩ := hF k hk
    have e1 : colL (fs :: A) k = fs.getD k 0 :: colL A k := rfl
    rw [e1, e]
    show 0 ≤ 1 * ((v : Rat) + -(dotL ml (colL A k))) + dotL ml (colL A k)
    have : (0 : Rat) ≤ (v : Rat) := by exact_mod_cast Nat.zero_le v
    grind
theorem x_tupls {Φ : Nat → List D → M D} {δ : List (Option D)} {μ : List MO} {k : Nat} {a : Ex} {A : List (List Rat)} (ha : evE Gv Φ a δ μ = some (.ok (.lst (A.map rowD)), μ)) (hk : k < δ.length) (hl : A.length ≤ 1000) :
    evE Gv Φ (.tupl (.comp false [k] (.nm k) (.seq a) .no (.tupl (.var k)))) δ μ = some (.ok (matD A), μ) := by
  have hw : (wipeD δ [k]).length = δ.length := by simp [wipeD]
  have e := xE_comp1 (own := [k]) (t := .nm k) (a := .tupl (.var k)) (g := fun d => match d with
    | .lst ds => .tup ds
    | _ => .non) (xI_seq (d := .lst (A.map rowD)) ha rfl) rfl (by
      show (A.map rowD).length ≤ lim
      rw [List.length_map]
      exact Nat.le_trans hl (by decide)) (fun d hd => by
    obtain ⟨l, hm, rfl⟩ := List.mem_map.mp hd
    exact ⟨(wipeD δ [k]).set k (some (rowD l)), by simp only [bindT, hw, if_pos hk], x_tuplS (x := rowD l) (x_var (by rw [List.getElem?_set_self (by rw [hw]; exact hk)])) rfl⟩)
  refine (x_tuplS e rfl).trans ?_
  show some (Except.ok (D.tup ((A.map rowD).map _)), μ) = some (Except.ok (D.tup (A.map tupD)), μ)
  rw [List.map_map]
  rfl
theorem x_newL {Φ : Nat → List D → M D} {δ : List (Option D)} {μ : List MO} : evE Gv Φ (.lst true .nil) δ μ = some (.ok (.ptr μ.length), μ ++ [.lst []]) := by
  have h : evA Gv Φ .nil δ μ = some (.ok [], μ) := xA_nil
  have hl : ([] : List D).length ≤ lim := Nat.zero_le _
  simp only [evE, M.bind, h, if_pos hl, fresh, if_true]
theorem d_barred (j c w : Nat) (hc : c ≤ 5) (hw : w ≤ 9) (μ : List MO) (hT : Tape μ []) : ∃ A g y μ', Barred (c + 1) w A g y ∧ Tape μ' [] ∧ R (j + 5) 45 [.ptr 1, .int ((c + 1 : Nat) : Int), .int (w : Int)] μ = some (.ok (.tup [matD A, tupD g, tupD y]), μ') := by
  have hsub : ∀ (δ : List (Option D)) (h : δ[1]? = some (some (.int ((c + 1 : Nat) : Int)))) (μ : List MO), evE Gv (R (j + 4)) (.bin .sub (.var 1) (.int 1)) δ μ = some (.ok (.int (c : Int)), μ) := fun δ h μ => by
    have := x_subS (Φ := R (j + 4)) (x_var (μ := μ) h) (x_int (μ := μ) 1)
    rw [this]
    congr 4
    omega
  -- multiples
  obtain ⟨_, μ1, ⟨ds1, rfl, l1, p1⟩, T1, e1⟩ := (Dr.row (own := [3]) (k := 3) (a := .bin .sub (.var 1) (.int 1)) (e := .call 36 (.cons (.var 0) .nil)) (Φ := R (j + 4)) (P := IsNum) (δ := [some (.ptr 1), some (.int ((c + 1 : Nat) : Int)), some (.int (w : Int)), none, none, none, none, none, none, none, none]) (hsub _ rfl) (by omega) (by show 3 < 11; omega) (fun d => d_num (j := j + 2) rfl) rfl) μ [] hT
  obtain ⟨ml, rfl, ml1, ml2⟩ := nums_of l1 p1
  -- rest
  obtain ⟨_, μ2, ⟨ds2, rfl, l2, p2⟩, T2, e2⟩ := (Dr.row (own := [5]) (k := 5) (a := .bin .sub (.var 1) (.int 1)) (e := .comp false [3] (.nm 3) (.rng (.var 2)) .no (.call 36 (.cons (.var 0) .nil))) (Φ := R (j + 4)) (P := LstOf w IsNum) (δ := [some (.ptr 1), some (.int ((c + 1 : Nat) : Int)), some (.int (w : Int)), none, some (rowD (1 :: ml)), none, none, none, none, none, none]) (hsub _ rfl) (by omega) (by show 5 < 11; omega) (fun d => Dr.row (a := .var 2) (fun μ => x_var rfl) (by omega) (by show 3 < 11; omega) (fun d2 => d_num (j := j + 2) rfl) rfl) rfl) μ1 [] T1
  obtain ⟨A, rfl, A1, A2⟩ := rowsL_of l2 p2
  -- goals
  obtain ⟨_, μ3, ⟨ds3, rfl, l3, p3⟩, T3, e3⟩ := (Dr.row (own := [5]) (k := 5) (a := .bin .sub (.var 1) (.int 1)) (e := .call 36 (.cons (.var 0) .nil)) (Φ := R (j + 4)) (P := IsNum) (δ := [some (.ptr 1), some (.int ((c + 1 : Nat) : Int)), some (.int (w : Int)), none, some (rowD (1 :: ml)), none, some (.lst (A.map rowD)), none, none, none, none]) (hsub _ rfl) (by omega) (by show 5 < 11; omega) (fun d => d_num (j := j + 2) rfl) rfl) μ2 [] T2
  obtain ⟨gl, rfl, gl1, gl2⟩ := nums_of l3 p3
  -- first
  obtain ⟨fs, μ4, s3, s9, f1, f2, T4, e4⟩ := r45_loop j (some (.int ((c + 1 : Nat) : Int))) (some (.int (w : Int))) none (some (rowD gl)) ml A w (by omega) A2 ml2 (by omega) (by omega) w 0 [] (μ3 ++ [.lst (rts [])]) none none (by omega) rfl (fun i h => absurd h (Nat.not_lt_zero _)) T3.app
  -- low
  obtain ⟨_, μ5, ⟨s, rfl, hs1, hs2⟩, T5, e5⟩ := d_siz (j := j + 2) (i := 0) (δ := [some (.ptr 1), some (.int ((c + 1 : Nat) : Int)), some (.int (w : Int)), s3, some (rowD (1 :: ml)), none, some (.lst (A.map rowD)), some (rowD gl), some (.ptr 2), s9, none]) rfl μ4 _ T4
  have hwn : WN (24 * 24 * ml.length) (dotL ml gl) := WN.dot ml gl ml2 gl2
  have hwn2 : WN 3000 (dotL ml gl) := hwn.mono (by have : 24 * 24 * ml.length ≤ 24 * 24 * 5 := Nat.mul_le_mul (Nat.le_refl _) (by omega); omega)
  have hdz : Sz 14 (dotL ml gl) := (hwn2.w36 (by decide)).sz
  have hlow : WN 4000 (-s + -(dotL ml gl)) := (hs1.wn.neg.add hwn2.neg).mono (by decide)
  have hfst : ∀ p ∈ fs, WN 4000 p := fun p hp => by
    obtain ⟨i, hi, rfl⟩ := List.mem_iff_getElem.mp hp
    obtain ⟨v, hv, e⟩ := f2 i hi
    rw [List.getD_eq_getElem?_getD, List.getElem?_eq_getElem hi] at e
    have e : fs[i] = (v : Rat) + -(dotL ml (colL A i)) := e
    rw [e]
    have h1 : WN 72 (v : Rat) := by
      refine ⟨36 * (v : Int), ?_, by omega⟩
      rw [Rat.intCast_mul]
      rfl
    have h2 : WN (24 * 24 * ml.length) (dotL ml (colL A i)) := WN.dot ml _ ml2 (colL_w6 fun l hl => (A2 l hl).2)
    refine (h1.add h2.neg).mono ?_
    have : 24 * 24 * ml.length ≤ 24 * 24 * 5 := Nat.mul_le_mul (Nat.le_refl _) (by omega)
    omega
  refine ⟨fs :: A, (-s + -(dotL ml gl)) :: gl, 1 :: ml, μ5.take 2, ⟨by simp [A1], fun l hl => ?_, ⟨by simp [gl1], fun p hp => ?_⟩, ⟨by simp [ml1], fun p hp => ?_⟩, barred_bar A1 gl1 ml1 f1 f2 hs2⟩, T5.take, ?_⟩
  · rcases List.mem_cons.mp hl with rfl | hl
    · exact ⟨f1, hfst⟩
    · exact ⟨(A2 l hl).1, fun p hp => ((A2 l hl).2 p hp).wn.mono (by decide)⟩
  · rcases List.mem_cons.mp hp with rfl | hp
    · exact hlow
    · exact (gl2 p hp).wn.mono (by decide)
  · rcases List.mem_cons.mp hp with rfl | hp
    · exact ⟨6, by rw [Rat.mul_one]; rfl, by decide⟩
    · exact ml2 p hp
  have hl2 : μ.length = 2 := hT.len
  rw [R_eq (f := f45) rfl]
  have hpl : plain (.tup [matD (fs :: A), tupD ((-s + -(dotL ml gl)) :: gl), tupD (1 :: ml)]) = true := by
    refine plains_iff.mpr fun d hd => ?_
    rcases List.mem_cons.mp hd with rfl | hd
    · exact plains_iff.mpr fun d hd => by
        obtain ⟨l, _, rfl⟩ := List.mem_map.mp hd
        exact plain_tup l
    · rcases List.mem_cons.mp hd with rfl | hd
      · exact plain_tup _
      · rcases List.mem_cons.mp hd with rfl | hd
        · exact plain_tup _
        · cases hd
  have hgo := run_shed (G := Gv) (Φ := R (j + 4)) (f := f45) (ds := [.ptr 1, .int ((c + 1 : Nat) : Int), .int (w : Int)]) (d := .tup [matD (fs :: A), tupD ((-s + -(dotL ml gl)) :: gl), tupD (1 :: ml)]) (μ := μ) (μ' := μ5) rfl rfl hpl (by
    rw [hl2]
    obtain ⟨cs, t, _, _, rfl⟩ := T5
    exact belowM_tape (by decide)) (by rw [T5.len, hl2]; show 2 < 1 + 2; decide) (by
    show exB Gv (R (j + 4)) (.cons _ (.cons _ (.cons _ (.cons _ (.cons _ (.cons _ (.cons _ .nil))))))) [some (.ptr 1), some (.int ((c + 1 : Nat) : Int)), some (.int (w : Int)), none, none, none, none, none, none, none, none] μ = _
    have hlml : ml.length ≤ 100 := by omega
    refine (xB_nx (xS_asg (x_addL (xs := [rt 1]) (ys := rts ml) (x_lstS (xA_cons x_one xA_nil) (by decide)) e1 (by simp [rts]; omega)) rfl)).trans ?_
    refine (xB_nx (xS_asg e2 rfl)).trans ?_
    refine (xB_nx (xS_asg e3 rfl)).trans ?_
    refine (xB_nx (xS_asg (d := .ptr 2) (μ' := μ3 ++ [.lst (rts [])]) (by
      have := x_newL (Φ := R (j + 4)) (δ := [some (.ptr 1), some (.int ((c + 1 : Nat) : Int)), some (.int (w : Int)), none, some (rowD (1 :: ml)), none, some (.lst (A.map rowD)), some (rowD gl), none, none, none]) (μ := μ3)
      rw [T3.len] at this
      exact this) rfl)).trans ?_
    refine (xB_nx (xS_for (xI_rng (n := w) (x_var rfl) (by omega)) e4)).trans ?_
    have hlow' : evE Gv (R (j + 4)) (.call 33 (.cons (.call 35 (.cons (.call 39 (.cons (.var 0) .nil)) .nil)) (.cons (.call 35 (.cons (.call 37 (.cons (.slc (.var 4) (.yes (.int 1)) .no) (.cons (.var 7) .nil))) .nil)) .nil))) [some (.ptr 1), some (.int ((c + 1 : Nat) : Int)), some (.int (w : Int)), s3, some (rowD (1 :: ml)), none, some (.lst (A.map rowD)), some (rowD gl), some (.ptr 2), s9, none] μ4 = some (.ok (rt (-s + -(dotL ml gl))), μ5) := by
      refine (xE_call (xA_cons ((xE_call (xA_cons e5 xA_nil)).trans (r_lminus (j + 3) μ5 _)) (xA_cons ((xE_call (xA_cons ((xE_call (xA_cons (x_slc1 (x_var rfl)) (xA_cons (x_var rfl) xA_nil))).trans (r_ldot (j + 1) μ5 (a := 14) (b := 14) (x := rowD ml) (y := rowD gl) rfl rfl (fun z hz => (ml2 z hz).sz (by decide)) (fun z hz => (gl2 z hz).sz (by decide)) ?_)) xA_nil)).trans (r_lminus (j + 3) μ5 _)) xA_nil))).trans ?_
      · have : (14 + 14 + 1) * ml.length ≤ 29 * 100 := Nat.mul_le_mul (by omega) hlml
        omega
      · exact r_lplus (j + 2) μ5 _ _ (hs1.sz (by decide)).neg hdz.neg (by decide)
    refine (xB_nx (xS_asg hlow' rfl)).trans ?_
    have q8 : seqOf μ5 (.ptr 2) = some (rts fs) := by
      obtain ⟨cs, t, _, _, rfl⟩ := T5
      rfl
    refine xB_rt (xS_ret ?_)
    refine x_tupS (xA_cons (x_addT (xs := [tupD fs]) (ys := A.map tupD) (x_tupS (xA_cons (x_tuplS (x := .ptr 2) (x_var rfl) q8) xA_nil) (by show 1 ≤ 1000; decide)) (x_tupls (x_var rfl) (by show 9 < 11; omega) (by omega)) (by simp; omega)) (xA_cons (x_addT (xs := [rt (-s + -(dotL ml gl))]) (ys := rts gl) (x_tupS (xA_cons (x_var rfl) xA_nil) (by show 1 ≤ 1000; decide)) (x_tuplS (x := rowD gl) (x_var rfl) rfl) (by simp [rts]; omega)) (xA_cons (x_tuplS (x := rowD (1 :: ml)) (x_var rfl) rfl) xA_nil))) (by show 3 ≤ 1000; decide))
  rw [hl2] at hgo
  exact hgo
end K40
end
set_option maxHeartbeats 4000000
section
namespace K40
open NB KM
theorem xS_exprE {Φ : Nat → List D → M D} {δ : List (Option D)} {μ μ' : List MO} {a : Ex} {x : PySem.Str} (h : evE Gv Φ a δ μ = some (.error x, μ')) : exS Gv Φ (.expr a) δ μ = some (.error x, μ') := by
  simp only [exS, M.bind, h]
theorem r_refused {j : Nat} {μ : List MO} {x y : D} (h : R (j + 3) 10 [x, y] μ = some (.error "BadTable", μ)) : R (j + 5) 46 [x, y] μ = some (.ok (.bl true), μ) := by
  have e24 : R (j + 4) 24 [x, y] μ = some (.error "BadTable", μ) := by
    rw [R_eq (f := f24) rfl]
    refine run_err rfl ?_
    show exB Gv (R (j + 3)) (.cons _ (.cons _ (.cons _ (.cons _ .nil)))) [some x, some y, none, none] μ = _
    exact xB_er (xS_exprE ((xE_call (xA_cons (x_var rfl) (xA_cons (x_var rfl) xA_nil))).trans h))
  rw [R_eq (f := f46) rfl]
  refine run_pure rfl rfl rfl ?_
  show exB Gv (R (j + 4)) (.cons _ (.cons _ .nil)) [some x, some y] μ = _
  refine xB_rt ?_
  have hb : exB Gv (R (j + 4)) (.cons (.expr (.call 24 (.cons (.var 0) (.cons (.var 1) .nil)))) .nil) [some x, some y] μ = some (.error "BadTable", μ) := xB_er (xS_exprE ((xE_call (xA_cons (x_var rfl) (xA_cons (x_var rfl) xA_nil))).trans e24))
  have hh : exB Gv (R (j + 4)) (.cons (.ret (.bl true)) .nil) [none, none] μ = some (.ok (.rt (.bl true)), μ) := xB_rt (xS_ret (by simp only [evE]; rfl))
  simp only [exS, hb]
  rw [if_pos trivial]
  exact hh
/-- _law_same of truth values -/
theorem r_same_bl (j : Nat) (μ : List MO) (b : Bool) : R (j + 1) 31 [.bl b, .bl b] μ = some (.ok (.bl true), μ) := by
  rw [R_eq (f := f31) rfl]
  refine run_pure rfl rfl rfl ?_
  show exB Gv (R j) (.cons _ (.cons _ _)) [some (.bl b), some (.bl b), none] μ = _
  cases b <;> simp [exB, exS, evE, M.bind, M.ok, opC, isD, asBl, isT, eqD, open1, flat, peq]
end K40
end
set_option maxHeartbeats 4000000
section
namespace K40
open NB KM
theorem r_same_int (j : Nat) (μ : List MO) (b : Int) : R (j + 1) 31 [.int b, .int b] μ = some (.ok (.bl true), μ) := by
  rw [R_eq (f := f31) rfl]
  refine run_pure rfl rfl rfl ?_
  show exB Gv (R j) (.cons _ (.cons _ _)) [some (.int b), some (.int b), none] μ = _
  simp [exB, exS, evE, M.bind, M.ok, opC, isD, asBl, isT, eqD, open1, flat, peq]
theorem r_same_rt (j : Nat) (μ : List MO) (p : Rat) : R (j + 2) 31 [rt p, rt p] μ = some (.ok (.bl true), μ) := by
  rw [R_eq (f := f31) rfl]
  refine run_pure rfl rfl rfl ?_
  show exB Gv (R (j + 1)) (.cons _ (.cons _ (.cons _ _))) [some (rt p), some (rt p), none] μ = _
  have h1 : evE Gv (R (j + 1)) (.cmp .is_ (.var 1) .non) [some (rt p), some (rt p), none] μ = some (.ok (.bl false), μ) := by
    simp [evE, M.bind, M.ok, opC, isD, rt]
  refine (xB_nx (xS_iteF h1 (xB_nil (G := Gv)))).trans ?_
  refine (xB_nx (xS_iteF (x_isi (x_var rfl) rfl) (xB_nil (G := Gv)))).trans ?_
  refine xB_rt (xS_iteT (x_isi (x_var rfl) rfl) ?_)
  have hlen := x_neI (Φ := R (j + 1)) (δ := [some (rt p), some (rt p), none]) (μ := μ) (a := .len (.var 0)) (c := .len (.var 1)) (x_len (x_var (d := rt p) rfl) (ds := [.int p.num, .int p.den]) rfl) (x_len (x_var (d := rt p) rfl) (ds := [.int p.num, .int p.den]) rfl)
  refine (xB_nx (xS_iteF (x_or (x_not (x_isi (t := .tup) (c := true) (x_var (d := rt p) rfl) rfl)) fun _ => hlen) (xB_nil (G := Gv)))).trans ?_
  refine xB_rt (xS_ret ?_)
  have hl : evE Gv (R (j + 1)) (.len (.var 1)) [some (rt p), some (rt p), none] μ = some (.ok (.int ((2 : Nat) : Int)), μ) := x_len (x_var (d := rt p) rfl) (ds := [.int p.num, .int p.den]) rfl
  exact x_all (B := fun _ => true) (own := [2]) (t := .nm 2) (xI_rng hl (by decide)) rfl (by decide) fun d hd => by
    have hd : d = .int ((0 : Nat) : Int) ∨ d = .int ((1 : Nat) : Int) := by
      rcases List.mem_cons.mp hd with rfl | hd
      · exact .inl rfl
      · rcases List.mem_cons.mp hd with rfl | hd
        · exact .inr rfl
        · cases hd
    rcases hd with rfl | rfl
    · exact ⟨[some (rt p), some (rt p), some (.int ((0 : Nat) : Int))], rfl, (xE_call (xA_cons (x_idx (k := 0) (d := .int p.num) (x_var (d := rt p) rfl) (x_var rfl) rfl rfl) (xA_cons (x_idx (k := 0) (d := .int p.num) (x_var (d := rt p) rfl) (x_var rfl) rfl rfl) xA_nil))).trans (r_same_int j μ _)⟩
    · exact ⟨[some (rt p), some (rt p), some (.int ((1 : Nat) : Int))], rfl, (xE_call (xA_cons (x_idx (k := 1) (d := .int p.den) (x_var (d := rt p) rfl) (x_var rfl) rfl rfl) (xA_cons (x_idx (k := 1) (d := .int p.den) (x_var (d := rt p) rfl) (x_var rfl) rfl rfl) xA_nil))).trans (r_same_int j μ _)⟩
end K40
end
set_option maxHeartbeats 4000000
section
/-! Steps of law. -/
namespace K40
open NB KM
theorem wipe1 (δ : List (Option D)) (k i : Nat) (h : i ≠ k) (d : Option D) : ((wipeD δ [k]).set k d)[i]? = δ[i]? := by
  simp only [wipeD, List.set_set]
  rw [List.getElem?_set_ne (by omega)]
theorem d_rowN {δ : List (Option D)} {j n : Nat} {a : Ex} (h : ∀ μ, evE Gv (R (j + 2)) a δ μ = some (.ok (.int (n : Int)), μ)) (hn : n ≤ 1000) (hk : 5 < δ.length) (h1 : δ[1]? = some (some (.ptr 1))) :
    Dr (evE Gv (R (j + 2)) (.tupl (.comp false [5] (.nm 5) (.rng a) .no (.call 36 (.cons (.var 1) .nil)))) δ) (fun x => ∃ l : List Rat, x = tupD l ∧ l.length = n ∧ ∀ p ∈ l, W6 24 p) := by
  refine (Dr.tupl (Dr.row (P := IsNum) h hn hk (fun d => d_num (j := j) (by rw [wipe1 _ _ _ (by decide)]; exact h1)) (by simp [wipeD]))).map ?_
  rintro d ⟨ds, rfl, l, p⟩
  obtain ⟨r, rfl, r1, r2⟩ := nums_of l p
  exact ⟨r, rfl, r1, r2⟩
theorem d_rows {δ : List (Option D)} {j m n : Nat} (hm : δ[2]? = some (some (.int (m : Int)))) (hn : δ[3]? = some (some (.int (n : Int)))) (m1 : m ≤ 1000) (n1 : n ≤ 1000) (hk : 5 < δ.length) (h1 : δ[1]? = some (some (.ptr 1))) :
    Dr (evE Gv (R (j + 2)) (.tupl (.comp false [4] (.nm 4) (.rng (.var 2)) .no (.tupl (.comp false [5] (.nm 5) (.rng (.var 3)) .no (.call 36 (.cons (.var 1) .nil)))))) δ) (fun x => ∃ A : List (List Rat), x = matD A ∧ A.length = m ∧ ∀ l ∈ A, l.length = n ∧ ∀ p ∈ l, W6 24 p) := by
  refine (Dr.tupl (Dr.row (P := TupOf n IsNum) (fun μ => x_var hm) m1 (by omega) (fun d => ?_) (by simp [wipeD]))).map ?_
  · refine Dr.tupl (Dr.row (P := IsNum) (fun μ => x_var (by rw [wipe1 _ _ _ (by decide)]; exact hn)) n1 (by simp [wipeD]; omega) (fun d2 => d_num (j := j) (by rw [wipe1 _ _ _ (by decide), wipe1 _ _ _ (by decide)]; exact h1)) (by simp [wipeD]))
  · rintro d ⟨ds, rfl, l, p⟩
    obtain ⟨A, rfl, r1, r2⟩ := rows_of l p
    exact ⟨A, rfl, r1, r2⟩
def IsPos (d : D) : Prop := ∃ p, d = rt p ∧ W6 36 p ∧ 0 ≤ p
theorem d_numbers {δ : List (Option D)} {j n : Nat} (hn : δ[3]? = some (some (.int (n : Int)))) (n1 : n ≤ 1000) (hk : 5 < δ.length) (h1 : δ[1]? = some (some (.ptr 1))) :
    Dr (evE Gv (R (j + 2)) (.tupl (.comp false [5] (.nm 5) (.rng (.var 3)) .no (.call 30 (.cons (.var 1) (.cons (.lst false (.cons (.tup (.cons (.int 0) (.cons (.int 1) .nil))) (.cons (.call 39 (.cons (.var 1) .nil)) .nil))) .nil))))) δ) (fun x => ∃ l : List Rat, x = tupD l ∧ l.length = n ∧ ∀ p ∈ l, W6 36 p ∧ 0 ≤ p) := by
  refine (Dr.tupl (Dr.row (P := IsPos) (fun μ => x_var hn) n1 hk (fun d => ?_) (by simp [wipeD]))).map ?_
  · intro μ ν hT
    have h2 : ((wipeD δ [5]).set 5 (some d))[1]? = some (some (.ptr 1)) := by rw [wipe1 _ _ _ (by decide)]; exact h1
    obtain ⟨_, μ1, ⟨s, rfl, s1, s2⟩, T1, e1⟩ := d_siz (j := j) h2 μ ν hT
    obtain ⟨d2, μ2, hd, T2, e2⟩ := d_pick j (ds := [rt 0, rt s]) (by show 0 < 2; decide) (by show 2 ≤ 1000; decide) (by show (plain (rt 0) && (plain (rt s) && true)) = true; rw [plain_rt, plain_rt]; rfl) μ1 ν T1
    refine ⟨d2, μ2, ?_, T2, (xE_call (xA_cons (x_var h2) (xA_cons (x_lstS (xA_cons (x_tupS (xA_cons (x_int 0) (xA_cons (x_int 1) xA_nil)) (by decide)) (xA_cons e1 xA_nil)) (by show 2 ≤ 1000; decide)) xA_nil))).trans e2⟩
    rcases List.mem_cons.mp hd with rfl | hd
    · exact ⟨0, rfl, .zero _, by decide⟩
    · rcases List.mem_cons.mp hd with rfl | hd
      · exact ⟨s, rfl, s1, Rat.le_of_lt s2⟩
      · cases hd
  · rintro d ⟨ds, rfl, l, p⟩
    clear hn n1
    suffices h : ∃ l : List Rat, ds = rts l ∧ ∀ p ∈ l, W6 36 p ∧ 0 ≤ p by
      obtain ⟨r, rfl, r2⟩ := h
      exact ⟨r, rfl, by simpa [rts] using l, r2⟩
    clear l
    induction ds with
    | nil => exact ⟨[], rfl, fun _ h => nomatch h⟩
    | cons d ds ih =>
      obtain ⟨q, rfl, w⟩ := p d List.mem_cons_self
      obtain ⟨l, rfl, hw⟩ := ih fun d hd => p d (List.mem_cons_of_mem _ hd)
      refine ⟨q :: l, rfl, fun z hz => ?_⟩
      rcases List.mem_cons.mp hz with rfl | hz
      · exact w
      · exact hw z hz
end K40
end
set_option maxHeartbeats 4000000
section
/-! Small rules for law. -/
namespace K40
open NB KM
section
variable {Φ : Nat → List D → M D} {δ : List (Option D)} {μ : List MO}
theorem x_neS {a : Ex} {s : PySem.Str} (h : evE Gv Φ a δ μ = some (.ok (.str s), μ)) (hs : PySem.PyData.strOk s = true) : evE Gv Φ (.cmp .ne a (.str s)) δ μ = some (.ok (.bl false), μ) := by
  simp only [evE, M.bind, h, M.ok, opC, neD, open1, flat, hs, Bool.and_self, if_true, peq, BEq.rfl, Bool.not_true]
theorem x_isnB {a : Ex} {b c : Bool} (h : evE Gv Φ a δ μ = some (.ok (.bl b), μ)) : evE Gv Φ (.cmp .isn a (.bl c)) δ μ = some (.ok (.bl (!decide (b = c))), μ) := by
  simp only [evE, M.bind, h, M.ok, opC, isnD]
theorem x_neR {a b : Ex} {p q : Rat} (h : evE Gv Φ a δ μ = some (.ok (rt p), μ)) (h2 : evE Gv Φ b δ μ = some (.ok (rt q), μ)) : evE Gv Φ (.cmp .ne a b) δ μ = some (.ok (.bl (!decide (p = q))), μ) := by
  have e := x_eqR h h2
  simp only [evE, M.bind, h, h2, opC, neD, eqD] at e ⊢
  split at e
  · rename_i hc
    rw [if_pos hc]
    simp only [Option.some.injEq, Prod.mk.injEq, Except.ok.injEq, D.bl.injEq] at e
    rw [e.1]
  · cases e
theorem x_negsL {k : Nat} {a : Ex} {l : List Rat} (ha : evE Gv Φ a δ μ = some (.ok (tupD l), μ)) (hk : k < δ.length) (hl : l.length ≤ 1000) (hΦ : ∀ p, Φ 35 [rt p] μ = some (.ok (rt (-p)), μ)) :
    evE Gv Φ (.tupl (.comp false [k] (.nm k) (.seq a) .no (.call 35 (.cons (.var k) .nil)))) δ μ = some (.ok (tupD (l.map fun x => -x)), μ) := by
  have hw : (wipeD δ [k]).length = δ.length := by simp [wipeD]
  have hc := xE_comp1 (own := [k]) (t := .nm k) (a := .call 35 (.cons (.var k) .nil)) (g := fun d => rt (-(unrt d))) (xI_seq (d := tupD l) ha rfl) rfl (by show (rts l).length ≤ lim; simp only [rts, List.length_map]; exact Nat.le_trans hl (by decide)) (fun d hd => by
    obtain ⟨p, hp, rfl⟩ := List.mem_map.mp hd
    refine ⟨(wipeD δ [k]).set k (some (rt p)), by simp only [bindT, hw, if_pos hk], ?_⟩
    rw [xE_call (xA_cons (x_var (by rw [List.getElem?_set_self (by rw [hw]; exact hk)])) xA_nil), hΦ p, unrt_rt])
  refine (x_tuplS hc rfl).trans ?_
  show some (Except.ok (D.tup ((rts l).map _)), μ) = some (Except.ok (D.tup (rts _)), μ)
  unfold rts
  rw [List.map_map, List.map_map]
  congr 4
  refine List.map_congr_left fun p _ => ?_
  show rt (-(unrt (rt p))) = rt (-p)
  rw [unrt_rt]
/-- the goals -/
theorem x_goals {k i : Nat} {x : List Rat} {A : List (List Rat)} {a : Ex} (ha : evE Gv Φ a δ μ = some (.ok (matD A), μ)) (hx : ∀ d, evE Gv Φ (.var i) ((wipeD δ [k]).set k d) μ = some (.ok (tupD x), μ)) (hk : k < δ.length) (hl : A.length ≤ 1000) (hΦ : ∀ l ∈ A, Φ 37 [tupD l, tupD x] μ = some (.ok (rt (dotL l x)), μ)) :
    evE Gv Φ (.tupl (.comp false [k] (.nm k) (.seq a) .no (.call 37 (.cons (.var k) (.cons (.var i) .nil))))) δ μ = some (.ok (tupD (A.map fun l => dotL l x)), μ) := by
  have hw : (wipeD δ [k]).length = δ.length := by simp [wipeD]
  have hun : ∀ l : List Rat, (rts l).map unrt = l := fun l => by
    unfold rts
    rw [List.map_map]
    conv => rhs; rw [← List.map_id l]
    exact List.map_congr_left fun p _ => unrt_rt p
  have hc := xE_comp1 (own := [k]) (t := .nm k) (a := .call 37 (.cons (.var k) (.cons (.var i) .nil))) (g := fun d => match d with
    | .tup ds => rt (dotL (ds.map unrt) x)
    | _ => .non) (xI_seq (d := matD A) ha rfl) rfl (by show (A.map tupD).length ≤ lim; rw [List.length_map]; exact Nat.le_trans hl (by decide)) (fun d hd => by
    obtain ⟨l, hm, rfl⟩ := List.mem_map.mp hd
    refine ⟨(wipeD δ [k]).set k (some (tupD l)), by simp only [bindT, hw, if_pos hk], ?_⟩
    rw [xE_call (xA_cons (x_var (by rw [List.getElem?_set_self (by rw [hw]; exact hk)])) (xA_cons (hx _) xA_nil)), hΦ l hm]
    show _ = some (Except.ok (rt (dotL ((rts l).map unrt) x)), μ)
    rw [hun])
  refine (x_tuplS hc rfl).trans ?_
  show some (Except.ok (D.tup ((A.map tupD).map _)), μ) = some (Except.ok (D.tup (rts _)), μ)
  unfold rts
  rw [List.map_map, List.map_map]
  congr 4
  refine List.map_congr_left fun l _ => ?_
  show rt (dotL ((rts l).map unrt) x) = rt (dotL l x)
  rw [hun]
/-- the rows with one more zero -/
theorem x_frees {k : Nat} {A : List (List Rat)} {a : Ex} (ha : evE Gv Φ a δ μ = some (.ok (matD A), μ)) (hk : k < δ.length) (hl : A.length ≤ 1000) (hr : ∀ l ∈ A, l.length ≤ 900) :
    evE Gv Φ (.tupl (.comp false [k] (.nm k) (.seq a) .no (.bin .add (.var k) (.tup (.cons (.tup (.cons (.int 0) (.cons (.int 1) .nil))) .nil))))) δ μ = some (.ok (matD (A.map fun l => l ++ [0])), μ) := by
  have hw : (wipeD δ [k]).length = δ.length := by simp [wipeD]
  have hc := xE_comp1 (own := [k]) (t := .nm k) (a := .bin .add (.var k) (.tup (.cons (.tup (.cons (.int 0) (.cons (.int 1) .nil))) .nil))) (g := fun d => match d with
    | .tup ds => .tup (ds ++ [rt 0])
    | _ => .non) (xI_seq (d := matD A) ha rfl) rfl (by show (A.map tupD).length ≤ lim; rw [List.length_map]; exact Nat.le_trans hl (by decide)) (fun d hd => by
    obtain ⟨l, hm, rfl⟩ := List.mem_map.mp hd
    refine ⟨(wipeD δ [k]).set k (some (tupD l)), by simp only [bindT, hw, if_pos hk], ?_⟩
    exact x_addT (xs := rts l) (ys := [rt 0]) (x_var (d := tupD l) (by rw [List.getElem?_set_self (by rw [hw]; exact hk)])) (x_tupS (xA_cons (x_tupS (xA_cons (x_int 0) (xA_cons (x_int 1) xA_nil)) (by decide)) xA_nil) (by decide)) (by have := hr l hm; simp [rts]; omega))
  refine (x_tuplS hc rfl).trans ?_
  show some (Except.ok (D.tup ((A.map tupD).map _)), μ) = some (Except.ok (D.tup ((A.map _).map tupD)), μ)
  rw [List.map_map, List.map_map]
  congr 4
  refine List.map_congr_left fun l _ => ?_
  show D.tup (rts l ++ [rt 0]) = D.tup (rts (l ++ [0]))
  simp [rts]
end
end K40
end
set_option maxHeartbeats 4000000
section
/-! The law's run: equations, answers. -/
namespace K40
open NB KM
def dropS : Nat → Sxs → Sxs
  | 0, s => s
  | _ + 1, .nil => .nil
  | n + 1, .cons _ r => dropS n r
/-- the law's text from its k-th statement on -/
abbrev L (k : Nat) : Sxs := dropS k f47.body
/-- what the law draws first -/
structure Drawn (c w : Nat) (A : List (List Rat)) (x : List Rat) : Prop where
  c1 : 1 ≤ c ∧ c ≤ 5
  w1 : 1 ≤ w ∧ w ≤ 7
  len : A.length = c
  row : ∀ l ∈ A, l.length = w ∧ ∀ p ∈ l, W6 24 p
  xl : x.length = w
  xs : ∀ p ∈ x, W6 36 p ∧ 0 ≤ p
def golL (A : List (List Rat)) (x : List Rat) : List Rat := A.map fun l => dotL l x
def δ1 (s : D) (c w : Nat) (A : List (List Rat)) (x : List Rat) (o8 o10 o11 : Option D) : List (Option D) :=
  [some s, some (.ptr 1), some (.int (c : Int)), some (.int (w : Int)), none, none, some (matD A), some (tupD x), o8, some (tupD (golL A x)), o10, o11, none, none, none, none, none, none, none, none, none, none]
theorem Drawn.gol {c w : Nat} {A : List (List Rat)} {x : List Rat} (h : Drawn c w A x) : ∀ p ∈ golL A x, WN 6048 p := by
  intro p hp
  obtain ⟨l, hl, rfl⟩ := List.mem_map.mp hp
  have := WN.dot (m := 24) (n := 36) l x (h.row l hl).2 fun z hz => (h.xs z hz).1
  rw [(h.row l hl).1] at this
  have hw := h.w1
  exact this.mono (by
    have : 24 * 36 * w ≤ 24 * 36 * 7 := Nat.mul_le_mul (Nat.le_refl _) hw.2
    omega)
theorem law_1 (ns : List Int) (hn : ns.length ≤ 63) : ∃ c w A x μ, (c ≤ 4 ∧ w ≤ 6) ∧ Drawn c w A x ∧ Tape μ [] ∧
    exB Gv (R 19) (L 0) (some (.scr (ns.map D.int)) :: List.replicate 21 none) [] = exB Gv (R 19) (L 5) (δ1 (.scr (ns.map D.int)) c w A x none none none) μ := by
  obtain ⟨μ0, T0, e0⟩ := r_tape 18 ns hn
  obtain ⟨_, μ1, ⟨v, hv, rfl⟩, T1, e1⟩ := d_draw 18 4 (by decide) (by decide) μ0 [] T0
  obtain ⟨_, μ2, ⟨u, hu, rfl⟩, T2, e2⟩ := d_draw 18 6 (by decide) (by decide) μ1 [] T1
  have ec : (1 : Int) + (v : Int) = ((1 + v : Nat) : Int) := by omega
  have ew : (1 : Int) + (u : Int) = ((1 + u : Nat) : Int) := by omega
  obtain ⟨_, μ3, ⟨A, rfl, A1, A2⟩, T3, e3⟩ := d_rows (j := 17) (m := 1 + v) (n := 1 + u) (δ := [some (.scr (ns.map D.int)), some (.ptr 1), some (.int ((1 + v : Nat) : Int)), some (.int ((1 + u : Nat) : Int)), none, none, none, none, none, none, none, none, none, none, none, none, none, none, none, none, none, none]) rfl rfl (by omega) (by omega) (by show 5 < 22; decide) rfl μ2 [] T2
  obtain ⟨_, μ4, ⟨x, rfl, x1, x2⟩, T4, e4⟩ := d_numbers (j := 17) (n := 1 + u) (δ := [some (.scr (ns.map D.int)), some (.ptr 1), some (.int ((1 + v : Nat) : Int)), some (.int ((1 + u : Nat) : Int)), none, none, some (matD A), none, none, none, none, none, none, none, none, none, none, none, none, none, none, none]) rfl (by omega) (by show 5 < 22; decide) rfl μ3 [] T3
  refine ⟨1 + v, 1 + u, A, x, μ4, ⟨by omega, by omega⟩, ⟨by omega, by omega, A1, A2, x1, x2⟩, T4, ?_⟩
  show exB Gv (R 19) (.cons _ (.cons _ (.cons _ (.cons _ (.cons _ (L 5)))))) [some (.scr (ns.map D.int)), none, none, none, none, none, none, none, none, none, none, none, none, none, none, none, none, none, none, none, none, none] [] = _
  refine (xB_nx (xS_asg ((xE_call (xA_cons (x_var rfl) xA_nil)).trans e0) rfl)).trans ?_
  refine (xB_nx (μ' := μ2) (xS_asg (d := .tup [.int ((1 + v : Nat) : Int), .int ((1 + u : Nat) : Int)]) (x_tupS (xA_cons (μ' := μ1) ?_ (xA_cons (μ' := μ2) ?_ xA_nil)) (by decide : 2 ≤ 1000)) rfl)).trans ?_
  · rw [← ec]
    exact x_addS (x_int 1) ((xE_call (xA_cons (x_var rfl) (xA_cons (x_int 4) xA_nil))).trans e1)
  · rw [← ew]
    exact x_addS (x_int 1) ((xE_call (xA_cons (x_var rfl) (xA_cons (x_int 6) xA_nil))).trans e2)
  refine (xB_nx (xS_asg e3 rfl)).trans ?_
  refine (xB_nx (xS_asg e4 rfl)).trans ?_
  refine xB_nx (xS_asg (x_goals (A := A) (x := x) (x_var rfl) (fun d => x_var rfl) (by show 8 < 22; decide) (by omega) fun l hl => ?_) rfl)
  refine r_ldot 16 μ4 rfl rfl (a := 14) (b := 14) (fun z hz => ((A2 l hl).2 z hz).sz (by decide)) (fun z hz => (x2 z hz).1.sz (by decide)) ?_
  rw [(A2 l hl).1]
  omega
theorem Drawn.eqs {c w : Nat} {A : List (List Rat)} {x : List Rat} (h : Drawn c w A x) : Eqs 14 A (golL A x) ∧ (∀ l ∈ A, ∀ p ∈ l, W36 p) ∧ (∀ p ∈ golL A x, W36 p) ∧ widthOf A = w ∧ A ≠ [] ∧ Meets A (golL A x) x := by
  have hw : widthOf A = w := by
    cases A with
    | nil => have := h.len; have := h.c1; simp at *; omega
    | cons l A => exact (h.row l List.mem_cons_self).1
  have hne : A ≠ [] := fun e => by
    have := h.len
    have := h.c1
    subst e
    simp at *
    omega
  have hg : ∀ p ∈ golL A x, W36 p := fun p hp => (h.gol p hp).w36 (by decide)
  have hA : ∀ l ∈ A, ∀ p ∈ l, W36 p := fun l hl p hp => ((h.row l hl).2 p hp).wn.w36 (by decide)
  have c1 := h.c1
  have w1 := h.w1
  have hl := h.len
  refine ⟨⟨by simp [golL], fun l hl => ⟨by rw [hw, (h.row l hl).1], fun p hp => (hA l hl p hp).sz⟩, fun p hp => (hg p hp).sz, by omega, by omega, by decide⟩, hA, hg, hw, hne, ⟨by rw [hw, h.xl], fun v hv => (h.xs v hv).2, fun i hi => ?_⟩⟩
  unfold golL
  rw [List.getD_eq_getElem?_getD, List.getD_eq_getElem?_getD, List.getElem?_map, List.getElem?_eq_getElem hi]
  rfl
end K40
end
set_option maxHeartbeats 4000000
section
/-! The law's run: solve of equations with answers; no row of a tape bars them. -/
namespace K40
open NB KM
theorem barB_no {a : Nat} {A : List (List Rat)} {g y : List Rat} (E : Eqs a A g) (h : ¬ IsBar A g y) : barB A g y = false := by
  cases q : barB A g y with
  | false => rfl
  | true => exact absurd ((barB_iff E).mp q) h
def b8 : Sxs := (.cons (.asg (.nm 8) (.tupl (.comp false [5] (.nm 5) (.rng (.var 2)) .no (.call 36 (.cons (.var 1) .nil))))) (.cons (.ite (.cmp .isn (.call 25 (.cons (.var 6) (.cons (.var 9) (.cons (.var 8) .nil)))) (.bl false)) (.cons (.ret (.bl false)) .nil) .nil) .nil))
theorem law_2loop {c w : Nat} {A : List (List Rat)} {x : List Rat} (h : Drawn c w A x) (s : D) (o10 : Option D) : ∀ (ds : List D) (o8 o11 : Option D) (μ : List MO), Tape μ [] → ∃ o8' o11' μ', Tape μ' [] ∧
    forL [] (.nm 11) (fun δ' => exB Gv (R 19) b8 δ') ds (δ1 s c w A x o8 o10 o11) μ = some (.ok (.nx (δ1 s c w A x o8' o10 o11')), μ')
  | [], o8, o11, μ, T => ⟨o8, o11, μ, T, rfl⟩
  | d :: ds, o8, o11, μ, T => by
    obtain ⟨E, hA, hg, hw, hne, hx⟩ := h.eqs
    have c1 := h.c1
    obtain ⟨_, μ1, ⟨y, rfl, y1, y2⟩, T1, e1⟩ := d_rowN (j := 17) (n := c) (a := .var 2) (δ := δ1 s c w A x o8 o10 (some d)) (fun μ => x_var rfl) (by omega) (by show 5 < 22; decide) rfl μ [] T
    obtain ⟨o8', o11', μ', T', ih⟩ := law_2loop h s o10 ds (some (tupD y)) (some d) μ1 T1
    refine ⟨o8', o11', μ', T', (forL_nx (δ1 := δ1 s c w A x o8 o10 (some d)) (δ2 := δ1 s c w A x (some (tupD y)) o10 (some d)) (μ' := μ1) rfl ?_ rfl).trans ih⟩
    show exB Gv (R 19) (.cons _ (.cons _ .nil)) _ μ = _
    refine (xB_nx (xS_asg (δ' := δ1 s c w A x (some (tupD y)) o10 (some d)) e1 rfl)).trans ?_
    have hb := r_isbar E 14 μ1 (c := 14) (y := y) (fun z hz => (y2 z hz).sz (by decide)) (by decide) (by omega)
    rw [barB_no E fun q => no_bar E hx q] at hb
    have ht := x_isnB (c := false) ((xE_call (G := Gv) (Φ := R 19) (δ := δ1 s c w A x (some (tupD y)) o10 (some d)) (xA_cons (x_var (i := 6) rfl) (xA_cons (x_var (i := 9) rfl) (xA_cons (x_var (i := 8) rfl) xA_nil)))).trans hb)
    exact (xB_nx (xS_iteF ht (xB_nil (G := Gv)))).trans (xB_nil (G := Gv))
theorem law_2 {c w : Nat} {A : List (List Rat)} {x : List Rat} (h : Drawn c w A x) (s : D) {μ : List MO} (T : Tape μ []) : ∃ o8 o10 o11 μ', Tape μ' [] ∧
    exB Gv (R 19) (L 5) (δ1 s c w A x none none none) μ = exB Gv (R 19) (L 8) (δ1 s c w A x o8 o10 o11) μ' := by
  obtain ⟨E, hA, hg, hw, hne, hx⟩ := h.eqs
  obtain ⟨z, hz, sz, ez⟩ := p_solve_num E hA hg ⟨x, hx⟩
  obtain ⟨o8, o11, μ', T', el⟩ := law_2loop h s (some (.tup [.str "numbers", tupD z])) [.int 0, .int 1] none none μ T
  refine ⟨o8, some (.tup [.str "numbers", tupD z]), o11, μ', T', ?_⟩
  show exB Gv (R 19) (.cons _ (.cons _ (.cons _ (L 8)))) _ μ = _
  refine (xB_nx (xS_asg (δ' := δ1 s c w A x none (some (.tup [.str "numbers", tupD z])) none) ((xE_call (xA_cons (x_var rfl) (xA_cons (x_var rfl) xA_nil))).trans (ez 11 μ)) rfl)).trans ?_
  have t1 : evE Gv (R 19) (.cmp .ne (.idx (.var 10) (.int 0)) (.str "numbers")) (δ1 s c w A x none (some (.tup [.str "numbers", tupD z])) none) μ = _ := x_neS (x_idx (k := 0) (ds := [.str "numbers", tupD z]) (x_var rfl) (x_int 0) rfl rfl) (by decide +kernel)
  have t2 : evE Gv (R 19) (.not_ (.call 42 (.cons (.var 6) (.cons (.var 9) (.cons (.idx (.var 10) (.int 1)) .nil))))) (δ1 s c w A x none (some (.tup [.str "numbers", tupD z])) none) μ = _ :=
    x_not ((xE_call (xA_cons (x_var rfl) (xA_cons (x_var rfl) (xA_cons (x_idx (k := 1) (ds := [.str "numbers", tupD z]) (x_var rfl) (x_int 1) rfl rfl) xA_nil)))).trans (r_lmeets E 14 μ hne hz sz (by decide)))
  refine (xB_nx (xS_iteF (x_or t1 fun _ => t2) (xB_nil (G := Gv)))).trans ?_
  exact xB_nx (xS_for (xI_rng (n := 2) (x_int 2) (by decide)) el)
end K40
end
set_option maxHeartbeats 4000000
section
/-! The law's run: barred equations. -/
namespace K40
open NB KM
theorem Barred.eqs {c w : Nat} {B : List (List Rat)} {e y : List Rat} (h : Barred c w B e y) (c1 : 1 ≤ c ∧ c ≤ 5) (w9 : w ≤ 9) : Eqs 14 B e ∧ (∀ l ∈ B, ∀ p ∈ l, W36 p) ∧ (∀ p ∈ e, W36 p) ∧ widthOf B = w ∧ B ≠ [] := by
  have hl := h.len
  have hw : widthOf B = w := by
    cases B with
    | nil => simp at hl; omega
    | cons l B => exact (h.row l List.mem_cons_self).1
  have hne : B ≠ [] := fun e => by
    subst e
    simp at hl
    omega
  have hA : ∀ l ∈ B, ∀ p ∈ l, W36 p := fun l hl p hp => ((h.row l hl).2 p hp).w36 (by decide)
  have hg : ∀ p ∈ e, W36 p := fun p hp => (h.gol.2 p hp).w36 (by decide)
  exact ⟨⟨by rw [hl, h.gol.1], fun l hl => ⟨by rw [hw, (h.row l hl).1], fun p hp => (hA l hl p hp).sz⟩, fun p hp => (hg p hp).sz, by omega, by omega, by decide⟩, hA, hg, hw, hne⟩
section
variable {Φ : Nat → List D → M D} {δ : List (Option D)} {μ μ' : List MO} {d : D}
theorem xI_seqS {a : Ex} {ds : List D} (h : evE Gv Φ a δ μ = some (.ok d, μ')) (hq : seqOf μ' d = some ds) : evI Gv Φ (.seq a) δ μ = some (.ok ⟨ds, srcOf μ' d⟩, μ') := by
  simp only [evI, M.bind, h, hq]
theorem xS_forS {t : Tg} {i : It} {b : Sxs} {its : Its} {r : Except PySem.Str Fl × List MO} (hi : evI Gv Φ i δ μ = some (.ok its, μ')) (h : forL its.src t (fun δ' => exB Gv Φ b δ') its.items δ μ' = some r) : exS Gv Φ (.for_ t i b) δ μ = some r := by
  simp only [exS, M.bind, hi]
  exact h
theorem x_listF {a : Ex} {x : D} {ds : List D} (h : evE Gv Φ a δ μ = some (.ok x, μ)) (hx : seqOf μ x = some ds) : evE Gv Φ (.list false a) δ μ = some (.ok (.lst ds), μ) := by
  simp only [evE, M.bind, h, hx, fresh]
  rfl
theorem x_non : evE Gv Φ .non δ μ = some (.ok .non, μ) := by
  simp only [evE]
  rfl
end
def δ3 (s : D) (c w : Nat) (A : List (List Rat)) (x : List Rat) (B : List (List Rat)) (e y : List Rat) (o8 o10 o11 : Option D) : List (Option D) :=
  [some s, some (.ptr 1), some (.int (c : Int)), some (.int (w : Int)), none, none, some (matD A), some (tupD x), o8, some (tupD (golL A x)), o10, o11, some (matD B), some (tupD e), some (tupD y), none, none, none, none, none, none, none]
def b11 : Sxs := (.cons (.ite (.not_ (.call 31 (.cons (.call 25 (.cons (.var 12) (.cons (.var 13) (.cons (.var 8) .nil)))) (.cons (.call 43 (.cons (.var 12) (.cons (.var 13) (.cons (.var 8) .nil)))) .nil)))) (.cons (.ret (.bl false)) .nil) .nil) .nil)
theorem law_3loop (s : D) (c w : Nat) (A : List (List Rat)) (x : List Rat) (B : List (List Rat)) (e y : List Rat) (o10 o11 : Option D) (μ : List MO) : ∀ (ds : List D) (o8 : Option D), (∀ d ∈ ds, ∃ b, R 19 25 [matD B, tupD e, d] μ = some (.ok (.bl b), μ) ∧ R 19 43 [matD B, tupD e, d] μ = some (.ok (.bl b), μ)) → ∃ o8',
    forL [] (.nm 8) (fun δ' => exB Gv (R 19) b11 δ') ds (δ3 s c w A x B e y o8 o10 o11) μ = some (.ok (.nx (δ3 s c w A x B e y o8' o10 o11)), μ)
  | [], o8, _ => ⟨o8, rfl⟩
  | d :: ds, o8, h => by
    obtain ⟨o8', ih⟩ := law_3loop s c w A x B e y o10 o11 μ ds (some d) fun d hd => h d (List.mem_cons_of_mem _ hd)
    obtain ⟨b, h1, h2⟩ := h d List.mem_cons_self
    refine ⟨o8', (forL_nx (δ1 := δ3 s c w A x B e y (some d) o10 o11) (δ2 := δ3 s c w A x B e y (some d) o10 o11) (μ' := μ) rfl ?_ rfl).trans ih⟩
    show exB Gv (R 19) (.cons _ .nil) _ μ = _
    have ht : evE Gv (R 19) (.not_ (.call 31 (.cons (.call 25 (.cons (.var 12) (.cons (.var 13) (.cons (.var 8) .nil)))) (.cons (.call 43 (.cons (.var 12) (.cons (.var 13) (.cons (.var 8) .nil)))) .nil)))) (δ3 s c w A x B e y (some d) o10 o11) μ = _ :=
      x_not ((xE_call (xA_cons ((xE_call (xA_cons (x_var rfl) (xA_cons (x_var rfl) (xA_cons (x_var rfl) xA_nil)))).trans h1) (xA_cons ((xE_call (xA_cons (x_var rfl) (xA_cons (x_var rfl) (xA_cons (x_var rfl) xA_nil)))).trans h2) xA_nil))).trans (r_same_bl 18 μ b))
    exact (xB_nx (xS_iteF ht (xB_nil (G := Gv)))).trans (xB_nil (G := Gv))
theorem law_3 {c w : Nat} {A : List (List Rat)} {x : List Rat} (h : Drawn c w A x) (s : D) (o8 o10 o11 : Option D) {μ : List MO} (T : Tape μ []) : ∃ B e y o8' o10' μ', Barred c w B e y ∧ Tape μ' [] ∧
    exB Gv (R 19) (L 8) (δ1 s c w A x o8 o10 o11) μ = exB Gv (R 19) (L 12) (δ3 s c w A x B e y o8' o10' o11) μ' := by
  have c1 := h.c1
  have w1 := h.w1
  obtain ⟨c0, rfl⟩ : ∃ c0, c = c0 + 1 := ⟨c - 1, by omega⟩
  obtain ⟨B, e, y, μ1, hB, T1, e1⟩ := d_barred 14 c0 w (by omega) (by omega) μ T
  obtain ⟨E, hA, hg, hw, hne⟩ := hB.eqs ⟨by omega, by omega⟩ (by omega)
  obtain ⟨z, hz, sz, ez⟩ := p_solve_bar E hA hg ⟨y, hB.bar⟩
  have hyl := hB.mul.1
  have sy : ∀ p ∈ y, Sz 14 p := fun p hp => (hB.mul.2 p hp).sz (by decide)
  obtain ⟨_, μ2, ⟨r, rfl, r1, r2⟩, T2, e2⟩ := d_rowN (j := 17) (n := c0 + 1) (a := .var 2) (δ := δ3 s (c0 + 1) w A x B e y o8 (some (.tup [.str "bar", tupD z])) o11) (fun μ => x_var rfl) (by omega) (by show 5 < 22; decide) rfl μ1 [] T1
  have both : ∀ (u : List Rat) (k : Nat), (∀ p ∈ u, Sz k p) → k ≤ 1500 → u.length ≤ 900 → ∃ b, R 19 25 [matD B, tupD e, tupD u] μ2 = some (.ok (.bl b), μ2) ∧ R 19 43 [matD B, tupD e, tupD u] μ2 = some (.ok (.bl b), μ2) := fun u k hu hk hl =>
    ⟨_, r_isbar E 14 μ2 hu (by omega) hl, r_lisbar E 14 μ2 hne hu (by omega) hl⟩
  obtain ⟨o8', el⟩ := law_3loop s (c0 + 1) w A x B e y (some (.tup [.str "bar", tupD z])) o11 μ2 [tupD (y.map fun x => -x), tupD r, tupD (y ++ [0]), .lst (rts y), .non] o8 (fun d hd => by
    rcases List.mem_cons.mp hd with rfl | hd
    · refine both _ 14 (fun p hp => ?_) (by decide) (by rw [List.length_map]; omega)
      obtain ⟨q, hq, rfl⟩ := List.mem_map.mp hp
      exact (sy q hq).neg
    · rcases List.mem_cons.mp hd with rfl | hd
      · exact both _ 14 (fun p hp => (r2 p hp).sz (by decide)) (by decide) (by omega)
      · rcases List.mem_cons.mp hd with rfl | hd
        · refine both _ 14 (fun p hp => ?_) (by decide) (by rw [List.length_append]; simp; omega)
          rcases List.mem_append.mp hp with hp | hp
          · exact sy p hp
          · rw [List.mem_singleton.mp hp]
            exact .zero _ (by decide)
        · rcases List.mem_cons.mp hd with rfl | hd
          · exact ⟨false, r_isbar_no E 14 μ2 rfl, r_lisbar_no E 14 μ2 rfl⟩
          · rcases List.mem_cons.mp hd with rfl | hd
            · exact ⟨false, r_isbar_no E 14 μ2 rfl, r_lisbar_no E 14 μ2 rfl⟩
            · cases hd)
  refine ⟨B, e, y, o8', some (.tup [.str "bar", tupD z]), μ2, hB, T2, ?_⟩
  show exB Gv (R 19) (.cons _ (.cons _ (.cons _ (.cons _ (L 12))))) _ μ = _
  refine (xB_nx (xS_asg (δ' := δ3 s (c0 + 1) w A x B e y o8 o10 o11) ((xE_call (xA_cons (x_var rfl) (xA_cons (x_var rfl) (xA_cons (x_var rfl) xA_nil)))).trans e1) rfl)).trans ?_
  refine (xB_nx (xS_asg (δ' := δ3 s (c0 + 1) w A x B e y o8 (some (.tup [.str "bar", tupD z])) o11) ((xE_call (xA_cons (x_var rfl) (xA_cons (x_var rfl) xA_nil))).trans (ez 11 μ1)) rfl)).trans ?_
  have hzl : z.length ≤ 900 := by have := hz.len; have := E.m6; omega
  have hzi : evE Gv (R 19) (.idx (.var 10) (.int 1)) (δ3 s (c0 + 1) w A x B e y o8 (some (.tup [.str "bar", tupD z])) o11) μ1 = some (.ok (tupD z), μ1) := x_idx (k := 1) (ds := [.str "bar", tupD z]) (x_var rfl) (x_int 1) rfl rfl
  have b1 : barB B e z = true := (barB_iff E).mpr hz
  have b2 : barB B e y = true := (barB_iff E).mpr hB.bar
  have t1 : evE Gv (R 19) (.cmp .ne (.idx (.var 10) (.int 0)) (.str "bar")) (δ3 s (c0 + 1) w A x B e y o8 (some (.tup [.str "bar", tupD z])) o11) μ1 = _ := x_neS (x_idx (k := 0) (ds := [.str "bar", tupD z]) (x_var rfl) (x_int 0) rfl rfl) (by decide +kernel)
  have q1 := r_lisbar E 14 μ1 hne sz (by decide) hzl
  have q2 := r_isbar E 14 μ1 sz (by decide) hzl
  have q3 := r_isbar E 14 μ1 sy (by decide) (by omega)
  rw [b1] at q1 q2
  rw [b2] at q3
  have t2 := x_not ((xE_call (xA_cons (x_var (i := 12) rfl) (xA_cons (x_var (i := 13) rfl) (xA_cons hzi xA_nil)))).trans q1)
  have t3 := x_isnB (c := true) ((xE_call (xA_cons (x_var (i := 12) rfl) (xA_cons (x_var (i := 13) rfl) (xA_cons hzi xA_nil)))).trans q2)
  have t4 := x_isnB (c := true) ((xE_call (Φ := R 19) (δ := δ3 s (c0 + 1) w A x B e y o8 (some (.tup [.str "bar", tupD z])) o11) (xA_cons (x_var (i := 12) rfl) (xA_cons (x_var (i := 13) rfl) (xA_cons (x_var (i := 14) rfl) xA_nil)))).trans q3)
  refine (xB_nx (xS_iteF (x_or t1 fun _ => x_or t2 fun _ => x_or t3 fun _ => t4) (xB_nil (G := Gv)))).trans ?_
  refine xB_nx (xS_forS (xI_seqS (d := .tup [tupD (y.map fun x => -x), tupD r, tupD (y ++ [0]), .lst (rts y), .non]) (x_tupS ?_ (by show 5 ≤ 1000; decide)) rfl) el)
  refine xA_cons (x_negsL (x_var rfl) (by show 15 < 22; decide) (by omega) fun p => r_lminus 18 μ1 p) ?_
  refine xA_cons e2 ?_
  refine xA_cons (d := tupD (y ++ [0])) ?_ (xA_cons (x_listF (x_var (d := tupD y) rfl) rfl) (xA_cons x_non xA_nil))
  have := x_addT (Φ := R 19) (δ := δ3 s (c0 + 1) w A x B e y o8 (some (.tup [.str "bar", tupD z])) o11) (μ := μ2) (μ' := μ2) (μ'' := μ2) (a := .var 14) (b := .tup (.cons (.tup (.cons (.int 0) (.cons (.int 1) .nil))) .nil)) (xs := rts y) (ys := [rt 0]) (x_var rfl) (x_tupS (xA_cons x_rt0 xA_nil) (by decide)) (by simp [rts]; omega)
  rw [this]
  simp [tupD, rts]
end K40
end
set_option maxHeartbeats 4000000
section
/-! The law's run: greatest sums. -/
namespace K40
open NB KM
/-- with a row of ones -/
def wideL (w : Nat) (A : List (List Rat)) : List (List Rat) := A ++ [List.replicate w 1]
theorem Drawn.wide {c w : Nat} {A : List (List Rat)} {x : List Rat} (h : Drawn c w A x) (c4 : c ≤ 4) : Drawn (c + 1) w (wideL w A) x where
  c1 := ⟨by omega, by omega⟩
  w1 := h.w1
  len := by simp [wideL, h.len]
  row := fun l hl => by
    rcases List.mem_append.mp hl with hl | hl
    · exact h.row l hl
    · rw [List.mem_singleton.mp hl]
      refine ⟨List.length_replicate, fun p hp => ?_⟩
      rw [List.eq_of_mem_replicate hp]
      exact ⟨6, by grind, by decide⟩
  xl := h.xl
  xs := h.xs
theorem gol_wide {w : Nat} {A : List (List Rat)} {x : List Rat} : golL (wideL w A) x = golL A x ++ [dotL (List.replicate w 1) x] := by simp [golL, wideL]
theorem dotL_app0 : ∀ (l x : List Rat), l.length = x.length → dotL (l ++ [0]) (x ++ [0]) = dotL l x
  | [], [], _ => by
    show (0 : Rat) * 0 + 0 = 0
    grind
  | [], _ :: _, h => by simp at h
  | _ :: _, [], h => by simp at h
  | a :: l, b :: x, h => by
    show a * b + dotL (l ++ [0]) (x ++ [0]) = a * b + dotL l x
    rw [dotL_app0 l x (by simpa using h)]
def freeL (A : List (List Rat)) : List (List Rat) := A.map fun l => l ++ [0]
theorem Drawn.free {c w : Nat} {A : List (List Rat)} {x : List Rat} (h : Drawn c w A x) (w6 : w ≤ 6) : Drawn c (w + 1) (freeL A) (x ++ [0]) where
  c1 := h.c1
  w1 := ⟨by omega, by omega⟩
  len := by simp [freeL, h.len]
  row := fun l hl => by
    obtain ⟨m, hm, rfl⟩ := List.mem_map.mp hl
    refine ⟨by rw [List.length_append, (h.row m hm).1]; rfl, fun p hp => ?_⟩
    rcases List.mem_append.mp hp with hp | hp
    · exact (h.row m hm).2 p hp
    · rw [List.mem_singleton.mp hp]
      exact .zero _
  xl := by rw [List.length_append, h.xl]; rfl
  xs := fun p hp => by
    rcases List.mem_append.mp hp with hp | hp
    · exact h.xs p hp
    · rw [List.mem_singleton.mp hp]
      exact ⟨.zero _, by decide⟩
theorem gol_free {c w : Nat} {A : List (List Rat)} {x : List Rat} (h : Drawn c w A x) : golL (freeL A) (x ++ [0]) = golL A x := by
  unfold golL freeL
  rw [List.map_map]
  exact List.map_congr_left fun l hl => dotL_app0 l x (by rw [(h.row l hl).1, h.xl])
section
variable {Φ : Nat → List D → M D} {δ : List (Option D)} {μ μ' : List MO} {d : D}
theorem x_ones {a : Ex} {n : Nat} (h : evE Gv Φ a δ μ = some (.ok (.int (n : Int)), μ)) (h1 : 1 ≤ n) (h2 : n ≤ 1000) : evE Gv Φ (.bin .mul (.tup (.cons (.tup (.cons (.int 1) (.cons (.int 1) .nil))) .nil)) a) δ μ = some (.ok (tupD (List.replicate n 1)), μ) := by
  have e := x_tupS (Φ := Φ) (δ := δ) (μ := μ) (xA_cons x_rt1 xA_nil) (by decide)
  have c : 1 ≤ ([rt 1] : List D).length ∧ ([rt 1] : List D).length ≤ 1000 ∧ (1 : Int) ≤ n ∧ (n : Int) ≤ 1000 := ⟨by decide, by decide, by omega, by omega⟩
  simp only [evE, M.bind] at e h ⊢
  simp only [e, h, opB, mulD, if_pos c, Int.toNat_natCast]
  refine congrArg (fun z => some (Except.ok (D.tup z), μ)) ?_
  unfold repl rts
  rw [List.map_replicate]
  induction n with
  | zero => rfl
  | succ n ih =>
    clear ih
    generalize n + 1 = m
    clear h h1 h2 c e
    induction m with
    | zero => rfl
    | succ m ih => rw [List.replicate_succ, List.replicate_succ, List.flatten_cons, ih]; rfl
end
end K40
end
set_option maxHeartbeats 4000000
section
namespace K40
open NB KM
def δ4 (s : D) (c w : Nat) (A : List (List Rat)) (x : List Rat) (B : List (List Rat)) (e y v : List Rat) (o8 o10 o11 o17 o18 o19 o20 o21 : Option D) : List (Option D) :=
  [some s, some (.ptr 1), some (.int (c : Int)), some (.int (w : Int)), none, none, some (matD A), some (tupD x), o8, some (tupD (golL A x)), o10, o11, some (matD B), some (tupD e), some (tupD y), none, some (tupD v), o17, o18, o19, o20, o21]
/-- the greatest sum of barred equations -/
theorem law_4 {c w : Nat} {A : List (List Rat)} {x : List Rat} (h : Drawn c w A x) {B : List (List Rat)} {e y : List Rat} (hB : Barred c w B e y) (s : D) (o8 o10 o11 : Option D) {μ : List MO} (T : Tape μ []) : ∃ v o10' μ', (v.length = w ∧ ∀ p ∈ v, W6 24 p) ∧ Tape μ' [] ∧
    exB Gv (R 19) (L 12) (δ3 s c w A x B e y o8 o10 o11) μ = exB Gv (R 19) (L 15) (δ4 s c w A x B e y v o8 o10' o11 none none none none none) μ' := by
  have c1 := h.c1
  have w1 := h.w1
  obtain ⟨E, hA, hg, hw, hne⟩ := hB.eqs c1 (by omega)
  obtain ⟨_, μ1, ⟨v, rfl, v1, v2⟩, T1, e1⟩ := d_rowN (j := 17) (n := w) (a := .var 3) (δ := δ3 s c w A x B e y o8 o10 o11) (fun μ => x_var rfl) (by omega) (by show 5 < 22; decide) rfl μ [] T
  obtain ⟨z, hz, sz, ez⟩ := p_greatest_bar E hA hg (w := v) (by rw [v1, hw]) hne ⟨y, hB.bar⟩
  refine ⟨v, some (.tup [.str "bar", tupD z]), μ1, ⟨v1, v2⟩, T1, ?_⟩
  show exB Gv (R 19) (.cons _ (.cons _ (.cons _ (L 15)))) _ μ = _
  refine (xB_nx (xS_asg (δ' := δ4 s c w A x B e y v o8 o10 o11 none none none none none) e1 rfl)).trans ?_
  refine (xB_nx (xS_asg (δ' := δ4 s c w A x B e y v o8 (some (.tup [.str "bar", tupD z])) o11 none none none none none) ((xE_call (xA_cons (x_var rfl) (xA_cons (x_var rfl) (xA_cons (x_var rfl) xA_nil)))).trans (ez 11 μ1)) rfl)).trans ?_
  have hzl : z.length ≤ 900 := by have := hz.len; have := E.m6; omega
  have b1 : barB B e z = true := (barB_iff E).mpr hz
  have t1 : evE Gv (R 19) (.cmp .ne (.idx (.var 10) (.int 0)) (.str "bar")) (δ4 s c w A x B e y v o8 (some (.tup [.str "bar", tupD z])) o11 none none none none none) μ1 = _ := x_neS (x_idx (k := 0) (ds := [.str "bar", tupD z]) (x_var rfl) (x_int 0) rfl rfl) (by decide +kernel)
  have q1 := r_lisbar E 14 μ1 hne sz (by decide) hzl
  rw [b1] at q1
  have t2 : evE Gv (R 19) (.not_ (.call 43 (.cons (.var 12) (.cons (.var 13) (.cons (.idx (.var 10) (.int 1)) .nil))))) (δ4 s c w A x B e y v o8 (some (.tup [.str "bar", tupD z])) o11 none none none none none) μ1 = _ :=
    x_not ((xE_call (xA_cons (x_var rfl) (xA_cons (x_var rfl) (xA_cons (x_idx (k := 1) (ds := [.str "bar", tupD z]) (x_var rfl) (x_int 1) rfl rfl) xA_nil)))).trans q1)
  exact xB_nx (xS_iteF (x_or t1 fun _ => t2) (xB_nil (G := Gv)))
/-- the greatest sum of wide equations -/
theorem law_5 {c w : Nat} {A : List (List Rat)} {x : List Rat} (h : Drawn c w A x) (c4 : c ≤ 4) {B : List (List Rat)} {e y v : List Rat} (hv : v.length = w ∧ ∀ p ∈ v, W6 24 p) (s : D) (o8 o10 o11 : Option D) (μ : List MO) :
    ∃ z u, u.length = c + 1 ∧ (∀ p ∈ u, Sz 1500 p) ∧ (∀ p ∈ z, Sz 239 p) ∧ z.length = w ∧ 
      exB Gv (R 19) (L 15) (δ4 s c w A x B e y v o8 o10 o11 none none none none none) μ = exB Gv (R 19) (L 20) (δ4 s c w A x B e y v o8 (some (.tup [.str "best", tupD z, rt (dotL v z), tupD u])) o11 (some (matD (wideL w A))) (some (tupD (golL (wideL w A) x))) none none none) μ := by
  have c1 := h.c1
  have w1 := h.w1
  have hW := h.wide c4
  obtain ⟨E, hA, hg, hw, hne, hx⟩ := hW.eqs
  have sv : ∀ p ∈ v, Sz 14 p := fun p hp => (hv.2 p hp).sz (by decide)
  obtain ⟨z, u, b, hz, sz, hu, su, hb, ez⟩ := p_best E hA hg (w := v) (by rw [hv.1, hw]) (fun p hp => (sv p hp).mono (by decide)) hne ⟨x, hx⟩ (r := c) (by rw [hW.len]; omega) (fun j hj => by
    unfold aij wideL
    rw [List.getD_eq_getElem?_getD (l := A ++ _), List.getElem?_append_right (by rw [h.len]; exact Nat.le_refl _), h.len, Nat.sub_self]
    show (List.replicate w (1 : Rat)).getD j 0 = 1
    rw [hw] at hj
    rw [List.getD_eq_getElem?_getD, List.getElem?_replicate, if_pos hj]
    rfl)
  subst hb
  have hul : u.length = c + 1 := by rw [hu.len, hW.len]
  have hzl : z.length = w := by rw [hz.len, hw]
  refine ⟨z, u, hul, su, sz, hzl, ?_⟩
  have svz : Sz 9000 (dotL v z) := (dotL_sz v z sv sz).mono (by
    rw [hv.1]
    have : (14 + 239 + 1) * w ≤ 254 * 7 := Nat.mul_le_mul (by decide) w1.2
    omega)
  show exB Gv (R 19) (.cons _ (.cons _ (.cons _ (.cons _ (.cons _ (L 20)))))) _ μ = _
  have hcat1 := x_addT (Φ := R 19) (δ := δ4 s c w A x B e y v o8 o10 o11 none none none none none) (μ := μ) (μ' := μ) (μ'' := μ) (a := .var 6) (xs := A.map tupD) (x_var rfl) (x_tupS (xA_cons (x_ones (a := .var 3) (x_var rfl) w1.1 (by omega)) xA_nil) (by show 1 ≤ 1000; decide)) (by rw [List.length_map, h.len]; show c + 1 ≤ 1000; omega)
  have ew : (.tup (A.map tupD ++ [tupD (List.replicate w 1)]) : D) = matD (wideL w A) := by simp [matD, wideL]
  rw [ew] at hcat1
  refine (xB_nx (xS_asg (δ' := δ4 s c w A x B e y v o8 o10 o11 (some (matD (wideL w A))) none none none none) hcat1 rfl)).trans ?_
  have hdot : evE Gv (R 19) (.call 37 (.cons (.idx (.var 17) (.neg (.int 1))) (.cons (.var 7) .nil))) (δ4 s c w A x B e y v o8 o10 o11 (some (matD (wideL w A))) none none none none) μ = some (.ok (rt (dotL (List.replicate w 1) x)), μ) := by
    refine (xE_call (xA_cons (x_last (d := tupD (List.replicate w 1)) (x_var rfl) rfl ?_) (xA_cons (x_var (d := tupD x) rfl) xA_nil))).trans ?_
    · show ((wideL w A).map tupD).getLast? = _
      simp [wideL]
    · refine r_ldot 16 μ rfl rfl (a := 14) (b := 14) (fun p hp => ?_) (fun p hp => (h.xs p hp).1.sz (by decide)) ?_
      · rw [List.eq_of_mem_replicate hp]
        exact .one _ (by decide)
      · rw [List.length_replicate]
        omega
  have hcat2 := x_addT (Φ := R 19) (δ := δ4 s c w A x B e y v o8 o10 o11 (some (matD (wideL w A))) none none none none) (μ := μ) (μ' := μ) (μ'' := μ) (a := .var 9) (xs := rts (golL A x)) (x_var rfl) (x_tupS (xA_cons hdot xA_nil) (by show 1 ≤ 1000; decide)) (by simp [rts, golL, h.len]; omega)
  have eg : (.tup (rts (golL A x) ++ [rt (dotL (List.replicate w 1) x)]) : D) = tupD (golL (wideL w A) x) := by rw [gol_wide]; simp [tupD, rts]
  rw [eg] at hcat2
  refine (xB_nx (xS_asg (δ' := δ4 s c w A x B e y v o8 o10 o11 (some (matD (wideL w A))) (some (tupD (golL (wideL w A) x))) none none none) hcat2 rfl)).trans ?_
  refine (xB_nx (xS_asg (δ' := δ4 s c w A x B e y v o8 (some (.tup [.str "best", tupD z, rt (dotL v z), tupD u])) o11 (some (matD (wideL w A))) (some (tupD (golL (wideL w A) x))) none none none) ((xE_call (xA_cons (x_var rfl) (xA_cons (x_var rfl) (xA_cons (x_var rfl) xA_nil)))).trans (ez 11 μ)) rfl)).trans ?_
  have hi : ∀ (k : Nat) (d : D), ([.str "best", tupD z, rt (dotL v z), tupD u] : List D)[k]? = some d → evE Gv (R 19) (.idx (.var 10) (.int (k : Int))) (δ4 s c w A x B e y v o8 (some (.tup [.str "best", tupD z, rt (dotL v z), tupD u])) o11 (some (matD (wideL w A))) (some (tupD (golL (wideL w A) x))) none none none) μ = some (.ok d, μ) := fun k d hk => x_idx (k := k) (ds := [.str "best", tupD z, rt (dotL v z), tupD u]) (x_var rfl) (x_int _) rfl hk
  have t1 := x_neS (hi 0 (.str "best") rfl) (by decide +kernel)
  have t2 := x_neI (x_len (Φ := R 19) (δ := δ4 s c w A x B e y v o8 (some (.tup [.str "best", tupD z, rt (dotL v z), tupD u])) o11 (some (matD (wideL w A))) (some (tupD (golL (wideL w A) x))) none none none) (μ := μ) (a := .var 10) (x_var rfl) (ds := [.str "best", tupD z, rt (dotL v z), tupD u]) rfl) (x_int 4)
  have t3 := x_not ((xE_call (xA_cons (x_var (i := 17) rfl) (xA_cons (x_var (i := 18) rfl) (xA_cons (hi 1 _ rfl) xA_nil)))).trans (r_lmeets E 14 μ hne hz sz (by decide)))
  have t4 := x_not ((xE_call (xA_cons (hi 2 _ rfl) (xA_cons ((xE_call (xA_cons (x_var (i := 16) rfl) (xA_cons (hi 1 _ rfl) xA_nil))).trans (r_ldot 16 μ rfl rfl sv sz (by rw [hv.1]; have : (14 + 239 + 1) * w ≤ 254 * 7 := Nat.mul_le_mul (by decide) w1.2; omega))) xA_nil))).trans (r_same_rt 17 μ (dotL v z)))
  refine (xB_nx (xS_iteF (x_or t1 fun _ => x_or t2 fun _ => x_or t3 fun _ => t4) (xB_nil (G := Gv)))).trans ?_
  have hd : dualB (wideL w A) (golL (wideL w A) x) v u (dotL v z) = true := dualB_true E hu
  have q1 := r_lisdual E 14 μ hne su (by decide) hu.len svz (fun p hp => (sv p hp).mono (by decide))
  have q2 := r_isdual E 14 μ su (by decide) hu.len svz (fun p hp => (sv p hp).mono (by decide))
  rw [hd] at q1 q2
  have u1 := x_not ((xE_call (xA_cons (x_var (i := 17) rfl) (xA_cons (x_var (i := 18) rfl) (xA_cons (x_var (i := 16) rfl) (xA_cons (hi 3 _ rfl) (xA_cons (hi 2 _ rfl) xA_nil)))))).trans q1)
  have u2 := x_neR ((xE_call (xA_cons (hi 3 _ rfl) (xA_cons (x_var (i := 18) rfl) xA_nil))).trans (E.ldotG 16 μ su hu.len (by decide))) (hi 2 _ rfl)
  rw [decide_eq_true hu.val] at u2
  have u3 := x_isnB (c := true) ((xE_call (xA_cons (x_var (i := 17) rfl) (xA_cons (x_var (i := 18) rfl) (xA_cons (x_var (i := 16) rfl) (xA_cons (hi 3 _ rfl) (xA_cons (hi 2 _ rfl) xA_nil)))))).trans q2)
  exact xB_nx (xS_iteF (x_or u1 fun _ => x_or u2 fun _ => u3) (xB_nil (G := Gv)))
end K40
end
set_option maxHeartbeats 4000000
section
/-! The law's run: its end. -/
namespace K40
open NB KM
section
variable {Φ : Nat → List D → M D} {δ : List (Option D)} {μ : List MO}
theorem x_init {a : Ex} {ds : List D} (h : evE Gv Φ a δ μ = some (.ok (.tup ds), μ)) : evE Gv Φ (.slc a .no (.yes (.neg (.int 1)))) δ μ = some (.ok (.tup ds.dropLast), μ) := by
  have e1 : evC Gv Φ .no δ μ = some (.ok none, μ) := by simp [evC, M.ok]
  have e2 : evC Gv Φ (.yes (.neg (.int 1))) δ μ = some (.ok (some (-1)), μ) := by simp [evC, evE, M.bind, M.ok]
  have e : cutD ds none (some (-1)) = ds.dropLast := by
    have h1 : HT.sIx ds.length 0 none = 0 := rfl
    have h2 : HT.sIx ds.length ds.length (some (-1)) = ds.length - 1 := by
      show ((-1 : Int) + (ds.length : Int)).toNat = _
      omega
    unfold cutD
    rw [h1, h2, List.drop_zero, Nat.sub_zero, List.dropLast_eq_take]
  simp only [evE, M.bind] at h ⊢
  simp only [h, e1, e2, e]
end
def b21 : Sxs := (.cons (.ite (.not_ (.call 31 (.cons (.call 27 (.cons (.var 17) (.cons (.var 18) (.cons (.var 16) (.cons (.var 8) (.cons (.var 20) .nil)))))) (.cons (.call 44 (.cons (.var 17) (.cons (.var 18) (.cons (.var 16) (.cons (.var 8) (.cons (.var 20) .nil)))))) .nil)))) (.cons (.ret (.bl false)) .nil) .nil) .nil)
theorem law_6loop {c w : Nat} {A : List (List Rat)} {x : List Rat} (h : Drawn c w A x) (c4 : c ≤ 4) {B : List (List Rat)} {e y v : List Rat} (hv : v.length = w ∧ ∀ p ∈ v, W6 24 p) (s : D) (o10 o11 o19 : Option D) (μ : List MO) : ∀ (ps : List (List Rat × Rat)) (o8 o20 : Option D), (∀ q ∈ ps, q.1.length = c + 1 ∧ (∀ z ∈ q.1, Sz 1500 z) ∧ Sz 9000 q.2) →
    ∃ o8' o20', forL [] (.cons (.nm 8) (.cons (.nm 20) .nil)) (fun δ' => exB Gv (R 19) b21 δ') (ps.map fun q => .tup [tupD q.1, rt q.2]) (δ4 s c w A x B e y v o8 o10 o11 (some (matD (wideL w A))) (some (tupD (golL (wideL w A) x))) o19 o20 none) μ = some (.ok (.nx (δ4 s c w A x B e y v o8' o10 o11 (some (matD (wideL w A))) (some (tupD (golL (wideL w A) x))) o19 o20' none)), μ)
  | [], o8, o20, _ => ⟨o8, o20, rfl⟩
  | q :: ps, o8, o20, hp => by
    have hW := h.wide c4
    obtain ⟨E, hA, hg, hw, hne, hx⟩ := hW.eqs
    obtain ⟨o8', o20', ih⟩ := law_6loop h c4 hv s o10 o11 o19 μ ps (some (tupD q.1)) (some (rt q.2)) fun d hd => hp d (List.mem_cons_of_mem _ hd)
    obtain ⟨q1, q2, q3⟩ := hp q List.mem_cons_self
    have hul : q.1.length = (wideL w A).length := by rw [q1, hW.len]
    have sv : ∀ p ∈ v, Sz 9000 p := fun p hp => (hv.2 p hp).sz (by decide) |>.mono (by decide)
    refine ⟨o8', o20', (forL_nx (δ1 := δ4 s c w A x B e y v (some (tupD q.1)) o10 o11 (some (matD (wideL w A))) (some (tupD (golL (wideL w A) x))) o19 (some (rt q.2)) none) (δ2 := δ4 s c w A x B e y v (some (tupD q.1)) o10 o11 (some (matD (wideL w A))) (some (tupD (golL (wideL w A) x))) o19 (some (rt q.2)) none) (μ' := μ) rfl ?_ rfl).trans ih⟩
    show exB Gv (R 19) (.cons _ .nil) _ μ = _
    have r1 := r_isdual E 14 μ q2 (by decide) hul q3 sv
    have r2 := r_lisdual E 14 μ hne q2 (by decide) hul q3 sv
    have ht : evE Gv (R 19) (.not_ (.call 31 (.cons (.call 27 (.cons (.var 17) (.cons (.var 18) (.cons (.var 16) (.cons (.var 8) (.cons (.var 20) .nil)))))) (.cons (.call 44 (.cons (.var 17) (.cons (.var 18) (.cons (.var 16) (.cons (.var 8) (.cons (.var 20) .nil)))))) .nil)))) (δ4 s c w A x B e y v (some (tupD q.1)) o10 o11 (some (matD (wideL w A))) (some (tupD (golL (wideL w A) x))) o19 (some (rt q.2)) none) μ = _ :=
      x_not ((xE_call (xA_cons ((xE_call (xA_cons (x_var rfl) (xA_cons (x_var rfl) (xA_cons (x_var rfl) (xA_cons (x_var rfl) (xA_cons (x_var rfl) xA_nil)))))).trans r1) (xA_cons ((xE_call (xA_cons (x_var rfl) (xA_cons (x_var rfl) (xA_cons (x_var rfl) (xA_cons (x_var rfl) (xA_cons (x_var rfl) xA_nil)))))).trans r2) xA_nil))).trans (r_same_bl 18 μ _))
    exact (xB_nx (xS_iteF ht (xB_nil (G := Gv)))).trans (xB_nil (G := Gv))
theorem refused_1 {c w : Nat} {A : List (List Rat)} {x : List Rat} (h : Drawn c w A x) (μ : List MO) : R 19 46 [matD A, tupD (golL A x ++ [0])] μ = some (.ok (.bl true), μ) :=
  r_refused (j := 14) (r_check_len 14 μ A (golL A x ++ [0]) (by simp [golL]))
theorem refused_2 {c w : Nat} {A : List (List Rat)} {x : List Rat} (h : Drawn c w A x) (hc : 1 < c) (μ : List MO) : R 19 46 [.tup ((A.map tupD).dropLast ++ [tupD (A.getLastD [] ++ [0])]), tupD (golL A x)] μ = some (.ok (.bl true), μ) := by
  obtain ⟨E, hA, hg, hw, hne, hx⟩ := h.eqs
  have e : (.tup ((A.map tupD).dropLast ++ [tupD (A.getLastD [] ++ [0])]) : D) = matD (A.dropLast ++ (A.getLastD [] ++ [0]) :: []) := by simp [matD, List.map_dropLast]
  rw [e]
  have hl := h.len
  have hw2 : widthOf (A.dropLast ++ (A.getLastD [] ++ [0]) :: []) = w := by
    cases A with
    | nil => exact absurd rfl hne
    | cons l A =>
      cases A with
      | nil => simp at hl; omega
      | cons m A => exact hw
  refine r_refused (j := 14) (r_check_row 14 μ A.dropLast (A.getLastD [] ++ [0]) [] (golL A x) (a := 14) (by decide) ?_ (fun z hz => ?_) (by rw [hw2]; have := h.w1; omega) ?_)
  · simp only [List.length_dropLast, List.length_nil, golL, List.length_map]
    omega
  · have hz := List.dropLast_subset _ hz
    exact ⟨by rw [hw2, (h.row z hz).1], fun p hp => (hA z hz p hp).sz⟩
  · rw [hw2, List.length_append]
    have : A.getLastD [] ∈ A := by
      rw [List.getLastD_eq_getLast?, List.getLast?_eq_some_getLast hne]
      exact List.getLast_mem hne
    rw [(h.row _ this).1]
    simp
theorem refused_3 {w : Nat} {A : List (List Rat)} {x : List Rat} (h : Drawn 1 w A x) (μ : List MO) : R 19 46 [.tup [tupD (A.getD 0 []), .tup []], tupD (golL A x ++ golL A x)] μ = some (.ok (.bl true), μ) := by
  obtain ⟨E, hA, hg, hw, hne, hx⟩ := h.eqs
  have hl := h.len
  have w1 := h.w1
  have e : (.tup [tupD (A.getD 0 []), .tup []] : D) = matD ([A.getD 0 []] ++ [] :: []) := by simp [matD, tupD, rts]
  rw [e]
  have hm : A.getD 0 [] ∈ A := by
    cases A with
    | nil => exact absurd rfl hne
    | cons l A => exact List.mem_cons_self
  have hw2 : widthOf ([A.getD 0 []] ++ [] :: []) = w := (h.row _ hm).1
  refine r_refused (j := 14) (r_check_row 14 μ [A.getD 0 []] [] [] (golL A x ++ golL A x) (a := 14) (by decide) ?_ (fun z hz => ?_) (by rw [hw2]; omega) ?_)
  · simp [golL, hl]
  · rw [List.mem_singleton.mp hz]
    exact ⟨by rw [hw2, (h.row _ hm).1], fun p hp => (hA _ hm p hp).sz⟩
  · rw [hw2]
    simp
    omega
end K40
end
set_option maxHeartbeats 4000000
section
namespace K40
open NB KM
theorem law_6 {c w : Nat} {A : List (List Rat)} {x : List Rat} (h : Drawn c w A x) (c4 : c ≤ 4) (w6 : w ≤ 6) {B : List (List Rat)} {e y v : List Rat} (hv : v.length = w ∧ ∀ p ∈ v, W6 24 p) (s : D) (o8 o11 : Option D) {μ : List MO} (T : Tape μ []) {z u : List Rat} (u1 : u.length = c + 1) (u2 : ∀ p ∈ u, Sz 1500 p) (z1 : ∀ p ∈ z, Sz 239 p) (z2 : z.length = w) :
    ∃ μ', exB Gv (R 19) (L 20) (δ4 s c w A x B e y v o8 (some (.tup [.str "best", tupD z, rt (dotL v z), tupD u])) o11 (some (matD (wideL w A))) (some (tupD (golL (wideL w A) x))) none none none) μ = some (.ok (.rt (.bl true)), μ') := by
  have c1 := h.c1
  have w1 := h.w1
  have hW := h.wide c4
  have hF := hW.free w6
  obtain ⟨E, hA, hg, hw, hne, hx⟩ := hF.eqs
  rw [gol_free hW] at E hg hx
  have sv : ∀ p ∈ v, Sz 14 p := fun p hp => (hv.2 p hp).sz (by decide)
  have svz : Sz 1800 (dotL v z) := (dotL_sz v z sv z1).mono (by
    rw [hv.1]
    have : (14 + 239 + 1) * w ≤ 254 * 7 := Nat.mul_le_mul (by decide) w1.2
    omega)
  obtain ⟨_, μ1, ⟨t, rfl, t1, t2⟩, T1, e1⟩ := d_siz (j := 17) (i := 1) (δ := δ4 s c w A x B e y v o8 (some (.tup [.str "best", tupD z, rt (dotL v z), tupD u])) o11 (some (matD (wideL w A))) (some (tupD (golL (wideL w A) x))) none none none) rfl μ [] T
  have st := t1.sz (by decide)
  obtain ⟨_, μ2, ⟨r, rfl, r1, r2⟩, T2, e2⟩ := d_rowN (j := 17) (n := c + 1) (a := .bin .add (.var 2) (.int 1)) (δ := δ4 s c w A x B e y v o8 (some (.tup [.str "best", tupD z, rt (dotL v z), tupD u])) o11 (some (matD (wideL w A))) (some (tupD (golL (wideL w A) x))) (some (rt (dotL v z + -t))) none none) (fun μ => by rw [show ((c + 1 : Nat) : Int) = (c : Int) + 1 from by omega]; exact x_addS (x_var rfl) (x_int 1)) (by omega) (by show 5 < 22; decide) rfl μ1 [] T1
  obtain ⟨o8', o20', el⟩ := law_6loop h c4 hv (B := B) (e := e) (y := y) s (some (.tup [.str "best", tupD z, rt (dotL v z), tupD u])) o11 (some (rt (dotL v z + -t))) μ2 [(u, dotL v z + -t), (r, dotL v z)] o8 none (fun q hq => by
    rcases List.mem_cons.mp hq with rfl | hq
    · exact ⟨u1, u2, (svz.add st.neg).mono (by decide)⟩
    · rcases List.mem_cons.mp hq with rfl | hq
      · exact ⟨r1, fun p hp => ((r2 p hp).sz (by decide)).mono (by decide), svz.mono (by decide)⟩
      · cases hq)
  obtain ⟨_, μ3, ⟨t', rfl, t1', t2'⟩, T3, e3⟩ := d_siz (j := 17) (i := 1) (δ := δ4 s c w A x B e y v o8' (some (.tup [.str "best", tupD z, rt (dotL v z), tupD u])) o11 (some (matD (wideL w A))) (some (tupD (golL (wideL w A) x))) (some (rt (dotL v z + -t))) o20' (some (matD (freeL (wideL w A))))) rfl μ2 [] T2
  obtain ⟨z', hz', sz', ez'⟩ := p_far E hA hg (w := v ++ [t']) (by rw [List.length_append, hv.1, hw]; rfl) (fun p hp => by
    rcases List.mem_append.mp hp with hp | hp
    · exact (sv p hp).mono (by decide)
    · rw [List.mem_singleton.mp hp]
      exact (t1'.sz (by decide)).mono (by decide)) hne ⟨_, hx⟩ (c := w) (by rw [hw]; omega) (fun k hk => by
    have hk2 : k < (wideL w A).length := by simpa [freeL] using hk
    unfold aij freeL
    rw [List.getD_eq_getElem?_getD (l := List.map _ _), List.getElem?_map, List.getElem?_eq_getElem hk2]
    show ((wideL w A)[k] ++ [(0 : Rat)]).getD w 0 = 0
    have := (hW.row _ (List.getElem_mem hk2)).1
    rw [List.getD_eq_getElem?_getD, List.getElem?_append_right (by omega), this, Nat.sub_self]
    rfl) (by
    have : (v ++ [t']).getD w 0 = t' := by
      rw [List.getD_eq_getElem?_getD, List.getElem?_append_right (by rw [hv.1]; exact Nat.le_refl _), hv.1, Nat.sub_self]
      rfl
    rw [this]
    exact t2')
  refine ⟨μ3, ?_⟩
  show exB Gv (R 19) (.cons _ (.cons _ (.cons _ (.cons _ (.cons _ (.cons _ .nil)))))) _ μ = _
  refine (xB_nx (xS_asg (δ' := δ4 s c w A x B e y v o8 (some (.tup [.str "best", tupD z, rt (dotL v z), tupD u])) o11 (some (matD (wideL w A))) (some (tupD (golL (wideL w A) x))) (some (rt (dotL v z + -t))) none none) ((xE_call (xA_cons (x_idx (k := 2) (ds := [.str "best", tupD z, rt (dotL v z), tupD u]) (x_var rfl) (x_int 2) rfl rfl) (xA_cons ((xE_call (xA_cons e1 xA_nil)).trans (r_lminus 18 μ1 t)) xA_nil))).trans (r_lplus 17 μ1 _ _ svz st.neg (by decide))) rfl)).trans ?_
  refine (xB_nx (xS_forS (xI_seqS (d := .tup [.tup [tupD u, rt (dotL v z + -t)], .tup [tupD r, rt (dotL v z)]]) (x_tupS (xA_cons (x_tupS (xA_cons (x_idx (k := 3) (ds := [.str "best", tupD z, rt (dotL v z), tupD u]) (x_var rfl) (x_int 3) rfl rfl) (xA_cons (x_var rfl) xA_nil)) (by show 2 ≤ 1000; decide)) (xA_cons (x_tupS (xA_cons e2 (xA_cons (x_idx (k := 2) (ds := [.str "best", tupD z, rt (dotL v z), tupD u]) (x_var rfl) (x_int 2) rfl rfl) xA_nil)) (by show 2 ≤ 1000; decide)) xA_nil)) (by show 2 ≤ 1000; decide)) rfl) el)).trans ?_
  have hfr := x_frees (Φ := R 19) (δ := δ4 s c w A x B e y v o8' (some (.tup [.str "best", tupD z, rt (dotL v z), tupD u])) o11 (some (matD (wideL w A))) (some (tupD (golL (wideL w A) x))) (some (rt (dotL v z + -t))) o20' none) (μ := μ2) (k := 8) (a := .var 17) (A := wideL w A) (x_var rfl) (by show 8 < 22; decide) (by rw [hW.len]; omega) fun l hl => by rw [(hW.row l hl).1]; omega
  refine (xB_nx (xS_asg (δ' := δ4 s c w A x B e y v o8' (some (.tup [.str "best", tupD z, rt (dotL v z), tupD u])) o11 (some (matD (wideL w A))) (some (tupD (golL (wideL w A) x))) (some (rt (dotL v z + -t))) o20' (some (matD (freeL (wideL w A))))) hfr rfl)).trans ?_
  have hcat := x_addT (Φ := R 19) (δ := δ4 s c w A x B e y v o8' (some (.tup [.str "best", tupD z, rt (dotL v z), tupD u])) o11 (some (matD (wideL w A))) (some (tupD (golL (wideL w A) x))) (some (rt (dotL v z + -t))) o20' (some (matD (freeL (wideL w A))))) (μ := μ2) (μ' := μ2) (μ'' := μ3) (a := .var 16) (xs := rts v) (x_var rfl) (x_tupS (xA_cons e3 xA_nil) (by show 1 ≤ 1000; decide)) (by simp [rts, hv.1]; omega)
  have ev : (.tup (rts v ++ [rt t']) : D) = tupD (v ++ [t']) := by simp [tupD, rts]
  rw [ev] at hcat
  refine (xB_nx (xS_asg (δ' := δ4 s c w A x B e y v o8' (some (.tup [.str "far", tupD z'])) o11 (some (matD (wideL w A))) (some (tupD (golL (wideL w A) x))) (some (rt (dotL v z + -t))) o20' (some (matD (freeL (wideL w A))))) ((xE_call (xA_cons (x_var rfl) (xA_cons (x_var rfl) (xA_cons hcat xA_nil)))).trans (ez' 11 μ3)) rfl)).trans ?_
  have q1 : evE Gv (R 19) (.cmp .ne (.idx (.var 10) (.int 0)) (.str "far")) (δ4 s c w A x B e y v o8' (some (.tup [.str "far", tupD z'])) o11 (some (matD (wideL w A))) (some (tupD (golL (wideL w A) x))) (some (rt (dotL v z + -t))) o20' (some (matD (freeL (wideL w A))))) μ3 = _ := x_neS (x_idx (k := 0) (ds := [.str "far", tupD z']) (x_var rfl) (x_int 0) rfl rfl) (by decide +kernel)
  have q2 : evE Gv (R 19) (.not_ (.call 42 (.cons (.var 21) (.cons (.var 18) (.cons (.idx (.var 10) (.int 1)) .nil))))) (δ4 s c w A x B e y v o8' (some (.tup [.str "far", tupD z'])) o11 (some (matD (wideL w A))) (some (tupD (golL (wideL w A) x))) (some (rt (dotL v z + -t))) o20' (some (matD (freeL (wideL w A))))) μ3 = _ :=
    x_not ((xE_call (xA_cons (x_var rfl) (xA_cons (x_var rfl) (xA_cons (x_idx (k := 1) (ds := [.str "far", tupD z']) (x_var rfl) (x_int 1) rfl rfl) xA_nil)))).trans (r_lmeets E 14 μ3 hne hz' sz' (by decide)))
  refine (xB_nx (xS_iteF (x_or q1 fun _ => q2) (xB_nil (G := Gv)))).trans ?_
  refine xB_rt (xS_ret (d := .bl (true && true)) (x_and ?_ fun _ => ?_))
  · have hc := x_addT (Φ := R 19) (δ := δ4 s c w A x B e y v o8' (some (.tup [.str "far", tupD z'])) o11 (some (matD (wideL w A))) (some (tupD (golL (wideL w A) x))) (some (rt (dotL v z + -t))) o20' (some (matD (freeL (wideL w A))))) (μ := μ3) (μ' := μ3) (μ'' := μ3) (a := .var 9) (xs := rts (golL A x)) (x_var rfl) (x_tupS (xA_cons x_rt0 xA_nil) (by decide)) (by simp [rts, golL, h.len]; omega)
    have eg : (.tup (rts (golL A x) ++ [rt 0]) : D) = tupD (golL A x ++ [0]) := by simp [tupD, rts]
    rw [eg] at hc
    exact (xE_call (xA_cons (x_var rfl) (xA_cons hc xA_nil))).trans (refused_1 h μ3)
  · have ht : evE Gv (R 19) (.cmp .gt (.var 2) (.int 1)) (δ4 s c w A x B e y v o8' (some (.tup [.str "far", tupD z'])) o11 (some (matD (wideL w A))) (some (tupD (golL (wideL w A) x))) (some (rt (dotL v z + -t))) o20' (some (matD (freeL (wideL w A))))) μ3 = _ := x_gtI (x_var rfl) (x_int 1)
    by_cases q : 1 < c
    · rw [decide_eq_true (by omega)] at ht
      have hAne : A ≠ [] := by
        intro e
        have := h.len
        subst e
        simp at this
        omega
      have hl : evE Gv (R 19) (.idx (.var 6) (.neg (.int 1))) (δ4 s c w A x B e y v o8' (some (.tup [.str "far", tupD z'])) o11 (some (matD (wideL w A))) (some (tupD (golL (wideL w A) x))) (some (rt (dotL v z + -t))) o20' (some (matD (freeL (wideL w A))))) μ3 = some (.ok (tupD (A.getLastD [])), μ3) := x_last (ds := A.map tupD) (x_var rfl) rfl (by
        rw [List.getLast?_map, List.getLastD_eq_getLast?, List.getLast?_eq_some_getLast hAne]
        rfl)
      have hl2 := x_addT hl (x_tupS (xA_cons x_rt0 xA_nil) (by decide)) (by
        have : A.getLastD [] ∈ A := by
          rw [List.getLastD_eq_getLast?, List.getLast?_eq_some_getLast hAne]
          exact List.getLast_mem hAne
        have hh := (h.row _ this).1
        show (rts _).length + 1 ≤ 1000
        simp only [rts, List.length_map]
        omega)
      have hc := x_addT (x_init (Φ := R 19) (δ := δ4 s c w A x B e y v o8' (some (.tup [.str "far", tupD z'])) o11 (some (matD (wideL w A))) (some (tupD (golL (wideL w A) x))) (some (rt (dotL v z + -t))) o20' (some (matD (freeL (wideL w A))))) (μ := μ3) (a := .var 6) (ds := A.map tupD) (x_var rfl)) (x_tupS (xA_cons hl2 xA_nil) (by show 1 ≤ 1000; decide)) (by
        rw [List.length_dropLast, List.length_map, h.len]
        show c - 1 + 1 ≤ 1000
        omega)
      have er : (.tup (rts (A.getLastD []) ++ [rt 0]) : D) = tupD (A.getLastD [] ++ [0]) := by simp [tupD, rts]
      rw [er] at hc
      exact (xE_call (xA_cons (x_iteT ht hc) (xA_cons (x_iteT ht (x_var (d := tupD (golL A x)) rfl)) xA_nil))).trans (refused_2 h q μ3)
    · rw [decide_eq_false (by omega)] at ht
      have hc1 : c = 1 := by omega
      subst hc1
      have hi : evE Gv (R 19) (.idx (.var 6) (.int 0)) (δ4 s 1 w A x B e y v o8' (some (.tup [.str "far", tupD z'])) o11 (some (matD (wideL w A))) (some (tupD (golL (wideL w A) x))) (some (rt (dotL v z + -t))) o20' (some (matD (freeL (wideL w A))))) μ3 = some (.ok (tupD (A.getD 0 [])), μ3) := x_idx (k := 0) (ds := A.map tupD) (x_var rfl) (x_int 0) rfl (by
        have := h.len
        cases A with
        | nil => simp at this
        | cons l A => rfl)
      have hgg := x_addT (Φ := R 19) (δ := δ4 s 1 w A x B e y v o8' (some (.tup [.str "far", tupD z'])) o11 (some (matD (wideL w A))) (some (tupD (golL (wideL w A) x))) (some (rt (dotL v z + -t))) o20' (some (matD (freeL (wideL w A))))) (μ := μ3) (μ' := μ3) (μ'' := μ3) (a := .var 9) (b := .var 9) (xs := rts (golL A x)) (ys := rts (golL A x)) (x_var rfl) (x_var rfl) (by simp [rts, golL, h.len])
      have eg : (.tup (rts (golL A x) ++ rts (golL A x)) : D) = tupD (golL A x ++ golL A x) := by simp [tupD, rts]
      rw [eg] at hgg
      exact (xE_call (xA_cons (x_iteF ht (x_tupS (xA_cons hi (xA_cons (x_tupS xA_nil (by decide)) xA_nil)) (by show 2 ≤ 1000; decide))) (xA_cons (x_iteF ht hgg) xA_nil))).trans (refused_3 h μ3)
theorem hplain (ns : List Int) (hn : ns.length ≤ 63) : ∃ μ', run Gv pg.fns 20 47 [.scr (ns.map D.int)] [] = some (.ok (.bl true), μ') := by
  obtain ⟨c, w, A, x, μ1, ⟨c4, w6⟩, h, T1, e1⟩ := law_1 ns hn
  obtain ⟨o8, o10, o11, μ2, T2, e2⟩ := law_2 h (.scr (ns.map D.int)) T1
  obtain ⟨B, e, y, o8', o10', μ3, hB, T3, e3⟩ := law_3 h (.scr (ns.map D.int)) o8 o10 o11 T2
  obtain ⟨v, o10'', μ4, hv, T4, e4⟩ := law_4 h hB (.scr (ns.map D.int)) o8' o10' o11 T3
  obtain ⟨z, u, u1, u2, z1, z2, e5⟩ := law_5 h c4 (B := B) (e := e) (y := y) hv (.scr (ns.map D.int)) o8' o10'' o11 μ4
  obtain ⟨μ5, e6⟩ := law_6 h c4 w6 (B := B) (e := e) (y := y) hv (.scr (ns.map D.int)) o8' o11 T4 u1 u2 z1 z2
  have hb : exB Gv (R 19) f47.body (some (.scr (ns.map D.int)) :: List.replicate 21 none) [] = some (.ok (.rt (.bl true)), μ5) := e1.trans (e2.trans (e3.trans (e4.trans (e5.trans e6))))
  show ∃ μ', R (19 + 1) 47 [.scr (ns.map D.int)] [] = _
  rw [R_eq (f := f47) rfl]
  refine ⟨[], ?_⟩
  exact run_drop (f := f47) (μ := []) rfl rfl rfl rfl hb
end K40
end
set_option maxHeartbeats 4000000
section
open PySem PySem.W PySem.Calls PyProof.Rows
theorem PySem.Challenge.cw_nowherebelow_k40_whole_straight_equation_holds : PySem.Challenge.rw_nowherebelow_k40_whole_straight_equation.Holds := by
  exact K40.holds K40.hB K40.hplain
end
