import PyProof.Rows.All
import Wide.All
import OpenK.AllK
import Wide.FinOn
import HandS.ForMost
import HandS.Exc
import HandS.WordsExc
import HandS.Star
import HandS.IsInst
import HandS.TupLe
import HandS.Deep
import HandS.Zip
import KE.DataEq
import HandS.TupAny
import HandS.Text
import HandS.Defaults
import HandS.Head0
import HandS.Head1
import HandS.Head2
import HandS.HeadEnd
import HandS.HeadHook1
import HandS.HeadHook2
import HandS.HeadHook3
import HandS.HeadHook4
import KE.BitLaws
import PySem.Challenge.RW_noticesheard_k00_patterns_and_facts
set_option Elab.async false
set_option linter.all false
set_option maxRecDepth 100000
set_option maxHeartbeats 0
/-! Iv, part A: pure values, the pure state, what it is to represent them on the abstract heap. -/
namespace Iv
open PySem L2

/-- pure values: trees, and references to mutable cells -/
inductive D where
  | non | bl (b : Bool) | int (i : Int) | str (x : List Nat) | tup (xs : List D) | lst (xs : List D) | ref (r : Nat) | ins (c : Nat) (fs : List D)

inductive Cell where
  | lst (xs : List D)
abbrev IH := List Cell

inductive R (α : Type) where
  | ok (a : α) (h : IH)
  | ex (c : Nat) (fs : List D) (h : IH)
  | bad

def R.post {α : Type} (r : R α) (K : α → IH → Prop) (X : Nat → List D → IH → Prop) : Prop :=
  match r with
  | .ok a h => K a h
  | .ex c fs h => X c fs h
  | .bad => False
theorem R.post.mono {α : Type} {r : R α} {K K' : α → IH → Prop} {X X' : Nat → List D → IH → Prop} (p : r.post K X) (hk : ∀ a h, K a h → K' a h) (hx : ∀ c fs h, X c fs h → X' c fs h) : r.post K' X' := by
  cases r with
  | ok a h => exact hk _ _ p
  | ex c fs h => exact hx _ _ _ p
  | bad => exact p

abbrev M (α : Type) := IH → R α
def ret {α : Type} (a : α) : M α := fun h => .ok a h
def bnd {α β : Type} (m : M α) (f : α → M β) : M β := fun h =>
  match m h with
  | .ok a h' => f a h'
  | .ex c fs h' => .ex c fs h'
  | .bad => .bad
def lft {α : Type} (o : Option α) : M α := fun h =>
  match o with
  | some a => .ok a h
  | none => .bad
theorem post_bnd {α β : Type} {m : M α} {f : α → M β} {h : IH} {K : β → IH → Prop} {X : Nat → List D → IH → Prop} :
    ((bnd m f) h).post K X ↔ (m h).post (fun a h' => (f a h').post K X) X := by
  unfold bnd
  cases m h <;> exact Iff.rfl
theorem post_lft {α : Type} {o : Option α} {h : IH} {K : α → IH → Prop} {X : Nat → List D → IH → Prop} (p : ((lft o) h).post K X) : ∃ a, o = some a ∧ K a h := by
  cases o with
  | none => exact p.elim
  | some a => exact ⟨a, rfl, p⟩

/-- what is fixed through a law: the program, the written part, the classes and errors by their numbers -/
structure GC where
  P : Program
  w : World
  K : PySem.W.Frag
  mg : Str → Option Value
  base : Heap
  cls : Nat → Option (Addr × List Str)
  exc : Nat → Option (Value × List Str)

/-- F: what is frozen (never written again); rho: where the cells stand -/
structure Wd where
  F : Hp
  rho : List Addr

mutual
inductive Rep (G : GC) (W : Wd) : D → V → Prop
  | non : Rep G W .non .non
  | bl (b : Bool) : Rep G W (.bl b) (.bl b)
  | int (i : Int) : Rep G W (.int i) (.int i)
  | str (x : List Nat) : x.length ≤ sizeLine → Rep G W (.str x) (.str ⟨x.toArray⟩)
  | tup {a : Addr} {ds : List D} {vs : List V} : SqT G.K W.F a vs → ds.length ≤ sizeLine → Reps G W ds vs → Rep G W (.tup ds) (.ref a)
  | lst {a : Addr} {ds : List D} {vs : List V} : SqL G.K W.F a vs → ds.length ≤ sizeLine → Reps G W ds vs → Rep G W (.lst ds) (.ref a)
  | ref {r : Nat} {a : Addr} : W.rho[r]? = some a → Rep G W (.ref r) (.ref a)
  | ins {c : Nat} {a C dx : Addr} {ns : List Str} {ds : List D} {vs : List V} : G.cls c = some (C, ns) → W.F a = some (.ins C dx (ns.zip vs)) → ns.length = vs.length → Reps G W ds vs → Rep G W (.ins c ds) (.ref a)
inductive Reps (G : GC) (W : Wd) : List D → List V → Prop
  | nil : Reps G W [] []
  | cons {d : D} {v : V} {ds : List D} {vs : List V} : Rep G W d v → Reps G W ds vs → Reps G W (d :: ds) (v :: vs)
end
variable {G : GC}

theorem Reps.length {W : Wd} : ∀ {ds : List D} {vs : List V}, Reps G W ds vs → ds.length = vs.length
  | _, _, .nil => rfl
  | _, _, .cons _ t => by rw [List.length_cons, List.length_cons, Reps.length t]
theorem Reps.get {W : Wd} : ∀ {ds : List D} {vs : List V} {i : Nat} {d : D}, Reps G W ds vs → ds[i]? = some d → ∃ v, vs[i]? = some v ∧ Rep G W d v
  | _, _, _, _, .nil, e => by simp at e
  | _, _, 0, _, .cons r _, e => by simp at e; subst e; exact ⟨_, rfl, r⟩
  | _, _, i + 1, d, .cons _ t, e => by
    obtain ⟨v, h1, h2⟩ := Reps.get (i := i) (d := d) t (by simpa using e)
    exact ⟨v, by simpa using h1, h2⟩
theorem Reps.append {W : Wd} : ∀ {ds es : List D} {vs us : List V}, Reps G W ds vs → Reps G W es us → Reps G W (ds ++ es) (vs ++ us)
  | _, _, _, _, .nil, s => s
  | _, _, _, _, .cons r t, s => .cons r (Reps.append t s)
theorem Reps.take {W : Wd} : ∀ {ds : List D} {vs : List V} (n : Nat), Reps G W ds vs → Reps G W (ds.take n) (vs.take n)
  | _, _, 0, _ => .nil
  | _, _, _ + 1, .nil => .nil
  | _, _, n + 1, .cons r t => .cons r (Reps.take n t)
theorem Reps.drop {W : Wd} : ∀ {ds : List D} {vs : List V} (n : Nat), Reps G W ds vs → Reps G W (ds.drop n) (vs.drop n)
  | _, _, 0, r => r
  | _, _, _ + 1, .nil => .nil
  | _, _, n + 1, .cons _ t => Reps.drop n t
theorem Reps.set {W : Wd} {d : D} {v : V} (r : Rep G W d v) : ∀ {ds : List D} {vs : List V} (i : Nat), Reps G W ds vs → Reps G W (ds.set i d) (vs.set i v)
  | _, _, _, .nil => .nil
  | _, _, 0, .cons _ t => .cons r t
  | _, _, i + 1, .cons q t => .cons q (Reps.set r i t)
theorem Reps.snoc {W : Wd} {ds : List D} {vs : List V} {d : D} {v : V} (h : Reps G W ds vs) (r : Rep G W d v) : Reps G W (ds ++ [d]) (vs ++ [v]) := h.append (.cons r .nil)
theorem Reps.dropLast {W : Wd} {ds : List D} {vs : List V} (h : Reps G W ds vs) : Reps G W ds.dropLast vs.dropLast := by
  rw [List.dropLast_eq_take, List.dropLast_eq_take, h.length]
  exact h.take _

/-- a later world: more is frozen, more cells -/
structure Le (W W' : Wd) : Prop where
  f : ∀ a o, W.F a = some o → W'.F a = some o
  r : ∃ more, W'.rho = W.rho ++ more
theorem Le.refl (W : Wd) : Le W W := ⟨fun _ _ h => h, [], by simp⟩
theorem Le.trans {W W1 W2 : Wd} (a : Le W W1) (b : Le W1 W2) : Le W W2 :=
  ⟨fun x o h => b.f x o (a.f x o h), let ⟨m, e⟩ := a.r; let ⟨n, e'⟩ := b.r; ⟨m ++ n, by rw [e', e, List.append_assoc]⟩⟩
theorem Le.at {W W' : Wd} (l : Le W W') {r : Nat} {a : Addr} (h : W.rho[r]? = some a) : W'.rho[r]? = some a := by
  obtain ⟨m, e⟩ := l.r
  rw [e, List.getElem?_append_left (List.getElem?_eq_some_iff.mp h).1]
  exact h
theorem rd_le {F F' : Hp} {a : Addr} {u : HO} (l : ∀ a o, F a = some o → F' a = some o) (h : Rd F a u) : Rd F' a u := by
  rcases h with h | ⟨o, h⟩
  · exact .inl (l _ _ h)
  · exact .inr ⟨o, l _ _ h⟩
theorem sqT_le {K : PySem.W.Frag} {F F' : Hp} {a : Addr} {vs : List V} (l : ∀ a o, F a = some o → F' a = some o) (h : SqT K F a vs) : SqT K F' a vs := by
  rcases h with h | h
  · exact .inl (rd_le l h)
  · exact .inr h
theorem sqL_le {K : PySem.W.Frag} {F F' : Hp} {a : Addr} {vs : List V} (l : ∀ a o, F a = some o → F' a = some o) (h : SqL K F a vs) : SqL K F' a vs := by
  rcases h with h | h
  · exact .inl (rd_le l h)
  · exact .inr h
mutual
theorem Rep.mono {W W' : Wd} (l : Le W W') : ∀ {d : D} {v : V}, Rep G W d v → Rep G W' d v
  | _, _, .non => .non
  | _, _, .bl b => .bl b
  | _, _, .int i => .int i
  | _, _, .str x h => .str x h
  | _, _, .tup h z r => .tup (sqT_le l.f h) z (Reps.mono l r)
  | _, _, .lst h z r => .lst (sqL_le l.f h) z (Reps.mono l r)
  | _, _, .ref h => .ref (l.at h)
  | _, _, .ins h1 h2 h3 r => .ins h1 (l.f _ _ h2) h3 (Reps.mono l r)
theorem Reps.mono {W W' : Wd} (l : Le W W') : ∀ {ds : List D} {vs : List V}, Reps G W ds vs → Reps G W' ds vs
  | _, _, .nil => .nil
  | _, _, .cons r t => .cons (Rep.mono l r) (Reps.mono l t)
end

/-- a cell at a -/
def CellR (G : GC) (W : Wd) (H : Hp) (a : Addr) : Cell → Prop
  | .lst xs => ∃ vs, H a = some (.lst vs) ∧ Reps G W xs vs ∧ xs.length ≤ sizeLine
theorem CellR.there {W : Wd} {H : Hp} {a : Addr} {c : Cell} (h : CellR G W H a c) : ∃ o, H a = some o := by
  cases c with
  | lst xs => obtain ⟨vs, e, _⟩ := h; exact ⟨_, e⟩

/-- the heap is held -/
structure Hr (G : GC) (W : Wd) (h : IH) (H : Hp) : Prop where
  sub : ∀ a o, W.F a = some o → H a = some o
  len : W.rho.length = h.length
  nd : W.rho.Nodup
  cell : ∀ (i : Nat) (a : Addr) (c : Cell), W.rho[i]? = some a → h[i]? = some c → CellR G W H a c
  nf : ∀ a ∈ W.rho, W.F a = none
theorem Hr.dom {W : Wd} {h : IH} {H : Hp} (x : Hr G W h H) {a : Addr} (ha : a ∈ W.rho) : ∃ o, H a = some o := by
  obtain ⟨i, e⟩ := List.mem_iff_getElem?.mp ha
  have hi : i < h.length := by rw [← x.len]; exact (List.getElem?_eq_some_iff.mp e).1
  exact CellR.there (x.cell i a _ e (List.getElem?_eq_getElem hi))

/-- from (W, H) to (W', H'): cells may change, all else stays; what is newly frozen and the new cells are new -/
structure Fr (W : Wd) (H : Hp) (W' : Wd) (H' : Hp) : Prop where
  f : ∀ a o, W.F a = some o → W'.F a = some o
  r : ∃ more, W'.rho = W.rho ++ more ∧ ∀ a ∈ more, H a = none
  pres : ∀ a o, H a = some o → a ∉ W.rho → H' a = some o
  newF : ∀ a o, W'.F a = some o → W.F a = some o ∨ H a = none
  dom : ∀ a, H' a = none → H a = none
theorem Fr.le {W W' : Wd} {H H' : Hp} (x : Fr W H W' H') : Le W W' := ⟨x.f, let ⟨m, e, _⟩ := x.r; ⟨m, e⟩⟩
theorem Fr.refl (W : Wd) (H : Hp) : Fr W H W H := ⟨fun _ _ h => h, ⟨[], by simp⟩, fun _ _ h _ => h, fun _ _ h => .inl h, fun _ h => h⟩
theorem Fr.trans {W W1 W2 : Wd} {H H1 H2 : Hp} (x : Fr W H W1 H1) (y : Fr W1 H1 W2 H2) : Fr W H W2 H2 := by
  obtain ⟨m, em, hm⟩ := x.r
  obtain ⟨n, en, hn⟩ := y.r
  refine ⟨fun a o h => y.f a o (x.f a o h), ⟨m ++ n, by rw [en, em, List.append_assoc], fun a ha => ?_⟩, fun a o h na => ?_, fun a o h => ?_, fun a h => x.dom a (y.dom a h)⟩
  · rcases List.mem_append.mp ha with ha | ha
    · exact hm a ha
    · exact x.dom a (hn a ha)
  · refine y.pres a o (x.pres a o h na) fun z => ?_
    rw [em] at z
    rcases List.mem_append.mp z with z | z
    · exact na z
    · rw [hm a z] at h; cases h
  · rcases y.newF a o h with h | h
    · exact x.newF a o h
    · exact .inr (x.dom a h)
theorem Fr.notin {W W' : Wd} {H H' : Hp} (x : Fr W H W' H') {a : Addr} {o : HO} (h : H a = some o) (n : a ∉ W.rho) : a ∉ W'.rho := by
  obtain ⟨m, em, hm⟩ := x.r
  rw [em]
  intro z
  rcases List.mem_append.mp z with z | z
  · exact n z
  · rw [hm a z] at h; cases h
theorem Fr.nof {W W' : Wd} {H H' : Hp} (x : Fr W H W' H') {a : Addr} {o : HO} (h : H a = some o) (n : W.F a = none) : W'.F a = none := by
  cases q : W'.F a with
  | none => rfl
  | some u =>
    rcases x.newF a u q with z | z
    · rw [n] at z; cases z
    · rw [z] at h; cases h

/-- a new object that is frozen at once -/
theorem Hr.fnone {W : Wd} {h : IH} {H : Hp} (x : Hr G W h H) {p : Addr} (hp : H p = none) : W.F p = none := by
  cases q : W.F p with
  | none => rfl
  | some u => rw [x.sub p u q] at hp; cases hp
theorem Hr.notcell {W : Wd} {h : IH} {H : Hp} (x : Hr G W h H) {p : Addr} (hp : H p = none) : p ∉ W.rho := fun z => by
  obtain ⟨o, e⟩ := x.dom z
  rw [e] at hp; cases hp
abbrev Wd.fz (W : Wd) (p : Addr) (o : HO) : Wd := ⟨upd W.F p o, W.rho⟩
theorem le_fz {W : Wd} {p : Addr} {o : HO} (hp : W.F p = none) : Le W (W.fz p o) :=
  ⟨fun a u h => by
    have e : a ≠ p := fun z => by rw [z, hp] at h; cases h
    show upd W.F p o a = some u
    rw [upd_ne e]; exact h, [], by simp⟩
theorem fr_new {W : Wd} {h : IH} {H : Hp} {p : Addr} {o : HO} (x : Hr G W h H) (hp : H p = none) : Fr W H (W.fz p o) (upd H p o) := by
  refine ⟨(le_fz (x.fnone hp)).f, ⟨[], by simp⟩, fun a u h _ => ?_, fun a u h => ?_, fun a h => ?_⟩
  · rw [upd_ne (ne_of_none h hp)]; exact h
  · by_cases e : a = p
    · exact .inr (e ▸ hp)
    · have h : upd W.F p o a = some u := h
      rw [upd_ne e] at h; exact .inl h
  · by_cases e : a = p
    · exact e ▸ hp
    · rw [upd_ne e] at h; exact h
/-- a new object that is not frozen -/
theorem fr_own {W : Wd} {H : Hp} {p : Addr} {o : HO} (hp : H p = none) : Fr W H W (upd H p o) := by
  refine ⟨fun _ _ h => h, ⟨[], by simp⟩, fun a u h _ => ?_, fun a u h => .inl h, fun a h => ?_⟩
  · rw [upd_ne (ne_of_none h hp)]; exact h
  · by_cases e : a = p
    · exact e ▸ hp
    · rw [upd_ne e] at h; exact h
theorem CellR.step {W W' : Wd} {H H' : Hp} {a : Addr} {c : Cell} (l : Le W W') (k : ∀ o, H a = some o → H' a = some o) (x : CellR G W H a c) : CellR G W' H' a c := by
  cases c with
  | lst xs => obtain ⟨vs, e, r, z⟩ := x; exact ⟨vs, k _ e, r.mono l, z⟩
theorem Hr.own {W : Wd} {h : IH} {H : Hp} {p : Addr} {o : HO} (x : Hr G W h H) (hp : H p = none) : Hr G W h (upd H p o) := by
  refine ⟨fun a u q => ?_, x.len, x.nd, fun i a c h1 h2 => CellR.step (Le.refl W) (fun u q => ?_) (x.cell i a c h1 h2), x.nf⟩
  · have := x.sub a u q
    rw [upd_ne (ne_of_none this hp)]; exact this
  · rw [upd_ne (ne_of_none q hp)]; exact q
/-- what stands is frozen -/
theorem Hr.freeze {W : Wd} {h : IH} {H : Hp} {p : Addr} {o : HO} (x : Hr G W h H) (hp : H p = some o) (hn : p ∉ W.rho) (hf : W.F p = none) : Hr G (W.fz p o) h H := by
  refine ⟨fun a u q => ?_, x.len, x.nd, fun i a c h1 h2 => CellR.step (le_fz hf) (fun u q => q) (x.cell i a c h1 h2), fun a ha => ?_⟩
  · by_cases e : a = p
    · subst e
      have q : upd W.F a o a = some u := q
      rw [upd_same] at q; cases q; exact hp
    · have q : upd W.F p o a = some u := q
      rw [upd_ne e] at q; exact x.sub a u q
  · show upd W.F p o a = none
    rw [upd_ne (fun e : a = p => hn (by rw [← e]; exact ha))]; exact x.nf a ha
theorem Hr.new {W : Wd} {h : IH} {H : Hp} {p : Addr} {o : HO} (x : Hr G W h H) (hp : H p = none) : Hr G (W.fz p o) h (upd H p o) :=
  (x.own hp).freeze upd_same (x.notcell hp) (x.fnone hp)
/-- a list of our own is frozen: from the time when it did not stand yet -/
theorem Fr.freeze {W W' : Wd} {H H' : Hp} {p : Addr} {o : HO} (x : Fr W H W' H') (hp : H p = none) (hf : W'.F p = none) : Fr W H (W'.fz p o) H' := by
  refine ⟨fun a u h => (le_fz hf).f a u (x.f a u h), x.r, x.pres, fun a u h => ?_, x.dom⟩
  by_cases e : a = p
  · exact .inr (e ▸ hp)
  · have h : upd W'.F p o a = some u := h
    rw [upd_ne e] at h; exact x.newF a u h

/-- an operand: as frozen, or a list of our own that stands now -/
def RepS (G : GC) (W : Wd) (H : Hp) (d : D) (v : V) : Prop :=
  Rep G W d v ∨ ∃ (p : Addr) (xs : List D) (vs : List V), d = .lst xs ∧ v = .ref p ∧ H p = some (.lst vs) ∧ p ∉ W.rho ∧ xs.length ≤ sizeLine ∧ Reps G W xs vs
theorem RepS.step {W W' : Wd} {H H' : Hp} {d : D} {v : V} (x : RepS G W H d v) (f : Fr W H W' H') : RepS G W' H' d v := by
  rcases x with x | ⟨p, xs, vs, h1, h2, h3, h4, h5, h6⟩
  · exact .inl (x.mono f.le)
  · exact .inr ⟨p, xs, vs, h1, h2, f.pres _ _ h3 h4, f.notin h3 h4, h5, h6.mono f.le⟩
theorem RepS.lst {W : Wd} {h : IH} {H : Hp} {xs : List D} {v : V} (hr : Hr G W h H) (x : RepS G W H (.lst xs) v) : ∃ p vs, v = .ref p ∧ SqL G.K H p vs ∧ xs.length ≤ sizeLine ∧ Reps G W xs vs := by
  rcases x with x | ⟨p, ys, vs, h1, h2, h3, h4, h5, h6⟩
  · cases x with
    | lst h z r => exact ⟨_, _, rfl, sqL_le hr.sub h, z, r⟩
  · cases h1
    exact ⟨p, vs, h2, .inl (.inl h3), h5, h6⟩
theorem RepS.tup {W : Wd} {h : IH} {H : Hp} {xs : List D} {v : V} (hr : Hr G W h H) (x : RepS G W H (.tup xs) v) : ∃ p vs, v = .ref p ∧ SqT G.K H p vs ∧ xs.length ≤ sizeLine ∧ Reps G W xs vs := by
  rcases x with x | ⟨p, ys, vs, h1, _⟩
  · cases x with
    | tup h z r => exact ⟨_, _, rfl, sqT_le hr.sub h, z, r⟩
  · cases h1
theorem RepS.int {W : Wd} {H : Hp} {i : Int} {v : V} (x : RepS G W H (.int i) v) : v = .int i := by
  rcases x with x | ⟨p, ys, vs, h1, _⟩
  · cases x; rfl
  · cases h1
theorem RepS.bl {W : Wd} {H : Hp} {i : Bool} {v : V} (x : RepS G W H (.bl i) v) : v = .bl i := by
  rcases x with x | ⟨p, ys, vs, h1, _⟩
  · cases x; rfl
  · cases h1
theorem RepS.non {W : Wd} {H : Hp} {v : V} (x : RepS G W H .non v) : v = .non := by
  rcases x with x | ⟨p, ys, vs, h1, _⟩
  · cases x; rfl
  · cases h1
theorem RepS.str {W : Wd} {H : Hp} {z : List Nat} {v : V} (x : RepS G W H (.str z) v) : v = .str ⟨z.toArray⟩ ∧ z.length ≤ sizeLine := by
  rcases x with x | ⟨p, ys, vs, h1, _⟩
  · cases x with
    | str _ h => exact ⟨rfl, h⟩
  · cases h1
theorem RepS.ref {W : Wd} {H : Hp} {r : Nat} {v : V} (x : RepS G W H (.ref r) v) : ∃ a, v = .ref a ∧ W.rho[r]? = some a := by
  rcases x with x | ⟨p, ys, vs, h1, _⟩
  · cases x with
    | ref h => exact ⟨_, rfl, h⟩
  · cases h1

/-! ### the slots -/
inductive Sl where
  | no | val (d : D) | own (xs : List D)
def SlR (G : GC) (W : Wd) (H0 H : Hp) (s : Sl) (v : Option V) : Prop :=
  match s with
  | .no => True
  | .val d => ∃ u, v = some u ∧ Rep G W d u
  | .own xs => ∃ (p : Addr) (vs : List V), v = some (.ref p) ∧ H p = some (.lst vs) ∧ p ∉ W.rho ∧ W.F p = none ∧ H0 p = none ∧ xs.length ≤ sizeLine ∧ Reps G W xs vs
abbrev Env := List Sl
structure Er (G : GC) (W : Wd) (H0 H : Hp) (env : Env) (σ : St) : Prop where
  len : σ.length = env.length
  at_ : ∀ (i : Nat) (s : Sl) (v : Option V), env[i]? = some s → σ[i]? = some v → SlR G W H0 H s v
  dist : ∀ (i j : Nat) (xs ys : List D) (p : Addr), env[i]? = some (.own xs) → env[j]? = some (.own ys) → σ[i]? = some (some (.ref p)) → σ[j]? = some (some (.ref p)) → i = j
theorem Er.step {W W' : Wd} {H0 H H' : Hp} {env : Env} {σ : St} (x : Er G W H0 H env σ) (f : Fr W H W' H') : Er G W' H0 H' env σ := by
  refine ⟨x.len, fun i s v h1 h2 => ?_, x.dist⟩
  have q := x.at_ i s v h1 h2
  cases s with
  | no => trivial
  | val d => obtain ⟨u, e, r⟩ := q; exact ⟨u, e, r.mono f.le⟩
  | own xs =>
    obtain ⟨p, vs, e, h, n, nf, h0, z, r⟩ := q
    exact ⟨p, vs, e, f.pres _ _ h n, f.notin h n, f.nof h nf, h0, z, r.mono f.le⟩
theorem Er.val {W : Wd} {H0 H : Hp} {env : Env} {σ : St} (x : Er G W H0 H env σ) {i : Nat} {d : D} (h : env[i]? = some (.val d)) : ∃ v, σ[i]? = some (some v) ∧ Rep G W d v := by
  have hi : i < σ.length := by rw [x.len]; exact (List.getElem?_eq_some_iff.mp h).1
  obtain ⟨u, e, r⟩ := x.at_ i _ _ h (List.getElem?_eq_getElem hi)
  exact ⟨u, by rw [List.getElem?_eq_getElem hi, e], r⟩
end Iv

/-! Iv, part B: the readings of pure evaluation, and a rule for each construct. -/
namespace Iv
open PySem L2
variable {G : GC} {X : Cx} {H0 : Hp} {E : XK}

/-! ### what an evaluation gives -/
abbrev RRel := Wd → Hp → Wd → Hp → D → V → Prop
def rrE (G : GC) : RRel := fun _ _ W' _ d v => Rep G W' d v
def rrO (G : GC) : RRel := fun _ _ W' H' d v => RepS G W' H' d v
/-- a list is new and not yet frozen -/
def rrF (G : GC) : RRel := fun W H W' H' d v => match d with
  | .lst xs => ∃ (p : Addr) (vs : List V), v = .ref p ∧ H' p = some (.lst vs) ∧ p ∉ W'.rho ∧ W'.F p = none ∧ H p = none ∧ xs.length ≤ sizeLine ∧ Reps G W' xs vs
  | d => Rep G W' d v
/-- a relation that may be told from an earlier time -/
def Up (RR : RRel) : Prop := ∀ W H W1 H1 W' H' d v, Fr W H W1 H1 → RR W1 H1 W' H' d v → RR W H W' H' d v
theorem upE : Up (rrE G) := fun _ _ _ _ _ _ _ _ _ h => h
theorem upO : Up (rrO G) := fun _ _ _ _ _ _ _ _ _ h => h
theorem upF : Up (rrF G) := fun W H W1 H1 W' H' d v f h => by
  cases d with
  | lst xs => obtain ⟨p, vs, h1, h2, h3, h4, h5, h6, h7⟩ := h; exact ⟨p, vs, h1, h2, h3, h4, f.dom _ h5, h6, h7⟩
  | _ => exact h
def XRep (G : GC) (W : Wd) (H : Hp) (c : Nat) (fs : List D) (cls : Value) (dd : Option Addr) : Prop :=
  ∃ ns : List Str, G.exc c = some (cls, ns) ∧ ((ns = [] ∧ fs = [] ∧ dd = none) ∨ ∃ (d : Addr) (vs : List V), dd = some d ∧ H d = some (.xd (ns.zip vs)) ∧ ns.length = vs.length ∧ Reps G W fs vs)
/-- the exception's way out -/
def KX (G : GC) (E : XK) (W : Wd) (H : Hp) : Nat → List D → IH → Prop := fun c fs h' =>
  ∀ W' H' cls dd, Fr W H W' H' → Hr G W' h' H' → XRep G W' H' c fs cls dd → E cls dd H'
theorem KX.step {W W1 : Wd} {H H1 : Hp} (f : Fr W H W1 H1) {c : Nat} {fs : List D} {h : IH} (x : KX G E W H c fs h) : KX G E W1 H1 c fs h := fun W' H' cls dd f' => x W' H' cls dd (f.trans f')
/-- a value's way on -/
def KQ (G : GC) (RR : RRel) (W : Wd) (H : Hp) (Q : VK) : D → IH → Prop := fun d h' =>
  ∀ W' H' v, Fr W H W' H' → Hr G W' h' H' → RR W H W' H' d v → Q v H'
theorem KQ.step {RR : RRel} (up : Up RR) {W W1 : Wd} {H H1 : Hp} {Q : VK} (f : Fr W H W1 H1) {d : D} {h : IH} (x : KQ G RR W H Q d h) : KQ G RR W1 H1 Q d h :=
  fun W' H' v f' hr r => x W' H' v (f.trans f') hr (up _ _ _ _ _ _ _ _ f r)
def tR (G : GC) (RR : RRel) (E : XK) (ev : Env → M D) : TE := fun σ H Q =>
  ∃ (W : Wd) (h : IH) (env : Env) (H0 : Hp), Hr G W h H ∧ Er G W H0 H env σ ∧ (ev env h).post (KQ G RR W H Q) (KX G E W H)
/-- a list of arguments -/
def KA (G : GC) (W : Wd) (H : Hp) (Q : List V → Hp → Prop) : List D → IH → Prop := fun ds h' =>
  ∀ W' H' vs, Fr W H W' H' → Hr G W' h' H' → Reps G W' ds vs → Q vs H'
def tAr (G : GC) (E : XK) (ev : Env → M (List D)) : TA := fun σ H Q =>
  ∃ (W : Wd) (h : IH) (env : Env) (H0 : Hp), Hr G W h H ∧ Er G W H0 H env σ ∧ (ev env h).post (KA G W H Q) (KX G E W H)
/-- a truth value -/
def KB (G : GC) (W : Wd) (H : Hp) (Q : Bool → Hp → Prop) : Bool → IH → Prop := fun b h' =>
  ∀ W' H', Fr W H W' H' → Hr G W' h' H' → Q b H'
def tTr (G : GC) (E : XK) (ev : Env → M Bool) : TT := fun σ H Q =>
  ∃ (W : Wd) (h : IH) (env : Env) (H0 : Hp), Hr G W h H ∧ Er G W H0 H env σ ∧ (ev env h).post (KB G W H Q) (KX G E W H)
theorem KB.step {W W1 : Wd} {H H1 : Hp} {Q : Bool → Hp → Prop} (f : Fr W H W1 H1) {b : Bool} {h : IH} (x : KB G W H Q b h) : KB G W1 H1 Q b h := fun W' H' f' => x W' H' (f.trans f')
theorem KA.step {W W1 : Wd} {H H1 : Hp} {Q : List V → Hp → Prop} (f : Fr W H W1 H1) {b : List D} {h : IH} (x : KA G W H Q b h) : KA G W1 H1 Q b h := fun W' H' vs f' => x W' H' vs (f.trans f')

/-! ### weakening -/
theorem pe_imp {e : Expr} {t t' : TE} (h : PE X e t) (i : ∀ σ H Q, t' σ H Q → t σ H Q) : PE X e t' := ⟨fun pins s σ H Q I q => h.run pins s σ H Q I (i σ H Q q)⟩
theorem pt_imp {e : Expr} {t t' : TT} (h : PT X e t) (i : ∀ σ H Q, t' σ H Q → t σ H Q) : PT X e t' := ⟨fun pins s σ H Q I q => h.run pins s σ H Q I (i σ H Q q)⟩
theorem pw_imp {e : Expr} {t t' : TT} (h : PW X e t) (i : ∀ σ H Q, t' σ H Q → t σ H Q) : PW X e t' := ⟨fun wh pins s σ H Q I q => h.run wh pins s σ H Q I (i σ H Q q)⟩
theorem pa_imp {es : List Expr} {t t' : TA} (h : PA X es t) (i : ∀ σ H Q, t' σ H Q → t σ H Q) : PA X es t' := ⟨fun pos pins s σ H Q I q => h.run pos pins s σ H Q I (i σ H Q q)⟩
theorem ps_imp {st : Stmt} {t t' : TS} (h : PS X st t) (i : ∀ D σ H, t' D σ H → t D σ H) : PS X st t' := ⟨fun pins s σ H D I q => h.run pins s σ H D I (i D σ H q)⟩
theorem pss_imp {st : List Stmt} {t t' : TS} (h : PSs X st t) (i : ∀ D σ H, t' D σ H → t D σ H) : PSs X st t' := ⟨fun pins s σ H D I q => h.run pins s σ H D I (i D σ H q)⟩

theorem tR_rel {RR RR' : RRel} {ev : Env → M D} (hi : ∀ W H W' H' d v, RR W H W' H' d v → RR' W H W' H' d v) {σ : St} {H : Hp} {Q : VK} (t : tR G RR' E ev σ H Q) : tR G RR E ev σ H Q := by
  obtain ⟨W, h, env, H0, hr, er, p⟩ := t
  exact ⟨W, h, env, H0, hr, er, p.mono (fun d h' k W' H' v f hr' r => k W' H' v f hr' (hi _ _ _ _ _ _ r)) fun _ _ _ k => k⟩
/-- a value may be an operand -/
theorem pe_E2O {e : Expr} {ev : Env → M D} (h : PE X e (tR G (rrE G) E ev)) : PE X e (tR G (rrO G) E ev) := pe_imp h fun _ _ _ => tR_rel fun _ _ _ _ _ _ r => .inl r
/-- a new list may be frozen -/
theorem pe_F2E {e : Expr} {ev : Env → M D} (h : PE X e (tR G (rrF G) E ev)) : PE X e (tR G (rrE G) E ev) := pe_imp h fun σ H Q t => by
  obtain ⟨W, hh, env, H0, hr, er, p⟩ := t
  refine ⟨W, hh, env, H0, hr, er, p.mono (fun d h' k W' H' v f hr' r => ?_) fun _ _ _ k => k⟩
  cases d with
  | lst xs =>
    obtain ⟨q, vs, h1, h2, h3, h4, h5, h6, h7⟩ := r
    subst h1
    exact k (W'.fz q (.lst vs)) H' _ (f.freeze h5 h4) (hr'.freeze h2 h3 h4) (.lst (.inl (.inl upd_same)) h6 (h7.mono (le_fz h4)))
  | _ => exact k W' H' v f hr' r

/-! ### names, constants -/
def eVar (i : Nat) (env : Env) : M D := match env[i]? with
  | some (.val d) => ret d
  | _ => fun _ => .bad
def ePeek (i : Nat) (env : Env) : M D := match env[i]? with
  | some (.val d) => ret d
  | some (.own xs) => ret (.lst xs)
  | _ => fun _ => .bad
theorem eVar_some {i : Nat} {env : Env} {h : IH} {K : D → IH → Prop} {Y : Nat → List D → IH → Prop} (p : (eVar i env h).post K Y) : ∃ d, env[i]? = some (.val d) ∧ K d h := by
  unfold eVar at p
  cases e : env[i]? with
  | none => rw [e] at p; exact p.elim
  | some s =>
    rw [e] at p
    cases s with
    | val d => exact ⟨d, rfl, p⟩
    | no => exact p.elim
    | own xs => exact p.elim
theorem pev_var {i : Nat} {x : Str} {pos : Pos} (hN : X.N[i]? = some x) (hv : Vis X.env.scope x) (hd : (x == ("__debug__" : Str)) = false) (hcd : (x == ("__classdict__" : Str)) = false) :
    PE X (.Name x pos) (tR G (rrE G) E (eVar i)) := pe_imp (pe_var (pos := pos) hN hv hd hcd) fun σ H Q ⟨W, h, env, H0, hr, er, p⟩ => by
  obtain ⟨d, e, k⟩ := eVar_some p
  obtain ⟨v, e1, r⟩ := er.val e
  exact ⟨v, e1, k W H v (Fr.refl W H) hr r⟩
theorem pev_peek {i : Nat} {x : Str} {pos : Pos} (hN : X.N[i]? = some x) (hv : Vis X.env.scope x) (hd : (x == ("__debug__" : Str)) = false) (hcd : (x == ("__classdict__" : Str)) = false) :
    PE X (.Name x pos) (tR G (rrO G) E (ePeek i)) := pe_imp (pe_var (pos := pos) hN hv hd hcd) fun σ H Q ⟨W, h, env, H0, hr, er, p⟩ => by
  unfold ePeek at p
  cases e : env[i]? with
  | none => rw [e] at p; exact p.elim
  | some s =>
   rw [e] at p
   cases s with
   | no => exact p.elim
   | val d =>
    obtain ⟨v, e1, r⟩ := er.val e
    exact ⟨v, e1, p W H v (Fr.refl W H) hr (.inl r)⟩
   | own xs =>
    have hi : i < σ.length := by rw [er.len]; exact (List.getElem?_eq_some_iff.mp e).1
    obtain ⟨q, vs, e1, h1, h2, h3, h4, h5, h6⟩ := er.at_ i _ _ e (List.getElem?_eq_getElem hi)
    exact ⟨.ref q, by rw [List.getElem?_eq_getElem hi, e1], p W H _ (Fr.refl W H) hr (.inr ⟨q, xs, vs, rfl, rfl, h1, h2, h5, h6⟩)⟩
theorem pev_cst {e : Expr} {v : V} {d : D} (h : PE X e (tC v)) (r : ∀ W, Rep G W d v) : PE X e (tR G (rrE G) E fun _ => ret d) := pe_imp h fun σ H Q ⟨W, h, env, H0, hr, er, p⟩ =>
  p W H v (Fr.refl W H) hr (r W)

/-! ### operations on two values -/
/-- f gives what op tells, and leaves the cells as they are -/
def OpSem (G : GC) (RR : RRel) (r : R2) (op : IH → D → D → Option D) : Prop :=
  ∀ (W : Wd) (h : IH) (H : Hp) (x y : D) (v u : V) (d : D) (Q : VK), Hr G W h H → RepS G W H x v → RepS G W H y u → op h x y = some d →
    (∀ W' H' z, Fr W H W' H' → Hr G W' h H' → RR W H W' H' d z → Q z H') → r v u H Q
def liftH (op : IH → D → D → Option D) (x y : D) : M D := fun h => lft (op h x y) h
def eOp (op : IH → D → D → Option D) (fa fb : Env → M D) (env : Env) : M D := bnd (fa env) fun x => bnd (fb env) fun y => liftH op x y
theorem two_of {RR : RRel} (up : Up RR) {r : R2} {op : IH → D → D → Option D} (sem : OpSem G RR r op) {fa fb : Env → M D} {σ : St} {H : Hp} {Q : VK}
    (t : tR G RR E (eOp op fa fb) σ H Q) : tOp r (tR G (rrO G) E fa) (tR G (rrO G) E fb) σ H Q := by
  obtain ⟨W, h, env, H0, hr, er, p⟩ := t
  refine ⟨W, h, env, H0, hr, er, ?_⟩
  refine (post_bnd.mp p).mono (fun x h1 p1 W1 H1 v f1 hr1 r1 => ?_) fun _ _ _ k => k
  refine ⟨W1, h1, env, H0, hr1, er.step f1, ?_⟩
  refine (post_bnd.mp p1).mono (fun y h2 p2 W2 H2 u f2 hr2 r2 => ?_) fun _ _ _ k => k.step f1
  obtain ⟨d, e, k⟩ := post_lft p2
  exact sem W2 h2 H2 x y v u d Q hr2 (RepS.step r1 f2) r2 e fun W' H' z f3 hr3 r3 => k W' H' z (f1.trans (f2.trans f3)) hr3 (up _ _ _ _ _ _ _ _ (f1.trans f2) r3)
theorem pev_op {RR : RRel} (up : Up RR) {op : Operator} {r : R2} {f : IH → D → D → Option D} {a b : Expr} {fa fb : Env → M D} {pos : Pos} (ho : OpR X (binaryOp op) r) (sem : OpSem G RR r f)
    (ha : PE X a (tR G (rrO G) E fa)) (hb : PE X b (tR G (rrO G) E fb)) : PE X (.BinOp a op b pos) (tR G RR E (eOp f fa fb)) := pe_imp (pe_op ho ha hb) fun _ _ _ => two_of up sem
theorem pev_cmp {op : CmpOp} {r : R2} {f : IH → D → D → Option D} {a b : Expr} {fa fb : Env → M D} {pos : Pos} (ho : OpR X (compareOp op) r) (sem : OpSem G (rrE G) r f)
    (ha : PE X a (tR G (rrO G) E fa)) (hb : PE X b (tR G (rrO G) E fb)) (hm : behindInMarks op b = false) : PE X (.Compare a [op] [b] pos) (tR G (rrE G) E (eOp f fa fb)) :=
  pe_imp (pe_cmpR ho ha hb hm) fun _ _ _ => two_of upE sem
theorem pev_ix {r : R2} {f : IH → D → D → Option D} {a b : Expr} {fa fb : Env → M D} {pos : Pos} (ho : IxR X r) (sem : OpSem G (rrE G) r f)
    (ha : PE X a (tR G (rrO G) E fa)) (hb : PE X b (tR G (rrO G) E fb)) (hs : PlainIx b) : PE X (.Subscript a b pos) (tR G (rrE G) E (eOp f fa fb)) :=
  pe_imp (pe_ix ho ha hb hs) fun _ _ _ => two_of upE sem

/-! ### tests -/
def asB (d : D) : Option Bool := match d with
  | .bl b => some b
  | _ => none
theorem asB_some {d : D} {b : Bool} (h : asB d = some b) : d = .bl b := by
  cases d <;> simp [asB] at h
  rw [h]
def toB (ev : Env → M D) (env : Env) : M Bool := bnd (ev env) fun d => lft (asB d)
/-- what is wanted of a test, as what is wanted of its value -/
theorem test_of {ev : Env → M D} {σ : St} {H : Hp} {Q : Bool → Hp → Prop} (t : tTr G E (toB ev) σ H Q) : tR G (rrE G) E ev σ H (fun x H1 => ∃ c, x = .bl c ∧ Q c H1) := by
  obtain ⟨W, h, env, H0, hr, er, p⟩ := t
  refine ⟨W, h, env, H0, hr, er, (post_bnd.mp p).mono (fun d h1 p1 W1 H1 v f1 hr1 r1 => ?_) fun _ _ _ k => k⟩
  obtain ⟨b, e, k⟩ := post_lft p1
  have e := asB_some e
  subst e
  cases r1
  exact ⟨b, rfl, k W1 H1 f1 hr1⟩
theorem ptv_val {e : Expr} {ev : Env → M D} (h : PE X e (tR G (rrE G) E ev)) (he : ∀ whole, isTrue e X.env whole = (do let v ← whole; standAt e.pos; holding [v] (truthy v))) :
    PT X e (tTr G E (toB ev)) := pt_imp (pt_val h he) fun _ _ _ => test_of
theorem ptv_cmp {op : CmpOp} {r : R2} {f : IH → D → D → Option D} {a b : Expr} {fa fb : Env → M D} {pos : Pos} (ho : OpR X (compareOp op) r) (sem : OpSem G (rrE G) r f)
    (ha : PE X a (tR G (rrO G) E fa)) (hb : PE X b (tR G (rrO G) E fb)) (hm : behindInMarks op b = false) : PT X (.Compare a [op] [b] pos) (tTr G E (toB (eOp f fa fb))) :=
  pt_imp (pt_cmpR ho ha hb hm) fun _ _ _ t => two_of upE sem (test_of t)

/-! ### and, or, not, if else -/
def eAnd (ta : Env → M Bool) (fb : Env → M D) (env : Env) : M D := bnd (ta env) fun c => if c = true then fb env else ret (.bl false)
def eOr (ta : Env → M Bool) (fb : Env → M D) (env : Env) : M D := bnd (ta env) fun c => if c = true then ret (.bl true) else fb env
def eNot (ta : Env → M Bool) (env : Env) : M D := bnd (ta env) fun c => ret (.bl (!c))
def eIf (ta : Env → M Bool) (fa fb : Env → M D) (env : Env) : M D := bnd (ta env) fun c => if c = true then fa env else fb env
theorem ptv_and {a b : Expr} {rest : List Expr} {fa fb : Env → M D} {pos : Pos} (ha : PT X a (tTr G E (toB fa))) (hb : PW X (.BoolOp .And (b :: rest) pos) (tTr G E (toB fb))) :
    PW X (.BoolOp .And (a :: b :: rest) pos) (tTr G E (toB (eAnd (toB fa) fb))) := pw_imp (pw_and ha hb) fun σ H Q ⟨W, h, env, H0, hr, er, p⟩ => by
  refine ⟨W, h, env, H0, hr, er, (post_bnd.mp (post_bnd.mp p)).mono (fun c h1 p1 W1 H1 f1 hr1 => ?_) fun _ _ _ k => k⟩
  cases c with
  | true =>
    rw [if_pos rfl]
    rw [if_pos rfl] at p1
    exact ⟨W1, h1, env, H0, hr1, er.step f1, post_bnd.mpr (p1.mono (fun d h2 p2 => p2.mono (fun b h3 k => k.step f1) fun _ _ _ k => k.step f1) fun _ _ _ k => k.step f1)⟩
  | false =>
    rw [if_neg Bool.false_ne_true]
    rw [if_neg Bool.false_ne_true] at p1
    exact p1 W1 H1 f1 hr1
theorem ptv_or {a b : Expr} {rest : List Expr} {fa fb : Env → M D} {pos : Pos} (ha : PT X a (tTr G E (toB fa))) (hb : PW X (.BoolOp .Or (b :: rest) pos) (tTr G E (toB fb))) :
    PW X (.BoolOp .Or (a :: b :: rest) pos) (tTr G E (toB (eOr (toB fa) fb))) := pw_imp (pw_or ha hb) fun σ H Q ⟨W, h, env, H0, hr, er, p⟩ => by
  refine ⟨W, h, env, H0, hr, er, (post_bnd.mp (post_bnd.mp p)).mono (fun c h1 p1 W1 H1 f1 hr1 => ?_) fun _ _ _ k => k⟩
  cases c with
  | true =>
    rw [if_pos rfl]
    rw [if_pos rfl] at p1
    exact p1 W1 H1 f1 hr1
  | false =>
    rw [if_neg Bool.false_ne_true]
    rw [if_neg Bool.false_ne_true] at p1
    exact ⟨W1, h1, env, H0, hr1, er.step f1, post_bnd.mpr (p1.mono (fun d h2 p2 => p2.mono (fun b h3 k => k.step f1) fun _ _ _ k => k.step f1) fun _ _ _ k => k.step f1)⟩
theorem ptv_and1 {a : Expr} {fa : Env → M D} {pos : Pos} (ha : PT X a (tTr G E (toB fa))) : PW X (.BoolOp .And [a] pos) (tTr G E (toB fa)) := pw_and1 ha
theorem ptv_or1 {a : Expr} {fa : Env → M D} {pos : Pos} (ha : PT X a (tTr G E (toB fa))) : PW X (.BoolOp .Or [a] pos) (tTr G E (toB fa)) := pw_or1 ha
theorem ptv_not {a : Expr} {fa : Env → M D} {pos : Pos} (ha : PT X a (tTr G E (toB fa))) : PT X (.UnaryOp .Not a pos) (tTr G E (toB (eNot (toB fa)))) := pt_imp (pt_not ha) fun σ H Q ⟨W, h, env, H0, hr, er, p⟩ => by
  exact ⟨W, h, env, H0, hr, er, (post_bnd.mp (post_bnd.mp p)).mono (fun c h1 p1 W1 H1 f1 hr1 => p1 W1 H1 f1 hr1) fun _ _ _ k => k⟩
theorem bool_of {ev : Env → M D} {W : Wd} {h : IH} {H : Hp} {env : Env} {σ : St} {Q : Bool → Hp → Prop} (hr : Hr G W h H) (er : Er G W H0 H env σ)
    (p : (toB ev env h).post (KB G W H Q) (KX G E W H)) : tR G (rrE G) E ev σ H (fun x H1 => ∃ c, x = .bl c ∧ Q c H1) := test_of ⟨W, h, env, H0, hr, er, p⟩
theorem pev_and {a b : Expr} {rest : List Expr} {fa fb : Env → M D} {pos : Pos} (ha : PE X a (tR G (rrE G) E fa)) (hb : PE X (.BoolOp .And (b :: rest) pos) (tR G (rrE G) E fb)) :
    PE X (.BoolOp .And (a :: b :: rest) pos) (tR G (rrE G) E (eAnd (toB fa) fb)) := pe_imp (pe_and ha hb) fun σ H Q ⟨W, h, env, H0, hr, er, p⟩ => by
  refine bool_of (Q := fun c H1 => if c = true then tR G (rrE G) E fb σ H1 Q else Q (.bl false) H1) hr er ((post_bnd.mp p).mono (fun c h1 p1 W1 H1 f1 hr1 => ?_) fun _ _ _ k => k)
  cases c with
  | true =>
    rw [if_pos rfl]
    rw [if_pos rfl] at p1
    exact ⟨W1, h1, env, H0, hr1, er.step f1, p1.mono (fun d h2 k => k.step upE f1) fun _ _ _ k => k.step f1⟩
  | false =>
    rw [if_neg Bool.false_ne_true]
    rw [if_neg Bool.false_ne_true] at p1
    exact p1 W1 H1 _ f1 hr1 (.bl false)
theorem pev_or {a b : Expr} {rest : List Expr} {fa fb : Env → M D} {pos : Pos} (ha : PE X a (tR G (rrE G) E fa)) (hb : PE X (.BoolOp .Or (b :: rest) pos) (tR G (rrE G) E fb)) :
    PE X (.BoolOp .Or (a :: b :: rest) pos) (tR G (rrE G) E (eOr (toB fa) fb)) := pe_imp (pe_or ha hb) fun σ H Q ⟨W, h, env, H0, hr, er, p⟩ => by
  refine bool_of (Q := fun c H1 => if c = true then Q (.bl true) H1 else tR G (rrE G) E fb σ H1 Q) hr er ((post_bnd.mp p).mono (fun c h1 p1 W1 H1 f1 hr1 => ?_) fun _ _ _ k => k)
  cases c with
  | true =>
    rw [if_pos rfl]
    rw [if_pos rfl] at p1
    exact p1 W1 H1 _ f1 hr1 (.bl true)
  | false =>
    rw [if_neg Bool.false_ne_true]
    rw [if_neg Bool.false_ne_true] at p1
    exact ⟨W1, h1, env, H0, hr1, er.step f1, p1.mono (fun d h2 k => k.step upE f1) fun _ _ _ k => k.step f1⟩
theorem pev_not {a : Expr} {fa : Env → M D} {pos : Pos} (ha : PE X a (tR G (rrE G) E fa)) : PE X (.UnaryOp .Not a pos) (tR G (rrE G) E (eNot (toB fa))) := pe_imp (pe_not ha) fun σ H Q ⟨W, h, env, H0, hr, er, p⟩ => by
  exact bool_of (Q := fun c H1 => Q (.bl (!c)) H1) hr er ((post_bnd.mp p).mono (fun c h1 p1 W1 H1 f1 hr1 => p1 W1 H1 _ f1 hr1 (.bl _)) fun _ _ _ k => k)
theorem pev_if {RR : RRel} (up : Up RR) {c a b : Expr} {fc fa fb : Env → M D} {pos : Pos} (hc : PT X c (tTr G E (toB fc))) (ha : PE X a (tR G RR E fa)) (hb : PE X b (tR G RR E fb)) :
    PE X (.IfExp c a b pos) (tR G RR E (eIf (toB fc) fa fb)) := pe_imp (pe_ifExp hc ha hb) fun σ H Q ⟨W, h, env, H0, hr, er, p⟩ => by
  refine ⟨W, h, env, H0, hr, er, (post_bnd.mp p).mono (fun c h1 p1 W1 H1 f1 hr1 => ?_) fun _ _ _ k => k⟩
  cases c with
  | true =>
    rw [if_pos rfl]
    rw [if_pos rfl] at p1
    exact ⟨W1, h1, env, H0, hr1, er.step f1, p1.mono (fun d h2 k => k.step up f1) fun _ _ _ k => k.step f1⟩
  | false =>
    rw [if_neg Bool.false_ne_true]
    rw [if_neg Bool.false_ne_true] at p1
    exact ⟨W1, h1, env, H0, hr1, er.step f1, p1.mono (fun d h2 k => k.step up f1) fun _ _ _ k => k.step f1⟩

/-! ### a op b op c -/
def eChain (f g : IH → D → D → Option D) (fa fb fc : Env → M D) (env : Env) : M D :=
  bnd (fa env) fun x => bnd (fb env) fun y => bnd (liftH f x y) fun z => bnd (lft (asB z)) fun k => if k = true then bnd (fc env) fun u => liftH g y u else ret (.bl false)
theorem chain_of {r r' : R2} {f g : IH → D → D → Option D} (sem : OpSem G (rrE G) r f) (sem' : OpSem G (rrE G) r' g) {fa fb fc : Env → M D} {σ : St} {H : Hp} {Q : VK}
    (t : tR G (rrE G) E (eChain f g fa fb fc) σ H Q) : tChain r r' (tR G (rrO G) E fa) (tR G (rrO G) E fb) (tR G (rrO G) E fc) σ H Q := by
  obtain ⟨W, h, env, H0, hr, er, p⟩ := t
  refine ⟨W, h, env, H0, hr, er, (post_bnd.mp p).mono (fun x h1 p1 W1 H1 v f1 hr1 r1 => ?_) fun _ _ _ k => k⟩
  refine ⟨W1, h1, env, H0, hr1, er.step f1, (post_bnd.mp p1).mono (fun y h2 p2 W2 H2 u f2 hr2 r2 => ?_) fun _ _ _ k => k.step f1⟩
  obtain ⟨z, e, k0⟩ := post_lft (post_bnd.mp p2)
  obtain ⟨c, ec, k⟩ := post_lft (post_bnd.mp k0)
  have ec := asB_some ec
  subst ec
  refine sem W2 h2 H2 x y v u _ _ hr2 (RepS.step r1 f2) r2 e fun W3 H3 z' f3 hr3 r3 => ?_
  cases r3
  refine ⟨c, rfl, ?_⟩
  cases c with
  | false =>
    rw [if_neg Bool.false_ne_true]
    rw [if_neg Bool.false_ne_true] at k
    exact k W3 H3 _ (f1.trans (f2.trans f3)) hr3 (.bl false)
  | true =>
    rw [if_pos rfl]
    rw [if_pos rfl] at k
    refine ⟨W3, h2, env, H0, hr3, ((er.step f1).step f2).step f3, (post_bnd.mp k).mono (fun w h4 p4 W4 H4 z4 f4 hr4 r4 => ?_) fun _ _ _ k => k.step (f1.trans (f2.trans f3))⟩
    obtain ⟨d, e4, k4⟩ := post_lft p4
    exact sem' W4 h4 H4 y w u z4 d Q hr4 ((RepS.step r2 f3).step f4) r4 e4 fun W' H' zz f5 hr5 r5 => k4 W' H' zz (f1.trans (f2.trans (f3.trans (f4.trans f5)))) hr5 r5
theorem pev_chain {op op' : CmpOp} {r r' : R2} {f g : IH → D → D → Option D} {a b c : Expr} {fa fb fc : Env → M D} {pos : Pos} (ho : OpR X (compareOp op) r) (ho' : OpR X (compareOp op') r')
    (sem : OpSem G (rrE G) r f) (sem' : OpSem G (rrE G) r' g) (ha : PE X a (tR G (rrO G) E fa)) (hb : PE X b (tR G (rrO G) E fb)) (hc : PE X c (tR G (rrO G) E fc)) (hm : lastMarks [op, op'] [b, c] = false) :
    PE X (.Compare a [op, op'] [b, c] pos) (tR G (rrE G) E (eChain f g fa fb fc)) := pe_imp (pe_chain ho ho' ha hb hc hm) fun _ _ _ => chain_of sem sem'
theorem ptv_chain {op op' : CmpOp} {r r' : R2} {f g : IH → D → D → Option D} {a b c : Expr} {fa fb fc : Env → M D} {pos : Pos} (ho : OpR X (compareOp op) r) (ho' : OpR X (compareOp op') r')
    (sem : OpSem G (rrE G) r f) (sem' : OpSem G (rrE G) r' g) (ha : PE X a (tR G (rrO G) E fa)) (hb : PE X b (tR G (rrO G) E fb)) (hc : PE X c (tR G (rrO G) E fc)) (hm : lastMarks [op, op'] [b, c] = false) :
    PT X (.Compare a [op, op'] [b, c] pos) (tTr G E (toB (eChain f g fa fb fc))) := pt_imp (pt_chain ho ho' ha hb hc hm) fun _ _ _ t => chain_of sem sem' (test_of t)

/-! ### argument lists, displays -/
def aNil (_ : Env) : M (List D) := ret []
def aCons (f : Env → M D) (g : Env → M (List D)) (env : Env) : M (List D) := bnd (f env) fun x => bnd (g env) fun xs => ret (x :: xs)
def seqOf (d : D) : Option (List D) := match d with
  | .tup xs => some xs
  | .lst xs => some xs
  | _ => none
def aStar (f : Env → M D) (g : Env → M (List D)) (env : Env) : M (List D) := bnd (f env) fun x => bnd (lft (seqOf x)) fun xs => bnd (g env) fun ys => ret (xs ++ ys)
theorem pav_nil : PA X [] (tAr G E aNil) := pa_imp pa_nil fun σ H Q ⟨W, h, env, H0, hr, er, p⟩ => p W H [] (Fr.refl W H) hr .nil
theorem starEach_cons {e : Expr} {es : List Expr} {env : PySem.Env} (h : ∀ a p, e ≠ .Starred a p) : starEach (e :: es) env = (false, eval e env) :: starEach es env := by
  cases e <;> first
    | rfl
    | exact absurd rfl (h _ _)
theorem pav_cons {e : Expr} {es : List Expr} {f : Env → M D} {g : Env → M (List D)} (he : PE X e (tR G (rrE G) E f)) (hs : PA X es (tAr G E g)) (hn : ∀ a p, e ≠ .Starred a p) : PA X (e :: es) (tAr G E (aCons f g)) :=
  pa_imp (pa_cons he hs (starEach_cons hn)) fun σ H Q ⟨W, h, env, H0, hr, er, p⟩ => by
    refine ⟨W, h, env, H0, hr, er, (post_bnd.mp p).mono (fun x h1 p1 W1 H1 v f1 hr1 r1 => ?_) fun _ _ _ k => k⟩
    refine ⟨W1, h1, env, H0, hr1, er.step f1, (post_bnd.mp p1).mono (fun xs h2 p2 W2 H2 us f2 hr2 r2 => ?_) fun _ _ _ k => k.step f1⟩
    exact p2 W2 H2 (v :: us) (f1.trans f2) hr2 (.cons (Rep.mono f2.le r1) r2)
theorem pav_star {e : Expr} {es : List Expr} {f : Env → M D} {g : Env → M (List D)} {p : Pos} (hK : X.K = G.K) (he : PE X e (tR G (rrO G) E f)) (hs : PA X es (tAr G E g)) : PA X (.Starred e p :: es) (tAr G E (aStar f g)) :=
  pa_imp (StX.pa_star he hs rfl) fun σ H Q ⟨W, h, env, H0, hr, er, p⟩ => by
    refine ⟨W, h, env, H0, hr, er, (post_bnd.mp p).mono (fun x h1 p1 W1 H1 v f1 hr1 r1 => ?_) fun _ _ _ k => k⟩
    obtain ⟨xs, e, k⟩ := post_lft (post_bnd.mp p1)
    have go : ∀ vs, Reps G W1 xs vs → tAr G E g σ H1 (fun ys H2 => Q (vs ++ ys) H2) := fun vs rv => by
      refine ⟨W1, h1, env, H0, hr1, er.step f1, (post_bnd.mp k).mono (fun ys h2 p2 W2 H2 us f2 hr2 r2 => ?_) fun _ _ _ k => k.step f1⟩
      exact p2 W2 H2 (vs ++ us) (f1.trans f2) hr2 ((rv.mono f2.le).append r2)
    cases x <;> simp only [seqOf, Option.some.injEq, reduceCtorEq] at e
    · subst e
      obtain ⟨q, vs, e1, e2, _, e4⟩ := RepS.tup hr1 r1
      exact ⟨q, vs, e1, .inl (by rw [hK]; exact e2), go vs e4⟩
    · subst e
      obtain ⟨q, vs, e1, e2, _, e4⟩ := RepS.lst hr1 r1
      exact ⟨q, vs, e1, .inr (by rw [hK]; exact e2), go vs e4⟩
def fits (n : Nat) : Option Unit := if n ≤ 16777216 then some () else none
theorem fits_le {n : Nat} {u : Unit} (h : fits n = some u) : n ≤ sizeLine := by
  unfold fits at h
  split at h
  · rw [sizeLine_eq]; assumption
  · cases h
def eTup (g : Env → M (List D)) (env : Env) : M D := bnd (g env) fun xs => bnd (lft (fits xs.length)) fun _ => ret (.tup xs)
def eLst (g : Env → M (List D)) (env : Env) : M D := bnd (g env) fun xs => bnd (lft (fits xs.length)) fun _ => ret (.lst xs)
/-- a new tuple -/
theorem new_tup {W : Wd} {h : IH} {H : Hp} {xs : List D} {vs : List V} {p : Addr} (hr : Hr G W h H) (hz : xs.length ≤ sizeLine) (r : Reps G W xs vs) (hp : H p = none) :
    Fr W H (W.fz p (.tup vs)) (upd H p (.tup vs)) ∧ Hr G (W.fz p (.tup vs)) h (upd H p (.tup vs)) ∧ Rep G (W.fz p (.tup vs)) (.tup xs) (.ref p) :=
  ⟨fr_new hr hp, hr.new hp, .tup (.inl (.inl upd_same)) hz (r.mono (le_fz (hr.fnone hp)))⟩
/-- a new list -/
theorem new_lst {W : Wd} {h : IH} {H : Hp} {xs : List D} {vs : List V} {p : Addr} (hr : Hr G W h H) (hz : xs.length ≤ sizeLine) (r : Reps G W xs vs) (hp : H p = none) :
    Fr W H W (upd H p (.lst vs)) ∧ Hr G W h (upd H p (.lst vs)) ∧ rrF G W H W (upd H p (.lst vs)) (.lst xs) (.ref p) :=
  ⟨fr_own hp, hr.own hp, p, vs, rfl, upd_same, hr.notcell hp, hr.fnone hp, hp, hz, r⟩
theorem pev_tup {es : List Expr} {g : Env → M (List D)} {k : Nat} {pos : Pos} (h : PA X es (tAr G E g)) : PE X (.Tuple es k pos) (tR G (rrE G) E (eTup g)) := pe_imp (pe_tup h) fun σ H Q ⟨W, hh, env, H0, hr, er, p⟩ => by
  refine ⟨W, hh, env, H0, hr, er, (post_bnd.mp p).mono (fun xs h1 p1 W1 H1 vs f1 hr1 r1 => ?_) fun _ _ _ k => k⟩
  obtain ⟨u, e, k⟩ := post_lft (post_bnd.mp p1)
  have hz := fits_le e
  refine ⟨by rw [← r1.length]; exact hz, fun q hq => ?_⟩
  obtain ⟨n1, n2, n3⟩ := new_tup hr1 hz r1 hq
  exact k _ _ _ (f1.trans n1) n2 n3
theorem pev_lst {es : List Expr} {g : Env → M (List D)} {pos : Pos} (h : PA X es (tAr G E g)) : PE X (.List es pos) (tR G (rrF G) E (eLst g)) := pe_imp (pe_lst h) fun σ H Q ⟨W, hh, env, H0, hr, er, p⟩ => by
  refine ⟨W, hh, env, H0, hr, er, (post_bnd.mp p).mono (fun xs h1 p1 W1 H1 vs f1 hr1 r1 => ?_) fun _ _ _ k => k⟩
  obtain ⟨u, e, k⟩ := post_lft (post_bnd.mp p1)
  have hz := fits_le e
  refine ⟨by rw [← r1.length]; exact hz, fun q hq => ?_⟩
  obtain ⟨n1, n2, n3⟩ := new_lst hr1 hz r1 hq
  exact k _ _ _ (f1.trans n1) n2 (upF _ _ _ _ _ _ _ _ f1 n3)
end Iv

/-! Iv, part C: operations on pure values, and that the model's operations give the same. -/
namespace Iv
open PySem L2
variable {G : GC} {X : Cx}

/-! ### data as the library has it -/
mutual
def D.py : D → PyData
  | .non => .none | .bl b => .bool b | .int i => .int i | .str x => .str ⟨x.toArray⟩
  | .tup xs => .tuple (D.pys xs) | .lst xs => .list (D.pys xs) | .ref _ => .none | .ins _ _ => .none
def D.pys : List D → List PyData
  | [] => []
  | x :: xs => D.py x :: D.pys xs
end
mutual
/-- data: no reference, no instance -/
def D.dat : D → Bool
  | .tup xs => D.dats xs | .lst xs => D.dats xs | .ref _ => false | .ins _ _ => false
  | .non => true | .bl _ => true | .int _ => true | .str _ => true
def D.dats : List D → Bool
  | [] => true
  | x :: xs => D.dat x && D.dats xs
end
mutual
def D.depth : D → Nat
  | .tup xs => D.depths xs + 1 | .lst xs => D.depths xs + 1
  | .non => 0 | .bl _ => 0 | .int _ => 0 | .str _ => 0 | .ref _ => 0 | .ins _ _ => 0
def D.depths : List D → Nat
  | [] => 0
  | x :: xs => max (D.depth x) (D.depths xs)
end
mutual
/-- == of data -/
def D.eqv : D → D → Bool
  | .non, .non => true
  | .bl a, .bl b => a == b
  | .bl a, .int j => (if a then 1 else 0) == j
  | .int i, .bl b => i == (if b then 1 else 0)
  | .int i, .int j => i == j
  | .str x, .str y => x == y
  | .lst xs, .lst ys => D.eqvs xs ys
  | .tup xs, .tup ys => D.eqvs xs ys
  | _, _ => false
def D.eqvs : List D → List D → Bool
  | [], [] => true
  | x :: xs, y :: ys => D.eqv x y && D.eqvs xs ys
  | _, _ => false
end
theorem str_beq (x y : List Nat) : ((⟨x.toArray⟩ : Str) == ⟨y.toArray⟩) = (x == y) := by
  rw [Bool.eq_iff_iff]
  simp
mutual
theorem eqv_py : ∀ x y : D, x.dat = true → y.dat = true → PyData.eqv x.py y.py = D.eqv x y
  | .non, y, _, hy => by cases y <;> first | rfl | exact absurd hy Bool.false_ne_true
  | .bl a, y, _, hy => by cases y <;> first | rfl | exact absurd hy Bool.false_ne_true
  | .int a, y, _, hy => by cases y <;> first | rfl | exact absurd hy Bool.false_ne_true
  | .str a, y, _, hy => by
    cases y <;> first
      | rfl
      | exact absurd hy Bool.false_ne_true
      | (simp only [D.py, PyData.eqv, D.eqv]; exact str_beq _ _)
  | .tup xs, y, hx, hy => by
    cases y <;> first
      | rfl
      | exact absurd hy Bool.false_ne_true
      | (simp only [D.py, PyData.eqv, D.eqv]; exact eqvs_py xs _ (by simpa [D.dat] using hx) (by simpa [D.dat] using hy))
  | .lst xs, y, hx, hy => by
    cases y <;> first
      | rfl
      | exact absurd hy Bool.false_ne_true
      | (simp only [D.py, PyData.eqv, D.eqv]; exact eqvs_py xs _ (by simpa [D.dat] using hx) (by simpa [D.dat] using hy))
  | .ref _, _, hx, _ => absurd hx Bool.false_ne_true
  | .ins _ _, _, hx, _ => absurd hx Bool.false_ne_true
theorem eqvs_py : ∀ xs ys : List D, D.dats xs = true → D.dats ys = true → PyData.eqvAll (D.pys xs) (D.pys ys) = D.eqvs xs ys
  | [], [], _, _ => rfl
  | [], _ :: _, _, _ => rfl
  | _ :: _, [], _, _ => rfl
  | x :: xs, y :: ys, hx, hy => by
    simp only [D.dats, Bool.and_eq_true] at hx hy
    simp only [D.pys, PyData.eqvAll, D.eqvs]
    rw [eqv_py x y hx.1 hy.1, eqvs_py xs ys hx.2 hy.2]
end
mutual
theorem plain_py : ∀ x : D, x.py.plain = true
  | .non => rfl
  | .bl _ => rfl
  | .int _ => rfl
  | .str _ => rfl
  | .ref _ => rfl
  | .ins _ _ => rfl
  | .tup xs => by simp only [D.py, PyData.plain]; exact plains_py xs
  | .lst xs => by simp only [D.py, PyData.plain]; exact plains_py xs
theorem plains_py : ∀ xs : List D, PyData.plainAll (D.pys xs) = true
  | [] => rfl
  | x :: xs => by simp only [D.pys, PyData.plainAll, plain_py x, plains_py xs]; rfl
end
mutual
theorem depth_py : ∀ x : D, x.py.depth = x.depth
  | .non => rfl
  | .bl _ => rfl
  | .int _ => rfl
  | .str _ => rfl
  | .ref _ => rfl
  | .ins _ _ => rfl
  | .tup xs => by simp only [D.py, PyData.depth, D.depth, depths_py xs]
  | .lst xs => by simp only [D.py, PyData.depth, D.depth, depths_py xs]
theorem depths_py : ∀ xs : List D, PyData.depthAll (D.pys xs) = D.depths xs
  | [] => rfl
  | x :: xs => by simp only [D.pys, PyData.depthAll, D.depths, depth_py x, depths_py xs]
end
theorem pys_length : ∀ xs : List D, (D.pys xs).length = xs.length
  | [] => rfl
  | x :: xs => by simp [D.pys, pys_length xs]
theorem pys_map : ∀ xs : List D, D.pys xs = xs.map D.py
  | [] => rfl
  | x :: xs => by simp [D.pys, pys_map xs]
mutual
theorem Rep.dp {W : Wd} {H : Hp} (sub : ∀ a o, W.F a = some o → H a = some o) : ∀ {d : D} {v : V}, Rep G W d v → d.dat = true → Dp G.K H v d.py
  | _, _, .non, _ => .non
  | _, _, .bl b, _ => .bl b
  | _, _, .int i, _ => .int i
  | _, _, .str x _, _ => .str _
  | _, _, .tup h _ r, k => by rw [D.py]; exact .tup (sqT_le sub h) (Reps.dp sub r (by simpa [D.dat] using k))
  | _, _, .lst h _ r, k => by rw [D.py]; exact .lst (sqL_le sub h) (Reps.dp sub r (by simpa [D.dat] using k))
  | _, _, .ref _, k => absurd k Bool.false_ne_true
  | _, _, .ins _ _ _ _, k => absurd k Bool.false_ne_true
theorem Reps.dp {W : Wd} {H : Hp} (sub : ∀ a o, W.F a = some o → H a = some o) : ∀ {ds : List D} {vs : List V}, Reps G W ds vs → D.dats ds = true → DpAll G.K H vs (D.pys ds)
  | _, _, .nil, _ => .nil
  | _, _, .cons r t, k => by
    simp only [D.dats, Bool.and_eq_true] at k
    exact .cons (Rep.dp sub r k.1) (Reps.dp sub t k.2)
end
theorem RepS.dp {W : Wd} {h : IH} {H : Hp} {d : D} {v : V} (hr : Hr G W h H) (x : RepS G W H d v) (k : d.dat = true) : Dp G.K H v d.py := by
  rcases x with x | ⟨p, xs, vs, h1, h2, h3, h4, h5, h6⟩
  · exact x.dp hr.sub k
  · subst h1 h2
    rw [D.py]
    exact .lst (.inl (.inl h3)) (h6.dp hr.sub (by simpa [D.dat] using k))

/-! ### ==, != -/
abbrev rDat (K : PySem.W.Frag) (g : PyData → PyData → V) (P : PyData → PyData → Prop) : R2 := fun x y H Q => ∃ d e, Dp K H x d ∧ Dp K H y e ∧ P d e ∧ Q (g d e) H
def PEq (d e : PyData) : Prop := d.plain = true ∧ e.plain = true ∧ min d.depth e.depth ≤ 64
theorem op_eqP (hu : X.A.units + 70 < cLine) : OpR X (compareOp .Eq) (rDat X.K (fun d e => .bl (PyData.eqv d e)) PEq) := by
  intro pins s σ H x y v u Q I rx ry h
  obtain ⟨d, e, hd, he, ⟨p1, p2, p3⟩, q⟩ := h
  obtain ⟨as, r1⟩ := Dp.reads I d x v hd rx
  obtain ⟨bs, r2⟩ := Dp.reads I e y u he ry
  exact SeqAt.eq_plain r1 r2 p1 p2 (by omega) ⟨.bl _, H, I, rfl, q⟩
theorem op_neP (hu : X.A.units + 70 < cLine) : OpR X (compareOp .NotEq) (rDat X.K (fun d e => .bl (!PyData.eqv d e)) PEq) := by
  intro pins s σ H x y v u Q I rx ry h
  obtain ⟨d, e, hd, he, ⟨p1, p2, p3⟩, q⟩ := h
  obtain ⟨as, r1⟩ := Dp.reads I d x v hd rx
  obtain ⟨bs, r2⟩ := Dp.reads I e y u he ry
  exact SeqAt.ne_plain r1 r2 p1 p2 (by omega) ⟨.bl _, H, I, rfl, q⟩
def eqOk (x y : D) : Bool := x.dat && y.dat && decide (min x.depth y.depth ≤ 64)
theorem eqOk_of {x y : D} (h : eqOk x y = true) : x.dat = true ∧ y.dat = true ∧ PEq x.py y.py := by
  simp only [eqOk, Bool.and_eq_true, decide_eq_true_eq] at h
  exact ⟨h.1.1, h.1.2, plain_py x, plain_py y, by rw [depth_py, depth_py]; exact h.2⟩
def opEq (_ : IH) (x y : D) : Option D := if eqOk x y = true then some (.bl (D.eqv x y)) else none
def opNe (_ : IH) (x y : D) : Option D := if eqOk x y = true then some (.bl (!D.eqv x y)) else none
theorem sem_eq : OpSem G (rrE G) (rDat G.K (fun d e => .bl (PyData.eqv d e)) PEq) opEq := by
  intro W h H x y v u d Q hr rx ry e k
  unfold opEq at e
  split at e
  · rename_i c
    cases e
    obtain ⟨h1, h2, h3⟩ := eqOk_of c
    refine ⟨_, _, rx.dp hr h1, ry.dp hr h2, h3, ?_⟩
    show Q (.bl (PyData.eqv x.py y.py)) H
    rw [eqv_py x y h1 h2]
    exact k W H _ (Fr.refl W H) hr (.bl _)
  · cases e
theorem sem_ne : OpSem G (rrE G) (rDat G.K (fun d e => .bl (!PyData.eqv d e)) PEq) opNe := by
  intro W h H x y v u d Q hr rx ry e k
  unfold opNe at e
  split at e
  · rename_i c
    cases e
    obtain ⟨h1, h2, h3⟩ := eqOk_of c
    refine ⟨_, _, rx.dp hr h1, ry.dp hr h2, h3, ?_⟩
    show Q (.bl (!PyData.eqv x.py y.py)) H
    rw [eqv_py x y h1 h2]
    exact k W H _ (Fr.refl W H) hr (.bl _)
  · cases e

/-! ### <, <= and their turns -/
mutual
/-- x op y: none where two places that differ can't be put in order -/
def ordP (op : CmpOp) : PyData → PyData → Option Bool
  | .int i, .int j => match op with
    | .Lt => some (decide (i < j)) | .LtE => some (decide (i ≤ j)) | .Gt => some (decide (j < i)) | .GtE => some (decide (j ≤ i)) | _ => none
  | .str x, .str y => match op with
    | .Lt => some (decide (x.cps.toList < y.cps.toList)) | .LtE => some (!decide (y.cps.toList < x.cps.toList))
    | .Gt => some (decide (y.cps.toList < x.cps.toList)) | .GtE => some (!decide (x.cps.toList < y.cps.toList)) | _ => none
  | .tuple xs, .tuple ys => ordPs op xs ys
  | _, _ => none
def ordPs (op : CmpOp) : List PyData → List PyData → Option Bool
  | [], [] => some (match op with | .LtE => true | .GtE => true | _ => false)
  | [], _ :: _ => some (match op with | .LtE => true | .Lt => true | _ => false)
  | _ :: _, [] => some (match op with | .GtE => true | .Gt => true | _ => false)
  | x :: xs, y :: ys =>
    if PyData.eqv x y = true then ordPs op xs ys
    else match ordP op x y, ordPs op xs ys with
      | some r, some _ => some r
      | _, _ => none
end
def isOrd : CmpOp → Bool
  | .Lt => true | .LtE => true | .Gt => true | .GtE => true | _ => false
/-- the lengths alone -/
def ordLen (op : CmpOp) (n m : Nat) : Bool := match op with
  | .Lt => decide (n < m) | .LtE => decide (n ≤ m) | .Gt => decide (m < n) | .GtE => decide (m ≤ n) | _ => false
def eAt (xs ys : List PyData) (j : Nat) : Bool := match xs[j]?, ys[j]? with
  | some x, some y => PyData.eqv x y
  | _, _ => false
def rAt (op : CmpOp) (xs ys : List PyData) (j : Nat) : Bool := match xs[j]?, ys[j]? with
  | some x, some y => (ordP op x y).getD false
  | _, _ => false
theorem lexAt_shift {e r : Nat → Bool} {z : Bool} : ∀ (k i : Nat), Ob.lexAt e r z (i + 1) k = Ob.lexAt (fun j => e (j + 1)) (fun j => r (j + 1)) z i k
  | 0, _ => rfl
  | k + 1, i => by rw [Ob.lexAt_succ, Ob.lexAt_succ, lexAt_shift k (i + 1)]
theorem ordPs_lex (op : CmpOp) (ho : isOrd op = true) : ∀ (xs ys : List PyData) (b : Bool), ordPs op xs ys = some b →
    Ob.lexAt (eAt xs ys) (rAt op xs ys) (ordLen op xs.length ys.length) 0 (min xs.length ys.length) = b
  | [], [], b, h => by
    cases op <;> simp [isOrd] at ho <;> simp [ordPs] at h <;> subst h <;> rfl
  | [], y :: ys, b, h => by
    cases op <;> simp [isOrd] at ho <;> simp [ordPs] at h <;> subst h <;> simp [Ob.lexAt_zero, ordLen]
  | x :: xs, [], b, h => by
    cases op <;> simp [isOrd] at ho <;> simp [ordPs] at h <;> subst h <;> simp [Ob.lexAt_zero, ordLen]
  | x :: xs, y :: ys, b, h => by
    have e1 : min (x :: xs).length (y :: ys).length = min xs.length ys.length + 1 := by simp only [List.length_cons]; omega
    have e2 : ordLen op (x :: xs).length (y :: ys).length = ordLen op xs.length ys.length := by
      cases op <;> simp [ordLen]
    have e3 : (fun j => eAt (x :: xs) (y :: ys) (j + 1)) = eAt xs ys := by funext j; simp [eAt]
    have e4 : (fun j => rAt op (x :: xs) (y :: ys) (j + 1)) = rAt op xs ys := by funext j; simp [rAt]
    rw [e1, e2, Ob.lexAt_succ, lexAt_shift, e3, e4]
    have e5 : eAt (x :: xs) (y :: ys) 0 = PyData.eqv x y := rfl
    have e6 : rAt op (x :: xs) (y :: ys) 0 = (ordP op x y).getD false := rfl
    rw [e5, e6]
    rw [ordPs] at h
    by_cases c : PyData.eqv x y = true
    · rw [if_pos c] at h ⊢
      exact ordPs_lex op ho xs ys b h
    · rw [if_neg c] at h ⊢
      cases q : ordP op x y with
      | none => rw [q] at h; cases h
      | some r =>
        cases q2 : ordPs op xs ys with
        | none => rw [q, q2] at h; cases h
        | some t => rw [q, q2] at h; cases h; rfl
theorem ordPs_at (op : CmpOp) : ∀ (xs ys : List PyData) (b : Bool), ordPs op xs ys = some b → ∀ (j : Nat) (x y : PyData), xs[j]? = some x → ys[j]? = some y → PyData.eqv x y = false → ∃ r, ordP op x y = some r ∧ rAt op xs ys j = r
  | [], _, _, _, j, x, y, h1, _, _ => by simp at h1
  | _ :: _, [], _, _, j, x, y, _, h2, _ => by simp at h2
  | x' :: xs, y' :: ys, b, h, j, x, y, h1, h2, c => by
    rw [ordPs] at h
    cases j with
    | zero =>
      simp only [List.getElem?_cons_zero, Option.some.injEq] at h1 h2
      subst h1 h2
      rw [if_neg (by rw [c]; exact Bool.false_ne_true)] at h
      cases q : ordP op x' y' with
      | none => rw [q] at h; cases h
      | some r => exact ⟨r, rfl, by show (ordP op x' y').getD false = r; rw [q]; rfl⟩
    | succ j =>
      simp only [List.getElem?_cons_succ] at h1 h2
      have go : ∃ t, ordPs op xs ys = some t := by
        by_cases c' : PyData.eqv x' y' = true
        · rw [if_pos c'] at h; exact ⟨b, h⟩
        · rw [if_neg c'] at h
          cases q2 : ordPs op xs ys with
          | none =>
            rw [q2] at h
            cases q : ordP op x' y' <;> rw [q] at h <;> cases h
          | some t => exact ⟨t, rfl⟩
      obtain ⟨t, ht⟩ := go
      obtain ⟨r, e1, e2⟩ := ordPs_at op xs ys t ht j x y h1 h2 c
      exact ⟨r, e1, by rw [← e2]; simp [rAt]⟩
theorem readsAll_at {h : Heap} : ∀ {vs : List Value} {xs : List PyData} {as : List Addr}, ReadsAll h vs xs as → ∀ (j : Nat) (h1 : j < vs.length), ∃ x as', xs[j]? = some x ∧ Reads h vs[j] x as' ∧ x.depth ≤ PyData.depthAll xs ∧ (PyData.plainAll xs = true → x.plain = true)
  | _, _, _, .cons r rs, 0, _ => ⟨_, _, rfl, r, by simp only [PyData.depthAll]; exact Nat.le_max_left _ _, fun p => by simp only [PyData.plainAll, Bool.and_eq_true] at p; exact p.1⟩
  | _, _, _, .cons r rs, j + 1, h1 => by
    obtain ⟨x, as', e, q, dd, pp⟩ := readsAll_at rs j (Nat.lt_of_succ_lt_succ h1)
    exact ⟨x, as', by simpa using e, by simpa using q, by simp only [PyData.depthAll]; exact Nat.le_trans dd (Nat.le_max_right _ _), fun p => by simp only [PyData.plainAll, Bool.and_eq_true] at p; exact pp p.2⟩
theorem rcOp_reads (op : CmpOp) (ho : isOrd op = true) : ∀ (n : Nat) (d e : PyData), d.depth ≤ n → ∀ (A : Around) (s : Shared) (v u : Value) (as bs : List Addr) (b : Bool), Reads s.heap v d as → Reads s.heap u e bs → d.plain = true → e.plain = true →
    A.units + n < cLine → ordP op d e = some b → Ob.RcOp op A s v u b := by
  intro n
  induction n with
  | zero =>
    intro d e hn A s v u as bs b r1 r2 p1 p2 hu h
    cases d <;> cases e <;> simp only [ordP, reduceCtorEq] at h
    · cases r1; cases r2
      cases op <;> simp only [isOrd, Bool.false_eq_true] at ho <;> simp only [Option.some.injEq] at h <;> subst h
      · exact Ob.RcOp.lt_int _ _ _ _
      · exact Ob.RcOp.le_int _ _ _ _
      · exact Ob.RcOp.gt_int _ _ _ _
      · exact Ob.RcOp.ge_int _ _ _ _
    · cases r1; cases r2
      cases op <;> simp only [isOrd, Bool.false_eq_true] at ho <;> simp only [Option.some.injEq] at h <;> subst h <;> intro prog w E Q q
      · exact PyProof.Rows.lt_str q
      · exact PySem.P.le_str (by simpa using q)
      · exact PySem.P.gt_str q
      · exact PySem.P.ge_str (by simpa using q)
    · simp only [PyData.depth] at hn; omega
  | succ n ih =>
    intro d e hn A s v u as bs b r1 r2 p1 p2 hu h
    cases d <;> cases e <;> simp only [ordP, reduceCtorEq] at h
    · cases r1; cases r2
      cases op <;> simp only [isOrd, Bool.false_eq_true] at ho <;> simp only [Option.some.injEq] at h <;> subst h
      · exact Ob.RcOp.lt_int _ _ _ _
      · exact Ob.RcOp.le_int _ _ _ _
      · exact Ob.RcOp.gt_int _ _ _ _
      · exact Ob.RcOp.ge_int _ _ _ _
    · cases r1; cases r2
      cases op <;> simp only [isOrd, Bool.false_eq_true] at ho <;> simp only [Option.some.injEq] at h <;> subst h <;> intro prog w E Q q
      · exact PyProof.Rows.lt_str q
      · exact PySem.P.le_str (by simpa using q)
      · exact PySem.P.gt_str q
      · exact PySem.P.ge_str (by simpa using q)
    · rename_i xs ys
      simp only [PyData.depth] at hn
      simp only [PyData.plain] at p1 p2
      cases r1 with
      | @tuple l o vs n1 _ as1 h1 h2 h3 h4 =>
      cases r2 with
      | @tuple l' o' vs' n2 _ bs1 k1 k2 k3 k4 =>
      have hl : s.heap.IsTuple l vs := ⟨_, h1, h2, _, h3⟩
      have hl' : s.heap.IsTuple l' vs' := ⟨_, k1, k2, _, k3⟩
      have z1 : vs.size = xs.length := by simpa using SeqAt.ReadsAll.length _ _ _ h4
      have z2 : vs'.size = ys.length := by simpa using SeqAt.ReadsAll.length _ _ _ k4
      have he : ∀ j (j1 : j < vs.size) (j2 : j < vs'.size), SeqAt.EqAt A.in1 s vs[j] vs'[j] (eAt xs ys j) := fun j j1 j2 => by
        obtain ⟨x, as', ex, rx, dx, px⟩ := readsAll_at h4 j (by simpa using j1)
        obtain ⟨y, bs', ey, ry, dy, py⟩ := readsAll_at k4 j (by simpa using j2)
        have e0 : eAt xs ys j = PyData.eqv x y := by simp [eAt, ex, ey]
        rw [e0]
        have := SeqAt.eqAt_plain x y A.in1 s vs[j] vs'[j] as' bs' (by simpa using rx) (by simpa using ry) (px p1) (py p2) (by
          show A.units + 1 + _ < _
          have := Nat.min_le_left x.depth y.depth
          omega)
        exact this
      have hr : ∀ j (j1 : j < vs.size) (j2 : j < vs'.size), eAt xs ys j = false → Ob.RcOp op A.in1 s vs[j] vs'[j] (rAt op xs ys j) := fun j j1 j2 c => by
        obtain ⟨x, as', ex, rx, dx, px⟩ := readsAll_at h4 j (by simpa using j1)
        obtain ⟨y, bs', ey, ry, dy, py⟩ := readsAll_at k4 j (by simpa using j2)
        have e0 : eAt xs ys j = PyData.eqv x y := by simp [eAt, ex, ey]
        rw [e0] at c
        obtain ⟨r, o1, o2⟩ := ordPs_at op xs ys b h j x y ex ey c
        rw [o2]
        exact ih x y (by omega) A.in1 s _ _ as' bs' r (by simpa using rx) (by simpa using ry) (px p1) (py p2) (by show A.units + 1 + n < _; omega) o1
      have hz : A.units < cLine := by omega
      have lex := ordPs_lex op ho xs ys b h
      rw [← z1, ← z2] at lex
      cases op <;> simp only [isOrd, Bool.false_eq_true] at ho
      · have := Ob.RcOp.tuples_lt hl hl' hz he hr
        simp only [ordLen] at lex
        rw [lex] at this; exact this
      · have := Ob.RcOp.tuples_le hl hl' hz he hr
        simp only [ordLen] at lex
        rw [lex] at this; exact this
      · have := Ob.RcOp.tuples_gt hl hl' hz he hr
        simp only [ordLen] at lex
        rw [lex] at this; exact this
      · have := Ob.RcOp.tuples_ge hl hl' hz he hr
        simp only [ordLen] at lex
        rw [lex] at this; exact this

def POrd (op : CmpOp) (d e : PyData) : Prop := d.plain = true ∧ e.plain = true ∧ d.depth ≤ 64 ∧ (ordP op d e).isSome = true
theorem op_ord (op : CmpOp) (ho : isOrd op = true) (hu : X.A.units + 70 < cLine) : OpR X (compareOp op) (rDat X.K (fun d e => .bl ((ordP op d e).getD false)) (POrd op)) := by
  intro pins s σ H x y v u Q I rx ry h
  obtain ⟨d, e, hd, he, ⟨p1, p2, p3, p4⟩, q⟩ := h
  obtain ⟨as, r1⟩ := Dp.reads I d x v hd rx
  obtain ⟨bs, r2⟩ := Dp.reads I e y u he ry
  obtain ⟨b, hb⟩ := Option.isSome_iff_exists.mp p4
  have q : Q (.bl ((ordP op d e).getD false)) H := q
  rw [hb] at q
  have z := rcOp_reads op ho 64 d e p3 X.A s v u as bs b r1 r2 p1 p2 (by omega) hb X.prog X.w X.xe (EP X pins σ Q) ⟨.bl b, H, I, rfl, q⟩
  have e : compareOp op v u = richCompare op v u := by cases op <;> simp only [isOrd, Bool.false_eq_true] at ho <;> rfl
  rw [e]; exact z
def ordOk (x y : D) : Bool := x.dat && y.dat && decide (x.depth ≤ 64)
def opOrd (op : CmpOp) (_ : IH) (x y : D) : Option D := if ordOk x y = true then (ordP op x.py y.py).map D.bl else none
theorem sem_ord (op : CmpOp) : OpSem G (rrE G) (rDat G.K (fun d e => .bl ((ordP op d e).getD false)) (POrd op)) (opOrd op) := by
  intro W h H x y v u d Q hr rx ry e k
  unfold opOrd at e
  split at e
  · rename_i c
    simp only [ordOk, Bool.and_eq_true, decide_eq_true_eq] at c
    obtain ⟨b, hb, e⟩ := Option.map_eq_some_iff.mp e
    subst e
    refine ⟨_, _, rx.dp hr c.1.1, ry.dp hr c.1.2, ⟨plain_py x, plain_py y, by rw [depth_py]; exact c.2, by rw [hb]; rfl⟩, ?_⟩
    show Q (.bl ((ordP op x.py y.py).getD false)) H
    rw [hb]
    exact k W H _ (Fr.refl W H) hr (.bl _)
  · cases e

/-! ### arithmetic -/
def opII (g : Int → Int → Option Int) (_ : IH) (x y : D) : Option D := match x, y with
  | .int i, .int j => (g i j).map D.int
  | _, _ => none
theorem opII_some {g : Int → Int → Option Int} {h : IH} {x y d : D} (e : opII g h x y = some d) : ∃ i j z, x = .int i ∧ y = .int j ∧ g i j = some z ∧ d = .int z := by
  cases x <;> cases y <;> simp only [opII, reduceCtorEq] at e
  obtain ⟨z, h1, h2⟩ := Option.map_eq_some_iff.mp e
  exact ⟨_, _, z, rfl, rfl, h1, h2.symm⟩
theorem sem_rI {C : Int → Int → Prop} {f : Int → Int → Int} {g : Int → Int → Option Int} (hg : ∀ i j z, g i j = some z → C i j ∧ z = f i j) : OpSem G (rrE G) (rI C fun i j => .int (f i j)) (opII g) := by
  intro W h H x y v u d Q hr rx ry e k
  obtain ⟨i, j, z, rfl, rfl, e1, rfl⟩ := opII_some e
  obtain ⟨c, rfl⟩ := hg i j z e1
  exact ⟨i, j, rx.int, ry.int, c, k W H _ (Fr.refl W H) hr (.int _)⟩
def opSub := opII fun i j => some (i - j)
def opMul := opII fun i j => if (-(2 ^ 64) < i ∧ i < 2 ^ 64) ∨ (-(2 ^ 64) < j ∧ j < 2 ^ 64) then some (i * j) else none
def opFdiv := opII fun i j => if 0 < j ∧ j < 1073741824 then some (i / j) else none
def opMod := opII fun i j => if 0 < j then some (i % j) else none
def opPow := opII fun i j => if 0 ≤ j ∧ j ≤ 1000000 ∧ i.natAbs < 2 ^ 64 then some (i ^ j.toNat) else none
def opAnd := opII fun i j => some (Builtin.bitAnd i j)
theorem sem_sub : OpSem G (rrE G) (rI0 fun i j => .int (i - j)) opSub := by
  intro W h H x y v u d Q hr rx ry e k
  obtain ⟨i, j, z, rfl, rfl, e1, rfl⟩ := opII_some e
  cases e1
  exact ⟨i, j, rx.int, ry.int, k W H _ (Fr.refl W H) hr (.int _)⟩
theorem sem_and : OpSem G (rrE G) (rI0 fun i j => .int (Builtin.bitAnd i j)) opAnd := by
  intro W h H x y v u d Q hr rx ry e k
  obtain ⟨i, j, z, rfl, rfl, e1, rfl⟩ := opII_some e
  cases e1
  exact ⟨i, j, rx.int, ry.int, k W H _ (Fr.refl W H) hr (.int _)⟩
theorem sem_mul : OpSem G (rrE G) (rI CMul fun i j => .int (i * j)) opMul := sem_rI fun i j z e => by
  split at e
  · cases e; exact ⟨by assumption, rfl⟩
  · cases e
theorem sem_fdiv : OpSem G (rrE G) (rI CDiv fun i j => .int (i / j)) opFdiv := sem_rI fun i j z e => by
  split at e
  · cases e; exact ⟨by assumption, rfl⟩
  · cases e
theorem sem_mod : OpSem G (rrE G) (rI (fun _ j => 0 < j) fun i j => .int (i % j)) opMod := sem_rI fun i j z e => by
  split at e
  · cases e; exact ⟨by assumption, rfl⟩
  · cases e
theorem sem_pow : OpSem G (rrE G) (rI CPow fun i j => .int (i ^ j.toNat)) opPow := sem_rI fun i j z e => by
  split at e
  · cases e; exact ⟨by assumption, rfl⟩
  · cases e

/-! ### + -/
def rCatL (K : PySem.W.Frag) : R2 := fun x y H Q => ∃ l b xs zs, x = .ref l ∧ y = .ref b ∧ SqL K H l xs ∧ SqL K H b zs ∧ xs.length + zs.length ≤ sizeLine ∧ ∀ p, H p = none → Q (.ref p) (upd H p (.lst (xs ++ zs)))
theorem op_catL : OpR X (binaryOp .Add) (rCatL X.K) := by
  intro pins s σ H x y v u Q I rx ry h
  obtain ⟨l, b, xs, zs, rfl, rfl, hH, hB, hz, q⟩ := h
  cases rx
  cases ry
  obtain ⟨its, r, pl, _⟩ := I.list hH
  obtain ⟨its2, r2, pl2, _⟩ := I.list hB
  obtain ⟨⟨cls, dd, data, sl⟩, n, ho, hc, _, hd⟩ := id pl
  obtain ⟨⟨cls2, dd2, data2, sl2⟩, n2, ho2, hc2, _, hd2⟩ := id pl2
  simp only at hc hd hc2 hd2
  subst hc hd hc2 hd2
  have hl := r.length
  have hl2 := r2.length
  have e : its.toArray ++ its2.toArray = (its ++ its2).toArray := by simp
  refine PySem.concat_meets ⟨_, ho, rfl⟩ ⟨_, ho2, rfl⟩ PySem.noFill_list_add PySem.seq_list_add PySem.F.slot_list_add PySem.F.entry_list_add (PySem.F.args_list_add_2 _ _) (PyProof.Rows.list_addW l b its.toArray its2.toArray n n2 dd dd2 sl sl2 (by simp only [List.size_toArray]; omega)) ⟨ho, ho2, ?_⟩
  rw [e]
  exact ⟨.ref _, _, I.lnew (t' := s.toks) (r.append r2) (by rw [List.length_append]; omega), rfl, q _ I.fresh⟩
def rAdd (K : PySem.W.Frag) : R2 := fun x y H Q => (rI0 (fun i j => .int (i + j)) x y H Q) ∨ (∃ i j, x = .str i ∧ y = .str j ∧ i.length + j.length ≤ sizeLine ∧ Q (.str (i ++ j)) H) ∨ rCatL K x y H Q ∨ rCatA K x y H Q
theorem op_addA : OpR X (binaryOp .Add) (rAdd X.K) := op_add.or (op_add_str.or (op_catL.or op_catA))
def opAdd (_ : IH) (x y : D) : Option D := match x, y with
  | .int i, .int j => some (.int (i + j))
  | .str a, .str b => if a.length + b.length ≤ 16777216 then some (.str (a ++ b)) else none
  | .lst a, .lst b => if a.length + b.length ≤ 16777216 then some (.lst (a ++ b)) else none
  | .tup a, .tup b => if a.length + b.length ≤ 16777216 then some (.tup (a ++ b)) else none
  | _, _ => none
theorem str_app (a b : List Nat) : (⟨a.toArray⟩ : Str) ++ (⟨b.toArray⟩ : Str) = ⟨(a ++ b).toArray⟩ := by
  show (⟨a.toArray ++ b.toArray⟩ : Str) = _
  simp
theorem sem_add : OpSem G (rrF G) (rAdd G.K) opAdd := by
  intro W h H x y v u d Q hr rx ry e k
  have hs := sizeLine_eq
  cases x <;> cases y <;> simp only [opAdd, reduceCtorEq] at e
  · cases e
    exact .inl ⟨_, _, rx.int, ry.int, k W H _ (Fr.refl W H) hr (.int _)⟩
  · split at e
    · cases e
      rename_i c
      obtain ⟨e1, _⟩ := rx.str
      obtain ⟨e2, _⟩ := ry.str
      refine .inr (.inl ⟨_, _, e1, e2, by simp only [Str.length, List.size_toArray]; omega, ?_⟩)
      rw [str_app]
      exact k W H _ (Fr.refl W H) hr (.str _ (by rw [List.length_append]; omega))
    · cases e
  · split at e
    · cases e
      rename_i xs ys c
      obtain ⟨p, vs, e1, s1, _, r1⟩ := RepS.tup hr rx
      obtain ⟨p2, us, e2, s2, _, r2⟩ := RepS.tup hr ry
      subst e1 e2
      have l1 := r1.length
      have l2 := r2.length
      refine .inr (.inr (.inr ⟨p, p2, vs, us, rfl, rfl, s1, s2, by omega, fun z => ?_, fun _ z => ?_, fun _ _ q hq => ?_⟩))
      · subst z
        cases r1
        rcases ry with ry | ⟨_, _, _, z, _⟩
        · exact k W H _ (Fr.refl W H) hr ry
        · cases z
      · subst z
        cases r2
        rw [List.append_nil] at k
        rcases rx with rx | ⟨_, _, _, z, _⟩
        · exact k W H _ (Fr.refl W H) hr rx
        · cases z
      · obtain ⟨n1, n2, n3⟩ := new_tup hr (xs := xs ++ ys) (by rw [List.length_append]; omega) (r1.append r2) hq
        exact k _ _ _ n1 n2 n3
    · cases e
  · split at e
    · cases e
      rename_i xs ys c
      obtain ⟨p, vs, e1, s1, _, r1⟩ := RepS.lst hr rx
      obtain ⟨p2, us, e2, s2, _, r2⟩ := RepS.lst hr ry
      subst e1 e2
      have l1 := r1.length
      have l2 := r2.length
      refine .inr (.inr (.inl ⟨p, p2, vs, us, rfl, rfl, s1, s2, by omega, fun q hq => ?_⟩))
      obtain ⟨n1, n2, n3⟩ := new_lst hr (xs := xs ++ ys) (by rw [List.length_append]; omega) (r1.append r2) hq
      exact k _ _ _ n1 n2 n3
    · cases e

/-! ### in, not in -/
def PIn (d e : PyData) : Prop := d.plain = true ∧ e.plain = true ∧ d.depth ≤ 64 ∧ ∃ xs, e = .list xs ∨ e = .tuple xs
def itemsP (e : PyData) : List PyData := match e with
  | .list xs => xs
  | .tuple xs => xs
  | _ => []
theorem op_inP (hu : X.A.units + 70 < cLine) : OpR X (compareOp .In) (rDat X.K (fun d e => .bl ((itemsP e).any fun z => PyData.eqv z d)) PIn) := by
  intro pins s σ H x y v u Q I rx ry h
  obtain ⟨d, e, hd, he, ⟨p1, p2, p3, xs, pe⟩, q⟩ := h
  obtain ⟨as, r1⟩ := Dp.reads I d x v hd rx
  obtain ⟨bs, r2⟩ := Dp.reads I e y u he ry
  rcases pe with rfl | rfl
  · exact SeqAt.in_list_data r2 r1 (by simpa only [PyData.plain] using p2) p1 (by have := Nat.min_le_right (PyData.depthAll xs) d.depth; omega) ⟨.bl _, H, I, rfl, q⟩
  · exact SeqAt.in_tuple_data r2 r1 (by simpa only [PyData.plain] using p2) p1 (by have := Nat.min_le_right (PyData.depthAll xs) d.depth; omega) ⟨.bl _, H, I, rfl, q⟩
theorem op_ninP (hu : X.A.units + 70 < cLine) : OpR X (compareOp .NotIn) (rDat X.K (fun d e => .bl (!(itemsP e).any fun z => PyData.eqv z d)) PIn) := by
  intro pins s σ H x y v u Q I rx ry h
  obtain ⟨d, e, hd, he, ⟨p1, p2, p3, xs, pe⟩, q⟩ := h
  obtain ⟨as, r1⟩ := Dp.reads I d x v hd rx
  obtain ⟨bs, r2⟩ := Dp.reads I e y u he ry
  rcases pe with rfl | rfl
  · exact SeqAt.notIn_list_data r2 r1 (by simpa only [PyData.plain] using p2) p1 (by have := Nat.min_le_right (PyData.depthAll xs) d.depth; omega) ⟨.bl _, H, I, rfl, q⟩
  · exact SeqAt.notIn_tuple_data r2 r1 (by simpa only [PyData.plain] using p2) p1 (by have := Nat.min_le_right (PyData.depthAll xs) d.depth; omega) ⟨.bl _, H, I, rfl, q⟩
def rSign (neg : Bool) : R2 := fun x y H Q => ∃ (c : Nat) (z : Str), x = .str ⟨#[c]⟩ ∧ y = .str z ∧ Q (.bl (if neg then !decide (c ∈ z.cps.toList) else decide (c ∈ z.cps.toList))) H
theorem op_inA (hu : X.A.units + 70 < cLine) : OpR X (compareOp .In) (fun x y H Q => rDat X.K (fun d e => .bl ((itemsP e).any fun z => PyData.eqv z d)) PIn x y H Q ∨ rSign false x y H Q) := (op_inP hu).or op_in_sign
theorem op_ninA (hu : X.A.units + 70 < cLine) : OpR X (compareOp .NotIn) (fun x y H Q => rDat X.K (fun d e => .bl (!(itemsP e).any fun z => PyData.eqv z d)) PIn x y H Q ∨ rSign true x y H Q) := (op_ninP hu).or op_notIn_sign
def memD (d : D) (xs : List D) : Bool := xs.any fun z => D.eqv z d
def inOk (d : D) (xs : List D) : Bool := d.dat && D.dats xs && decide (d.depth ≤ 64)
def inB (x y : D) : Option Bool := match x, y with
  | .str [c], .str z => some (decide (c ∈ z))
  | d, .lst xs => if inOk d xs = true then some (memD d xs) else none
  | d, .tup xs => if inOk d xs = true then some (memD d xs) else none
  | _, _ => none
def opIn (_ : IH) (x y : D) : Option D := (inB x y).map D.bl
def opNin (_ : IH) (x y : D) : Option D := (inB x y).map fun b => D.bl (!b)
theorem mem_py {d : D} (hd : d.dat = true) : ∀ {xs : List D}, D.dats xs = true → (D.pys xs).any (fun z => PyData.eqv z d.py) = memD d xs
  | [], _ => rfl
  | x :: xs, h => by
    simp only [D.dats, Bool.and_eq_true] at h
    have ih := mem_py hd h.2
    unfold memD at ih ⊢
    simp only [D.pys, List.any_cons, eqv_py x d h.1 hd, ih]
theorem inB_cases {x y : D} {b : Bool} (h : inB x y = some b) : (∃ c z, x = .str [c] ∧ y = .str z ∧ b = decide (c ∈ z)) ∨ ∃ xs, (y = .lst xs ∨ y = .tup xs) ∧ x.dat = true ∧ D.dats xs = true ∧ x.depth ≤ 64 ∧ b = memD x xs := by
  unfold inB at h
  split at h
  · cases h; exact .inl ⟨_, _, rfl, rfl, rfl⟩
  · split at h
    · cases h
      rename_i c
      simp only [inOk, Bool.and_eq_true, decide_eq_true_eq] at c
      exact .inr ⟨_, .inl rfl, c.1.1, c.1.2, c.2, rfl⟩
    · cases h
  · split at h
    · cases h
      rename_i c
      simp only [inOk, Bool.and_eq_true, decide_eq_true_eq] at c
      exact .inr ⟨_, .inr rfl, c.1.1, c.1.2, c.2, rfl⟩
    · cases h
  · cases h
theorem sem_in0 {W : Wd} {h : IH} {H : Hp} {x y : D} {v u : V} {b : Bool} {Q : VK} (hr : Hr G W h H) (rx : RepS G W H x v) (ry : RepS G W H y u) (e : inB x y = some b) (g : Bool → Bool)
    (k : Q (.bl (g b)) H) : rDat G.K (fun d e => .bl (g ((itemsP e).any fun z => PyData.eqv z d))) PIn v u H Q ∨ ∃ (c : Nat) (z : Str), v = .str ⟨#[c]⟩ ∧ u = .str z ∧ Q (.bl (g (decide (c ∈ z.cps.toList)))) H := by
  rcases inB_cases e with ⟨c, z, rfl, rfl, rfl⟩ | ⟨xs, hy, h1, h2, h3, rfl⟩
  · obtain ⟨e1, _⟩ := rx.str
    obtain ⟨e2, _⟩ := ry.str
    exact .inr ⟨c, _, e1, e2, by simpa using k⟩
  · have hyd : y.dat = true := by rcases hy with rfl | rfl <;> simpa [D.dat] using h2
    refine .inl ⟨_, _, rx.dp hr h1, ry.dp hr hyd, ⟨plain_py x, plain_py y, by rw [depth_py]; exact h3, D.pys xs, ?_⟩, ?_⟩
    · rcases hy with rfl | rfl
      · exact .inl (by rw [D.py])
      · exact .inr (by rw [D.py])
    · show Q (.bl (g ((itemsP y.py).any fun z => PyData.eqv z x.py))) H
      have e3 : itemsP y.py = D.pys xs := by rcases hy with rfl | rfl <;> rw [D.py] <;> rfl
      rw [e3, mem_py h1 h2]
      exact k
theorem sem_in : OpSem G (rrE G) (fun x y H Q => rDat G.K (fun d e => .bl ((itemsP e).any fun z => PyData.eqv z d)) PIn x y H Q ∨ rSign false x y H Q) opIn := by
  intro W h H x y v u d Q hr rx ry e k
  obtain ⟨b, hb, rfl⟩ := Option.map_eq_some_iff.mp e
  exact sem_in0 hr rx ry hb (fun b => b) (k W H _ (Fr.refl W H) hr (.bl b))
theorem sem_nin : OpSem G (rrE G) (fun x y H Q => rDat G.K (fun d e => .bl (!(itemsP e).any fun z => PyData.eqv z d)) PIn x y H Q ∨ rSign true x y H Q) opNin := by
  intro W h H x y v u d Q hr rx ry e k
  obtain ⟨b, hb, rfl⟩ := Option.map_eq_some_iff.mp e
  exact sem_in0 hr rx ry hb (fun b => !b) (k W H _ (Fr.refl W H) hr (.bl (!b)))

/-! ### is None -/
def opIsN (_ : IH) (x y : D) : Option D := match x, y with
  | .non, .non => some (.bl true)
  | _, .non => some (.bl false)
  | _, _ => none
def opIsnN (_ : IH) (x y : D) : Option D := match x, y with
  | .non, .non => some (.bl false)
  | _, .non => some (.bl true)
  | _, _ => none
theorem RepS.isN {W : Wd} {H : Hp} {d : D} {v : V} (x : RepS G W H d v) : decide (v = .non) = (match d with | .non => true | _ => false) := by
  rcases x with x | ⟨p, xs, vs, rfl, rfl, _⟩
  · cases x <;> simp
  · simp
theorem sem_isN : OpSem G (rrE G) (fun x y H Q => y = .non ∧ Q (.bl (decide (x = .non))) H) opIsN := by
  intro W h H x y v u d Q hr rx ry e k
  have i := rx.isN
  cases y <;> cases x <;> simp only [opIsN, reduceCtorEq] at e <;> cases e <;> exact ⟨ry.non, by rw [i]; exact k W H _ (Fr.refl W H) hr (.bl _)⟩
theorem sem_isnN : OpSem G (rrE G) (fun x y H Q => y = .non ∧ Q (.bl (!decide (x = .non))) H) opIsnN := by
  intro W h H x y v u d Q hr rx ry e k
  have i := rx.isN
  cases y <;> cases x <;> simp only [opIsnN, reduceCtorEq] at e <;> cases e <;> exact ⟨ry.non, by rw [i]; exact k W H _ (Fr.refl W H) hr (.bl _)⟩

/-! ### x[i] -/
def opIx (h : IH) (x y : D) : Option D := match x, y with
  | .tup xs, .int i => atI xs i
  | .lst xs, .int i => atI xs i
  | .str z, .int i => (atI z i).map fun c => D.str [c]
  | .ref r, .int i => match h[r]? with
    | some (.lst xs) => atI xs i
    | none => none
  | _, _ => none
theorem atI_rep {W : Wd} {ds : List D} {vs : List V} {i : Int} {d : D} (r : Reps G W ds vs) (h : atI ds i = some d) : ∃ v, atI vs i = some v ∧ Rep G W d v := by
  unfold atI at h ⊢
  rw [← r.length]
  cases q : ixN ds.length i with
  | none => rw [q] at h; cases h
  | some j =>
    rw [q] at h
    obtain ⟨v, h1, h2⟩ := r.get (i := j) h
    exact ⟨v, h1, h2⟩
theorem sem_ix : OpSem G (rrE G) (rIx G.K) opIx := by
  intro W h H x y v u d Q hr rx ry e k
  cases y <;> cases x <;> simp only [opIx, reduceCtorEq] at e
  · obtain ⟨c, e1, rfl⟩ := Option.map_eq_some_iff.mp e
    obtain ⟨e2, z⟩ := rx.str
    exact .inr (.inr ⟨_, _, c, e2, ry.int, by simpa [Str.length] using z, by simpa using e1, k W H _ (Fr.refl W H) hr (.str [c] (by rw [sizeLine_eq]; simp))⟩)
  · obtain ⟨p, vs, e1, s1, _, r1⟩ := RepS.tup hr rx
    obtain ⟨w, a1, a2⟩ := atI_rep r1 e
    exact .inr (.inl ⟨p, vs, _, w, e1, ry.int, s1, a1, k W H _ (Fr.refl W H) hr a2⟩)
  · obtain ⟨p, vs, e1, s1, _, r1⟩ := RepS.lst hr rx
    obtain ⟨w, a1, a2⟩ := atI_rep r1 e
    exact .inl ⟨p, vs, _, w, e1, ry.int, s1, a1, k W H _ (Fr.refl W H) hr a2⟩
  · split at e
    · rename_i xs q
      obtain ⟨a, e1, ea⟩ := rx.ref
      obtain ⟨vs, h1, r1, _⟩ := hr.cell _ a _ ea q
      obtain ⟨w, a1, a2⟩ := atI_rep r1 e
      exact .inl ⟨a, vs, _, w, e1, ry.int, .inl (.inl h1), a1, k W H _ (Fr.refl W H) hr a2⟩
    · cases e
end Iv

/-! Iv, part D: slices, built-ins, isinstance, calls, what is walked, comprehensions. -/
namespace Iv
open PySem L2
variable {G : GC} {X : Cx} {H0 : Hp} {E : XK}

/-! ### slices -/
def cutD {α : Type} (xs : List α) (lo hi : Option Int) : List α := (xs.drop (HT.sIx xs.length 0 lo)).take (HT.sIx xs.length xs.length hi - HT.sIx xs.length 0 lo)
theorem Reps.cut {W : Wd} {ds : List D} {vs : List V} (r : Reps G W ds vs) (lo hi : Option Int) : Reps G W (cutD ds lo hi) (cutV vs lo hi) := by
  unfold cutD cutV
  rw [r.length]
  exact (r.drop _).take _
theorem cutD_length {α : Type} (xs : List α) (lo hi : Option Int) : (cutD xs lo hi).length ≤ xs.length := by
  unfold cutD
  rw [List.length_take, List.length_drop]
  omega
theorem cutD_whole {α : Type} {xs : List α} {lo hi : Option Int} (h : HT.sIx xs.length 0 lo = 0 ∧ HT.sIx xs.length xs.length hi = xs.length) : cutD xs lo hi = xs := by
  unfold cutD
  rw [h.1, h.2]
  simp
abbrev FO := Option (Env → M D)
def asI (d : D) : Option Int := match d with
  | .int i => some i
  | _ => none
def ePart (f : FO) (env : Env) : M (Option Int) := match f with
  | none => ret none
  | some f => bnd (f env) fun d => bnd (lft (asI d)) fun i => ret (some i)
def slD (x : D) (lo hi : Option Int) : Option D := match x with
  | .tup xs => some (.tup (cutD xs lo hi))
  | .lst xs => some (.lst (cutD xs lo hi))
  | .str z => some (.str (cutD z lo hi))
  | _ => none
def eSl (f : Env → M D) (lo hi : FO) (env : Env) : M D := bnd (f env) fun x => bnd (ePart lo env) fun l => bnd (ePart hi env) fun u => lft (slD x l u)
def KP (G : GC) (W : Wd) (H : Hp) (Q : Option Int → Hp → Prop) : Option Int → IH → Prop := fun o h' => ∀ W' H', Fr W H W' H' → Hr G W' h' H' → Q o H'
def tPr (G : GC) (E : XK) (ev : Env → M (Option Int)) : TO := fun σ H Q =>
  ∃ (W : Wd) (h : IH) (env : Env) (H0 : Hp), Hr G W h H ∧ Er G W H0 H env σ ∧ (ev env h).post (KP G W H Q) (KX G E W H)
theorem po_imp {e : Option Expr} {t t' : TO} (h : PO X e t) (i : ∀ σ H Q, t' σ H Q → t σ H Q) : PO X e t' := ⟨fun pins s σ H Q I q => h.run pins s σ H Q I (i σ H Q q)⟩
theorem pov_none : PO X none (tPr G E (ePart none)) := po_imp po_none fun σ H Q ⟨W, h, env, H0, hr, er, p⟩ => p W H (Fr.refl W H) hr
theorem pov_some {e : Expr} {f : Env → M D} (h : PE X e (tR G (rrE G) E f)) : PO X (some e) (tPr G E (ePart (some f))) := po_imp (po_some h) fun σ H Q ⟨W, hh, env, H0, hr, er, p⟩ => by
  refine ⟨W, hh, env, H0, hr, er, (post_bnd.mp p).mono (fun d h1 p1 W1 H1 v f1 hr1 r1 => ?_) fun _ _ _ k => k⟩
  obtain ⟨i, e, k⟩ := post_lft (post_bnd.mp p1)
  cases d <;> simp only [asI, Option.some.injEq, reduceCtorEq] at e
  subst e
  cases r1
  exact ⟨_, rfl, k W1 H1 f1 hr1⟩
def rSl (K : PySem.W.Frag) : V → Option Int → Option Int → Hp → VK → Prop := fun x lo hi H Q => rSlL K x lo hi H Q ∨ rSlA K x lo hi H Q ∨ rSlS x lo hi H Q
theorem sl_any : L2.SlR X (rSl X.K) := sl_list.or (sl_tupA.or sl_str)
theorem pev_sl {e : Expr} {lo hi : Option Expr} {f : Env → M D} {fl fh : FO} {p2 pos : Pos} (hK : X.K = G.K) (he : PE X e (tR G (rrO G) E f)) (hl : PO X lo (tPr G E (ePart fl))) (hh : PO X hi (tPr G E (ePart fh))) :
    PE X (.Subscript e (.Slice lo hi none p2) pos) (tR G (rrF G) E (eSl f fl fh)) := pe_imp (pe_slice sl_any he hl hh) fun σ H Q ⟨W, h, env, H0, hr, er, p⟩ => by
  refine ⟨W, h, env, H0, hr, er, (post_bnd.mp p).mono (fun x h1 p1 W1 H1 v f1 hr1 r1 => ?_) fun _ _ _ k => k⟩
  refine ⟨W1, h1, env, H0, hr1, er.step f1, (post_bnd.mp p1).mono (fun l h2 p2 W2 H2 f2 hr2 => ?_) fun _ _ _ k => k.step f1⟩
  refine ⟨W2, h2, env, H0, hr2, (er.step f1).step f2, (post_bnd.mp p2).mono (fun u h3 p3 W3 H3 f3 hr3 => ?_) fun _ _ _ k => k.step (f1.trans f2)⟩
  obtain ⟨d, e3, k⟩ := post_lft p3
  have r3 : RepS G W3 H3 x v := (RepS.step r1 f2).step f3
  have f0 := f1.trans (f2.trans f3)
  rw [hK]
  cases x <;> simp only [slD, reduceCtorEq] at e3
  · cases e3
    obtain ⟨e1, z⟩ := r3.str
    refine .inr (.inr ⟨_, e1, by simpa [Str.length] using z, ?_⟩)
    rename_i zz
    have e2 : cutS ⟨zz.toArray⟩ l u = ⟨(cutD zz l u).toArray⟩ := by
      unfold cutS cutD Str.length
      simp
    rw [e2]
    exact k W3 H3 _ f0 hr3 (.str _ (Nat.le_trans (cutD_length _ _ _) z))
  · cases e3
    rename_i xs
    obtain ⟨q, vs, e1, s1, z, r4⟩ := RepS.tup hr3 r3
    have hl := r4.length
    refine .inr (.inl ⟨q, vs, e1, s1, fun w => ?_, fun _ q2 hq => ?_⟩)
    · rw [← hl] at w
      have e4 := cutD_whole w
      rcases r3 with r3 | ⟨_, _, _, c, _⟩
      · rw [e4] at k
        rw [← e1]
        exact k W3 H3 v f0 hr3 r3
      · cases c
    · obtain ⟨n1, n2, n3⟩ := new_tup hr3 (xs := cutD xs l u) (Nat.le_trans (cutD_length _ _ _) z) (r4.cut l u) hq
      exact k _ _ _ (f0.trans n1) n2 n3
  · cases e3
    rename_i xs
    obtain ⟨q, vs, e1, s1, z, r4⟩ := RepS.lst hr3 r3
    refine .inl ⟨q, vs, e1, s1, fun q2 hq => ?_⟩
    obtain ⟨n1, n2, n3⟩ := new_lst hr3 (xs := cutD xs l u) (Nat.le_trans (cutD_length _ _ _) z) (r4.cut l u) hq
    exact k _ _ _ (f0.trans n1) n2 (upF _ _ _ _ _ _ _ _ f0 n3)

/-! ### operands in a row -/
inductive RepsS (G : GC) (W : Wd) (H : Hp) : List D → List V → Prop
  | nil : RepsS G W H [] []
  | cons {d : D} {v : V} {ds : List D} {vs : List V} : RepS G W H d v → RepsS G W H ds vs → RepsS G W H (d :: ds) (v :: vs)
def KO (G : GC) (W : Wd) (H : Hp) (Q : List V → Hp → Prop) : List D → IH → Prop := fun ds h' =>
  ∀ W' H' vs, Fr W H W' H' → Hr G W' h' H' → RepsS G W' H' ds vs → Q vs H'
def tOr (G : GC) (E : XK) (ev : Env → M (List D)) : TA := fun σ H Q =>
  ∃ (W : Wd) (h : IH) (env : Env) (H0 : Hp), Hr G W h H ∧ Er G W H0 H env σ ∧ (ev env h).post (KO G W H Q) (KX G E W H)
theorem pov_nil : PA X [] (tOr G E aNil) := pa_imp pa_nil fun σ H Q ⟨W, h, env, H0, hr, er, p⟩ => p W H [] (Fr.refl W H) hr .nil
theorem pov_cons {e : Expr} {es : List Expr} {f : Env → M D} {g : Env → M (List D)} (he : PE X e (tR G (rrO G) E f)) (hs : PA X es (tOr G E g)) (hn : ∀ a p, e ≠ .Starred a p) : PA X (e :: es) (tOr G E (aCons f g)) :=
  pa_imp (pa_cons he hs (starEach_cons hn)) fun σ H Q ⟨W, h, env, H0, hr, er, p⟩ => by
    refine ⟨W, h, env, H0, hr, er, (post_bnd.mp p).mono (fun x h1 p1 W1 H1 v f1 hr1 r1 => ?_) fun _ _ _ k => k⟩
    refine ⟨W1, h1, env, H0, hr1, er.step f1, (post_bnd.mp p1).mono (fun xs h2 p2 W2 H2 us f2 hr2 r2 => ?_) fun _ _ _ k => k.step f1⟩
    exact p2 W2 H2 (v :: us) (f1.trans f2) hr2 (.cons (RepS.step r1 f2) r2)

/-! ### built-ins of values -/
abbrev RC := List V → Hp → VK → Prop
def BltSem (G : GC) (RR : RRel) (r : RC) (op : List D → Option D) : Prop :=
  ∀ (W : Wd) (h : IH) (H : Hp) (xs : List D) (vs : List V) (d : D) (Q : VK), Hr G W h H → RepsS G W H xs vs → op xs = some d →
    (∀ W' H' z, Fr W H W' H' → Hr G W' h H' → RR W H W' H' d z → Q z H') → r vs H Q
def eBlt (op : List D → Option D) (g : Env → M (List D)) (env : Env) : M D := bnd (g env) fun xs => lft (op xs)
theorem blt_of {RR : RRel} (up : Up RR) {r : RC} {op : List D → Option D} (sem : BltSem G RR r op) {g : Env → M (List D)} {σ : St} {H : Hp} {Q : VK} (t : tR G RR E (eBlt op g) σ H Q) :
    tCB r (tOr G E g) σ H Q := by
  obtain ⟨W, h, env, H0, hr, er, p⟩ := t
  refine ⟨W, h, env, H0, hr, er, (post_bnd.mp p).mono (fun xs h1 p1 W1 H1 vs f1 hr1 r1 => ?_) fun _ _ _ k => k⟩
  obtain ⟨d, e, k⟩ := post_lft p1
  exact sem W1 h1 H1 xs vs d Q hr1 r1 e fun W' H' z f2 hr2 r2 => k W' H' z (f1.trans f2) hr2 (up _ _ _ _ _ _ _ _ f1 r2)
theorem noStar_any {es : List Expr} {env : PySem.Env} {pos : Pos} (h : ∀ e ∈ es, ∀ a p, e ≠ .Starred a p) : (backTo pos (starEach es env)).any (·.1) = false := by
  induction es with
  | nil => rfl
  | cons e es ih =>
    rw [starEach_cons fun a p => h e List.mem_cons_self a p]
    have := ih fun e he => h e (List.mem_cons_of_mem _ he)
    simpa [backTo] using this
theorem pev_bltB {RR : RRel} (up : Up RR) {id : String} {x : Str} {r : RC} {op : List D → Option D} {e : Expr} {es : List Expr} {g : Env → M (List D)} {p pos : Pos} (hc : CallR X (.builtin id) r) (sem : BltSem G RR r op) (hg : Gl X x) (hm : X.mg x = none)
    (hv : bootBuiltins x = some (.builtin id)) (ha : PA X (e :: es) (tOr G E g)) (hn : x ≠ "__name__") (hdb : (x == ("__debug__" : Str)) = false) (h : ∀ u ∈ e :: es, ∀ a p, u ≠ .Starred a p) :
    PE X (.Call (.Name x p) (e :: es) [] pos) (tR G RR E (eBlt op g)) :=
  pe_imp (pe_callB hc hg hm hv ha hn hdb (starEach_cons fun a p => h e List.mem_cons_self a p) (noStar_any fun u hu => h u (List.mem_cons_of_mem _ hu))) fun _ _ _ => blt_of up sem
theorem pev_bltT {RR : RRel} (up : Up RR) {T : String} {x : Str} {r : RC} {op : List D → Option D} {e : Expr} {es : List Expr} {g : Env → M (List D)} {p pos : Pos} (hc : CallR X (.type T) r) (sem : BltSem G RR r op) (hg : Gl X x) (hm : X.mg x = none)
    (hv : bootBuiltins x = some (.type T)) (ha : PA X (e :: es) (tOr G E g)) (hn : x ≠ "__name__") (hdb : (x == ("__debug__" : Str)) = false) (h : ∀ u ∈ e :: es, ∀ a p, u ≠ .Starred a p) :
    PE X (.Call (.Name x p) (e :: es) [] pos) (tR G RR E (eBlt op g)) :=
  pe_imp (pe_callTy hc hg hm hv ha hn hdb (starEach_cons fun a p => h e List.mem_cons_self a p) (noStar_any fun u hu => h u (List.mem_cons_of_mem _ hu))) fun _ _ _ => blt_of up sem
def bLen (xs : List D) : Option D := match xs with
  | [.tup ys] => some (.int ys.length)
  | [.lst ys] => some (.int ys.length)
  | [.str z] => some (.int z.length)
  | _ => none
def rLen (K : PySem.W.Frag) : RC := fun xs H Q => (∃ p ys, xs = [.ref p] ∧ (SqL K H p ys ∨ SqT K H p ys) ∧ Q (.int ys.length) H) ∨ ∃ z, xs = [.str z] ∧ z.length ≤ sizeLine ∧ Q (.int z.length) H
theorem cr_len : CallR X (.builtin "len") (rLen X.K) := call_len_seq.or call_len_str
theorem RepsS.one {W : Wd} {H : Hp} {d : D} {vs : List V} (r : RepsS G W H [d] vs) : ∃ v, vs = [v] ∧ RepS G W H d v := by
  cases r with
  | cons a b => cases b; exact ⟨_, rfl, a⟩
theorem RepsS.two {W : Wd} {H : Hp} {d e : D} {vs : List V} (r : RepsS G W H [d, e] vs) : ∃ v u, vs = [v, u] ∧ RepS G W H d v ∧ RepS G W H e u := by
  cases r with
  | cons a b =>
    obtain ⟨u, rfl, b1⟩ := b.one
    exact ⟨_, _, rfl, a, b1⟩
theorem blt_len : BltSem G (rrE G) (rLen G.K) bLen := by
  intro W h H xs vs d Q hr r e k
  unfold bLen at e
  split at e
  · cases e
    obtain ⟨v, rfl, r1⟩ := r.one
    obtain ⟨p, us, rfl, s, _, r2⟩ := RepS.tup hr r1
    exact .inl ⟨p, us, rfl, .inr s, by rw [← r2.length]; exact k W H _ (Fr.refl W H) hr (.int _)⟩
  · cases e
    obtain ⟨v, rfl, r1⟩ := r.one
    obtain ⟨p, us, rfl, s, _, r2⟩ := RepS.lst hr r1
    exact .inl ⟨p, us, rfl, .inl s, by rw [← r2.length]; exact k W H _ (Fr.refl W H) hr (.int _)⟩
  · cases e
    obtain ⟨v, rfl, r1⟩ := r.one
    obtain ⟨rfl, z⟩ := r1.str
    exact .inr ⟨_, rfl, by simpa [Str.length] using z, by simpa [Str.length] using k W H _ (Fr.refl W H) hr (.int _)⟩
  · cases e
def bInt (xs : List D) : Option D := match xs with
  | [.int i] => some (.int i)
  | [.bl b] => some (.int (if b then 1 else 0))
  | _ => none
theorem blt_int : BltSem G (rrE G) (fun xs H Q => (∃ i, xs = [.int i] ∧ Q (.int i) H) ∨ ∃ k, xs = [.bl k] ∧ Q (.int (if k then 1 else 0)) H) bInt := by
  intro W h H xs vs d Q hr r e k
  unfold bInt at e
  split at e
  · cases e
    obtain ⟨v, rfl, r1⟩ := r.one
    exact .inl ⟨_, by rw [r1.int], k W H _ (Fr.refl W H) hr (.int _)⟩
  · cases e
    obtain ⟨v, rfl, r1⟩ := r.one
    exact .inr ⟨_, by rw [r1.bl], k W H _ (Fr.refl W H) hr (.int _)⟩
  · cases e
def strI (i : Int) : List Nat := (Str.ofString (toString i)).cps.toList
def bStr (xs : List D) : Option D := match xs with
  | [.int i] => if i.natAbs.log2 < 1920 ∧ (strI i).length ≤ 16777216 then some (.str (strI i)) else none
  | _ => none
theorem blt_str : BltSem G (rrE G) (fun xs H Q => ∃ i : Int, xs = [.int i] ∧ i.natAbs.log2 < 1920 ∧ Q (.str (toString i)) H) bStr := by
  intro W h H xs vs d Q hr r e k
  unfold bStr at e
  split at e
  · split at e
    · rename_i i c
      cases e
      obtain ⟨v, rfl, r1⟩ := r.one
      refine ⟨_, by rw [r1.int], c.1, ?_⟩
      exact k W H _ (Fr.refl W H) hr (.str (strI i) (by rw [sizeLine_eq]; exact c.2))
    · cases e
  · cases e
def bList (xs : List D) : Option D := match xs with
  | [.tup ys] => some (.lst ys)
  | [.lst ys] => some (.lst ys)
  | _ => none
theorem blt_list : BltSem G (rrF G) (fun xs H Q => ∃ p ys, xs = [.ref p] ∧ (SqL G.K H p ys ∨ SqT G.K H p ys) ∧ ∀ l, H l = none → Q (.ref l) (upd H l (.lst ys))) bList := by
  intro W h H xs vs d Q hr r e k
  unfold bList at e
  split at e
  · cases e
    obtain ⟨v, rfl, r1⟩ := r.one
    obtain ⟨p, us, rfl, s, z, r2⟩ := RepS.tup hr r1
    refine ⟨p, us, rfl, .inr s, fun l hl => ?_⟩
    obtain ⟨n1, n2, n3⟩ := new_lst hr z r2 hl
    exact k _ _ _ n1 n2 n3
  · cases e
    obtain ⟨v, rfl, r1⟩ := r.one
    obtain ⟨p, us, rfl, s, z, r2⟩ := RepS.lst hr r1
    refine ⟨p, us, rfl, .inl s, fun l hl => ?_⟩
    obtain ⟨n1, n2, n3⟩ := new_lst hr z r2 hl
    exact k _ _ _ n1 n2 n3
  · cases e
def bTuple (xs : List D) : Option D := match xs with
  | [.tup ys] => some (.tup ys)
  | [.lst ys] => some (.tup ys)
  | _ => none
theorem blt_tuple : BltSem G (rrE G) (fun xs H Q => ∃ p ys, xs = [.ref p] ∧ ((SqL G.K H p ys ∧ ∀ l, H l = none → Q (.ref l) (upd H l (.tup ys))) ∨ (SqT G.K H p ys ∧ Q (.ref p) H))) bTuple := by
  intro W h H xs vs d Q hr r e k
  unfold bTuple at e
  split at e
  · cases e
    obtain ⟨v, rfl, r1⟩ := r.one
    obtain ⟨p, us, rfl, s, z, r2⟩ := RepS.tup hr r1
    refine ⟨p, us, rfl, .inr ⟨s, ?_⟩⟩
    rcases r1 with r1 | ⟨_, _, _, c, _⟩
    · exact k W H _ (Fr.refl W H) hr r1
    · cases c
  · cases e
    obtain ⟨v, rfl, r1⟩ := r.one
    obtain ⟨p, us, rfl, s, z, r2⟩ := RepS.lst hr r1
    refine ⟨p, us, rfl, .inl ⟨s, fun l hl => ?_⟩⟩
    obtain ⟨n1, n2, n3⟩ := new_tup hr z r2 hl
    exact k _ _ _ n1 n2 n3
  · cases e
def allB : List D → Option (List Bool)
  | [] => some []
  | .bl b :: r => (allB r).map (b :: ·)
  | _ :: _ => none
theorem allB_rep {W : Wd} : ∀ {ds : List D} {vs : List V} {bs : List Bool}, Reps G W ds vs → allB ds = some bs → vs = bs.map V.bl
  | _, _, bs, .nil, e => by simp only [allB, Option.some.injEq] at e; subst e; rfl
  | _, _, bs, .cons (d := d) r t, e => by
    cases d <;> simp only [allB, reduceCtorEq] at e
    obtain ⟨cs, e1, rfl⟩ := Option.map_eq_some_iff.mp e
    cases r
    rw [allB_rep t e1]
    rfl
def bAll (xs : List D) : Option D := match xs with
  | [.lst ys] => (allB ys).map fun bs => D.bl (bs.all id)
  | _ => none
def bAny (xs : List D) : Option D := match xs with
  | [.lst ys] => (allB ys).map fun bs => D.bl (bs.any id)
  | _ => none
theorem blt_all : BltSem G (rrE G) (rAll G.K) bAll := by
  intro W h H xs vs d Q hr r e k
  unfold bAll at e
  split at e
  · obtain ⟨bs, e1, rfl⟩ := Option.map_eq_some_iff.mp e
    obtain ⟨v, rfl, r1⟩ := r.one
    obtain ⟨p, us, rfl, s, z, r2⟩ := RepS.lst hr r1
    have e2 := allB_rep r2 e1
    subst e2
    exact ⟨p, bs, rfl, s, k W H _ (Fr.refl W H) hr (.bl _)⟩
  · cases e
theorem blt_any : BltSem G (rrE G) (rAny G.K) bAny := by
  intro W h H xs vs d Q hr r e k
  unfold bAny at e
  split at e
  · obtain ⟨bs, e1, rfl⟩ := Option.map_eq_some_iff.mp e
    obtain ⟨v, rfl, r1⟩ := r.one
    obtain ⟨p, us, rfl, s, z, r2⟩ := RepS.lst hr r1
    have e2 := allB_rep r2 e1
    subst e2
    exact ⟨p, bs, rfl, s, k W H _ (Fr.refl W H) hr (.bl _)⟩
  · cases e

/-! ### isinstance with a built-in class -/
inductive Ty where
  | int | bool | str | tuple | list
def Ty.nm : Ty → String
  | .int => "int" | .bool => "bool" | .str => "str" | .tuple => "tuple" | .list => "list"
def tyN (d : D) : Option String := match d with
  | .non => some "NoneType" | .bl _ => some "bool" | .int _ => some "int" | .str _ => some "str" | .tup _ => some "tuple" | .lst _ => some "list"
  | _ => none
def isiD (d : D) (t : Ty) : Option Bool := match d, t with
  | .non, _ => some false
  | .bl _, .bool => some true | .bl _, .int => some true | .bl _, _ => some false
  | .int _, .int => some true | .int _, _ => some false
  | .str _, .str => some true | .str _, _ => some false
  | .tup _, .tuple => some true | .tup _, _ => some false
  | .lst _, .list => some true | .lst _, _ => some false
  | _, _ => none
theorem tyX_of {W : Wd} {h : IH} {H : Hp} {d : D} {v : V} {n : String} (hr : Hr G W h H) (r : RepS G W H d v) (e : tyN d = some n) : TyX G.K H v (.type n) := by
  cases d <;> simp only [tyN, Option.some.injEq, reduceCtorEq] at e <;> subst e
  · rw [r.non]; exact .base .non
  · rw [r.bl]; exact .base (.bl _)
  · rw [r.int]; exact .base (.int _)
  · rw [r.str.1]; exact .base (.str _)
  · obtain ⟨p, vs, rfl, s, _⟩ := RepS.tup hr r
    rcases s with (s | ⟨o, s⟩) | ⟨o, its, n, h1, h2, _⟩
    · exact .base (.tup s)
    · exact .fTuple s
    · exact .kTuple h1 h2
  · obtain ⟨p, vs, rfl, s, _⟩ := RepS.lst hr r
    rcases s with (s | ⟨o, s⟩) | ⟨o, its, n, h1, h2, _⟩
    · exact .base (.lst s)
    · exact .base (.frz s)
    · exact .kList h1 h2
theorem kit_isi {d : D} {t : Ty} {n : String} {b : Bool} (e : tyN d = some n) (i : isiD d t = some b) : kitB n t.nm = some b := by
  cases d <;> simp only [tyN, Option.some.injEq, reduceCtorEq] at e <;> subst e <;> cases t <;> simp only [isiD, Option.some.injEq] at i <;> subst i <;> decide +kernel
def eIsi (t : Ty) (f : Env → M D) (env : Env) : M D := bnd (f env) fun x => lft ((isiD x t).map D.bl)
theorem pev_isi {t : Ty} {a : Expr} {f : Env → M D} {xT : Str} {p p2 pos : Pos} (hK : X.K = G.K) (hg : Gl X "isinstance") (hm : X.mg "isinstance" = none) (hgT : Gl X xT) (hmT : X.mg xT = none) (hvT : bootBuiltins xT = some (.type t.nm)) (hnT : xT ≠ "__name__") (hdT : (xT == ("__debug__" : Str)) = false)
    (ha : PE X a (tR G (rrO G) E f)) (hn : ∀ b q, a ≠ .Starred b q) : PE X (.Call (.Name "isinstance" p) [a, .Name xT p2] [] pos) (tR G (rrE G) E (eIsi t f)) := by
  have h2 : PE X (.Name xT p2) (tC (.ty t.nm)) := pe_bltn hgT hmT hvT rfl hnT hdT
  have hp : PA X [a, .Name xT p2] (tCons (tR G (rrO G) E f) (tCons (tC (.ty t.nm)) tNil)) := pa_cons ha (pa_cons h2 pa_nil rfl) (starEach_cons hn)
  refine pe_imp (pe_callB call_isi hg hm (by decide +kernel) hp (by decide +kernel) (by decide +kernel) (starEach_cons hn) rfl) fun σ H Q ⟨W, h, env, H0, hr, er, p⟩ => ?_
  refine ⟨W, h, env, H0, hr, er, (post_bnd.mp p).mono (fun x h1 p1 W1 H1 v f1 hr1 r1 => ?_) fun _ _ _ k => k⟩
  obtain ⟨d, e, k⟩ := post_lft p1
  obtain ⟨b, e1, rfl⟩ := Option.map_eq_some_iff.mp e
  have hty : ∃ n, tyN x = some n := by cases x <;> first | exact ⟨_, rfl⟩ | (cases t <;> cases e1)
  obtain ⟨n, hn'⟩ := hty
  exact ⟨v, .ty t.nm, .type n, .type t.nm, b, rfl, .ty _, by rw [hK]; exact tyX_of hr1 r1 hn', kit_ty (kit_isi hn' e1), k W1 H1 _ f1 hr1 (.bl b)⟩

/-! ### calls of defs -/
/-- what a def promises, by the pure function that it is -/
def spI (G : GC) (f : List D → M D) (n : Nat) : Sp := fun vs H Q E =>
  ∃ (W : Wd) (h : IH) (ds : List D), Hr G W h H ∧ Reps G W ds vs ∧ ds.length = n ∧ (f ds h).post (KQ G (rrE G) W H Q) (KX G E W H)
def eCall (f : List D → M D) (g : Env → M (List D)) (env : Env) : M D := bnd (g env) f
theorem pev_call {CX : CXT} {k n : Nat} {f : Addr} {fd : FuncData} {ps : List Str} {F : List D → M D} {x : Str} {e : Expr} {es : List Expr} {g : Env → M (List D)} {p pos : Pos}
    (hF : FnOk X.prog X.w X.K X.mg X.base CX k f fd ps (spI G F n)) (hr : Room k X.A) (hg : Gl X x) (hm : X.mg x = some (.ref f)) (hk : PySem.W.keepIn X.K (.ref f) = true) (hb : Binds X.K fd ps []) (hx : Passes CX X E)
    (ha : PA X (e :: es) (tAr G E g)) (hl : (e :: es).length = n) (hlen : ∀ env h ds h', g env h = .ok ds h' → ds.length = n) (hdb : (x == ("__debug__" : Str)) = false) (h : ∀ u ∈ e :: es, ∀ a p, u ≠ .Starred a p) :
    PE X (.Call (.Name x p) (e :: es) [] pos) (tR G (rrE G) E (eCall F g)) :=
  pe_imp (pe_call hF hr hg hm hk hb .nil hx ha hdb (starEach_cons fun a p => h e List.mem_cons_self a p) (noStar_any fun u hu => h u (List.mem_cons_of_mem _ hu))) fun σ H Q ⟨W, hh, env, H0, hr, er, p⟩ => by
    refine ⟨W, hh, env, H0, hr, er, ?_⟩
    have p' := post_bnd.mp p
    cases q : g env hh with
    | bad => rw [q] at p'; exact p'.elim
    | ex c fs h1 => rw [q] at p'; exact p'
    | ok ds h1 =>
      rw [q] at p'
      intro W1 H1 vs f1 hr1 r1
      rw [List.append_nil]
      exact ⟨W1, h1, ds, hr1, r1, hlen env hh ds h1 q, R.post.mono p' (fun d h2 k => k.step upE f1) fun _ _ _ k => k.step f1⟩
theorem pev_call0 {CX : CXT} {k : Nat} {f : Addr} {fd : FuncData} {ps : List Str} {F : List D → M D} {x : Str} {p pos : Pos}
    (hF : FnOk X.prog X.w X.K X.mg X.base CX k f fd ps (spI G F 0)) (hr : Room k X.A) (hg : Gl X x) (hm : X.mg x = some (.ref f)) (hk : PySem.W.keepIn X.K (.ref f) = true) (hb : Binds X.K fd ps []) (hx : Passes CX X E)
    (hdb : (x == ("__debug__" : Str)) = false) : PE X (.Call (.Name x p) [] [] pos) (tR G (rrE G) E (eCall F aNil)) :=
  pe_imp (pe_call0 hF hr hg hm hk hb .nil hx hdb) fun σ H Q ⟨W, hh, env, H0, hr, er, p⟩ => ⟨W, hh, [], hr, .nil, rfl, p⟩
end Iv

/-! Iv, part E: targets, what is walked, comprehensions. -/
namespace Iv
open PySem L2
variable {G : GC} {X : Cx} {H0 : Hp} {E : XK}

/-! ### targets -/
inductive Tg where
  | nm (i : Nat) | tp (is : List Nat)
def Tg.slots : Tg → List Nat
  | .nm i => [i]
  | .tp is => is
def bindNs : List Nat → List D → Env → Option Env
  | [], [], env => some env
  | i :: is, d :: ds, env => if i < env.length then bindNs is ds (env.set i (.val d)) else none
  | _, _, _ => none
def bindT (t : Tg) (d : D) (env : Env) : Option Env := match t with
  | .nm i => if i < env.length then some (env.set i (.val d)) else none
  | .tp is => match d with
    | .tup ds => bindNs is ds env
    | _ => none
theorem Er.set {W : Wd} {H : Hp} {env : Env} {σ : St} {i : Nat} {d : D} {v : V} (x : Er G W H0 H env σ) (r : Rep G W d v) : Er G W H0 H (env.set i (.val d)) (σ.set i (some v)) := by
  have look : ∀ (j : Nat) (s : Sl), (env.set i (.val d))[j]? = some s → (j = i ∧ s = .val d) ∨ (j ≠ i ∧ env[j]? = some s) := fun j s h => by
    by_cases e : j = i
    · subst e
      have hj : j < env.length := by have := (List.getElem?_eq_some_iff.mp h).1; simpa using this
      rw [List.getElem?_set_self hj] at h; cases h
      exact .inl ⟨rfl, rfl⟩
    · rw [List.getElem?_set_ne (Ne.symm e)] at h; exact .inr ⟨e, h⟩
  refine ⟨by simp [x.len], fun j s w h1 h2 => ?_, fun j k xs ys p h1 h2 h3 h4 => ?_⟩
  · rcases look j s h1 with ⟨rfl, rfl⟩ | ⟨ne, h1⟩
    · have hj : j < σ.length := by have := (List.getElem?_eq_some_iff.mp h2).1; simpa using this
      rw [List.getElem?_set_self hj] at h2; cases h2
      exact ⟨v, rfl, r⟩
    · rw [List.getElem?_set_ne (Ne.symm ne)] at h2
      exact x.at_ j s w h1 h2
  · rcases look j _ h1 with ⟨_, c⟩ | ⟨n1, h1⟩
    · cases c
    · rcases look k _ h2 with ⟨_, c⟩ | ⟨n2, h2⟩
      · cases c
      · rw [List.getElem?_set_ne (Ne.symm n1)] at h3
        rw [List.getElem?_set_ne (Ne.symm n2)] at h4
        exact x.dist j k xs ys p h1 h2 h3 h4
theorem wipe_set {σ : St} {i : Nat} {o : Option V} : ∀ {vs : List Nat}, i ∈ vs → wipe (σ.set i o) vs = wipe σ vs
  | v :: vs, h => by
    show (wipe (σ.set i o) vs).set v none = (wipe σ vs).set v none
    by_cases hm : i ∈ vs
    · rw [wipe_set hm]
    · have e : i = v := by rcases List.mem_cons.mp h with e | e; exact e; exact absurd e hm
      subst e
      have out : ∀ {us : List Nat}, i ∉ us → wipe (σ.set i o) us = (wipe σ us).set i o := fun {us} => by
        induction us with
        | nil => intro _; rfl
        | cons u us ih =>
          intro hn
          have h1 : i ≠ u := fun e => hn (by rw [e]; exact List.mem_cons_self)
          have h2 : i ∉ us := fun e => hn (List.mem_cons_of_mem _ e)
          show (wipe (σ.set i o) us).set u none = ((wipe σ us).set u none).set i o
          rw [ih h2, List.set_comm _ _ h1]
      rw [out hm, List.set_set]
def gTr (G : GC) (t : Tg) : TG := fun v σ H Q => ∃ (W : Wd) (h : IH) (env env' : Env) (d : D) (H0 : Hp), Hr G W h H ∧ Er G W H0 H env σ ∧ Rep G W d v ∧ bindT t d env = some env' ∧
  ∀ σ', Er G W H0 H env' σ' → (∀ vs : List Nat, (∀ i ∈ t.slots, i ∈ vs) → wipe σ' vs = wipe σ vs) → Q σ' H
theorem pg_imp {e : Expr} {t t' : TG} (h : PG X e t) (i : ∀ v σ H Q, t' v σ H Q → t v σ H Q) : PG X e t' := ⟨fun pins s σ H v u Q I r q => h.run pins s σ H v u Q I r (i v σ H Q q)⟩
theorem pgv_name {i : Nat} {x : Str} {pos : Pos} (hN : X.N.Nodup) (hi : X.N[i]? = some x) (hx : Loc X.env.scope x) (hf : X.fn x = true ∨ X.env.scope.names.lookup x = some .local) : PG X (.Name x pos) (gTr G (.nm i)) :=
  pg_imp (pg_name hN hi hx hf) fun v σ H Q ⟨W, h, env, env', d, H0, hr, er, r, hb, q⟩ => by
    simp only [bindT] at hb
    split at hb
    · cases hb
      refine q _ (er.set r) fun vs hm => wipe_set (hm i (by simp [Tg.slots]))
    · cases hb
/-- names in a row -/
inductive Nms (X : Cx) : List Expr → List Nat → Prop
  | nil : Nms X [] []
  | cons {i : Nat} {x : Str} {pos : Pos} {es : List Expr} {is : List Nat} : X.N[i]? = some x → Loc X.env.scope x → (X.fn x = true ∨ X.env.scope.names.lookup x = some .local) → Nms X es is → Nms X (.Name x pos :: es) (i :: is)
def gNms : List Nat → TGs
  | [] => gNil
  | i :: is => gCons (gName i) (gNms is)
theorem pgs_nms (hN : X.N.Nodup) : ∀ {es : List Expr} {is : List Nat}, Nms X es is → PGs X es (gNms is)
  | _, _, .nil => pgs_nil
  | _, _, .cons hi hx hf t => pgs_cons (pg_name hN hi hx hf) (pgs_nms hN t) rfl
theorem nms_len {env : PySem.Env} : ∀ {es : List Expr} {is : List Nat}, Nms X es is → (assignEach es env).length = is.length
  | _, _, .nil => rfl
  | _, _, .cons _ _ _ t => by
    show (assignEach _ env).length + 1 = _ + 1
    rw [nms_len t]
theorem nms_plain {env : PySem.Env} : ∀ {es : List Expr} {is : List Nat}, Nms X es is → (assignEach es env).findIdx? (·.1) = none
  | _, _, .nil => rfl
  | _, _, .cons (x := x) (pos := pos) (es := es) _ _ _ t => by
    show ((false, assign (.Name x pos) env) :: assignEach es env).findIdx? (·.1) = none
    rw [List.findIdx?_cons]
    simp [nms_plain t]
theorem gNms_ok {W : Wd} {H : Hp} : ∀ {is : List Nat} {ds : List D} {vs : List V} {env env' : Env} {σ : St} {Q : St → Hp → Prop}, Er G W H0 H env σ → Reps G W ds vs → bindNs is ds env = some env' →
    (∀ σ', Er G W H0 H env' σ' → (∀ us : List Nat, (∀ i ∈ is, i ∈ us) → wipe σ' us = wipe σ us) → Q σ' H) → gNms is vs σ H Q
  | [], [], vs, env, env', σ, Q, er, r, hb, q => by
    cases r
    simp only [bindNs, Option.some.injEq] at hb
    subst hb
    exact ⟨rfl, q σ er fun _ _ => rfl⟩
  | [], d :: ds, vs, env, env', σ, Q, er, r, hb, q => by simp [bindNs] at hb
  | i :: is, [], vs, env, env', σ, Q, er, r, hb, q => by simp [bindNs] at hb
  | i :: is, d :: ds, vs, env, env', σ, Q, er, r, hb, q => by
    cases r with
    | cons r t =>
      rename_i v us
      simp only [bindNs] at hb
      split at hb
      · refine ⟨v, us, rfl, gNms_ok (er.set r) t hb fun σ' er' hw => q σ' er' fun ws hm => ?_⟩
        rw [hw ws fun j hj => hm j (List.mem_cons_of_mem _ hj), wipe_set (hm i List.mem_cons_self)]
      · cases hb
theorem pgv_tup {es : List Expr} {is : List Nat} {k : Nat} {pos : Pos} (hK : X.K = G.K) (hc : X.calm = true) (hN : X.N.Nodup) (h : Nms X es is) : PG X (.Tuple es k pos) (gTr G (.tp is)) :=
  pg_imp (pg_tup hc (pgs_nms hN h) (nms_len h) (nms_plain h)) fun v σ H Q ⟨W, hh, env, env', d, H0, hr, er, r, hb, q⟩ => by
    cases d <;> simp only [bindT, reduceCtorEq] at hb
    rename_i ds
    obtain ⟨a, vs, rfl, s, z, r⟩ := RepS.tup hr (.inl r)
    have hl : ∀ {is : List Nat} {ds : List D} {env env' : Env}, bindNs is ds env = some env' → ds.length = is.length := fun {is} => by
      induction is with
      | nil =>
        intro ds env env' h
        cases ds with
        | nil => rfl
        | cons d ds => simp [bindNs] at h
      | cons i is ih =>
        intro ds env env' h
        cases ds with
        | nil => simp [bindNs] at h
        | cons d ds =>
          simp only [bindNs] at h
          split at h
          · rw [List.length_cons, List.length_cons, ih h]
          · cases h
    exact ⟨a, vs, rfl, by rw [hK]; exact s, by rw [← r.length]; exact hl hb, gNms_ok er r hb q⟩

/-! ### what is walked -/
structure Walks (G : GC) (W : Wd) (J : It) (ds : List D) : Prop where
  stop : ∀ W' h H, Le W W' → Hr G W' h H → J.stop ds.length H
  go : ∀ i W' h H, i < ds.length → Le W W' → Hr G W' h H → J.go i H
  yld : ∀ i W' h H x H' d, ds[i]? = some d → Le W W' → Hr G W' h H → J.yld i H x H' → ∃ W'', Fr W' H W'' H' ∧ Hr G W'' h H' ∧ Rep G W'' d x
def KI (G : GC) (W : Wd) (H : Hp) (R : It → Hp → Prop) : List D → IH → Prop := fun ds h' =>
  ∀ W' H' J, Fr W H W' H' → Hr G W' h' H' → ds.length ≤ sizeLine → Walks G W' J ds → R J H'
def tIr (G : GC) (E : XK) (ev : Env → M (List D)) : TI := fun σ H R =>
  ∃ (W : Wd) (h : IH) (env : Env) (H0 : Hp), Hr G W h H ∧ Er G W H0 H env σ ∧ (ev env h).post (KI G W H R) (KX G E W H)
theorem pi_imp {tg e : Expr} {t t' : TI} (h : PI X tg e t) (i : ∀ σ H R, t' σ H R → t σ H R) : PI X tg e t' := ⟨fun pins s σ H R I q => h.run pins s σ H R I (i σ H R q)⟩
theorem pi_seq0 {tg l : Expr} {tl : TE} (hl : PE X l tl) : PI X tg l (fun σ H R => tl σ H fun x H1 => (∃ a xs, x = .ref a ∧ SqL X.K H1 a xs ∧ R (Itl X.K a) H1) ∨ (∃ a xs, x = .ref a ∧ SqT X.K H1 a xs ∧ R (Itt X.K a) H1) ∨ ∃ z, x = .str z ∧ R (Its z) H1) := by
  refine ⟨fun pins s σ H R I h => ?_⟩
  refine thn (hl.run pins s σ H _ I h) fun v s1 ⟨x, H1, I1, r1, q1⟩ => ?_
  rcases q1 with ⟨a, xs, e, hq, q⟩ | ⟨a, xs, e, hq, q⟩ | ⟨z, e, q⟩
  · subst e
    cases r1
    obtain ⟨its, rv, p, hz⟩ := I1.list hq
    refine wpAny_pyIter_list p.isList ?_
    refine ⟨s1.heap.objs.size, [s1.heap.objs.size], _, _, H1, rfl, I1.kept (t' := s1.toks) fun b o e => Heap.get?_push_of_some _ e, turn_list a _, ⟨_, Heap.get?_push_size _ rfl, rfl, rfl⟩, fun b hb => ?_, q⟩
    have e : b = s1.heap.objs.size := by simpa using hb
    subst e
    exact I1.fpOk (Nat.le_refl _) (I1.hok.fresh (Nat.le_refl _))
  · subst e
    cases r1
    obtain ⟨its, rv, p, hz⟩ := I1.tuple hq
    refine wpAny_pyIter_tuple (show s1.heap.IsTuple a its.toArray from p) ?_
    refine ⟨s1.heap.objs.size, [s1.heap.objs.size], _, _, H1, rfl, I1.kept (t' := s1.toks) fun b o e => Heap.get?_push_of_some _ e, turn_tuple a _, ⟨_, Heap.get?_push_size _ rfl, rfl, rfl⟩, fun b hb => ?_, q⟩
    have e : b = s1.heap.objs.size := by simpa using hb
    subst e
    exact I1.fpOk (Nat.le_refl _) (I1.hok.fresh (Nat.le_refl _))
  · subst e
    obtain ⟨t, rfl⟩ := r1
    cases ha : z.cps.all (· < 128)
    · exact wpAny_pyIter_wide ha (pi_one (tk := s1.toks) I1 _ (turn_str _ z t "str_iterator" (.inr rfl)) ⟨_, Heap.get?_push_size _ rfl, rfl, rfl⟩ q)
    · exact wpAny_pyIter_ascii ha (pi_one (tk := s1.toks) I1 _ (turn_str _ z t "str_ascii_iterator" (.inl rfl)) ⟨_, Heap.get?_push_size _ rfl, rfl, rfl⟩ q)
def itemsD (d : D) : Option (List D) := match d with
  | .tup xs => some xs
  | .lst xs => some xs
  | .str z => some (z.map fun c => D.str [c])
  | _ => none
def iSeq (f : Env → M D) (env : Env) : M (List D) := bnd (f env) fun x => lft (itemsD x)
theorem walks_list {W : Wd} {a : Addr} {ds : List D} {vs : List V} (s : SqL G.K W.F a vs) (r : Reps G W ds vs) : Walks G W (Itl G.K a) ds := by
  have at_ : ∀ W' h H, Le W W' → Hr G W' h H → SqL G.K H a vs := fun W' h H l hr => sqL_le hr.sub (sqL_le l.f s)
  refine ⟨fun W' h H l hr => ⟨vs, at_ W' h H l hr, by rw [r.length]; exact Nat.le_refl _⟩, fun i W' h H hi l hr => ?_, fun i W' h H x H' d hd l hr y => ?_⟩
  · obtain ⟨v, e, _⟩ := r.get (List.getElem?_eq_getElem hi)
    exact ⟨vs, v, at_ W' h H l hr, e⟩
  · obtain ⟨e, y⟩ := y
    subst e
    obtain ⟨v, e, rv⟩ := r.get hd
    have e2 := y vs (at_ W' h _ l hr)
    rw [e] at e2; cases e2
    exact ⟨W', Fr.refl W' _, hr, rv.mono l⟩
theorem walks_tup {W : Wd} {a : Addr} {ds : List D} {vs : List V} (s : SqT G.K W.F a vs) (r : Reps G W ds vs) : Walks G W (Itt G.K a) ds := by
  have at_ : ∀ W' h H, Le W W' → Hr G W' h H → SqT G.K H a vs := fun W' h H l hr => sqT_le hr.sub (sqT_le l.f s)
  refine ⟨fun W' h H l hr => ⟨vs, at_ W' h H l hr, by rw [r.length]; exact Nat.le_refl _⟩, fun i W' h H hi l hr => ?_, fun i W' h H x H' d hd l hr y => ?_⟩
  · obtain ⟨v, e, _⟩ := r.get (List.getElem?_eq_getElem hi)
    exact ⟨vs, v, at_ W' h H l hr, e⟩
  · obtain ⟨e, y⟩ := y
    subst e
    obtain ⟨v, e, rv⟩ := r.get hd
    have e2 := y vs (at_ W' h _ l hr)
    rw [e] at e2; cases e2
    exact ⟨W', Fr.refl W' _, hr, rv.mono l⟩
theorem one_le : (1 : Nat) ≤ sizeLine := by rw [sizeLine_eq]; decide
theorem walks_str {W : Wd} {z : List Nat} : Walks G W (Its ⟨z.toArray⟩) (z.map fun c => D.str [c]) := by
  refine ⟨fun W' h H l hr => by show z.toArray.size ≤ _; simp, fun i W' h H hi l hr => by show i < z.toArray.size; simpa using hi, fun i W' h H x H' d hd l hr y => ?_⟩
  obtain ⟨e, c, e1, e2⟩ := y
  subst e e2
  rw [List.getElem?_map] at hd
  obtain ⟨c', e3, e4⟩ := Option.map_eq_some_iff.mp hd
  subst e4
  have e1 : z.toArray[i]? = some c := e1
  have e5 : z[i]? = some c := by simpa using e1
  rw [e3] at e5; cases e5
  exact ⟨W', Fr.refl W' _, hr, .str [_] one_le⟩
theorem pivv_seq {tg e : Expr} {f : Env → M D} (hK : X.K = G.K) (he : PE X e (tR G (rrE G) E f)) : PI X tg e (tIr G E (iSeq f)) := pi_imp (pi_seq0 he) fun σ H R ⟨W, h, env, H0, hr, er, p⟩ => by
  refine ⟨W, h, env, H0, hr, er, (post_bnd.mp p).mono (fun x h1 p1 W1 H1 v f1 hr1 r1 => ?_) fun _ _ _ k => k⟩
  obtain ⟨ds, e, k⟩ := post_lft p1
  cases x <;> simp only [itemsD, Option.some.injEq, reduceCtorEq] at e
  · subst e
    cases r1 with
    | str _ z => exact .inr (.inr ⟨_, rfl, k W1 H1 _ f1 hr1 (by simpa using z) walks_str⟩)
  · subst e
    cases r1 with
    | tup s z r => exact .inr (.inl ⟨_, _, rfl, by rw [hK]; exact sqT_le hr1.sub s, by rw [hK]; exact k W1 H1 _ f1 hr1 z (walks_tup s r)⟩)
  · subst e
    cases r1 with
    | lst s z r => exact .inl ⟨_, _, rfl, by rw [hK]; exact sqL_le hr1.sub s, by rw [hK]; exact k W1 H1 _ f1 hr1 z (walks_list s r)⟩

/-! ### ranges -/
def rng (lo c : Int) (n : Nat) : List D := (List.range n).map fun (m : Nat) => D.int (lo + (m : Int) * c)
def range1 (ds : List D) : Option (List D) := match ds with
  | [.int j] => if -(2 ^ 62) ≤ j ∧ j ≤ 16777216 then some (rng 0 1 j.toNat) else none
  | _ => none
def range2 (ds : List D) : Option (List D) := match ds with
  | [.int i, .int j] => if (-(2 ^ 62) ≤ i ∧ i < 2 ^ 62 ∧ -(2 ^ 62) ≤ j ∧ j < 2 ^ 62) ∧ (j - i).toNat ≤ 16777216 then some (rng i 1 (j - i).toNat) else none
  | _ => none
def range3 (ds : List D) : Option (List D) := match ds with
  | [.int i, .int j, .int c] => if (c ≠ 0 ∧ c.natAbs < 1073741824 ∧ Builtin.Range.small i j c = true) ∧ (0 ≤ Builtin.Range.rangeSize i j c ∧ Builtin.Range.rangeSize i j c ≤ 16777216) then some (rng i c (Builtin.Range.rangeSize i j c).toNat) else none
  | _ => none
def iArgs (op : List D → Option (List D)) (g : Env → M (List D)) (env : Env) : M (List D) := bnd (g env) fun ds => lft (op ds)
theorem walks_c {W : Wd} {lo c : Int} {n : Nat} : Walks G W (Itc lo c n) (rng lo c n) := by
  have hl : (rng lo c n).length = n := by simp [rng]
  refine ⟨fun W' h H l hr => by show n ≤ _; rw [hl]; exact Nat.le_refl _, fun i W' h H hi l hr => by show i < n; rw [hl] at hi; exact hi, fun i W' h H x H' d hd l hr y => ?_⟩
  obtain ⟨e, e2⟩ := y
  subst e e2
  have hi : i < n := by have := (List.getElem?_eq_some_iff.mp hd).1; rwa [hl] at this
  have e3 : (rng lo c n)[i]? = some (D.int (lo + (i : Nat) * c)) := by simp [rng, hi]
  rw [e3] at hd; cases hd
  exact ⟨W', Fr.refl W' _, hr, .int _⟩
theorem walks_r {W : Wd} {lo : Int} {n : Nat} : Walks G W (Itr lo n) (rng lo 1 n) := by
  have hl : (rng lo 1 n).length = n := by simp [rng]
  refine ⟨fun W' h H l hr => by show n ≤ _; rw [hl]; exact Nat.le_refl _, fun i W' h H hi l hr => by show i < n; rw [hl] at hi; exact hi, fun i W' h H x H' d hd l hr y => ?_⟩
  obtain ⟨e, e2⟩ := y
  subst e e2
  have hi : i < n := by have := (List.getElem?_eq_some_iff.mp hd).1; rwa [hl] at this
  have e3 : (rng lo 1 n)[i]? = some (D.int (lo + (i : Nat))) := by simp [rng, hi]
  rw [e3] at hd; cases hd
  exact ⟨W', Fr.refl W' _, hr, .int _⟩
theorem RepsS.three {W : Wd} {H : Hp} {d e f : D} {vs : List V} (r : RepsS G W H [d, e, f] vs) : ∃ v u w, vs = [v, u, w] ∧ RepS G W H d v ∧ RepS G W H e u ∧ RepS G W H f w := by
  cases r with
  | cons a b =>
    obtain ⟨u, w, rfl, b1, b2⟩ := b.two
    exact ⟨_, _, _, rfl, a, b1, b2⟩
theorem pivv_range1 {tg a : Expr} {p pos : Pos} {g : Env → M (List D)} (hg : Gl X "range") (hm : X.mg "range" = none) (ha : PA X [a] (tOr G E g)) (hn : ∀ b q, a ≠ .Starred b q) :
    PI X tg (.Call (.Name "range" p) [a] [] pos) (tIr G E (iArgs range1 g)) := pi_imp (pi_range1 hg hm ha (starEach_cons hn)) fun σ H R ⟨W, h, env, H0, hr, er, p⟩ => by
  refine ⟨W, h, env, H0, hr, er, (post_bnd.mp p).mono (fun xs h1 p1 W1 H1 vs f1 hr1 r1 => ?_) fun _ _ _ k => k⟩
  obtain ⟨ds, e, k⟩ := post_lft p1
  unfold range1 at e
  split at e
  · rename_i j
    split at e
    · rename_i c
      cases e
      obtain ⟨v, rfl, r2⟩ := r1.one
      refine ⟨j, by rw [r2.int], c.1, by omega, ?_⟩
      exact k W1 H1 _ f1 hr1 (by rw [sizeLine_eq]; simp [rng]; omega) walks_r
    · cases e
  · cases e
theorem pivv_range2 {tg a b : Expr} {p pos : Pos} {g : Env → M (List D)} (hg : Gl X "range") (hm : X.mg "range" = none) (ha : PA X [a, b] (tOr G E g)) (hn : ∀ c q, a ≠ .Starred c q) (hn2 : ∀ c q, b ≠ .Starred c q) :
    PI X tg (.Call (.Name "range" p) [a, b] [] pos) (tIr G E (iArgs range2 g)) := pi_imp (pi_range2 hg hm ha (by rw [starEach_cons hn, starEach_cons hn2]; rfl) (starEach_cons hn2)) fun σ H R ⟨W, h, env, H0, hr, er, p⟩ => by
  refine ⟨W, h, env, H0, hr, er, (post_bnd.mp p).mono (fun xs h1 p1 W1 H1 vs f1 hr1 r1 => ?_) fun _ _ _ k => k⟩
  obtain ⟨ds, e, k⟩ := post_lft p1
  unfold range2 at e
  split at e
  · rename_i i j
    split at e
    · rename_i c
      cases e
      obtain ⟨v, u, rfl, r2, r3⟩ := r1.two
      refine ⟨i, j, by rw [r2.int, r3.int], c.1, ?_⟩
      exact k W1 H1 _ f1 hr1 (by rw [sizeLine_eq]; simp [rng]; omega) walks_r
    · cases e
  · cases e
theorem pivv_range3 {tg a b c : Expr} {p pos : Pos} {g : Env → M (List D)} (hg : Gl X "range") (hm : X.mg "range" = none) (ha : PA X [a, b, c] (tOr G E g)) (hn : ∀ d q, a ≠ .Starred d q) (hn2 : ∀ d q, b ≠ .Starred d q) (hn3 : ∀ d q, c ≠ .Starred d q) :
    PI X tg (.Call (.Name "range" p) [a, b, c] [] pos) (tIr G E (iArgs range3 g)) := pi_imp (pi_range3 hg hm ha (starEach_cons hn) (noStar_any fun u hu => by
      rcases List.mem_cons.mp hu with e | hu
      · rw [e]; exact hn2
      · rcases List.mem_cons.mp hu with e | hu
        · rw [e]; exact hn3
        · cases hu)) fun σ H R ⟨W, h, env, H0, hr, er, p⟩ => by
  refine ⟨W, h, env, H0, hr, er, (post_bnd.mp p).mono (fun xs h1 p1 W1 H1 vs f1 hr1 r1 => ?_) fun _ _ _ k => k⟩
  obtain ⟨ds, e, k⟩ := post_lft p1
  unfold range3 at e
  split at e
  · rename_i i j c
    split at e
    · rename_i q
      cases e
      obtain ⟨v, u, w, rfl, r2, r3, r4⟩ := r1.three
      refine ⟨i, j, c, (Builtin.Range.rangeSize i j c).toNat, by rw [r2.int, r3.int, r4.int], ⟨q.1.1, q.1.2.1, q.1.2.2, by omega⟩, ?_⟩
      exact k W1 H1 _ f1 hr1 (by rw [sizeLine_eq]; simp [rng]; omega) walks_c
    · cases e
  · cases e

/-! ### zip, enumerate, reversed -/
def zipD (ds : List D) : Option (List D) := match ds with
  | [.lst xs, .lst ys] => some ((xs.zip ys).map fun p => D.tup [p.1, p.2])
  | [.tup xs, .tup ys] => some ((xs.zip ys).map fun p => D.tup [p.1, p.2])
  | _ => none
theorem zip_at {xs ys : List D} {i : Nat} {d : D} (h : ((xs.zip ys).map fun p => D.tup [p.1, p.2])[i]? = some d) : ∃ x y, xs[i]? = some x ∧ ys[i]? = some y ∧ d = .tup [x, y] := by
  rw [List.getElem?_map] at h
  obtain ⟨⟨x, y⟩, h1, h2⟩ := Option.map_eq_some_iff.mp h
  have := List.getElem?_zip_eq_some.mp h1
  exact ⟨x, y, this.1, this.2, h2.symm⟩
theorem two_le : (2 : Nat) ≤ sizeLine := by rw [sizeLine_eq]; decide
theorem new_pair {W : Wd} {h : IH} {H : Hp} {x y : D} {v u : V} {T : Addr} (hr : Hr G W h H) (r1 : Rep G W x v) (r2 : Rep G W y u) (hT : H T = none) :
    ∃ W'', Fr W H W'' (upd H T (.tup [v, u])) ∧ Hr G W'' h (upd H T (.tup [v, u])) ∧ Rep G W'' (.tup [x, y]) (.ref T) :=
  let ⟨n1, n2, n3⟩ := new_tup hr (xs := [x, y]) two_le (.cons r1 (.cons r2 .nil)) hT
  ⟨_, n1, n2, n3⟩
theorem walks_zip {W : Wd} {a b : Addr} {xs ys : List D} {vs us : List V} (s : SqL G.K W.F a vs) (s2 : SqL G.K W.F b us) (r : Reps G W xs vs) (r2 : Reps G W ys us) : Walks G W (Itz G.K a b) ((xs.zip ys).map fun p => D.tup [p.1, p.2]) := by
  have at1 : ∀ W' h H, Le W W' → Hr G W' h H → SqL G.K H a vs := fun W' h H l hr => sqL_le hr.sub (sqL_le l.f s)
  have at2 : ∀ W' h H, Le W W' → Hr G W' h H → SqL G.K H b us := fun W' h H l hr => sqL_le hr.sub (sqL_le l.f s2)
  refine ⟨fun W' h H l hr => ⟨vs, us, at1 W' h H l hr, at2 W' h H l hr, by rw [← r.length, ← r2.length]; simp; omega⟩, fun i W' h H hi l hr => ?_, fun i W' h H x H' d hd l hr y => ?_⟩
  · obtain ⟨x, y, e1, e2, _⟩ := zip_at (List.getElem?_eq_getElem hi)
    obtain ⟨v, q1, _⟩ := r.get e1
    obtain ⟨u, q2, _⟩ := r2.get e2
    exact ⟨vs, us, v, u, at1 W' h H l hr, at2 W' h H l hr, q1, q2⟩
  · obtain ⟨T, v, u, rfl, hT, rfl, y1, y2⟩ := y
    obtain ⟨x', y', e1, e2, rfl⟩ := zip_at hd
    obtain ⟨v', q1, p1⟩ := r.get e1
    obtain ⟨u', q2, p2⟩ := r2.get e2
    have z1 := y1 vs (at1 W' h _ l hr)
    have z2 := y2 us (at2 W' h _ l hr)
    rw [q1] at z1; rw [q2] at z2; cases z1; cases z2
    exact new_pair hr (p1.mono l) (p2.mono l) hT
theorem walks_zipT {W : Wd} {a b : Addr} {xs ys : List D} {vs us : List V} (s : SqT G.K W.F a vs) (s2 : SqT G.K W.F b us) (r : Reps G W xs vs) (r2 : Reps G W ys us) : Walks G W (RZ.ItzT G.K a b) ((xs.zip ys).map fun p => D.tup [p.1, p.2]) := by
  have at1 : ∀ W' h H, Le W W' → Hr G W' h H → SqT G.K H a vs := fun W' h H l hr => sqT_le hr.sub (sqT_le l.f s)
  have at2 : ∀ W' h H, Le W W' → Hr G W' h H → SqT G.K H b us := fun W' h H l hr => sqT_le hr.sub (sqT_le l.f s2)
  refine ⟨fun W' h H l hr => ⟨vs, us, at1 W' h H l hr, at2 W' h H l hr, by rw [← r.length, ← r2.length]; simp; omega⟩, fun i W' h H hi l hr => ?_, fun i W' h H x H' d hd l hr y => ?_⟩
  · obtain ⟨x, y, e1, e2, _⟩ := zip_at (List.getElem?_eq_getElem hi)
    obtain ⟨v, q1, _⟩ := r.get e1
    obtain ⟨u, q2, _⟩ := r2.get e2
    exact ⟨vs, us, v, u, at1 W' h H l hr, at2 W' h H l hr, q1, q2⟩
  · obtain ⟨T, v, u, rfl, hT, rfl, y1, y2⟩ := y
    obtain ⟨x', y', e1, e2, rfl⟩ := zip_at hd
    obtain ⟨v', q1, p1⟩ := r.get e1
    obtain ⟨u', q2, p2⟩ := r2.get e2
    have z1 := y1 vs (at1 W' h _ l hr)
    have z2 := y2 us (at2 W' h _ l hr)
    rw [q1] at z1; rw [q2] at z2; cases z1; cases z2
    exact new_pair hr (p1.mono l) (p2.mono l) hT
theorem Reps.two {W : Wd} {d e : D} {vs : List V} (r : Reps G W [d, e] vs) : ∃ v u, vs = [v, u] ∧ Rep G W d v ∧ Rep G W e u := by
  cases r with
  | cons a b => cases b with
    | cons b c => cases c; exact ⟨_, _, rfl, a, b⟩
theorem pivv_zip {e e2 : Expr} {p pos tpos : Pos} {elts : List Expr} {kk : Nat} {g : Env → M (List D)} (hK : X.K = G.K) (hg : Gl X "zip") (hm : X.mg "zip" = none) (ha : PA X [e, e2] (tAr G E g)) (hn : ∀ d q, e ≠ .Starred d q) (hn2 : ∀ d q, e2 ≠ .Starred d q) :
    PI X (.Tuple elts kk tpos) (.Call (.Name "zip" p) [e, e2] [] pos) (tIr G E (iArgs zipD g)) := pi_imp (RZ.pi_zipA hg hm ha (starEach_cons hn) (noStar_any fun u hu => by
      rcases List.mem_cons.mp hu with e | hu
      · rw [e]; exact hn2
      · cases hu)) fun σ H R ⟨W, h, env, H0, hr, er, p⟩ => by
  refine ⟨W, h, env, H0, hr, er, (post_bnd.mp p).mono (fun xs h1 p1 W1 H1 vs f1 hr1 r1 => ?_) fun _ _ _ k => k⟩
  obtain ⟨ds, e, k⟩ := post_lft p1
  unfold zipD at e
  split at e
  · cases e
    obtain ⟨v, u, rfl, r2, r3⟩ := r1.two
    cases r2 with
    | lst s z r =>
      cases r3 with
      | lst s2 z2 r' =>
        exact ⟨_, _, _, _, rfl, .inl ⟨by rw [hK]; exact sqL_le hr1.sub s, by rw [hK]; exact sqL_le hr1.sub s2, by rw [hK]; exact k W1 H1 _ f1 hr1 (by simp; omega) (walks_zip s s2 r r')⟩⟩
  · cases e
    obtain ⟨v, u, rfl, r2, r3⟩ := r1.two
    cases r2 with
    | tup s z r =>
      cases r3 with
      | tup s2 z2 r' =>
        exact ⟨_, _, _, _, rfl, .inr ⟨by rw [hK]; exact sqT_le hr1.sub s, by rw [hK]; exact sqT_le hr1.sub s2, by rw [hK]; exact k W1 H1 _ f1 hr1 (by simp; omega) (walks_zipT s s2 r r')⟩⟩
  · cases e
end Iv

/-! Iv, part F: comprehensions. -/
namespace Iv
open PySem L2
variable {G : GC} {X : Cx} {H0 : Hp} {E : XK}

abbrev EN : XK := fun _ _ _ => False
def noex {α : Type} (m : M α) : M α := fun h => match m h with
  | .ok a h' => .ok a h'
  | .ex _ _ _ => .bad
  | .bad => .bad
theorem post_noex {α : Type} {m : M α} {h : IH} {K : α → IH → Prop} {Y : Nat → List D → IH → Prop} {W : Wd} {H : Hp} (p : ((noex m) h).post K Y) : (m h).post K (KX G EN W H) := by
  unfold noex at p
  cases q : m h with
  | ok a h' => rw [q] at p; exact p
  | ex c fs h' => rw [q] at p; exact p.elim
  | bad => rw [q] at p; exact p.elim
def wipeE (env : Env) : List Nat → Env
  | [] => env
  | v :: vs => (wipeE env vs).set v .no
theorem Er.setNo {W : Wd} {H : Hp} {env : Env} {σ : St} {i : Nat} (x : Er G W H0 H env σ) : Er G W H0 H (env.set i .no) (σ.set i none) := by
  have look : ∀ (j : Nat) (s : Sl), (env.set i .no)[j]? = some s → (j = i ∧ s = .no) ∨ (j ≠ i ∧ env[j]? = some s) := fun j s h => by
    by_cases e : j = i
    · subst e
      have hj : j < env.length := by have := (List.getElem?_eq_some_iff.mp h).1; simpa using this
      rw [List.getElem?_set_self hj] at h; cases h
      exact .inl ⟨rfl, rfl⟩
    · rw [List.getElem?_set_ne (Ne.symm e)] at h; exact .inr ⟨e, h⟩
  refine ⟨by simp [x.len], fun j s w h1 h2 => ?_, fun j k xs ys p h1 h2 h3 h4 => ?_⟩
  · rcases look j s h1 with ⟨rfl, rfl⟩ | ⟨ne, h1⟩
    · trivial
    · rw [List.getElem?_set_ne (Ne.symm ne)] at h2
      exact x.at_ j s w h1 h2
  · rcases look j _ h1 with ⟨_, c⟩ | ⟨n1, h1⟩
    · cases c
    · rcases look k _ h2 with ⟨_, c⟩ | ⟨n2, h2⟩
      · cases c
      · rw [List.getElem?_set_ne (Ne.symm n1)] at h3
        rw [List.getElem?_set_ne (Ne.symm n2)] at h4
        exact x.dist j k xs ys p h1 h2 h3 h4
theorem Er.wipe {W : Wd} {H : Hp} {env : Env} {σ : St} (x : Er G W H0 H env σ) : ∀ vs : List Nat, Er G W H0 H (wipeE env vs) (L2.wipe σ vs)
  | [] => x
  | _ :: vs => (x.wipe vs).setNo

theorem wipe_sub {σ : St} {vs : List Nat} : ∀ {us : List Nat}, (∀ u ∈ us, u ∈ vs) → L2.wipe (L2.wipe σ us) vs = L2.wipe σ vs
  | [], _ => rfl
  | u :: us, h => by
    show L2.wipe ((L2.wipe σ us).set u none) vs = _
    rw [wipe_set (h u List.mem_cons_self)]
    exact wipe_sub fun w hw => h w (List.mem_cons_of_mem _ hw)
theorem wipe_wipe {σ : St} {vs : List Nat} : L2.wipe (L2.wipe σ vs) vs = L2.wipe σ vs := wipe_sub fun _ h => h
/-- the lists of our own stand apart from what is new -/
def only (A : Addr) (o : HO) : Hp := upd (fun _ => none) A o
theorem Er.avoid {W : Wd} {H : Hp} {env : Env} {σ : St} {A : Addr} {o : HO} (x : Er G W H0 H env σ) (hA : H A = none) : Er G W (only A o) H env σ := by
  refine ⟨x.len, fun i s v h1 h2 => ?_, x.dist⟩
  have q := x.at_ i s v h1 h2
  cases s with
  | no => trivial
  | val d => exact q
  | own xs =>
    obtain ⟨p, vs, e, h, n, nf, h0, z, r⟩ := q
    refine ⟨p, vs, e, h, n, nf, ?_, z, r⟩
    show upd (fun _ => none) A o p = none
    rw [upd_ne (ne_of_none h hA)]
theorem Er.upd {W : Wd} {H : Hp} {env : Env} {σ : St} {A : Addr} {o u : HO} (x : Er G W (only A o) H env σ) : Er G W (only A o) (L2.upd H A u) env σ := by
  refine ⟨x.len, fun i s v h1 h2 => ?_, x.dist⟩
  have q := x.at_ i s v h1 h2
  cases s with
  | no => trivial
  | val d => exact q
  | own xs =>
    obtain ⟨p, vs, e, h, n, nf, h0, z, r⟩ := q
    refine ⟨p, vs, e, ?_, n, nf, h0, z, r⟩
    have ne : p ≠ A := fun e => by
      have h0 : L2.upd (fun _ => none) A o p = none := h0
      rw [e, upd_same] at h0; cases h0
    rw [upd_ne ne]; exact h

/-- a list of one's own is changed -/
theorem Fr.own_upd {W W' : Wd} {H H' : Hp} {p : Addr} {o : HO} (x : Fr W H W' H') (hp : H p = none) : Fr W H W' (upd H' p o) := by
  refine ⟨x.f, x.r, fun a u h n => ?_, x.newF, fun a h => ?_⟩
  · rw [upd_ne (ne_of_none h hp)]; exact x.pres a u h n
  · by_cases e : a = p
    · exact e ▸ hp
    · rw [upd_ne e] at h; exact x.dom a h
theorem Hr.own_upd {W : Wd} {h : IH} {H : Hp} {p : Addr} {o : HO} (x : Hr G W h H) (n : p ∉ W.rho) (hf : W.F p = none) : Hr G W h (upd H p o) := by
  refine ⟨fun a u q => ?_, x.len, x.nd, fun i a c h1 h2 => CellR.step (Le.refl W) (fun u q => ?_) (x.cell i a c h1 h2), x.nf⟩
  · have e : a ≠ p := fun e => by rw [e, hf] at q; cases q
    rw [upd_ne e]; exact x.sub a u q
  · have e : a ≠ p := fun e => n (e ▸ List.mem_of_getElem? h1)
    rw [upd_ne e]; exact q

/-! ### one clause -/
def cLoop (t : Tg) (ft : Env → M Bool) (fe : Env → M D) (env : Env) : List D → List D → M (List D)
  | [], acc => ret acc
  | d :: ds, acc => match bindT t d env with
    | none => fun _ => .bad
    | some env1 => bnd (noex (ft env1)) fun b => if b = true then bnd (noex (fe env1)) fun y => cLoop t ft fe env ds (acc ++ [y]) else cLoop t ft fe env ds acc
def eComp (it : Env → M (List D)) (t : Tg) (ft : Env → M Bool) (fe : Env → M D) (own : List Nat) (env : Env) : M D :=
  bnd (it env) fun ds => bnd (cLoop t ft fe (wipeE env own) ds []) fun acc => ret (.lst acc)
theorem comp_of {it : Env → M (List D)} {t : Tg} {ft : Env → M Bool} {fe : Env → M D} {own : List Nat} (hs : ∀ i ∈ t.slots, i ∈ own) {σ : St} {H : Hp} {Q : VK} (tt : tR G (rrF G) E (eComp it t ft fe own) σ H Q) :
    tLc (tIr G E it) (gTr G t) (tTr G EN ft) (tR G (rrE G) EN fe) own σ H Q := by
  obtain ⟨W, h, env, H0, hr, er, p⟩ := tt
  refine ⟨W, h, env, H0, hr, er, (post_bnd.mp p).mono (fun ds h1 p1 W1 H1 J f1 hr1 hz wk => ?_) fun _ _ _ k => k⟩
  intro A hA
  have hA0 : H A = none := f1.dom _ hA
  let Iv : Nat → Hp → Prop := fun i H' => ∃ (W2 : Wd) (h2 : IH) (acc : List D) (vs : List V), Fr W1 H1 W2 H' ∧ Hr G W2 h2 H' ∧ H' A = some (.lst vs) ∧ A ∉ W2.rho ∧ W2.F A = none ∧ Reps G W2 acc vs ∧ acc.length ≤ i ∧ i ≤ ds.length ∧
    ((bnd (cLoop t ft fe (wipeE env own) (ds.drop i) acc) fun acc => ret (.lst acc)) h2).post (KQ G (rrF G) W H Q) (KX G E W H)
  refine ⟨fun i m H' => m = ds.length - i ∧ Iv i H', ⟨ds.length, rfl, W1, h1, [], [], fr_own hA, hr1.own hA, upd_same, hr1.notcell hA, hr1.fnone hA, .nil, Nat.le_refl _, Nat.zero_le _, p1⟩, ?_⟩
  rintro i m H' ⟨rfl, W2, h2, acc, vs, f2, hr2, hA2, nA, fA, rA, la, hi, q⟩
  by_cases hlt : i < ds.length
  · refine .inr ⟨wk.go i W2 h2 H' hlt f2.le hr2, Iv (i + 1), fun H'' iv => ⟨ds.length - (i + 1), by omega, rfl, iv⟩, fun x H'' y => ?_⟩
    have hd : ds[i]? = some ds[i] := List.getElem?_eq_getElem hlt
    obtain ⟨W3, f3, hr3, r3⟩ := wk.yld i W2 h2 H' x H'' _ hd f2.le hr2 y
    rw [List.drop_eq_getElem_cons hlt, cLoop] at q
    cases hb : bindT t ds[i] (wipeE env own) with
    | none => rw [hb] at q; exact q.elim
    | some env1 =>
      rw [hb] at q
      refine ⟨W3, h2, _, env1, _, H0, hr3, ((er.step (f1.trans f2)).step f3).wipe own, r3, hb, fun σ2 er2 hw => ⟨(hw own hs).trans wipe_wipe, ?_⟩⟩
      have q2 := post_bnd.mp (post_bnd.mp q)
      refine ⟨W3, h2, env1, H0, hr3, er2, R.post.mono (post_noex q2) (fun b h3 p3 W4 H4 f4 hr4 => ?_) fun _ _ _ k => k⟩
      have A3 := f3.pres A _ hA2 nA
      have n3 := f3.notin hA2 nA
      have F3 := f3.nof hA2 fA
      have A4 := f4.pres A _ A3 n3
      have n4 := f4.notin A3 n3
      have F4 := f4.nof A3 F3
      cases b with
      | false =>
        refine iteF ?_
        rw [if_neg Bool.false_ne_true] at p3
        exact ⟨W4, h3, acc, vs, f2.trans (f3.trans f4), hr4, A4, n4, F4, rA.mono (f3.trans f4).le, by omega, hlt, post_bnd.mpr p3⟩
      | true =>
        refine iteT ?_
        rw [if_pos rfl] at p3
        have p4 := post_bnd.mp p3
        refine ⟨W4, h3, env1, H0, hr4, er2.step f4, R.post.mono (post_noex p4) (fun d h4 p5 W5 H5 v f5 hr5 r5 => ?_) fun _ _ _ k => k⟩
        have A5 := f5.pres A _ A4 n4
        have n5 := f5.notin A4 n4
        have F5 := f5.nof A4 F4
        have f6 := f2.trans (f3.trans (f4.trans f5))
        refine ⟨vs, A5, by rw [← rA.length]; omega, W5, h4, acc ++ [d], vs ++ [v], f6.own_upd hA, hr5.own_upd n5 F5, upd_same, n5, F5, (rA.mono (f3.trans (f4.trans f5)).le).snoc r5, by rw [List.length_append]; simp; omega, hlt, post_bnd.mpr p5⟩
  · have e : i = ds.length := by omega
    subst e
    rw [List.drop_of_length_le (Nat.le_refl _)] at q
    exact .inl ⟨wk.stop W2 h2 H' f2.le hr2, q W2 H' _ (f1.trans f2) hr2 ⟨A, vs, rfl, hA2, nA, fA, hA0, by omega, rA⟩⟩
/-- the tests of a clause: none or one -/
def tsYes (_ : Env) : M Bool := ret true
theorem ptsv_nil : PTs X [] (tTr G E tsYes) := ⟨fun pins s σ H Q I ⟨W, h, env, H0, hr, er, p⟩ => pts_nil.run pins s σ H Q I (p W H (Fr.refl W H) hr)⟩
theorem ptsv_one {c : Expr} {f : Env → M D} (h : PT X c (tTr G E (toB f))) : PTs X [c] (tTr G E (toB f)) := pts_one h
section
variable {elt tg iter : Expr} {ifs : List Expr} {scope : Scope} {own : List (Str × Nat)} {pos : Pos} {it : Env → M (List D)} {t : Tg} {ft : Env → M Bool} {fe : Env → M D}
theorem folded_not {iter : Expr} {env : PySem.Env} (h : ∀ es k p, iter ≠ .Set es k p) (x : Value) : foldedSetIterable iter env x = pure x := by
  cases iter <;> first
    | rfl
    | exact absurd rfl (h _ _ _)
theorem pev_comp (hc : X.calm = true) (hN : X.N.Nodup) (hi : PI X tg iter (tIr G E it)) (ok : BlkOk X.N X.env.scope scope own) (hsl : ∀ i ∈ t.slots, i ∈ own.map (·.2))
    (hg : ∀ (s : Shared) (H : Hp) (C : Addr) (cl : List (Str × Addr)) (fp : List Addr), PG (X.blk s H scope (compEnvC scope cl C X.env) fp) tg (gTr G t))
    (ht : ∀ (s : Shared) (H : Hp) (C : Addr) (cl : List (Str × Addr)) (fp : List Addr), PTs (X.blk s H scope (compEnvC scope cl C X.env) fp) ifs (tTr G EN ft))
    (he : ∀ (s : Shared) (H : Hp) (C : Addr) (cl : List (Str × Addr)) (fp : List Addr), PE (X.blk s H scope (compEnvC scope cl C X.env) fp) elt (tR G (rrE G) EN fe)) (hs : ∀ es k p, iter ≠ .Set es k p) :
    PE X (.ListComp elt [⟨tg, iter, ifs, 0⟩] scope pos) (tR G (rrF G) E (eComp it t ft fe (own.map (·.2)))) :=
  pe_imp (pe_lc hc hN hi ok hg ht he (folded_not hs)) fun _ _ _ => comp_of hsl
end

/-! ### two clauses -/
def cIn (t : Tg) (ft : Env → M Bool) (fe : Env → M D) (env : Env) : List D → List D → M (List D)
  | [], acc => ret acc
  | d :: ds, acc => match bindT t d env with
    | none => fun _ => .bad
    | some env1 => bnd (noex (ft env1)) fun b => if b = true then bnd (noex (fe env1)) fun y => bnd (lft (fits (acc.length + 1))) fun _ => cIn t ft fe env ds (acc ++ [y]) else cIn t ft fe env ds acc
def cLoop2 (t1 : Tg) (ft1 : Env → M Bool) (it2 : Env → M (List D)) (t2 : Tg) (ft2 : Env → M Bool) (fe : Env → M D) (vs1 : List Nat) (env : Env) : List D → List D → M (List D)
  | [], acc => ret acc
  | d :: ds, acc => match bindT t1 d env with
    | none => fun _ => .bad
    | some env1 => bnd (noex (ft1 env1)) fun b => if b = true then bnd (noex (it2 env1)) fun es => bnd (cIn t2 ft2 fe (wipeE env1 vs1) es acc) fun acc' => cLoop2 t1 ft1 it2 t2 ft2 fe vs1 env ds acc'
        else cLoop2 t1 ft1 it2 t2 ft2 fe vs1 env ds acc
def eComp2 (it : Env → M (List D)) (t1 : Tg) (ft1 : Env → M Bool) (it2 : Env → M (List D)) (t2 : Tg) (ft2 : Env → M Bool) (fe : Env → M D) (own vs1 : List Nat) (env : Env) : M D :=
  bnd (it env) fun ds => bnd (cLoop2 t1 ft1 it2 t2 ft2 fe vs1 (wipeE env own) ds []) fun acc => ret (.lst acc)
theorem comp2_of {it it2 : Env → M (List D)} {t1 t2 : Tg} {ft1 ft2 : Env → M Bool} {fe : Env → M D} {own vs1 : List Nat} (hs : ∀ i ∈ t1.slots, i ∈ own) (hs2 : ∀ i ∈ t2.slots, i ∈ vs1) {σ : St} {H : Hp} {Q : VK}
    (tt : tR G (rrF G) E (eComp2 it t1 ft1 it2 t2 ft2 fe own vs1) σ H Q) :
    tLc2 (tIr G E it) (gTr G t1) (tTr G EN ft1) (tIr G EN it2) (gTr G t2) (tTr G EN ft2) (tR G (rrE G) EN fe) own vs1 σ H Q := by
  obtain ⟨W, h, env, H0, hr, er, p⟩ := tt
  refine ⟨W, h, env, H0, hr, er, (post_bnd.mp p).mono (fun ds h1 p1 W1 H1 J f1 hr1 hz wk => ?_) fun _ _ _ k => k⟩
  intro A hA
  have hA0 : H A = none := f1.dom _ hA
  -- what holds of the list that is made, and what is wanted with it
  let Ac : Wd → IH → List D → Hp → Prop := fun W2 h2 acc H' => ∃ vs : List V, Fr W1 H1 W2 H' ∧ Hr G W2 h2 H' ∧ H' A = some (.lst vs) ∧ A ∉ W2.rho ∧ W2.F A = none ∧ Reps G W2 acc vs ∧ acc.length ≤ sizeLine
  have step : ∀ {W2 W3 : Wd} {h2 h3 : IH} {acc : List D} {H' H'' : Hp}, Ac W2 h2 acc H' → Fr W2 H' W3 H'' → Hr G W3 h3 H'' → Ac W3 h3 acc H'' := fun {W2 W3 h2 h3 acc H' H''} ⟨vs, f2, _, a2, n2, F2, r2, z2⟩ f3 hr3 =>
    ⟨vs, f2.trans f3, hr3, f3.pres A _ a2 n2, f3.notin a2 n2, f3.nof a2 F2, r2.mono f3.le, z2⟩
  let Iv : Nat → Hp → Prop := fun i H' => ∃ (W2 : Wd) (h2 : IH) (acc : List D), Ac W2 h2 acc H' ∧ i ≤ ds.length ∧
    ((bnd (cLoop2 t1 ft1 it2 t2 ft2 fe vs1 (wipeE env own) (ds.drop i) acc) fun acc => ret (.lst acc)) h2).post (KQ G (rrF G) W H Q) (KX G E W H)
  refine ⟨fun i m H' => m = ds.length - i ∧ Iv i H', ⟨ds.length, rfl, W1, h1, [], ⟨[], fr_own hA, hr1.own hA, upd_same, hr1.notcell hA, hr1.fnone hA, .nil, Nat.zero_le _⟩, Nat.zero_le _, p1⟩, ?_⟩
  rintro i m H' ⟨rfl, W2, h2, acc, ac, hi, q⟩
  obtain ⟨vs, f2, hr2, hA2, nA, fA, rA, la⟩ := id ac
  by_cases hlt : i < ds.length
  · refine .inr ⟨wk.go i W2 h2 H' hlt f2.le hr2, Iv (i + 1), fun H'' iv => ⟨ds.length - (i + 1), by omega, rfl, iv⟩, fun x H'' y => ?_⟩
    have hd : ds[i]? = some ds[i] := List.getElem?_eq_getElem hlt
    obtain ⟨W3, f3, hr3, r3⟩ := wk.yld i W2 h2 H' x H'' _ hd f2.le hr2 y
    rw [List.drop_eq_getElem_cons hlt, cLoop2] at q
    cases hb : bindT t1 ds[i] (wipeE env own) with
    | none => rw [hb] at q; exact q.elim
    | some env1 =>
      rw [hb] at q
      refine ⟨W3, h2, _, env1, _, only A (.lst []), hr3, (((er.avoid hA0).step (f1.trans f2)).step f3).wipe own, r3, hb, fun σ2 er2 hw => ⟨(hw own hs).trans wipe_wipe, ?_⟩⟩
      have q2 := post_bnd.mp (post_bnd.mp q)
      refine ⟨W3, h2, env1, only A (.lst []), hr3, er2, R.post.mono (post_noex q2) (fun b h3 p3 W4 H4 f4 hr4 => ?_) fun _ _ _ k => k⟩
      have ac4 := step ac (f3.trans f4) hr4
      cases b with
      | false =>
        refine iteF ?_
        rw [if_neg Bool.false_ne_true] at p3
        exact ⟨W4, h3, acc, ac4, hlt, post_bnd.mpr p3⟩
      | true =>
        refine iteT ?_
        rw [if_pos rfl] at p3
        have p4 := post_bnd.mp p3
        refine ⟨W4, h3, env1, only A (.lst []), hr4, er2.step f4, R.post.mono (post_noex p4) (fun es h4 p5 W5 H5 J1 f5 hr5 hz1 wk1 => ?_) fun _ _ _ k => k⟩
        have ac5 := step ac4 f5 hr5
        exact ⟨fun j k H' => k = es.length - j ∧ ∃ (W6 : Wd) (h6 : IH) (acc : List D), Ac W6 h6 acc H' ∧ (Er G W6 (only A (.lst [])) H' env1 σ2 ∧ Le W5 W6) ∧ j ≤ es.length ∧
          ((bnd (cIn t2 ft2 fe (wipeE env1 vs1) (es.drop j) acc) fun acc' => cLoop2 t1 ft1 it2 t2 ft2 fe vs1 (wipeE env own) (ds.drop (i + 1)) acc') h6).post (fun acc h' => ((ret (D.lst acc)) h').post (KQ G (rrF G) W H Q) (KX G E W H)) (KX G E W H),
          ⟨es.length, rfl, W5, h4, acc, ac5, ⟨(er2.step f4).step f5, Le.refl W5⟩, Nat.zero_le _, p5⟩, by
          rintro j k H6 ⟨rfl, W6, h6, acc6, ac6, ⟨er6, l6⟩, hj, q6⟩
          obtain ⟨vs6, g1, g2, g3, g4, g5, g6, g7⟩ := id ac6
          by_cases hlj : j < es.length
          · refine .inr ⟨wk1.go j W6 h6 H6 hlj l6 g2, _, fun H'' iv => ⟨es.length - (j + 1), by omega, rfl, iv⟩, fun x H'' y => ?_⟩
            have hd : es[j]? = some es[j] := List.getElem?_eq_getElem hlj
            obtain ⟨W7, f7, hr7, r7⟩ := wk1.yld j W6 h6 H6 x H'' _ hd l6 g2 y
            rw [List.drop_eq_getElem_cons hlj, cIn] at q6
            cases hb2 : bindT t2 es[j] (wipeE env1 vs1) with
            | none => rw [hb2] at q6; exact q6.elim
            | some env2 =>
              rw [hb2] at q6
              have er7 : Er G W7 (only A (.lst [])) H'' env1 σ2 := er6.step f7
              refine ⟨W7, h6, _, env2, _, _, hr7, er7.wipe vs1, r7, hb2, fun σ3 er3 hw3 => ⟨(hw3 vs1 hs2).trans wipe_wipe, ?_⟩⟩
              have q7 := post_bnd.mp (post_bnd.mp q6)
              refine ⟨W7, h6, env2, _, hr7, er3, R.post.mono (post_noex q7) (fun b h8 p8 W8 H8 f8 hr8 => ?_) fun _ _ _ k => k⟩
              have ac8 := step ac6 (f7.trans f8) hr8
              cases b with
              | false =>
                refine iteF ?_
                rw [if_neg Bool.false_ne_true] at p8
                exact ⟨W8, h8, acc6, ac8, ⟨er7.step f8, (l6.trans f7.le).trans f8.le⟩, hlj, post_bnd.mpr p8⟩
              | true =>
                refine iteT ?_
                rw [if_pos rfl] at p8
                have p9 := post_bnd.mp p8
                refine ⟨W8, h8, env2, _, hr8, er3.step f8, R.post.mono (post_noex p9) (fun d h9 pA W9 H9 v f9 hr9 r9 => ?_) fun _ _ _ k => k⟩
                obtain ⟨vs9, k1, k2, k3, k4, k5, k6, k7⟩ := step ac8 f9 hr9
                obtain ⟨u, ef, pB⟩ := post_lft (post_bnd.mp pA)
                have hf := fits_le ef
                refine ⟨vs9, k3, by rw [← k6.length]; omega, W9, h9, acc6 ++ [d], ⟨vs9 ++ [v], k1.own_upd hA, k2.own_upd k4 k5, upd_same, k4, k5, k6.snoc r9, by rw [List.length_append]; simp; omega⟩, ⟨((er7.step f8).step f9).upd, (l6.trans f7.le).trans (f8.trans f9).le⟩, hlj, post_bnd.mpr pB⟩
          · have e : j = es.length := by omega
            subst e
            rw [List.drop_of_length_le (Nat.le_refl _)] at q6
            exact .inl ⟨wk1.stop W6 h6 H6 l6 g2, W6, h6, acc6, ac6, hlt, post_bnd.mpr q6⟩⟩
  · have e : i = ds.length := by omega
    subst e
    rw [List.drop_of_length_le (Nat.le_refl _)] at q
    exact .inl ⟨wk.stop W2 h2 H' f2.le hr2, q W2 H' _ (f1.trans f2) hr2 ⟨A, vs, rfl, hA2, nA, fA, hA0, la, rA⟩⟩
section
variable {elt tg iter tg1 iter1 : Expr} {ifs ifs1 : List Expr} {scope : Scope} {own : List (Str × Nat)} {vs1 : List Nat} {pos : Pos} {it it2 : Env → M (List D)} {t1 t2 : Tg} {ft1 ft2 : Env → M Bool} {fe : Env → M D}
theorem pev_comp2 (hc : X.calm = true) (hN : X.N.Nodup) (hi : PI X tg iter (tIr G E it)) (ok : BlkOk X.N X.env.scope scope own) (hv : ∀ i ∈ vs1, i ∈ own.map (·.2)) (hsl : ∀ i ∈ t1.slots, i ∈ own.map (·.2)) (hsl2 : ∀ i ∈ t2.slots, i ∈ vs1)
    (hg : ∀ (s : Shared) (H : Hp) (C : Addr) (cl : List (Str × Addr)) (fp : List Addr), PG (X.blk s H scope (compEnvC scope cl C X.env) fp) tg (gTr G t1))
    (ht : ∀ (s : Shared) (H : Hp) (C : Addr) (cl : List (Str × Addr)) (fp : List Addr), PTs (X.blk s H scope (compEnvC scope cl C X.env) fp) ifs (tTr G EN ft1))
    (hi1 : ∀ (s : Shared) (H : Hp) (C : Addr) (cl : List (Str × Addr)) (fp : List Addr), PI (X.blk s H scope (compEnvC scope cl C X.env) fp) tg1 iter1 (tIr G EN it2))
    (hg1 : ∀ (s : Shared) (H : Hp) (C : Addr) (cl : List (Str × Addr)) (fp : List Addr), PG (X.blk s H scope (compEnvC scope cl C X.env) fp) tg1 (gTr G t2))
    (ht1 : ∀ (s : Shared) (H : Hp) (C : Addr) (cl : List (Str × Addr)) (fp : List Addr), PTs (X.blk s H scope (compEnvC scope cl C X.env) fp) ifs1 (tTr G EN ft2))
    (he : ∀ (s : Shared) (H : Hp) (C : Addr) (cl : List (Str × Addr)) (fp : List Addr), PE (X.blk s H scope (compEnvC scope cl C X.env) fp) elt (tR G (rrE G) EN fe)) (hs : ∀ es k p, iter ≠ .Set es k p) (hs1 : ∀ es k p, iter1 ≠ .Set es k p) :
    PE X (.ListComp elt [⟨tg, iter, ifs, 0⟩, ⟨tg1, iter1, ifs1, 0⟩] scope pos) (tR G (rrF G) E (eComp2 it t1 ft1 it2 t2 ft2 fe (own.map (·.2)) vs1)) :=
  pe_imp (pe_lc2 hc hN hi ok hv hg ht hi1 hg1 ht1 he (folded_not hs) fun _ => folded_not hs1) fun _ _ _ => comp2_of hsl hsl2
end
end Iv

/-! Iv, part G: statements. -/
namespace Iv
open PySem L2
variable {G : GC} {X : Cx} {W0 : Wd} {H0 : Hp} {E : XK}

inductive Fl where
  | nx | bk | ct | rt (d : D)
abbrev RS := Fl × Env
def KF (G : GC) (D : Ends) (f : Fl) (σ : St) (W : Wd) (H : Hp) : Prop := match f with
  | .nx => D.nx σ H
  | .bk => D.bk σ H
  | .ct => D.ct σ H
  | .rt d => ∀ v, Rep G W d v → D.rt v H
def KS (G : GC) (W0 : Wd) (H0 : Hp) (W : Wd) (D : Ends) : RS → IH → Prop := fun r h' =>
  ∀ W' H' σ', Le W W' → Fr W0 H0 W' H' → Hr G W' h' H' → Er G W' H0 H' r.2 σ' → KF G D r.1 σ' W' H'
def tSr (G : GC) (W0 : Wd) (H0 : Hp) (E : XK) (ev : Env → M RS) : TS := fun D σ H =>
  ∃ (W : Wd) (h : IH) (env : Env), Hr G W h H ∧ Er G W H0 H env σ ∧ Fr W0 H0 W H ∧ (ev env h).post (KS G W0 H0 W D) (KX G E W0 H0)
theorem KS.step {D : Ends} {W W1 : Wd} {r : RS} {h : IH} (l : Le W W1) (k : KS G W0 H0 W D r h) : KS G W0 H0 W1 D r h := fun W' H' σ' l' => k W' H' σ' (l.trans l')

/-! ### a list of our own comes to a slot -/
theorem Er.setOwn {W W' : Wd} {H H' : Hp} {env : Env} {σ : St} {i : Nat} {xs : List D} {vs : List V} {p : Addr} (x : Er G W H0 H env σ) (f : Fr W H W' H') (hp : H p = none) (h0 : H0 p = none)
    (h1 : H' p = some (.lst vs)) (n : p ∉ W'.rho) (nf : W'.F p = none) (z : xs.length ≤ sizeLine) (r : Reps G W' xs vs) : Er G W' H0 H' (env.set i (.own xs)) (σ.set i (some (.ref p))) := by
  have y := x.step f
  have look : ∀ (j : Nat) (s : Sl), (env.set i (.own xs))[j]? = some s → (j = i ∧ s = .own xs) ∨ (j ≠ i ∧ env[j]? = some s) := fun j s h => by
    by_cases e : j = i
    · subst e
      have hj : j < env.length := by have := (List.getElem?_eq_some_iff.mp h).1; simpa using this
      rw [List.getElem?_set_self hj] at h; cases h
      exact .inl ⟨rfl, rfl⟩
    · rw [List.getElem?_set_ne (Ne.symm e)] at h; exact .inr ⟨e, h⟩
  have apart : ∀ (j : Nat) (ys : List D), env[j]? = some (.own ys) → σ[j]? ≠ some (some (.ref p)) := fun j ys h1 h2 => by
    obtain ⟨q, us, e, hq, _⟩ := x.at_ j _ _ h1 h2
    cases e
    rw [hp] at hq; cases hq
  refine ⟨by simp [x.len], fun j s w h1 h2 => ?_, fun j k ys zs q h1 h2 h3 h4 => ?_⟩
  · rcases look j s h1 with ⟨rfl, rfl⟩ | ⟨ne, h1⟩
    · have hj : j < σ.length := by have := (List.getElem?_eq_some_iff.mp h2).1; simpa using this
      rw [List.getElem?_set_self hj] at h2; cases h2
      exact ⟨p, vs, rfl, by assumption, n, nf, h0, z, r⟩
    · rw [List.getElem?_set_ne (Ne.symm ne)] at h2
      exact y.at_ j s w h1 h2
  · rcases look j _ h1 with ⟨ej, c⟩ | ⟨n1, h1'⟩
    · rcases look k _ h2 with ⟨ek, _⟩ | ⟨n2, h2'⟩
      · rw [ej, ek]
      · subst ej
        have hj : j < σ.length := by have := (List.getElem?_eq_some_iff.mp h3).1; simpa using this
        rw [List.getElem?_set_self hj] at h3; cases h3
        rw [List.getElem?_set_ne (Ne.symm n2)] at h4
        exact absurd h4 (apart k _ h2')
    · rw [List.getElem?_set_ne (Ne.symm n1)] at h3
      rcases look k _ h2 with ⟨ek, c⟩ | ⟨n2, h2⟩
      · subst ek
        have hk : k < σ.length := by have := (List.getElem?_eq_some_iff.mp h4).1; simpa using this
        rw [List.getElem?_set_self hk] at h4; cases h4
        exact absurd h3 (apart j _ h1')
      · rw [List.getElem?_set_ne (Ne.symm n2)] at h4
        exact y.dist j k ys zs q h1' h2 h3 h4

/-! ### name = value -/
def sSet (i : Nat) (f : Env → M D) (env : Env) : M RS := bnd (f env) fun d => ret (.nx, env.set i (.val d))
def sOwn (i : Nat) (f : Env → M D) (env : Env) : M RS := bnd (f env) fun d => match d with
  | .lst xs => ret (.nx, env.set i (.own xs))
  | _ => fun _ => .bad
theorem psv_set {i : Nat} {st : Stmt} {f : Env → M D} (h : PS X st (tAsg (tR G (rrE G) E f) (gName i))) : PS X st (tSr G W0 H0 E (sSet i f)) := ps_imp h fun D σ H ⟨W, h, env, hr, er, fr, p⟩ => by
  refine ⟨W, h, env, H0, hr, er, (post_bnd.mp p).mono (fun d h1 p1 W1 H1 v f1 hr1 r1 => ?_) fun _ _ _ k => k.step fr⟩
  exact p1 W1 H1 _ f1.le (fr.trans f1) hr1 ((er.step f1).set r1)
theorem psv_own {i : Nat} {st : Stmt} {f : Env → M D} (h : PS X st (tAsg (tR G (rrF G) E f) (gName i))) : PS X st (tSr G W0 H0 E (sOwn i f)) := ps_imp h fun D σ H ⟨W, h, env, hr, er, fr, p⟩ => by
  refine ⟨W, h, env, H0, hr, er, (post_bnd.mp p).mono (fun d h1 p1 W1 H1 v f1 hr1 r1 => ?_) fun _ _ _ k => k.step fr⟩
  cases d with
  | lst xs =>
    obtain ⟨q, vs, rfl, a1, a2, a3, a4, a5, a6⟩ := r1
    exact p1 W1 H1 _ f1.le (fr.trans f1) hr1 (er.setOwn f1 a4 (fr.dom _ a4) a1 a2 a3 a5 a6)
  | _ => exact p1.elim
def isComp : Expr → Bool
  | .ListComp .. => true | .SetComp .. => true | .DictComp .. => true
  | _ => false
theorem swaps_no {e : Expr} (h : isComp e = false) (t : Option Expr) (l : Nat) (env : PySem.Env) : swapsWith e t l env = pure false := by
  cases e <;> first
    | rfl
    | exact absurd h (by simp [isComp])
theorem asg_name {i : Nat} {x : Str} {e : Expr} {te : TE} {py pos : Pos} (hN : X.N.Nodup) (hi : X.N[i]? = some x) (hx : Loc X.env.scope x) (hf : X.fn x = true ∨ X.env.scope.names.lookup x = some .local) (he : PE X e te) (hc : isComp e = false) :
    PS X (.Assign [.Name x py] e pos) (tAsg te (gName i)) := ps_set hN hi hx he (swaps_no hc _ _ _) hf

/-! ### target = value, other targets -/
def sTg (t : Tg) (f : Env → M D) (env : Env) : M RS := bnd (f env) fun d => bnd (lft (bindT t d env)) fun env' => ret (.nx, env')
def isTup : Expr → Bool
  | .Tuple .. => true
  | _ => false
theorem swapped_no {e : Expr} {es : List Expr} {k : Nat} {tp : Pos} (h : isTup e = false) (env : PySem.Env) : swappedStores [.Tuple es k tp] e env = pure none := by
  unfold swappedStores
  cases e <;> first
    | rfl
    | exact Bool.noConfusion (show true = false from h)
theorem swaps_other {e t : Expr} (h : ∀ x p, t ≠ .Name x p) (l : Nat) (env : PySem.Env) : swapsWithSole [t] e l env = pure false := by
  show swapsWith e (some t) l env = pure false
  cases e <;> first
    | rfl
    | (cases t <;> first
        | rfl
        | exact absurd rfl (h _ _))
theorem swapped_other {e t : Expr} (h : ∀ es k p, t ≠ .Tuple es k p) (h2 : ∀ es p, t ≠ .List es p) (env : PySem.Env) : swappedStores [t] e env = pure none := by
  unfold swappedStores
  cases t <;> first
    | rfl
    | exact absurd rfl (h _ _ _)
    | exact absurd rfl (h2 _ _)
theorem psv_tg {e : Expr} {es : List Expr} {k : Nat} {tp pos : Pos} {t : Tg} {f : Env → M D} (he : PE X e (tR G (rrE G) E f)) (hg : PG X (.Tuple es k tp) (gTr G t)) (hc : isTup e = false) :
    PS X (.Assign [.Tuple es k tp] e pos) (tSr G W0 H0 E (sTg t f)) := ps_imp (ps_asg he hg (swaps_other (fun _ _ h => by cases h) _ _) (swapped_no hc _) rfl) fun D σ H ⟨W, h, env, hr, er, fr, p⟩ => by
  refine ⟨W, h, env, H0, hr, er, (post_bnd.mp p).mono (fun d h1 p1 W1 H1 v f1 hr1 r1 => ?_) fun _ _ _ k => k.step fr⟩
  obtain ⟨env', e1, k⟩ := post_lft (post_bnd.mp p1)
  exact ⟨W1, h1, env, env', d, H0, hr1, er.step f1, r1, e1, fun σ' er' _ => k W1 H1 σ' f1.le (fr.trans f1) hr1 er'⟩
/-- o[i] = value, o a cell -/
def setCell (h : IH) (o i v : D) : Option IH := match o, i with
  | .ref r, .int k => match h[r]? with
    | some (.lst xs) => (ixN xs.length k).map fun j => h.set r (.lst (xs.set j v))
    | none => none
  | _, _ => none
def sIx (fo fi f : Env → M D) (env : Env) : M RS := bnd (f env) fun v => bnd (fo env) fun o => bnd (fi env) fun i => fun h => match setCell h o i v with
  | some h' => .ok (.nx, env) h'
  | none => .bad
theorem Hr.setCell {W : Wd} {h : IH} {H : Hp} {r : Nat} {a : Addr} {c : Cell} {o : HO} (x : Hr G W h H) (ea : W.rho[r]? = some a) (hc : CellR G W (upd H a o) a c) : Hr G W (h.set r c) (upd H a o) := by
  refine ⟨fun b u q => ?_, by simp [x.len], x.nd, fun i b c' h1 h2 => ?_, x.nf⟩
  · have e : b ≠ a := fun e => by
      rw [e, x.nf a (List.mem_of_getElem? ea)] at q; cases q
    rw [upd_ne e]; exact x.sub b u q
  · by_cases e : i = r
    · subst e
      rw [ea] at h1; cases h1
      have hi : i < h.length := by have := (List.getElem?_eq_some_iff.mp h2).1; simpa using this
      rw [List.getElem?_set_self hi] at h2; cases h2
      exact hc
    · rw [List.getElem?_set_ne (Ne.symm e)] at h2
      refine CellR.step (Le.refl W) (fun u q => ?_) (x.cell i b c' h1 h2)
      have ne : b ≠ a := fun z => e (by
        subst z
        have hi := (List.getElem?_eq_some_iff.mp h1).1
        exact (List.getElem?_inj hi x.nd).mp (h1.trans ea.symm))
      rw [upd_ne ne]; exact q
theorem Fr.cell {W : Wd} {h : IH} {H : Hp} {r : Nat} {a : Addr} {o : HO} (x : Hr G W h H) (ea : W.rho[r]? = some a) : Fr W H W (upd H a o) := by
  have hm := List.mem_of_getElem? ea
  refine ⟨fun _ _ h => h, ⟨[], by simp⟩, fun b u q n => ?_, fun b u q => .inl q, fun b q => ?_⟩
  · rw [upd_ne (fun e : b = a => n (by rw [e]; exact hm))]; exact q
  · by_cases e : b = a
    · subst e; rw [upd_same] at q; cases q
    · rw [upd_ne e] at q; exact q
theorem isSlice_no {i : Expr} {o : Expr} {pos : Pos} (h : ∀ a b c p, i ≠ .Slice a b c p) : ∀ v, assign (.Subscript o i pos) X.env v = (do
      let ov ← holding [v] (eval o X.env)
      let iv ← holding [v, ov] (eval i X.env)
      standAt pos
      holding [v, ov, iv] (setItem ov iv v)
      release [v, ov, iv] []) := by
  intro v
  cases i <;> first
    | rfl
    | exact absurd rfl (h _ _ _ _)
theorem psv_ix {e o i : Expr} {tp pos : Pos} {f fo fi : Env → M D} (he : PE X e (tR G (rrE G) E f)) (ho : PE X o (tR G (rrE G) E fo)) (hi : PE X i (tR G (rrE G) E fi)) (hs : ∀ a b c p, i ≠ .Slice a b c p) :
    PS X (.Assign [.Subscript o i tp] e pos) (tSr G W0 H0 E (sIx fo fi f)) := ps_imp (ps_asg he (pg_sub ho hi set_list (isSlice_no hs)) (swaps_other (fun _ _ h => by cases h) _ _) (swapped_other (fun _ _ _ h => by cases h) (fun _ _ h => by cases h) _) rfl) fun D σ H ⟨W, h, env, hr, er, fr, p⟩ => by
  refine ⟨W, h, env, H0, hr, er, (post_bnd.mp p).mono (fun d h1 p1 W1 H1 v f1 hr1 r1 => ?_) fun _ _ _ k => k.step fr⟩
  refine ⟨W1, h1, env, H0, hr1, er.step f1, (post_bnd.mp p1).mono (fun d2 h2 p2 W2 H2 v2 f2 hr2 r2 => ?_) fun _ _ _ k => k.step (fr.trans f1)⟩
  refine ⟨W2, h2, env, H0, hr2, (er.step f1).step f2, (post_bnd.mp p2).mono (fun d3 h3 p3 W3 H3 v3 f3 hr3 r3 => ?_) fun _ _ _ k => k.step (fr.trans (f1.trans f2))⟩
  cases q : setCell h3 d2 d3 d with
  | none => simp only [q] at p3; exact p3.elim
  | some h4 =>
    simp only [q] at p3
    unfold setCell at q
    split at q
    · rename_i r k
      split at q
      · rename_i xs hx
        obtain ⟨j, e1, e2⟩ := Option.map_eq_some_iff.mp q
        subst e2
        cases r2 with
        | ref ea =>
          rename_i a
          cases r3
          have ea := f3.le.at ea
          obtain ⟨vs, c1, c2, c3⟩ := hr3.cell _ a _ ea hx
          refine ⟨a, vs, k, j, rfl, rfl, c1, by rw [← c2.length]; exact e1, ?_⟩
          have rv : Rep G W3 d v := Rep.mono (f2.trans f3).le r1
          have hr4 : Hr G W3 (h3.set r (.lst (xs.set j d))) (upd H3 a (.lst (vs.set j v))) := hr3.setCell ea ⟨_, upd_same, Reps.set rv j c2, by rw [List.length_set]; exact c3⟩
          have f4 : Fr W3 H3 W3 (upd H3 a (.lst (vs.set j v))) := Fr.cell hr3 ea
          exact p3 W3 _ σ (f1.trans (f2.trans f3)).le (fr.trans (f1.trans (f2.trans (f3.trans f4)))) hr4 ((((er.step f1).step f2).step f3).step f4)
      · cases q
    · cases q

/-! ### name += value -/
def sAug (op : IH → D → D → Option D) (i : Nat) (f : Env → M D) (env : Env) : M RS := match env[i]? with
  | some (.val x) => bnd (f env) fun y => bnd (liftH op x y) fun z => ret (.nx, env.set i (.val z))
  | _ => fun _ => .bad
def opAddI := opII fun i j => some (i + j)
def opSubI := opII fun i j => some (i - j)
def IpSem (G : GC) (r : TIp) (op : IH → D → D → Option D) : Prop := OpSem G (rrE G) r op
theorem sem_ipI {f : Int → Int → Int} : OpSem G (rrE G) (ipI f) (opII fun i j => some (f i j)) := by
  intro W h H x y v u d Q hr rx ry e k
  obtain ⟨i, j, z, rfl, rfl, e1, rfl⟩ := opII_some e
  cases e1
  exact ⟨i, j, rx.int, ry.int, k W H _ (Fr.refl W H) hr (.int _)⟩
theorem psv_aug {i : Nat} {x : Str} {e : Expr} {op : Operator} {r : TIp} {g : IH → D → D → Option D} {f : Env → M D} {py pos : Pos} (hN : X.N.Nodup) (hi : X.N[i]? = some x) (hx : Loc X.env.scope x) (hf : X.fn x = true ∨ X.env.scope.names.lookup x = some .local)
    (he : PE X e (tR G (rrO G) E f)) (ho : PIp X op r) (sem : OpSem G (rrE G) r g) : PS X (.AugAssign (.Name x py) op e pos) (tSr G W0 H0 E (sAug g i f)) := ps_imp (ps_aug hN hi hx he ho hf) fun D σ H ⟨W, h, env, hr, er, fr, p⟩ => by
  unfold sAug at p
  cases e1 : env[i]? with
  | none => rw [e1] at p; exact p.elim
  | some s =>
    rw [e1] at p
    cases s with
    | no => exact p.elim
    | own xs => exact p.elim
    | val x =>
      obtain ⟨v, q1, r1⟩ := er.val e1
      refine ⟨v, q1, W, h, env, H0, hr, er, (post_bnd.mp p).mono (fun y h1 p1 W1 H1 u f1 hr1 r2 => ?_) fun _ _ _ k => k.step fr⟩
      obtain ⟨z, e2, k⟩ := post_lft (post_bnd.mp p1)
      exact sem W1 h1 H1 x y v u z _ hr1 (.inl (r1.mono f1.le)) r2 e2 fun W2 H2 w f2 hr2 r3 => k W2 H2 _ (f1.trans f2).le (fr.trans (f1.trans f2)) hr2 (((er.step f1).step f2).set r3)

/-! ### xs.append(value), xs a list of our own -/
def sApp (i : Nat) (f : Env → M D) (env : Env) : M RS := match env[i]? with
  | some (.own xs) => bnd (f env) fun d => bnd (lft (fits (xs.length + 1))) fun _ => ret (.nx, env.set i (.own (xs ++ [d])))
  | _ => fun _ => .bad
/-- a list of our own that stands in a slot is changed -/
theorem Er.updOwn {W : Wd} {H : Hp} {env : Env} {σ : St} {i : Nat} {xs ys : List D} {us : List V} {p : Addr} (x : Er G W H0 H env σ) (e : env[i]? = some (.own xs)) (eσ : σ[i]? = some (some (.ref p))) (z : ys.length ≤ sizeLine) (r : Reps G W ys us) :
    Er G W H0 (L2.upd H p (.lst us)) (env.set i (.own ys)) σ := by
  have look : ∀ (j : Nat) (s : Sl), (env.set i (.own ys))[j]? = some s → (j = i ∧ s = .own ys) ∨ (j ≠ i ∧ env[j]? = some s) := fun j s h => by
    by_cases e : j = i
    · subst e
      have hj : j < env.length := by have := (List.getElem?_eq_some_iff.mp h).1; simpa using this
      rw [List.getElem?_set_self hj] at h; cases h
      exact .inl ⟨rfl, rfl⟩
    · rw [List.getElem?_set_ne (Ne.symm e)] at h; exact .inr ⟨e, h⟩
  obtain ⟨q, ws, e0, a1, a2, a3, a4, a5, a6⟩ := x.at_ i _ _ e eσ
  cases e0
  refine ⟨by simp [x.len], fun j s w h1 h2 => ?_, fun j k as bs q h1 h2 h3 h4 => ?_⟩
  · rcases look j s h1 with ⟨rfl, rfl⟩ | ⟨ne, h1⟩
    · rw [eσ] at h2; cases h2
      exact ⟨_, us, rfl, upd_same, a2, a3, a4, z, r⟩
    · have y := x.at_ j s w h1 h2
      cases s with
      | no => trivial
      | val d => exact y
      | own as =>
        obtain ⟨q, bs, e1, b1, b2, b3, b4, b5, b6⟩ := y
        have nq : q ≠ _ := fun c => ne (x.dist j i as xs p h1 e (by rw [h2, e1, c]) eσ)
        exact ⟨q, bs, e1, by rw [upd_ne nq]; exact b1, b2, b3, b4, b5, b6⟩
  · rcases look j _ h1 with ⟨ej, _⟩ | ⟨n1, g1⟩
    · rcases look k _ h2 with ⟨ek, _⟩ | ⟨n2, g2⟩
      · rw [ej, ek]
      · subst ej
        exact x.dist j k xs bs q e g2 h3 h4
    · rcases look k _ h2 with ⟨ek, _⟩ | ⟨n2, g2⟩
      · subst ek
        exact x.dist j k as xs q g1 e h3 h4
      · exact x.dist j k as bs q g1 g2 h3 h4
theorem Fr.ownUpd {W W' : Wd} {H H' : Hp} {p : Addr} {o : HO} (x : Fr W H W' H') (hp : H p = none) : Fr W H W' (upd H' p o) := x.own_upd hp
theorem psv_app {i : Nat} {x : Str} {e : Expr} {f : Env → M D} {py apos cpos pos : Pos} (hK : X.K = G.K) (hi : X.N[i]? = some x) (hx : Vis X.env.scope x) (hd : (x == ("__debug__" : Str)) = false) (hcd : (x == ("__classdict__" : Str)) = false)
    (he : PE X e (tR G (rrE G) E f)) (hn : ∀ a p, e ≠ .Starred a p) (hline : (apos.endLine == cpos.line) = true) :
    PS X (.Expr (.Call (.Attribute (.Name x py) "append" apos) [e] [] cpos) pos) (tSr G W0 H0 E (sApp i f)) := by
  have hb := pe_bm (X := X) (apos := apos) (cpos := cpos) PySem.F.plainAttrs_list PySem.F.slot_list_append PySem.F.type_list_append mt_append (pe_var (pos := py) hi hx hd hcd) (pa_cons he pa_nil (starEach_cons hn)) rfl (by
    rw [starEach_cons hn]; rfl) hline (starEach_cons hn) rfl
  refine ps_imp (ps_expr hb (swaps_no rfl _ _ _)) fun D σ H ⟨W, h, env, hr, er, fr, p⟩ => ?_
  unfold sApp at p
  cases e1 : env[i]? with
  | none => rw [e1] at p; exact p.elim
  | some s =>
    rw [e1] at p
    cases s with
    | no => exact p.elim
    | val d => exact p.elim
    | own xs =>
      have hiσ : i < σ.length := by rw [er.len]; exact (List.getElem?_eq_some_iff.mp e1).1
      have eσ : σ[i]? = some σ[i] := List.getElem?_eq_getElem hiσ
      obtain ⟨q, vs, e0, a1, a2, a3, a4, a5, a6⟩ := er.at_ i _ _ e1 eσ
      rw [e0] at eσ
      refine ⟨.ref q, eσ, .inl ⟨rfl, vs, .inl (.inl a1)⟩, W, h, env, H0, hr, er, (post_bnd.mp p).mono (fun d h1 p1 W1 H1 v f1 hr1 r1 => ?_) fun _ _ _ k => k.step fr⟩
      obtain ⟨u, ef, k⟩ := post_lft (post_bnd.mp p1)
      have hf := fits_le ef
      have b1 := f1.pres q _ a1 a2
      have b2 := f1.notin a1 a2
      have b3 := f1.nof a1 a3
      refine ⟨q, vs, v, rfl, rfl, b1, by rw [← a6.length]; omega, ?_⟩
      refine k W1 _ σ f1.le ((fr.trans f1).own_upd a4) (hr1.own_upd b2 b3) ((er.step f1).updOwn e1 eσ (by rw [List.length_append]; simpa using hf) ((a6.mono f1.le).snoc r1))

/-! ### a list of our own is frozen -/
def sFrz (i : Nat) (env : Env) : M RS := match env[i]? with
  | some (.own xs) => ret (.nx, env.set i (.val (.lst xs)))
  | some (.val d) => ret (.nx, env)
  | _ => fun _ => .bad
theorem Er.freeze {W : Wd} {H : Hp} {env : Env} {σ : St} {i : Nat} {xs : List D} {vs : List V} {p : Addr} (x : Er G W H0 H env σ) (e : env[i]? = some (.own xs)) (eσ : σ[i]? = some (some (.ref p))) (hp : H p = some (.lst vs)) (hf : W.F p = none)
    (z : xs.length ≤ sizeLine) (r : Reps G W xs vs) : Er G (W.fz p (.lst vs)) H0 H (env.set i (.val (.lst xs))) σ := by
  have look : ∀ (j : Nat) (s : Sl), (env.set i (.val (.lst xs)))[j]? = some s → (j = i ∧ s = .val (.lst xs)) ∨ (j ≠ i ∧ env[j]? = some s) := fun j s h => by
    by_cases e : j = i
    · subst e
      have hj : j < env.length := by have := (List.getElem?_eq_some_iff.mp h).1; simpa using this
      rw [List.getElem?_set_self hj] at h; cases h
      exact .inl ⟨rfl, rfl⟩
    · rw [List.getElem?_set_ne (Ne.symm e)] at h; exact .inr ⟨e, h⟩
  have l := le_fz (W := W) (p := p) (o := .lst vs) hf
  refine ⟨by simp [x.len], fun j s w h1 h2 => ?_, fun j k as bs q h1 h2 h3 h4 => ?_⟩
  · rcases look j s h1 with ⟨rfl, rfl⟩ | ⟨ne, h1⟩
    · rw [eσ] at h2; cases h2
      exact ⟨.ref p, rfl, .lst (.inl (.inl upd_same)) z (r.mono l)⟩
    · have y := x.at_ j s w h1 h2
      cases s with
      | no => trivial
      | val d => obtain ⟨u, e1, r1⟩ := y; exact ⟨u, e1, r1.mono l⟩
      | own as =>
        obtain ⟨q, bs, e1, b1, b2, b3, b4, b5, b6⟩ := y
        have nq : q ≠ p := fun c => ne (x.dist j i as xs p h1 e (by rw [h2, e1, c]) eσ)
        refine ⟨q, bs, e1, b1, b2, ?_, b4, b5, b6.mono l⟩
        show L2.upd W.F p _ q = none
        rw [upd_ne nq]; exact b3
  · rcases look j _ h1 with ⟨_, c⟩ | ⟨_, h1⟩
    · cases c
    · rcases look k _ h2 with ⟨_, c⟩ | ⟨_, h2⟩
      · cases c
      · exact x.dist j k as bs q h1 h2 h3 h4
/-- a block that begins with a freezing -/
theorem pssv_frz {i : Nat} {sts : List Stmt} {g : Env → M RS} (h : PSs X sts (tSr G W0 H0 E g)) : PSs X sts (tSr G W0 H0 E fun env => bnd (sFrz i env) fun r => g r.2) := pss_imp h fun D σ H ⟨W, h, env, hr, er, fr, p⟩ => by
  have p := post_bnd.mp p
  unfold sFrz at p
  cases e1 : env[i]? with
  | none => rw [e1] at p; exact p.elim
  | some s =>
    rw [e1] at p
    cases s with
    | no => exact p.elim
    | val d => exact ⟨W, h, env, hr, er, fr, p⟩
    | own xs =>
      have hiσ : i < σ.length := by rw [er.len]; exact (List.getElem?_eq_some_iff.mp e1).1
      have eσ : σ[i]? = some σ[i] := List.getElem?_eq_getElem hiσ
      obtain ⟨q, vs, e0, a1, a2, a3, a4, a5, a6⟩ := er.at_ i _ _ e1 eσ
      rw [e0] at eσ
      exact ⟨W.fz q (.lst vs), h, _, hr.freeze a1 a2 a3, er.freeze e1 eσ a1 a3 a5 a6, fr.freeze a4 a3, R.post.mono p (fun _ _ k => k.step (le_fz a3)) fun _ _ _ k => k⟩

/-! ### small statements, blocks, if -/
def sRet (f : Env → M D) (env : Env) : M RS := bnd (f env) fun d => ret (.rt d, env)
def sDrop (f : Env → M D) (env : Env) : M RS := bnd (f env) fun _ => ret (.nx, env)
def sEnd (f : Fl) (env : Env) : M RS := ret (f, env)
def sIf (c : Env → M Bool) (a b : Env → M RS) (env : Env) : M RS := bnd (c env) fun t => if t = true then a env else b env
def sSeq (a b : Env → M RS) (env : Env) : M RS := bnd (a env) fun r => match r.1 with
  | .nx => b r.2
  | f => ret (f, r.2)
theorem psv_ret {e : Expr} {f : Env → M D} {pos : Pos} (h : PE X e (tR G (rrE G) E f)) : PS X (.Return (some e) pos) (tSr G W0 H0 E (sRet f)) := ps_imp (ps_ret h) fun D σ H ⟨W, h, env, hr, er, fr, p⟩ =>
  ⟨W, h, env, H0, hr, er, (post_bnd.mp p).mono (fun d h1 p1 W1 H1 v f1 hr1 r1 => p1 W1 H1 σ f1.le (fr.trans f1) hr1 (er.step f1) v r1) fun _ _ _ k => k.step fr⟩
theorem psv_retN {pos : Pos} : PS X (.Return none pos) (tSr G W0 H0 E (sEnd (.rt .non))) := ps_imp ps_retN fun D σ H ⟨W, h, env, hr, er, fr, p⟩ => p W H σ (Le.refl W) fr hr er .non .non
theorem psv_pass {pos : Pos} : PS X (.Pass pos) (tSr G W0 H0 E (sEnd .nx)) := ps_imp ps_pass fun D σ H ⟨W, h, env, hr, er, fr, p⟩ => p W H σ (Le.refl W) fr hr er
theorem psv_break {pos : Pos} : PS X (.Break pos) (tSr G W0 H0 E (sEnd .bk)) := ps_imp ps_break fun D σ H ⟨W, h, env, hr, er, fr, p⟩ => p W H σ (Le.refl W) fr hr er
theorem psv_cont {pos : Pos} : PS X (.Continue pos) (tSr G W0 H0 E (sEnd .ct)) := ps_imp ps_continue fun D σ H ⟨W, h, env, hr, er, fr, p⟩ => p W H σ (Le.refl W) fr hr er
theorem psv_expr {e : Expr} {f : Env → M D} {pos : Pos} (h : PE X e (tR G (rrE G) E f)) (hc : isComp e = false) : PS X (.Expr e pos) (tSr G W0 H0 E (sDrop f)) := ps_imp (ps_expr h (swaps_no hc _ _ _)) fun D σ H ⟨W, h, env, hr, er, fr, p⟩ =>
  ⟨W, h, env, H0, hr, er, (post_bnd.mp p).mono (fun d h1 p1 W1 H1 v f1 hr1 r1 => p1 W1 H1 σ f1.le (fr.trans f1) hr1 (er.step f1)) fun _ _ _ k => k.step fr⟩
theorem psv_if {c : Expr} {a b : List Stmt} {fc : Env → M Bool} {fa fb : Env → M RS} {pos : Pos} (hc : PT X c (tTr G E fc)) (ha : PSs X a (tSr G W0 H0 E fa)) (hb : PSs X b (tSr G W0 H0 E fb)) :
    PS X (.If c a b pos) (tSr G W0 H0 E (sIf fc fa fb)) := ps_imp (ps_if hc ha hb) fun D σ H ⟨W, h, env, hr, er, fr, p⟩ => by
  refine ⟨W, h, env, H0, hr, er, (post_bnd.mp p).mono (fun t h1 p1 W1 H1 f1 hr1 => ?_) fun _ _ _ k => k.step fr⟩
  cases t with
  | true =>
    refine iteT ?_
    rw [if_pos rfl] at p1
    exact ⟨W1, h1, env, hr1, er.step f1, fr.trans f1, R.post.mono p1 (fun _ _ k => k.step f1.le) fun _ _ _ k => k⟩
  | false =>
    refine iteF ?_
    rw [if_neg Bool.false_ne_true] at p1
    exact ⟨W1, h1, env, hr1, er.step f1, fr.trans f1, R.post.mono p1 (fun _ _ k => k.step f1.le) fun _ _ _ k => k⟩
theorem pssv_nil : PSs X [] (tSr G W0 H0 E (sEnd .nx)) := pss_imp pss_nil fun D σ H ⟨W, h, env, hr, er, fr, p⟩ => p W H σ (Le.refl W) fr hr er
theorem pssv_cons {st : Stmt} {sts : List Stmt} {f g : Env → M RS} (h1 : PS X st (tSr G W0 H0 E f)) (h2 : PSs X sts (tSr G W0 H0 E g)) : PSs X (st :: sts) (tSr G W0 H0 E (sSeq f g)) :=
  pss_imp (pss_cons h1 h2) fun D σ H ⟨W, h, env, hr, er, fr, p⟩ => by
    refine ⟨W, h, env, hr, er, fr, (post_bnd.mp p).mono (fun r h1 p1 W1 H1 σ1 l1 f1 hr1 er1 => ?_) fun _ _ _ k => k⟩
    obtain ⟨fl, env1⟩ := r
    cases fl with
    | nx => exact ⟨W1, h1, env1, hr1, er1, f1, R.post.mono p1 (fun _ _ k => k.step l1) fun _ _ _ k => k⟩
    | bk => exact p1 W1 H1 σ1 l1 f1 hr1 er1
    | ct => exact p1 W1 H1 σ1 l1 f1 hr1 er1
    | rt d => exact p1 W1 H1 σ1 l1 f1 hr1 er1

/-! ### for -/
def forL (t : Tg) (b : Env → M RS) : List D → Env → M RS
  | [], env => ret (.nx, env)
  | d :: ds, env => match bindT t d env with
    | none => fun _ => .bad
    | some env1 => bnd (b env1) fun r => match r.1 with
      | .nx => forL t b ds r.2
      | .ct => forL t b ds r.2
      | .bk => ret (.nx, r.2)
      | .rt d => ret (.rt d, r.2)
def sFor (it : Env → M (List D)) (t : Tg) (b : Env → M RS) (env : Env) : M RS := bnd (it env) fun ds => forL t b ds env
theorem psv_for {tg iter : Expr} {body : List Stmt} {it : Env → M (List D)} {t : Tg} {b : Env → M RS} {pos : Pos} (hp : PassesOwn (model X.prog X.w) X.A X.env X.xe) (hc : X.calm = true) (hi : PI X tg iter (tIr G E it)) (hg : PG X tg (gTr G t))
    (hb : PSs X body (tSr G W0 H0 E b)) (hs : ∀ es k p, iter ≠ .Set es k p) : PS X (.For tg iter body [] pos) (tSr G W0 H0 E (sFor it t b)) :=
  ps_imp (ps_for hp hc hi hg hb (folded_not hs)) fun D σ H ⟨W, h, env, hr, er, fr, p⟩ => by
    refine ⟨W, h, env, H0, hr, er, (post_bnd.mp p).mono (fun ds h1 p1 W1 H1 J f1 hr1 hz wk => ?_) fun _ _ _ k => k.step fr⟩
    let Iv : Nat → St → Hp → Prop := fun i σ' H' => ∃ (W2 : Wd) (h2 : IH) (env2 : Env), Le W1 W2 ∧ Hr G W2 h2 H' ∧ Er G W2 H0 H' env2 σ' ∧ Fr W0 H0 W2 H' ∧ i ≤ ds.length ∧ (forL t b (ds.drop i) env2 h2).post (KS G W0 H0 W D) (KX G E W0 H0)
    refine ⟨fun i m σ' H' => m = ds.length - i ∧ Iv i σ' H', ⟨ds.length, rfl, W1, h1, env, Le.refl W1, hr1, er.step f1, fr.trans f1, Nat.zero_le _, p1⟩, ?_⟩
    rintro i m σ' H' ⟨rfl, W2, h2, env2, l2, hr2, er2, fr2, hi, q⟩
    by_cases hlt : i < ds.length
    · refine .inr ⟨wk.go i W2 h2 H' hlt l2 hr2, Iv (i + 1), fun σ'' H'' iv => ⟨ds.length - (i + 1), by omega, rfl, iv⟩, fun x H'' y => ?_⟩
      have hd : ds[i]? = some ds[i] := List.getElem?_eq_getElem hlt
      obtain ⟨W3, f3, hr3, r3⟩ := wk.yld i W2 h2 H' x H'' _ hd l2 hr2 y
      rw [List.drop_eq_getElem_cons hlt, forL] at q
      cases hb : bindT t ds[i] env2 with
      | none => rw [hb] at q; exact q.elim
      | some env1 =>
        rw [hb] at q
        refine ⟨W3, h2, _, env1, _, H0, hr3, er2.step f3, r3, hb, fun σ3 er3 _ => ?_⟩
        refine ⟨W3, h2, env1, hr3, er3, fr2.trans f3, (post_bnd.mp q).mono (fun r h4 p4 W4 H4 σ4 l4 f4 hr4 er4 => ?_) fun _ _ _ k => k⟩
        have l5 := (l2.trans f3.le).trans l4
        obtain ⟨fl, env4⟩ := r
        cases fl with
        | nx => exact ⟨W4, h4, env4, l5, hr4, er4, f4, hlt, p4⟩
        | ct => exact ⟨W4, h4, env4, l5, hr4, er4, f4, hlt, p4⟩
        | bk => exact p4 W4 H4 σ4 (f1.le.trans l5) f4 hr4 er4
        | rt d => exact p4 W4 H4 σ4 (f1.le.trans l5) f4 hr4 er4
    · have e : i = ds.length := by omega
      subst e
      rw [List.drop_of_length_le (Nat.le_refl _)] at q
      exact .inl ⟨wk.stop W2 h2 H' l2 hr2, q W2 H' σ' (f1.le.trans l2) fr2 hr2 er2⟩

/-! ### while -/
def whN (c : Env → M Bool) (b : Env → M RS) : Nat → Env → IH → Option (R RS)
  | 0, _, _ => none
  | n + 1, env, h => match c env h with
    | .bad => some .bad
    | .ex k fs h' => some (.ex k fs h')
    | .ok false h' => some (.ok (.nx, env) h')
    | .ok true h' => match b env h' with
      | .bad => some .bad
      | .ex k fs h'' => some (.ex k fs h'')
      | .ok (.nx, env') h'' => whN c b n env' h''
      | .ok (.ct, env') h'' => whN c b n env' h''
      | .ok (.bk, env') h'' => some (.ok (.nx, env') h'')
      | .ok (.rt d, env') h'' => some (.ok (.rt d, env') h'')
theorem whN_more {c : Env → M Bool} {b : Env → M RS} : ∀ {n m : Nat} {env : Env} {h : IH} {r : R RS}, whN c b n env h = some r → n ≤ m → whN c b m env h = some r
  | 0, _, _, _, _, e, _ => by cases e
  | n + 1, 0, _, _, _, _, l => by omega
  | n + 1, m + 1, env, h, r, e, l => by
    have ih : ∀ {env : Env} {h : IH}, whN c b n env h = some r → whN c b m env h = some r := fun e => whN_more e (by omega)
    unfold whN at e ⊢
    cases q : c env h with
    | bad => rw [q] at e; exact e
    | ex k fs h' => rw [q] at e; exact e
    | ok t h' =>
      rw [q] at e
      cases t with
      | false => exact e
      | true =>
        dsimp only at e ⊢
        cases q2 : b env h' with
        | bad => rw [q2] at e; exact e
        | ex k fs h' => rw [q2] at e; exact e
        | ok r2 h' =>
          rw [q2] at e
          obtain ⟨fl, env'⟩ := r2
          cases fl with
          | nx => exact ih e
          | ct => exact ih e
          | bk => exact e
          | rt d => exact e
open Classical in
noncomputable def sWhile (c : Env → M Bool) (b : Env → M RS) (env : Env) : M RS := fun h =>
  if hx : ∃ (n : Nat) (r : R RS), whN c b n env h = some r then hx.choose_spec.choose else .bad
theorem sWhile_of {c : Env → M Bool} {b : Env → M RS} {env : Env} {h : IH} {n : Nat} {r : R RS} (e : whN c b n env h = some r) : sWhile c b env h = r := by
  unfold sWhile
  have hx : ∃ (n : Nat) (r : R RS), whN c b n env h = some r := ⟨n, r, e⟩
  rw [dif_pos hx]
  have q := hx.choose_spec.choose_spec
  have l1 := whN_more q (Nat.le_max_left hx.choose n)
  have l2 := whN_more e (Nat.le_max_right hx.choose n)
  rw [l1] at l2
  exact Option.some.inj l2
theorem sWhile_ok {c : Env → M Bool} {b : Env → M RS} {env : Env} {h : IH} {K : RS → IH → Prop} {Y : Nat → List D → IH → Prop} (p : (sWhile c b env h).post K Y) : ∃ (n : Nat) (r : R RS), whN c b n env h = some r ∧ r.post K Y := by
  by_cases hx : ∃ (n : Nat) (r : R RS), whN c b n env h = some r
  · obtain ⟨n, r, e⟩ := hx
    rw [sWhile_of e] at p
    exact ⟨n, r, e, p⟩
  · unfold sWhile at p
    rw [dif_neg hx] at p
    exact p.elim
theorem psv_while {c : Expr} {body : List Stmt} {fc : Env → M Bool} {b : Env → M RS} {pos : Pos} (hp : PassesOwn (model X.prog X.w) X.A X.env X.xe) (hc : PT X c (tTr G E fc)) (hb : PSs X body (tSr G W0 H0 E b)) :
    PS X (.While c body [] pos) (tSr G W0 H0 E (sWhile fc b)) := ps_imp (ps_while hp hc hb) fun D σ H ⟨W, h, env, hr, er, fr, p⟩ => by
  obtain ⟨n0, r0, e0, p0⟩ := sWhile_ok p
  refine ⟨fun m σ' H' => ∃ (W2 : Wd) (h2 : IH) (env2 : Env) (r : R RS), Le W W2 ∧ Hr G W2 h2 H' ∧ Er G W2 H0 H' env2 σ' ∧ Fr W0 H0 W2 H' ∧ whN fc b m env2 h2 = some r ∧ r.post (KS G W0 H0 W D) (KX G E W0 H0), ⟨n0, W, h, env, r0, Le.refl W, hr, er, fr, e0, p0⟩, ?_⟩
  rintro m σ' H' ⟨W2, h2, env2, r, l2, hr2, er2, fr2, e, q⟩
  cases m with
  | zero => cases e
  | succ m =>
    unfold whN at e
    refine ⟨W2, h2, env2, H0, hr2, er2, ?_⟩
    cases q1 : fc env2 h2 with
    | bad => rw [q1] at e; cases e; exact q.elim
    | ex k fs h' => rw [q1] at e; cases e; exact KX.step fr2 q
    | ok t h' =>
      rw [q1] at e
      intro W3 H3 f3 hr3
      cases t with
      | false =>
        refine iteF ?_
        cases e
        exact q W3 H3 σ' (l2.trans f3.le) (fr2.trans f3) hr3 (er2.step f3)
      | true =>
        refine iteT ?_
        dsimp only at e
        refine ⟨fun σ'' H'' => ∃ (W2 : Wd) (h2 : IH) (env2 : Env) (r : R RS), Le W W2 ∧ Hr G W2 h2 H'' ∧ Er G W2 H0 H'' env2 σ'' ∧ Fr W0 H0 W2 H'' ∧ whN fc b m env2 h2 = some r ∧ r.post (KS G W0 H0 W D) (KX G E W0 H0), fun σ'' H'' y => ⟨m, Nat.lt_succ_self m, y⟩, W3, h', env2, hr3, er2.step f3, fr2.trans f3, ?_⟩
        cases q2 : b env2 h' with
        | bad => rw [q2] at e; cases e; exact q.elim
        | ex k fs h'' => rw [q2] at e; cases e; exact q
        | ok r2 h'' =>
          rw [q2] at e
          obtain ⟨fl, env'⟩ := r2
          intro W4 H4 σ4 l4 f4 hr4 er4
          have l5 := (l2.trans f3.le).trans l4
          cases fl with
          | nx => exact ⟨W4, h'', env', r, l5, hr4, er4, f4, e, q⟩
          | ct => exact ⟨W4, h'', env', r, l5, hr4, er4, f4, e, q⟩
          | bk => cases e; exact q W4 H4 σ4 l5 f4 hr4 er4
          | rt d => cases e; exact q W4 H4 σ4 l5 f4 hr4 er4
end Iv

/-! Iv, part H: the small syntax, its evaluator, the checker against the program's text. -/
namespace Iv
open PySem L2
variable {G : GC} {X : Cx} {W0 : Wd} {H0 : Hp} {E : XK}

/-! ### a new cell that holds a list -/
def eCell (g : Env → M (List D)) (env : Env) : M D := bnd (g env) fun xs => bnd (lft (fits xs.length)) fun _ => fun h => .ok (.ref h.length) (h ++ [.lst xs])
theorem pev_cell {es : List Expr} {g : Env → M (List D)} {pos : Pos} (h : PA X es (tAr G E g)) : PE X (.List es pos) (tR G (rrE G) E (eCell g)) := pe_imp (pe_lst h) fun σ H Q ⟨W, hh, env, H0, hr, er, p⟩ => by
  refine ⟨W, hh, env, H0, hr, er, (post_bnd.mp p).mono (fun xs h1 p1 W1 H1 vs f1 hr1 r1 => ?_) fun _ _ _ k => k⟩
  obtain ⟨u, e, k⟩ := post_lft (post_bnd.mp p1)
  have hz := fits_le e
  refine ⟨by rw [← r1.length]; exact hz, fun q hq => ?_⟩
  have l : Le W1 ⟨W1.F, W1.rho ++ [q]⟩ := ⟨fun _ _ h => h, [q], rfl⟩
  have nq : q ∉ W1.rho := hr1.notcell hq
  have f2 : Fr W1 H1 ⟨W1.F, W1.rho ++ [q]⟩ (upd H1 q (.lst vs)) := by
    refine ⟨fun _ _ h => h, ⟨[q], rfl, fun a ha => by simp at ha; rw [ha]; exact hq⟩, fun a o h _ => ?_, fun a o h => .inl h, fun a h => ?_⟩
    · rw [upd_ne (ne_of_none h hq)]; exact h
    · by_cases e : a = q
      · exact e ▸ hq
      · rw [upd_ne e] at h; exact h
  have hr2 : Hr G ⟨W1.F, W1.rho ++ [q]⟩ (h1 ++ [.lst xs]) (upd H1 q (.lst vs)) := by
    refine ⟨fun a o h => ?_, by simp [hr1.len], ?_, fun i a c h1' h2 => ?_, fun a ha => ?_⟩
    · have := hr1.sub a o h
      rw [upd_ne (ne_of_none this hq)]; exact this
    · show (W1.rho ++ [q]).Nodup
      rw [List.nodup_append]
      exact ⟨hr1.nd, by simp, fun a ha b hb => by simp at hb; subst hb; intro e; subst e; exact nq ha⟩
    · by_cases hi : i < W1.rho.length
      · have h1'' : W1.rho[i]? = some a := by rw [← h1']; exact (List.getElem?_append_left hi).symm
        rw [List.getElem?_append_left (by rw [← hr1.len]; exact hi)] at h2
        refine CellR.step l (fun o q' => ?_) (hr1.cell i a c h1'' h2)
        rw [upd_ne (ne_of_none q' hq)]; exact q'
      · have hi2 : i < (W1.rho ++ [q]).length := (List.getElem?_eq_some_iff.mp h1').1
        have e : i = W1.rho.length := by simp at hi2; omega
        subst e
        have h1' : (W1.rho ++ [q])[W1.rho.length]? = some a := h1'
        rw [List.getElem?_append_right (Nat.le_refl _)] at h1'
        simp at h1'
        subst h1'
        rw [hr1.len, List.getElem?_append_right (Nat.le_refl _)] at h2
        simp at h2
        subst h2
        exact ⟨vs, upd_same, r1.mono l, hz⟩
    · rcases List.mem_append.mp ha with ha | ha
      · exact hr1.nf a ha
      · simp at ha; subst ha; exact hr1.fnone hq
  refine k _ _ _ (f1.trans f2) hr2 (.ref ?_)
  show (W1.rho ++ [q])[h1.length]? = some q
  rw [← hr1.len, List.getElem?_append_right (Nat.le_refl _)]
  simp

/-! ### the small syntax -/
inductive BOp where
  | add | sub | mul | fdiv | mod | pow | band
inductive COp where
  | eq | ne | lt | le | gt | ge | inn | nin | isn | isnn
inductive Blt where
  | len | int | str | list | tuple | all | any
mutual
inductive Ex where
  | cst (d : D) | var (i : Nat) | peek (i : Nat) | neg (a : Ex)
  | bin (op : BOp) (a b : Ex) | cmp (op : COp) (a b : Ex) | ix (a b : Ex) | sl (a : Ex) (lo hi : Exo)
  | tru (a : Ex) | and (es : Exs) | or (es : Exs) | not (a : Ex) | ite (c a b : Ex) | chain (o1 o2 : COp) (a b c : Ex)
  | tup (es : Exs) | lst (es : Exs) | cell (es : Exs) | blt (b : Blt) (es : Exs) | isi (t : Ty) (a : Ex) | call (f : Nat) (es : Exs)
  | comp (it : Itr) (t : Tg) (ifs : Exo) (elt : Ex) (own : List Nat)
  | comp2 (it : Itr) (t : Tg) (ifs : Exo) (it2 : Itr) (t2 : Tg) (ifs2 : Exo) (elt : Ex) (own vs1 : List Nat)
inductive Exs where
  | nil | cons (e : Ex) (r : Exs) | star (e : Ex) (r : Exs)
inductive Exo where
  | no | yes (e : Ex)
inductive Itr where
  | seq (e : Ex) | range (es : Exs) | zip (es : Exs)
end
mutual
inductive Sm where
  | set (i : Nat) (e : Ex) | own (i : Nat) (e : Ex) | tg (t : Tg) (e : Ex) | ixs (o i e : Ex) | aug (op : BOp) (i : Nat) (e : Ex) | app (i : Nat) (e : Ex)
  | ret (e : Ex) | retN | pass | brk | cont | expr (e : Ex)
  | ite (c : Ex) (a b : Sms) | whl (c : Ex) (b : Sms) | forr (it : Itr) (t : Tg) (b : Sms)
inductive Sms where
  | nil | cons (s : Sm) (r : Sms) | frz (i : Nat) (r : Sms)
end

/-! ### truth -/
def trD (d : D) : Option Bool := match d with
  | .non => some false | .bl b => some b | .int i => some (i != 0) | .str z => some ((z.length : Int) != 0) | .tup xs => some (!xs.isEmpty) | .lst xs => some (!xs.isEmpty)
  | _ => none
def toT (ev : Env → M D) (env : Env) : M Bool := bnd (ev env) fun d => lft (trD d)
theorem isEmpty_rep {W : Wd} {ds : List D} {vs : List V} (r : Reps G W ds vs) : ds.isEmpty = vs.isEmpty := by cases r <;> rfl
theorem ptv_tru {e : Expr} {ev : Env → M D} (hK : X.K = G.K) (h : PE X e (tR G (rrO G) E ev)) (he : ∀ whole, isTrue e X.env whole = (do let v ← whole; standAt e.pos; holding [v] (truthy v))) : PT X e (tTr G E (toT ev)) := pt_imp (pt_truth h he) fun σ H Q ⟨W, hh, env, H0, hr, er, p⟩ => by
  refine ⟨W, hh, env, H0, hr, er, (post_bnd.mp p).mono (fun d h1 p1 W1 H1 v f1 hr1 r1 => ?_) fun _ _ _ k => k⟩
  obtain ⟨b, e, k⟩ := post_lft p1
  refine ⟨b, ?_, k W1 H1 f1 hr1⟩
  unfold trD at e
  split at e
  · cases e; rw [r1.non]; exact rfl
  · cases e; rw [r1.bl]; exact rfl
  · cases e; rw [r1.int]; exact rfl
  · cases e
    obtain ⟨rfl, z⟩ := r1.str
    exact ⟨by simpa [Str.length] using z, by simp [Str.length]⟩
  · cases e
    obtain ⟨p, us, rfl, s, z, r2⟩ := RepS.tup hr1 r1
    exact .inr (.inl ⟨us, by rw [hK]; exact s, by rw [isEmpty_rep r2]⟩)
  · cases e
    obtain ⟨p, us, rfl, s, z, r2⟩ := RepS.lst hr1 r1
    exact .inl ⟨us, by rw [hK]; exact s, by rw [isEmpty_rep r2]⟩
  · cases e
def cAnd (fa fb : Env → M Bool) (env : Env) : M Bool := bnd (fa env) fun c => if c = true then fb env else ret false
def cOr (fa fb : Env → M Bool) (env : Env) : M Bool := bnd (fa env) fun c => if c = true then ret true else fb env
def cNot (fa : Env → M Bool) (env : Env) : M Bool := bnd (fa env) fun c => ret (!c)
theorem ptc_and {a b : Expr} {rest : List Expr} {fa fb : Env → M Bool} {pos : Pos} (ha : PT X a (tTr G E fa)) (hb : PW X (.BoolOp .And (b :: rest) pos) (tTr G E fb)) :
    PW X (.BoolOp .And (a :: b :: rest) pos) (tTr G E (cAnd fa fb)) := pw_imp (pw_and ha hb) fun σ H Q ⟨W, h, env, H0, hr, er, p⟩ => by
  refine ⟨W, h, env, H0, hr, er, (post_bnd.mp p).mono (fun c h1 p1 W1 H1 f1 hr1 => ?_) fun _ _ _ k => k⟩
  cases c with
  | true =>
    rw [if_pos rfl]
    rw [if_pos rfl] at p1
    exact ⟨W1, h1, env, H0, hr1, er.step f1, p1.mono (fun b h2 k => k.step f1) fun _ _ _ k => k.step f1⟩
  | false =>
    rw [if_neg Bool.false_ne_true]
    rw [if_neg Bool.false_ne_true] at p1
    exact p1 W1 H1 f1 hr1
theorem ptc_or {a b : Expr} {rest : List Expr} {fa fb : Env → M Bool} {pos : Pos} (ha : PT X a (tTr G E fa)) (hb : PW X (.BoolOp .Or (b :: rest) pos) (tTr G E fb)) :
    PW X (.BoolOp .Or (a :: b :: rest) pos) (tTr G E (cOr fa fb)) := pw_imp (pw_or ha hb) fun σ H Q ⟨W, h, env, H0, hr, er, p⟩ => by
  refine ⟨W, h, env, H0, hr, er, (post_bnd.mp p).mono (fun c h1 p1 W1 H1 f1 hr1 => ?_) fun _ _ _ k => k⟩
  cases c with
  | true =>
    rw [if_pos rfl]
    rw [if_pos rfl] at p1
    exact p1 W1 H1 f1 hr1
  | false =>
    rw [if_neg Bool.false_ne_true]
    rw [if_neg Bool.false_ne_true] at p1
    exact ⟨W1, h1, env, H0, hr1, er.step f1, p1.mono (fun b h2 k => k.step f1) fun _ _ _ k => k.step f1⟩
theorem ptc_not {a : Expr} {fa : Env → M Bool} {pos : Pos} (ha : PT X a (tTr G E fa)) : PT X (.UnaryOp .Not a pos) (tTr G E (cNot fa)) := pt_imp (pt_not ha) fun σ H Q ⟨W, h, env, H0, hr, er, p⟩ =>
  ⟨W, h, env, H0, hr, er, (post_bnd.mp p).mono (fun c h1 p1 W1 H1 f1 hr1 => p1 W1 H1 f1 hr1) fun _ _ _ k => k⟩

def negD (d : D) : Option D := match d with
  | .int i => some (.int (-i))
  | _ => none
def eNeg (f : Env → M D) (env : Env) : M D := bnd (f env) fun d => lft (negD d)
theorem pev_neg {a : Expr} {f : Env → M D} {pos : Pos} (h : PE X a (tR G (rrE G) E f)) : PE X (.UnaryOp .USub a pos) (tR G (rrE G) E (eNeg f)) := pe_imp (pe_un un_neg h) fun σ H Q ⟨W, hh, env, H0, hr, er, p⟩ => by
  refine ⟨W, hh, env, H0, hr, er, (post_bnd.mp p).mono (fun d h1 p1 W1 H1 v f1 hr1 r1 => ?_) fun _ _ _ k => k⟩
  obtain ⟨b, e, k⟩ := post_lft p1
  cases d <;> simp only [negD, Option.some.injEq, reduceCtorEq] at e
  subst e
  cases r1
  exact ⟨_, rfl, k W1 H1 _ f1 hr1 (.int _)⟩
theorem pev_ifG {RR : RRel} (up : Up RR) {c a b : Expr} {fc : Env → M Bool} {fa fb : Env → M D} {pos : Pos} (hc : PT X c (tTr G E fc)) (ha : PE X a (tR G RR E fa)) (hb : PE X b (tR G RR E fb)) :
    PE X (.IfExp c a b pos) (tR G RR E (eIf fc fa fb)) := pe_imp (pe_ifExp hc ha hb) fun σ H Q ⟨W, h, env, H0, hr, er, p⟩ => by
  refine ⟨W, h, env, H0, hr, er, (post_bnd.mp p).mono (fun c h1 p1 W1 H1 f1 hr1 => ?_) fun _ _ _ k => k⟩
  cases c with
  | true =>
    rw [if_pos rfl]
    rw [if_pos rfl] at p1
    exact ⟨W1, h1, env, H0, hr1, er.step f1, p1.mono (fun d h2 k => k.step up f1) fun _ _ _ k => k.step f1⟩
  | false =>
    rw [if_neg Bool.false_ne_true]
    rw [if_neg Bool.false_ne_true] at p1
    exact ⟨W1, h1, env, H0, hr1, er.step f1, p1.mono (fun d h2 k => k.step up f1) fun _ _ _ k => k.step f1⟩

/-! ### its evaluator -/
def binF : BOp → IH → D → D → Option D
  | .add => opAdd | .sub => opSub | .mul => opMul | .fdiv => opFdiv | .mod => opMod | .pow => opPow | .band => opAnd
def cmpF : COp → IH → D → D → Option D
  | .eq => opEq | .ne => opNe | .lt => opOrd .Lt | .le => opOrd .LtE | .gt => opOrd .Gt | .ge => opOrd .GtE | .inn => opIn | .nin => opNin | .isn => opIsN | .isnn => opIsnN
def bltF : Blt → List D → Option D
  | .len => bLen | .int => bInt | .str => bStr | .list => bList | .tuple => bTuple | .all => bAll | .any => bAny
def rangeF (ds : List D) : Option (List D) := match ds with
  | [_] => range1 ds
  | [_, _] => range2 ds
  | [_, _, _] => range3 ds
  | _ => none
def augF : BOp → IH → D → D → Option D
  | .add => opAddI | .sub => opSubI
  | _ => fun _ _ _ => none
abbrev CallH := Nat → List D → M D
mutual
def evE (C : CallH) : Ex → Env → M D
  | .cst d => fun _ => ret d
  | .var i => eVar i
  | .peek i => ePeek i
  | .neg a => eNeg (evE C a)
  | .bin op a b => eOp (binF op) (evE C a) (evE C b)
  | .cmp op a b => eOp (cmpF op) (evE C a) (evE C b)
  | .ix a b => eOp opIx (evE C a) (evE C b)
  | .sl a lo hi => eSl (evE C a) (evO C lo) (evO C hi)
  | .and es => evAnd C es
  | .or es => evOr C es
  | .not a => eNot (toB (evE C a))
  | .tru _ => fun _ _ => .bad
  | .ite c a b => eIf (evC C c) (evE C a) (evE C b)
  | .chain o1 o2 a b c => eChain (cmpF o1) (cmpF o2) (evE C a) (evE C b) (evE C c)
  | .tup es => eTup (evA C es)
  | .lst es => eLst (evA C es)
  | .cell es => eCell (evA C es)
  | .blt b es => eBlt (bltF b) (evA C es)
  | .isi t a => eIsi t (evE C a)
  | .call f es => eCall (C f) (evA C es)
  | .comp it t ifs elt own => eComp (evI C it) t (evT C ifs) (evE C elt) own
  | .comp2 it t ifs it2 t2 ifs2 elt own vs1 => eComp2 (evI C it) t (evT C ifs) (evI C it2) t2 (evT C ifs2) (evE C elt) own vs1
def evC (C : CallH) : Ex → Env → M Bool
  | .tru a => toT (evE C a)
  | .and es => evCA C es
  | .or es => evCO C es
  | .not a => cNot (evC C a)
  | .cst d => toB fun _ => ret d
  | .var i => toB (eVar i)
  | .cmp op a b => toB (eOp (cmpF op) (evE C a) (evE C b))
  | .ix a b => toB (eOp opIx (evE C a) (evE C b))
  | .chain o1 o2 a b c => toB (eChain (cmpF o1) (cmpF o2) (evE C a) (evE C b) (evE C c))
  | .blt b es => toB (eBlt (bltF b) (evA C es))
  | .isi t a => toB (eIsi t (evE C a))
  | .call f es => toB (eCall (C f) (evA C es))
  | _ => fun _ _ => .bad
def evCA (C : CallH) : Exs → Env → M Bool
  | .nil => fun _ _ => .bad
  | .cons e .nil => evC C e
  | .cons e r => cAnd (evC C e) (evCA C r)
  | .star _ _ => fun _ _ => .bad
def evCO (C : CallH) : Exs → Env → M Bool
  | .nil => fun _ _ => .bad
  | .cons e .nil => evC C e
  | .cons e r => cOr (evC C e) (evCO C r)
  | .star _ _ => fun _ _ => .bad
def evAnd (C : CallH) : Exs → Env → M D
  | .nil => fun _ _ => .bad
  | .cons e .nil => evE C e
  | .cons e r => eAnd (toB (evE C e)) (evAnd C r)
  | .star _ _ => fun _ _ => .bad
def evOr (C : CallH) : Exs → Env → M D
  | .nil => fun _ _ => .bad
  | .cons e .nil => evE C e
  | .cons e r => eOr (toB (evE C e)) (evOr C r)
  | .star _ _ => fun _ _ => .bad
def evA (C : CallH) : Exs → Env → M (List D)
  | .nil => aNil
  | .cons e r => aCons (evE C e) (evA C r)
  | .star e r => aStar (evE C e) (evA C r)
def evO (C : CallH) : Exo → FO
  | .no => none
  | .yes e => some (evE C e)
def evT (C : CallH) : Exo → Env → M Bool
  | .no => tsYes
  | .yes e => evC C e
def evI (C : CallH) : Itr → Env → M (List D)
  | .seq e => iSeq (evE C e)
  | .range es => iArgs rangeF (evA C es)
  | .zip es => iArgs zipD (evA C es)
end
mutual
noncomputable def evS (C : CallH) : Sm → Env → M RS
  | .set i e => sSet i (evE C e)
  | .own i e => sOwn i (evE C e)
  | .tg t e => sTg t (evE C e)
  | .ixs o i e => sIx (evE C o) (evE C i) (evE C e)
  | .aug op i e => sAug (augF op) i (evE C e)
  | .app i e => sApp i (evE C e)
  | .ret e => sRet (evE C e)
  | .retN => sEnd (.rt .non)
  | .pass => sEnd .nx
  | .brk => sEnd .bk
  | .cont => sEnd .ct
  | .expr e => sDrop (evE C e)
  | .ite c a b => sIf (evC C c) (evSs C a) (evSs C b)
  | .whl c b => sWhile (evC C c) (evSs C b)
  | .forr it t b => sFor (evI C it) t (evSs C b)
noncomputable def evSs (C : CallH) : Sms → Env → M RS
  | .nil => sEnd .nx
  | .cons s r => sSeq (evS C s) (evSs C r)
  | .frz i r => fun env => bnd (sFrz i env) fun x => evSs C r x.2
end

/-! ### the checker -/
structure FnE where
  name : Str
  arity : Nat
/-- what is known where a piece of text stands: the slots' names, the scope as it runs, the block's own names; the constants, the built-ins that are not hidden, the defs -/
structure Sta where
  N : List Str
  sc : Scope
  loc : List (Str × NameKind)
  globs : List (Str × D)
  blts : List Str
  funs : List (Nat × FnE)
def nmOk (x : Str) : Bool := !(x == ("__debug__" : Str)) && !(x == ("__classdict__" : Str)) && decide (x ≠ "__name__")
def visOk (S : Sta) (x : Str) : Bool := match S.sc.names.lookup x with
  | some .local => true | some .cell => true | some .free => true
  | _ => false
def glOk (S : Sta) (x : Str) : Bool := decide (S.sc.names.lookup x = some .globalImplicit)
def tgOk (S : Sta) (x : Str) : Bool := match S.loc.lookup x with
  | some .local => true | some .cell => true
  | _ => false
def slotOk (S : Sta) (i : Nat) (x : Str) : Bool := decide (S.N[i]? = some x)
def bltOk (S : Sta) (x : Str) : Bool := glOk S x && decide (x ∈ S.blts)
def isStar : Expr → Bool
  | .Starred .. => true
  | _ => false
def isSlice : Expr → Bool
  | .Slice .. => true
  | _ => false
def isSet : Expr → Bool
  | .Set .. => true
  | _ => false
def isPeek : Ex → Bool
  | .peek _ => true
  | _ => false
def isFresh : Ex → Bool
  | .bin .add _ _ => true | .sl .. => true | .lst _ => true | .blt .list _ => true | .comp .. => true | .comp2 .. => true
  | _ => false
def plainT : Expr → Bool
  | .UnaryOp .Not _ _ => false | .BoolOp .. => false | .IfExp .. => false | .Compare .. => false
  | _ => true
def binP : BOp → Operator → Bool
  | .add, .Add => true | .sub, .Sub => true | .mul, .Mult => true | .fdiv, .FloorDiv => true | .mod, .Mod => true | .pow, .Pow => true | .band, .BitAnd => true
  | _, _ => false
def cmpP : COp → CmpOp → Bool
  | .eq, .Eq => true | .ne, .NotEq => true | .lt, .Lt => true | .le, .LtE => true | .gt, .Gt => true | .ge, .GtE => true | .inn, .In => true | .nin, .NotIn => true | .isn, .Is => true | .isnn, .IsNot => true
  | _, _ => false
def cstP (S : Sta) (d : D) (e : Expr) : Bool := match e, d with
  | .Constant (.int i) _ _, .int j => decide (i = j)
  | .Constant (.bool i) _ _, .bl j => decide (i = j)
  | .Constant .none _ _, .non => true
  | .Constant (.str x) _ _, .str y => decide (x = ⟨y.toArray⟩ ∧ y.length ≤ 16777216)
  | _, _ => false
mutual
def D.beq : D → D → Bool
  | .non, .non => true | .bl a, .bl b => a == b | .int a, .int b => a == b | .str a, .str b => a == b
  | .tup a, .tup b => D.beqs a b | .lst a, .lst b => D.beqs a b | .ref a, .ref b => a == b | .ins a x, .ins b y => a == b && D.beqs x y
  | _, _ => false
def D.beqs : List D → List D → Bool
  | [], [] => true
  | x :: xs, y :: ys => D.beq x y && D.beqs xs ys
  | _, _ => false
end
mutual
theorem D.beq_eq : ∀ {x y : D}, D.beq x y = true → x = y
  | .non, y, h => by cases y <;> first | rfl | exact Bool.noConfusion (show false = true from h)
  | .bl a, y, h => by cases y <;> first | exact Bool.noConfusion (show false = true from h) | (rw [D.beq] at h; rw [beq_iff_eq.mp h])
  | .int a, y, h => by cases y <;> first | exact Bool.noConfusion (show false = true from h) | (rw [D.beq] at h; rw [beq_iff_eq.mp h])
  | .str a, y, h => by cases y <;> first | exact Bool.noConfusion (show false = true from h) | (rw [D.beq] at h; rw [beq_iff_eq.mp h])
  | .tup a, y, h => by cases y <;> first | exact Bool.noConfusion (show false = true from h) | (rw [D.beq] at h; rw [D.beqs_eq h])
  | .lst a, y, h => by cases y <;> first | exact Bool.noConfusion (show false = true from h) | (rw [D.beq] at h; rw [D.beqs_eq h])
  | .ref a, y, h => by cases y <;> first | exact Bool.noConfusion (show false = true from h) | (rw [D.beq] at h; rw [beq_iff_eq.mp h])
  | .ins a x, y, h => by
    cases y <;> first
      | exact Bool.noConfusion (show false = true from h)
      | (rw [D.beq, Bool.and_eq_true] at h; rw [beq_iff_eq.mp h.1, D.beqs_eq h.2])
theorem D.beqs_eq : ∀ {x y : List D}, D.beqs x y = true → x = y
  | [], [], _ => rfl
  | [], _ :: _, h => Bool.noConfusion (show false = true from h)
  | _ :: _, [], h => Bool.noConfusion (show false = true from h)
  | x :: xs, y :: ys, h => by
    rw [D.beqs, Bool.and_eq_true] at h
    rw [D.beq_eq h.1, D.beqs_eq h.2]
end
def globP (S : Sta) (d : D) (e : Expr) : Bool := match e with
  | .Name x _ => nmOk x && glOk S x && (match S.globs.lookup x with | some c => D.beq c d | none => false)
  | _ => false
def bltNm : Blt → Str
  | .len => "len" | .int => "int" | .str => "str" | .list => "list" | .tuple => "tuple" | .all => "all" | .any => "any"
def bltVal : Blt → Value
  | .len => .builtin "len" | .int => .type "int" | .str => .type "str" | .list => .type "list" | .tuple => .type "tuple" | .all => .builtin "all" | .any => .builtin "any"
def blkS (S : Sta) (scope : Scope) : Sta := { S with sc := relS scope S.sc, loc := scope.names }
def ownP (S : Sta) (own : List Nat) : List (Str × Nat) := own.map fun i => ((S.N[i]?).getD "", i)
def okNs (S : Sta) : List Nat → List Expr → Bool
  | [], [] => true
  | i :: is, .Name x _ :: es => slotOk S i x && tgOk S x && okNs S is es
  | _, _ => false
def okT (S : Sta) (t : Tg) (e : Expr) : Bool := match t, e with
  | .nm i, .Name x _ => slotOk S i x && tgOk S x
  | .tp is, .Tuple es _ _ => okNs S is es
  | _, _ => false
def slotsIn (t : Tg) (own : List Nat) : Bool := t.slots.all fun i => decide (i ∈ own)
mutual
def okE (S : Sta) : Ex → Expr → Bool
  | .cst d, e => cstP S d e || globP S d e
  | .var i, e => match e with | .Name x _ => nmOk x && slotOk S i x && visOk S x | _ => false
  | .peek i, e => match e with | .Name x _ => nmOk x && slotOk S i x && visOk S x | _ => false
  | .neg a, e => match e with | .UnaryOp .USub x _ => okE S a x && !isPeek a | _ => false
  | .bin op a b, e => match e with | .BinOp x o y _ => binP op o && okE S a x && okE S b y | _ => false
  | .cmp op a b, e => match e with | .Compare x [o] [y] _ => cmpP op o && okE S a x && okE S b y && !behindInMarks o y | _ => false
  | .ix a b, e => match e with | .Subscript x y _ => okE S a x && okE S b y && !isSlice y | _ => false
  | .sl a lo hi, e => match e with | .Subscript x (.Slice l h none _) _ => okE S a x && okO S lo l && okO S hi h | _ => false
  | .and es, e => match e with | .BoolOp .And vs _ => okL S es vs | _ => false
  | .or es, e => match e with | .BoolOp .Or vs _ => okL S es vs | _ => false
  | .not a, e => match e with | .UnaryOp .Not x _ => okE S a x && !isPeek a | _ => false
  | .tru _, _ => false
  | .ite c a b, e => match e with | .IfExp t x y _ => okC S c t && okE S a x && okE S b y && !isPeek a && !isPeek b | _ => false
  | .chain o1 o2 a b c, e => match e with | .Compare x [p, q] [y, z] _ => cmpP o1 p && cmpP o2 q && okE S a x && okE S b y && okE S c z && !lastMarks [p, q] [y, z] | _ => false
  | .tup es, e => match e with | .Tuple vs _ _ => okA S es vs | _ => false
  | .lst es, e => match e with | .List vs _ => okA S es vs | _ => false
  | .cell es, e => match e with | .List vs _ => okA S es vs | _ => false
  | .blt b es, e => match e with | .Call (.Name x _) (v :: vs) [] _ => decide (x = bltNm b) && bltOk S x && okW S es (v :: vs) | _ => false
  | .isi t a, e => match e with | .Call (.Name x _) [y, .Name z _] [] _ => decide (x = "isinstance" ∧ z = Str.ofString t.nm) && bltOk S x && bltOk S z && okE S a y && !isStar y | _ => false
  | .call f es, e => match e with
    | .Call (.Name x _) vs [] _ => nmOk x && glOk S x && (match S.funs.lookup f with | some F => decide (F.name = x) | none => false) && okA S es vs && vs.all fun v => !isStar v
    | _ => false
  | .comp it t ifs elt own, e => match e with
    | .ListComp x [⟨tg, iter, fs, 0⟩] scope _ => okI S it tg iter && blkC S.N S.sc scope (ownP S own) && slotsIn t own && okT (blkS S scope) t tg && okF (blkS S scope) ifs fs && okE (blkS S scope) elt x && !isPeek elt && !isSet iter
    | _ => false
  | .comp2 it t ifs it2 t2 ifs2 elt own vs1, e => match e with
    | .ListComp x [⟨tg, iter, fs, 0⟩, ⟨tg2, iter2, fs2, 0⟩] scope _ => okI S it tg iter && blkC S.N S.sc scope (ownP S own) && slotsIn t own && slotsIn t2 vs1 && (vs1.all fun i => decide (i ∈ own)) && okT (blkS S scope) t tg && okF (blkS S scope) ifs fs
        && okI (blkS S scope) it2 tg2 iter2 && okT (blkS S scope) t2 tg2 && okF (blkS S scope) ifs2 fs2 && okE (blkS S scope) elt x && !isPeek elt && !isSet iter && !isSet iter2
    | _ => false
/-- tests -/
def okC (S : Sta) : Ex → Expr → Bool
  | .tru a, e => okE S a e && plainT e
  | .and es, e => match e with | .BoolOp .And vs _ => okCL S es vs | _ => false
  | .or es, e => match e with | .BoolOp .Or vs _ => okCL S es vs | _ => false
  | .not a, e => match e with | .UnaryOp .Not x _ => okC S a x | _ => false
  | .cst d, e => (cstP S d e || globP S d e) && plainT e
  | .var i, e => match e with | .Name x _ => nmOk x && slotOk S i x && visOk S x | _ => false
  | .cmp op a b, e => match e with | .Compare x [o] [y] _ => cmpP op o && okE S a x && okE S b y && !behindInMarks o y | _ => false
  | .ix a b, e => match e with | .Subscript x y _ => okE S a x && okE S b y && !isSlice y | _ => false
  | .chain o1 o2 a b c, e => match e with | .Compare x [p, q] [y, z] _ => cmpP o1 p && cmpP o2 q && okE S a x && okE S b y && okE S c z && !lastMarks [p, q] [y, z] | _ => false
  | .blt b es, e => match e with | .Call (.Name x _) (v :: vs) [] _ => decide (x = bltNm b) && bltOk S x && okW S es (v :: vs) | _ => false
  | .isi t a, e => match e with | .Call (.Name x _) [y, .Name z _] [] _ => decide (x = "isinstance" ∧ z = Str.ofString t.nm) && bltOk S x && bltOk S z && okE S a y && !isStar y | _ => false
  | .call f es, e => match e with
    | .Call (.Name x _) vs [] _ => nmOk x && glOk S x && (match S.funs.lookup f with | some F => decide (F.name = x) | none => false) && okA S es vs && vs.all fun v => !isStar v
    | _ => false
  | _, _ => false
def okCL (S : Sta) : Exs → List Expr → Bool
  | .cons e .nil, [x] => okC S e x
  | .cons e r, x :: xs => okC S e x && okCL S r xs
  | _, _ => false
/-- one after the other, values, no star, one at least -/
def okL (S : Sta) : Exs → List Expr → Bool
  | .cons e .nil, [x] => okE S e x && !isPeek e
  | .cons e r, x :: xs => okE S e x && !isPeek e && okL S r xs
  | _, _ => false
/-- arguments: values, stars -/
def okA (S : Sta) : Exs → List Expr → Bool
  | .nil, [] => true
  | .cons e r, x :: xs => okE S e x && !isPeek e && !isStar x && okA S r xs
  | .star e r, .Starred x _ :: xs => okE S e x && okA S r xs
  | _, _ => false
/-- operands, no star -/
def okW (S : Sta) : Exs → List Expr → Bool
  | .nil, [] => true
  | .cons e r, x :: xs => okE S e x && !isStar x && okW S r xs
  | _, _ => false
def okO (S : Sta) : Exo → Option Expr → Bool
  | .no, none => true
  | .yes e, some x => okE S e x && !isPeek e
  | _, _ => false
def okF (S : Sta) : Exo → List Expr → Bool
  | .no, [] => true
  | .yes e, [x] => okC S e x
  | _, _ => false
def okI (S : Sta) : Itr → Expr → Expr → Bool
  | .seq e, _, x => okE S e x && !isPeek e
  | .range es, _, x => match x with | .Call (.Name y _) vs [] _ => decide (y = "range" ∧ (vs.length = 1 ∨ vs.length = 2 ∨ vs.length = 3)) && bltOk S y && okW S es vs | _ => false
  | .zip es, tg, x => match tg, x with | .Tuple .., .Call (.Name y _) [a, b] [] _ => decide (y = "zip") && bltOk S y && okA S es [a, b] && !isStar a && !isStar b | _, _ => false
end
def sameLine (a b : Pos) : Bool := a.endLine == b.line
def isLc : Ex → Bool
  | .comp .. => true | .comp2 .. => true
  | _ => false
/-- name = value on the name's line: a comprehension's value is stored within its frame where the name is local -/
def asgOk (S : Sta) (x : Str) (py : Pos) (e : Expr) : Bool := match e with
  | .ListComp _ _ scope p => decide (S.sc.names.lookup x = some .local) && (py.line == p.line) && !(scope.names.any fun (n, k) => n == x && (k == .local || k == .cell))
  | e => !isComp e
mutual
def okS (S : Sta) : Sm → Stmt → Bool
  | .set i e, s => match s with | .Assign [.Name x py] v _ => slotOk S i x && tgOk S x && okE S e v && !isPeek e && asgOk S x py v | _ => false
  | .own i e, s => match s with | .Assign [.Name x py] v _ => slotOk S i x && tgOk S x && okE S e v && isFresh e && asgOk S x py v | _ => false
  | .tg t e, s => match s with | .Assign [.Tuple es k p] v _ => okT S t (.Tuple es k p) && okE S e v && !isPeek e && !isTup v | _ => false
  | .ixs o i e, s => match s with | .Assign [.Subscript x y _] v _ => okE S o x && okE S i y && okE S e v && !isPeek o && !isPeek i && !isPeek e && !isSlice y | _ => false
  | .aug op i e, s => match s with
    | .AugAssign (.Name x _) o v _ => (match op, o with | .add, .Add => true | .sub, .Sub => true | _, _ => false) && slotOk S i x && tgOk S x && okE S e v
    | _ => false
  | .app i e, s => match s with
    | .Expr (.Call (.Attribute (.Name x _) m ap) [v] [] cp) _ => decide (m = "append") && nmOk x && slotOk S i x && visOk S x && okE S e v && !isPeek e && !isStar v && sameLine ap cp
    | _ => false
  | .ret e, s => match s with | .Return (some v) _ => okE S e v && !isPeek e | _ => false
  | .retN, s => match s with | .Return none _ => true | _ => false
  | .pass, s => match s with | .Pass _ => true | _ => false
  | .brk, s => match s with | .Break _ => true | _ => false
  | .cont, s => match s with | .Continue _ => true | _ => false
  | .expr e, s => match s with | .Expr v _ => okE S e v && !isPeek e && !isComp v | _ => false
  | .ite c a b, s => match s with | .If t x y _ => okC S c t && okSs S a x && okSs S b y | _ => false
  | .whl c b, s => match s with | .While t x [] _ => okC S c t && okSs S b x | _ => false
  | .forr it t b, s => match s with | .For tg iter x [] _ => okI S it tg iter && okT S t tg && okSs S b x && !isSet iter | _ => false
def okSs (S : Sta) : Sms → List Stmt → Bool
  | .nil, [] => true
  | .cons s r, x :: xs => okS S s x && okSs S r xs
  | .frz _ r, xs => okSs S r xs
  | _, _ => false
end
end Iv

/-! Iv, part I: what the checker accepts, the model runs as the evaluator says. -/
namespace Iv
open PySem L2
variable {G : GC} {C : CallH} {k : Nat}

structure Good (G : GC) (S : Sta) (k : Nat) (X : Cx) (E : XK) : Prop where
  hP : X.prog = G.P
  hw : X.w = G.w
  hK : X.K = G.K
  hm : X.mg = G.mg
  hb : X.base = G.base
  hN : X.N = S.N
  nd : S.N.Nodup
  sc : X.env.scope = S.sc
  tg : ∀ x, tgOk S x = true → Loc X.env.scope x ∧ (X.fn x = true ∨ X.env.scope.names.lookup x = some .local)
  calm : X.calm = true
  room : Room k X.A
  pass : Passes (L2.CX X.prog X.w) X E
structure GOk (G : GC) (C : CallH) (k : Nat) (globs : List (Str × D)) (blts : List Str) (funs : List (Nat × FnE)) : Prop where
  glob : ∀ x d, globs.lookup x = some d → ∃ u v, G.mg x = some u ∧ RelV v u ∧ ∀ W, Rep G W d v
  blt : ∀ x ∈ blts, G.mg x = none
  fn : ∀ i F, funs.lookup i = some F → ∃ f fd ps, G.mg F.name = some (.ref f) ∧ PySem.W.keepIn G.K (.ref f) = true ∧ Binds G.K fd ps [] ∧
    FnOk G.P G.w G.K G.mg G.base (L2.CX G.P G.w) k f fd ps (spI G (C i) F.arity) ∧ ∀ ds h K Y, ((C i) ds h).post K Y → ds.length = F.arity
abbrev GS (G : GC) (C : CallH) (k : Nat) (S : Sta) : Prop := GOk G C k S.globs S.blts S.funs

structure SE (G : GC) (C : CallH) (X : Cx) (E : XK) (pe : Expr) (e : Ex) : Prop where
  val : isPeek e = false → PE X pe (tR G (rrE G) E (evE C e))
  opd : PE X pe (tR G (rrO G) E (evE C e))
  fr : isFresh e = true → PE X pe (tR G (rrF G) E (evE C e))
section
variable {X : Cx} {E : XK} {pe : Expr} {e : Ex} {S : Sta}
theorem plain_true (h : plainT pe = true) (env : PySem.Env) : ∀ whole, isTrue pe env whole = (do let v ← whole; standAt pe.pos; holding [v] (truthy v)) := by
  intro whole
  cases pe with
  | UnaryOp op x p => cases op <;> first | rfl | exact Bool.noConfusion (show false = true from h)
  | BoolOp => exact Bool.noConfusion (show false = true from h)
  | IfExp => exact Bool.noConfusion (show false = true from h)
  | Compare => exact Bool.noConfusion (show false = true from h)
  | _ => rfl
theorem SE.ofVp (hf : isFresh e = false) (h : PE X pe (tR G (rrE G) E (evE C e))) : SE G C X E pe e :=
  ⟨fun _ => h, pe_E2O h, fun z => by rw [hf] at z; exact Bool.noConfusion z⟩
theorem SE.ofF (h : PE X pe (tR G (rrF G) E (evE C e))) : SE G C X E pe e := ⟨fun _ => pe_F2E h, pe_E2O (pe_F2E h), fun _ => h⟩
theorem Good.slot (g : Good G S k X E) {i : Nat} {x : Str} (h : slotOk S i x = true) : X.N[i]? = some x := by rw [g.hN]; exact of_decide_eq_true h
theorem Good.vis (g : Good G S k X E) {x : Str} (h : visOk S x = true) : Vis X.env.scope x := by
  unfold Vis
  rw [g.sc]
  unfold visOk at h
  split at h
  · exact .inl (by assumption)
  · exact .inr (.inl (by assumption))
  · exact .inr (.inr (by assumption))
  · cases h
theorem Good.gl (g : Good G S k X E) {x : Str} (h : glOk S x = true) : Gl X x := by
  show X.env.scope.names.lookup x = some .globalImplicit
  rw [g.sc]; exact of_decide_eq_true h
theorem nmOk_of {x : Str} (h : nmOk x = true) : (x == ("__debug__" : Str)) = false ∧ (x == ("__classdict__" : Str)) = false ∧ x ≠ "__name__" := by
  simp only [nmOk, Bool.and_eq_true, Bool.not_eq_true', decide_eq_true_eq] at h
  exact ⟨h.1.1, h.1.2, h.2⟩
theorem Good.blt (g : Good G S k X E) (hG : GS G C k S) {x : Str} (h : bltOk S x = true) : Gl X x ∧ X.mg x = none := by
  simp only [bltOk, Bool.and_eq_true, decide_eq_true_eq] at h
  exact ⟨g.gl h.1, by rw [g.hm]; exact hG.blt x h.2⟩
theorem Good.hu (g : Good G S k X E) : X.A.units + 70 < cLine := by have := g.room.un; omega
theorem noStar {x : Expr} (h : isStar x = false) : ∀ a p, x ≠ .Starred a p := fun a p e => by rw [e] at h; cases h
theorem noSlice {x : Expr} (h : isSlice x = false) : ∀ a b c p, x ≠ .Slice a b c p := fun a b c p e => by rw [e] at h; cases h
theorem noSet {x : Expr} (h : isSet x = false) : ∀ a b p, x ≠ .Set a b p := fun a b p e => by rw [e] at h; cases h
theorem plainIx {x : Expr} (h : isSlice x = false) : PlainIx x := by
  intro o i
  cases x <;> first
    | rfl
    | exact Bool.noConfusion (show true = false from h)
theorem bin_sem (g : Good G S k X E) {op : BOp} {o : Operator} (h : binP op o = true) : (op = .add ∧ OpR X (binaryOp o) (rAdd G.K) ∧ OpSem G (rrF G) (rAdd G.K) (binF op)) ∨ (op ≠ .add ∧ ∃ r, OpR X (binaryOp o) r ∧ OpSem G (rrE G) r (binF op)) := by
  cases op <;> cases o <;> first | exact Bool.noConfusion (show false = true from h) | skip
  · exact .inl ⟨rfl, by rw [← g.hK]; exact op_addA, sem_add⟩
  · exact .inr ⟨by simp, _, op_sub, sem_sub⟩
  · exact .inr ⟨by simp, _, op_mul, sem_mul⟩
  · exact .inr ⟨by simp, _, op_fdiv, sem_fdiv⟩
  · exact .inr ⟨by simp, _, op_mod, sem_mod⟩
  · exact .inr ⟨by simp, _, op_pow, sem_pow⟩
  · exact .inr ⟨by simp, _, op_and, sem_and⟩
theorem cmp_sem (g : Good G S k X E) {op : COp} {o : CmpOp} (h : cmpP op o = true) : ∃ r, OpR X (compareOp o) r ∧ OpSem G (rrE G) r (cmpF op) := by
  have hu := g.hu
  cases op <;> cases o <;> first | exact Bool.noConfusion (show false = true from h) | skip
  · exact ⟨_, by rw [← g.hK]; exact op_eqP hu, sem_eq⟩
  · exact ⟨_, by rw [← g.hK]; exact op_neP hu, sem_ne⟩
  · exact ⟨_, by rw [← g.hK]; exact op_ord .Lt rfl hu, sem_ord .Lt⟩
  · exact ⟨_, by rw [← g.hK]; exact op_ord .LtE rfl hu, sem_ord .LtE⟩
  · exact ⟨_, by rw [← g.hK]; exact op_ord .Gt rfl hu, sem_ord .Gt⟩
  · exact ⟨_, by rw [← g.hK]; exact op_ord .GtE rfl hu, sem_ord .GtE⟩
  · exact ⟨_, by rw [← g.hK]; exact op_inA hu, sem_in⟩
  · exact ⟨_, by rw [← g.hK]; exact op_ninA hu, sem_nin⟩
  · exact ⟨_, op_isN, sem_isN⟩
  · exact ⟨_, op_notN, sem_isnN⟩
theorem cst_pe {d : D} (h : cstP S d pe = true) : PE X pe (tR G (rrE G) E fun _ => ret d) := by
  unfold cstP at h
  split at h
  · have := of_decide_eq_true h; subst this; exact pev_cst pe_int fun W => .int _
  · have := of_decide_eq_true h; subst this; exact pev_cst pe_bl fun W => .bl _
  · exact pev_cst pe_non fun W => .non
  · have q := of_decide_eq_true h
    obtain ⟨e, z⟩ := q
    subst e
    exact pev_cst pe_str fun W => .str _ (by rw [sizeLine_eq]; exact z)
  · cases h
theorem glob_pe (g : Good G S k X E) (hG : GS G C k S) {d : D} (h : globP S d pe = true) : PE X pe (tR G (rrE G) E fun _ => ret d) := by
  unfold globP at h
  split at h
  · rename_i x pos
    simp only [Bool.and_eq_true] at h
    obtain ⟨⟨h1, h2⟩, h3⟩ := h
    split at h3
    · rename_i c hc
      have e := D.beq_eq h3
      subst e
      obtain ⟨u, v, m, r, rr⟩ := hG.glob x c hc
      exact pev_cst (pe_glob (g.gl h2) (by rw [g.hm]; exact m) r (nmOk_of h1).1) rr
    · cases h3
  · cases h
theorem cst_plain {d : D} (h : cstP S d pe = true ∨ globP S d pe = true) : plainT pe = true := by
  rcases h with h | h
  · unfold cstP at h
    split at h <;> first | rfl | cases h
  · unfold globP at h
    split at h
    · rfl
    · cases h
theorem Good.blk (g : Good G S k X E) {scope : Scope} {own : List Nat} (hb : blkC S.N S.sc scope (ownP S own) = true) (s : Shared) (H : Hp) (A : Addr) (cl : List (Str × Addr)) (fp : List Addr) :
    Good G (blkS S scope) k (X.blk s H scope (compEnvC scope cl A X.env) fp) EN := by
  have e : (compEnvC scope cl A X.env).scope = relS scope S.sc := by
    rw [← g.sc]; rfl
  refine ⟨g.hP, g.hw, g.hK, g.hm, g.hb, g.hN, g.nd, e, fun x h => ?_, g.calm, g.room, passL⟩
  unfold tgOk at h
  have h : (match scope.names.lookup x with | some .local => true | some .cell => true | _ => false) = true := h
  show Loc (compEnvC scope cl A X.env).scope x ∧ ((scope.names.lookup x == some NameKind.cell) = true ∨ (compEnvC scope cl A X.env).scope.names.lookup x = some .local)
  rw [e]
  split at h
  · rename_i q
    have z : (relS scope S.sc).names.lookup x = some .local := lookup_relS_keep (by decide) q
    exact ⟨.inl z, .inr z⟩
  · rename_i q
    have z : (relS scope S.sc).names.lookup x = some .cell := lookup_relS_keep (by decide) q
    exact ⟨.inr z, .inl (by rw [q]; rfl)⟩
  · cases h
theorem ownP_snd (own : List Nat) : (ownP S own).map (·.2) = own := by
  unfold ownP
  rw [List.map_map]
  exact List.map_id' own
theorem okNs_of (g : Good G S k X E) : ∀ {is : List Nat} {es : List Expr}, okNs S is es = true → Nms X es is
  | [], [], _ => .nil
  | [], _ :: _, h => by simp [okNs] at h
  | i :: is, [], h => by simp [okNs] at h
  | i :: is, e :: es, h => by
    cases e <;> simp only [okNs, Bool.false_eq_true, Bool.and_eq_true] at h
    obtain ⟨⟨h1, h2⟩, h3⟩ := h
    obtain ⟨a, b⟩ := g.tg _ h2
    exact .cons (g.slot h1) a b (okNs_of g h3)
theorem okT_of (g : Good G S k X E) {t : Tg} {e : Expr} (h : okT S t e = true) : PG X e (gTr G t) := by
  have hN : X.N.Nodup := by rw [g.hN]; exact g.nd
  unfold okT at h
  split at h
  · simp only [Bool.and_eq_true] at h
    obtain ⟨a, b⟩ := g.tg _ h.2
    exact pgv_name hN (g.slot h.1) a b
  · exact pgv_tup g.hK g.calm hN (okNs_of g h)
  · cases h
theorem blt_name (b : Blt) : nmOk (bltNm b) = true ∧ bootBuiltins (bltNm b) = some (bltVal b) := by
  cases b <;> decide +kernel
/-- a call of a def -/
theorem pev_callN (g : Good G S k X E) {n : Nat} {f : Addr} {fd : FuncData} {ps : List Str} {F : List D → M D} {x : Str} {vs : List Expr} {ev : Env → M (List D)} {p pos : Pos}
    (hF : FnOk G.P G.w G.K G.mg G.base (L2.CX G.P G.w) k f fd ps (spI G F n)) (hn : ∀ ds h K Y, (F ds h).post K Y → ds.length = n) (hg : Gl X x) (hm : G.mg x = some (.ref f)) (hk : PySem.W.keepIn G.K (.ref f) = true) (hb : Binds G.K fd ps [])
    (ha : PA X vs (tAr G E ev)) (hdb : (x == ("__debug__" : Str)) = false) (h : ∀ u ∈ vs, ∀ a p, u ≠ .Starred a p) (he : vs = [] → ev = aNil) : PE X (.Call (.Name x p) vs [] pos) (tR G (rrE G) E (eCall F ev)) := by
  have hF' : FnOk X.prog X.w X.K X.mg X.base (L2.CX X.prog X.w) k f fd ps (spI G F n) := by rw [g.hP, g.hw, g.hK, g.hm, g.hb]; exact hF
  have hm' : X.mg x = some (.ref f) := by rw [g.hm]; exact hm
  have hk' : PySem.W.keepIn X.K (.ref f) = true := by rw [g.hK]; exact hk
  have hb' : Binds X.K fd ps [] := by rw [g.hK]; exact hb
  cases vs with
  | nil =>
    rw [he rfl]
    refine pe_imp (pe_call0 hF' g.room hg hm' hk' hb' .nil g.pass hdb) fun σ H Q ⟨W, hh, env, H0, hr, er, p⟩ => ?_
    have p : (F [] hh).post (KQ G (rrE G) W H Q) (KX G E W H) := p
    exact ⟨W, hh, [], hr, .nil, hn _ _ _ _ p, p⟩
  | cons e es =>
    refine pe_imp (pe_call hF' g.room hg hm' hk' hb' .nil g.pass ha hdb (starEach_cons fun a p => h e List.mem_cons_self a p) (noStar_any fun u hu => h u (List.mem_cons_of_mem _ hu))) fun σ H Q ⟨W, hh, env, H0, hr, er, p⟩ => ?_
    refine ⟨W, hh, env, H0, hr, er, (post_bnd.mp p).mono (fun ds h1 p1 W1 H1 vs f1 hr1 r1 => ?_) fun _ _ _ k => k⟩
    show spI G F n (vs ++ []) H1 Q E
    rw [List.append_nil]
    exact ⟨W1, h1, ds, hr1, r1, hn _ _ _ _ p1, R.post.mono p1 (fun d h2 k => k.step upE f1) fun _ _ _ k => k.step f1⟩
end
end Iv

/-! Iv, part J: the checker is sound, expressions. -/
namespace Iv
open PySem L2
variable {G : GC} {C : CallH} {k : Nat}

theorem not_true {b : Bool} (h : (!b) = true) : b = false := by cases b <;> first | rfl | cases h
theorem bin_fresh {op : BOp} {a b : Ex} (h : op ≠ .add) : isFresh (.bin op a b) = false := by cases op <;> first | rfl | exact absurd rfl h
theorem slots_of {t : Tg} {own : List Nat} (h : slotsIn t own = true) : ∀ i ∈ t.slots, i ∈ own := fun i hi => of_decide_eq_true (List.all_eq_true.mp h i hi)
theorem pt_ofB {X : Cx} {e : Expr} {E : XK} {ev : Env → M D} (h : PE X e (tR G (rrE G) E ev)) (he : plainT e = true) : PT X e (tTr G E (toB ev)) := ptv_val h (plain_true he _)
theorem evAnd2 (e : Ex) (e2 : Ex) (r : Exs) : evAnd C (.cons e (.cons e2 r)) = eAnd (toB (evE C e)) (evAnd C (.cons e2 r)) := rfl
theorem evOr2 (e : Ex) (e2 : Ex) (r : Exs) : evOr C (.cons e (.cons e2 r)) = eOr (toB (evE C e)) (evOr C (.cons e2 r)) := rfl

theorem evA_len {S : Sta} : ∀ {es : Exs} {pes : List Expr} {env : Env} {h h' : IH} {ds : List D}, okW S es pes = true → evA C es env h = .ok ds h' → ds.length = pes.length
  | .nil, [], env, h, h', ds, _, e => by cases e; rfl
  | .nil, _ :: _, _, _, _, _, q, _ => by simp [okW] at q
  | .cons e r, [], _, _, _, _, q, _ => by simp [okW] at q
  | .star e r, pes, _, _, _, _, q, _ => by simp [okW] at q
  | .cons e r, x :: pes, env, h, h', ds, q, z => by
    rw [okW] at q
    simp only [Bool.and_eq_true] at q
    have z : bnd (evE C e env) (fun d => bnd (evA C r env) fun ds => ret (d :: ds)) h = .ok ds h' := z
    unfold bnd at z
    cases c : evE C e env h with
    | bad => rw [c] at z; cases z
    | ex => rw [c] at z; cases z
    | ok d h1 =>
      rw [c] at z
      have z : bnd (evA C r env) (fun ds => ret (d :: ds)) h1 = .ok ds h' := z
      unfold bnd at z
      cases c2 : evA C r env h1 with
      | bad => rw [c2] at z; cases z
      | ex => rw [c2] at z; cases z
      | ok ds2 h2 =>
        rw [c2] at z
        cases z
        rw [List.length_cons, List.length_cons, evA_len q.2 c2]
theorem rangeF_as {S : Sta} {es : Exs} {vs : List Expr} {n : Nat} {f : List D → Option (List D)} (ok : okW S es vs = true) (hn : vs.length = n) (hf : ∀ ds : List D, ds.length = n → rangeF ds = f ds) : iArgs rangeF (evA C es) = iArgs f (evA C es) := by
  funext env h
  show bnd (evA C es env) (fun ds => lft (rangeF ds)) h = bnd (evA C es env) (fun ds => lft (f ds)) h
  unfold bnd
  cases c : evA C es env h with
  | bad => rfl
  | ex => rfl
  | ok ds h1 => show lft (rangeF ds) h1 = lft (f ds) h1; rw [hf ds ((evA_len ok c).trans hn)]
theorem pivv_range {X : Cx} {E : XK} {tg : Expr} {vs : List Expr} {p pos : Pos} {S : Sta} {es : Exs} (hg : Gl X "range") (hm : X.mg "range" = none) (ha : PA X vs (tOr G E (evA C es))) (hn : ∀ u ∈ vs, ∀ a p, u ≠ .Starred a p) (ok : okW S es vs = true)
    (hl : vs.length = 1 ∨ vs.length = 2 ∨ vs.length = 3) : PI X tg (.Call (.Name "range" p) vs [] pos) (tIr G E (iArgs rangeF (evA C es))) := by
  rcases hl with hl | hl | hl
  · match vs, hl with
    | [a], _ =>
      rw [rangeF_as ok rfl (f := range1) fun ds h => match ds, h with | [_], _ => rfl]
      exact pivv_range1 hg hm ha (hn a (by simp))
  · match vs, hl with
    | [a, b], _ =>
      rw [rangeF_as ok rfl (f := range2) fun ds h => match ds, h with | [_, _], _ => rfl]
      exact pivv_range2 hg hm ha (hn a (by simp)) (hn b (by simp))
  · match vs, hl with
    | [a, b, c], _ =>
      rw [rangeF_as ok rfl (f := range3) fun ds h => match ds, h with | [_, _, _], _ => rfl]
      exact pivv_range3 hg hm ha (hn a (by simp)) (hn b (by simp)) (hn c (by simp))
theorem evCA2 (e : Ex) (e2 : Ex) (r : Exs) : evCA C (.cons e (.cons e2 r)) = cAnd (evC C e) (evCA C (.cons e2 r)) := rfl
theorem evCO2 (e : Ex) (e2 : Ex) (r : Exs) : evCO C (.cons e (.cons e2 r)) = cOr (evC C e) (evCO C (.cons e2 r)) := rfl
mutual
theorem sE : ∀ (e : Ex) (S : Sta) (X : Cx) (E : XK) (pe : Expr), okE S e pe = true → Good G S k X E → GS G C k S → SE G C X E pe e
  | .cst d, S, X, E, pe, h, g, hG => by
    rw [okE, Bool.or_eq_true] at h
    refine .ofVp rfl ?_
    rcases h with h | h
    · exact cst_pe h
    · exact glob_pe g hG h
  | .var i, S, X, E, pe, h, g, hG => by
    unfold okE at h
    split at h
    · simp only [Bool.and_eq_true] at h
      obtain ⟨⟨h1, h2⟩, h3⟩ := h
      obtain ⟨n1, n2, _⟩ := nmOk_of h1
      exact .ofVp rfl (pev_var (g.slot h2) (g.vis h3) n1 n2)
    · cases h
  | .peek i, S, X, E, pe, h, g, hG => by
    unfold okE at h
    split at h
    · simp only [Bool.and_eq_true] at h
      obtain ⟨⟨h1, h2⟩, h3⟩ := h
      obtain ⟨n1, n2, _⟩ := nmOk_of h1
      exact ⟨fun z => Bool.noConfusion z, pev_peek (g.slot h2) (g.vis h3) n1 n2, fun z => Bool.noConfusion z⟩
    · cases h
  | .bin op a b, S, X, E, pe, h, g, hG => by
    unfold okE at h
    split at h
    · simp only [Bool.and_eq_true] at h
      obtain ⟨⟨h1, h2⟩, h3⟩ := h
      have ha := (sE a S X E _ h2 g hG).opd
      have hb := (sE b S X E _ h3 g hG).opd
      rcases bin_sem g h1 with ⟨e, o, s⟩ | ⟨n, r, o, s⟩
      · subst e
        exact .ofF (pev_op upF o s ha hb)
      · exact .ofVp (bin_fresh n) (pev_op upE o s ha hb)
    · cases h
  | .cmp op a b, S, X, E, pe, h, g, hG => by
    unfold okE at h
    split at h
    · simp only [Bool.and_eq_true] at h
      obtain ⟨⟨⟨h1, h2⟩, h3⟩, h4⟩ := h
      have ha := (sE a S X E _ h2 g hG).opd
      have hb := (sE b S X E _ h3 g hG).opd
      obtain ⟨r, o, s⟩ := cmp_sem g h1
      exact .ofVp rfl (pev_cmp o s ha hb (not_true h4))
    · cases h
  | .ix a b, S, X, E, pe, h, g, hG => by
    unfold okE at h
    split at h
    · simp only [Bool.and_eq_true] at h
      obtain ⟨⟨h1, h2⟩, h3⟩ := h
      have ha := (sE a S X E _ h1 g hG).opd
      have hb := (sE b S X E _ h2 g hG).opd
      exact .ofVp rfl (pev_ix (by rw [← g.hK]; exact ix_seq) sem_ix ha hb (plainIx (not_true h3)))
    · cases h
  | .sl a lo hi, S, X, E, pe, h, g, hG => by
    unfold okE at h
    split at h
    · simp only [Bool.and_eq_true] at h
      obtain ⟨⟨h1, h2⟩, h3⟩ := h
      exact .ofF (pev_sl g.hK (sE a S X E _ h1 g hG).opd (sO lo S X E _ h2 g hG) (sO hi S X E _ h3 g hG))
    · cases h
  | .and es, S, X, E, pe, h, g, hG => by
    unfold okE at h
    split at h
    · have := sL es S X E _ h g hG
      rename_i pos
      exact .ofVp rfl (this pos).1
    · cases h
  | .or es, S, X, E, pe, h, g, hG => by
    unfold okE at h
    split at h
    · have := sL es S X E _ h g hG
      rename_i pos
      exact .ofVp rfl (this pos).2
    · cases h
  | .neg a, S, X, E, pe, h, g, hG => by
    unfold okE at h
    split at h
    · simp only [Bool.and_eq_true] at h
      exact .ofVp rfl (pev_neg ((sE a S X E _ h.1 g hG).val (not_true h.2)))
    · cases h
  | .not a, S, X, E, pe, h, g, hG => by
    unfold okE at h
    split at h
    · simp only [Bool.and_eq_true] at h
      have ha := sE a S X E _ h.1 g hG
      exact .ofVp rfl (pev_not (ha.val (not_true h.2)))
    · cases h
  | .tru a, S, X, E, pe, h, g, hG => by
    unfold okE at h
    cases h
  | .ite c a b, S, X, E, pe, h, g, hG => by
    unfold okE at h
    split at h
    · simp only [Bool.and_eq_true] at h
      obtain ⟨⟨⟨⟨h1, h2⟩, h3⟩, h5⟩, h6⟩ := h
      exact .ofVp rfl (pev_ifG upE (sC c S X E _ h1 g hG) ((sE a S X E _ h2 g hG).val (not_true h5)) ((sE b S X E _ h3 g hG).val (not_true h6)))
    · cases h
  | .chain o1 o2 a b c, S, X, E, pe, h, g, hG => by
    unfold okE at h
    split at h
    · simp only [Bool.and_eq_true] at h
      obtain ⟨⟨⟨⟨⟨h1, h2⟩, h3⟩, h4⟩, h5⟩, h6⟩ := h
      obtain ⟨r, o, s⟩ := cmp_sem g h1
      obtain ⟨r', o', s'⟩ := cmp_sem g h2
      have ha := (sE a S X E _ h3 g hG).opd
      have hb := (sE b S X E _ h4 g hG).opd
      have hc := (sE c S X E _ h5 g hG).opd
      exact .ofVp rfl (pev_chain o o' s s' ha hb hc (not_true h6))
    · cases h
  | .tup es, S, X, E, pe, h, g, hG => by
    unfold okE at h
    split at h
    · exact .ofVp rfl (pev_tup (sA es S X E _ h g hG))
    · cases h
  | .lst es, S, X, E, pe, h, g, hG => by
    unfold okE at h
    split at h
    · exact .ofF (pev_lst (sA es S X E _ h g hG))
    · cases h
  | .cell es, S, X, E, pe, h, g, hG => by
    unfold okE at h
    split at h
    · exact .ofVp rfl (pev_cell (sA es S X E _ h g hG))
    · cases h
  | .blt b es, S, X, E, pe, h, g, hG => by
    unfold okE at h
    split at h
    · simp only [Bool.and_eq_true, decide_eq_true_eq] at h
      obtain ⟨⟨h1, h2⟩, h3⟩ := h
      obtain ⟨q1, q2⟩ := g.blt hG h2
      subst h1
      obtain ⟨n1, n2⟩ := blt_name b
      obtain ⟨m1, _, m3⟩ := nmOk_of n1
      obtain ⟨ha, hn⟩ := sW es S X E _ h3 g hG
      cases b with
      | len => exact .ofVp rfl (pev_bltB upE (by rw [← g.hK]; exact cr_len) blt_len q1 q2 n2 ha m3 m1 hn)
      | int => exact .ofVp rfl (pev_bltT upE call_int1 blt_int q1 q2 n2 ha m3 m1 hn)
      | str => exact .ofVp rfl (pev_bltT upE call_str_int blt_str q1 q2 n2 ha m3 m1 hn)
      | list => exact .ofF (pev_bltT upF (by rw [← g.hK]; exact call_list_of) blt_list q1 q2 n2 ha m3 m1 hn)
      | tuple => exact .ofVp rfl (pev_bltT upE (by rw [← g.hK]; exact call_tuple_of) blt_tuple q1 q2 n2 ha m3 m1 hn)
      | all => exact .ofVp rfl (pev_bltB upE (by rw [← g.hK]; exact cr_all g.calm) blt_all q1 q2 n2 ha m3 m1 hn)
      | any => exact .ofVp rfl (pev_bltB upE (by rw [← g.hK]; exact cr_any g.calm) blt_any q1 q2 n2 ha m3 m1 hn)
    · cases h
  | .isi t a, S, X, E, pe, h, g, hG => by
    unfold okE at h
    split at h
    · simp only [Bool.and_eq_true, decide_eq_true_eq] at h
      obtain ⟨⟨⟨⟨⟨h0, h1⟩, h2⟩, h3⟩, h4⟩, h5⟩ := h
      subst h0 h1
      obtain ⟨q1, q2⟩ := g.blt hG h2
      obtain ⟨q3, q4⟩ := g.blt hG h3
      have ht : bootBuiltins (Str.ofString t.nm) = some (.type t.nm) ∧ (Str.ofString t.nm) ≠ "__name__" ∧ (Str.ofString t.nm == ("__debug__" : Str)) = false := by
        cases t <;> decide +kernel
      exact .ofVp rfl (pev_isi g.hK q1 q2 q3 q4 ht.1 ht.2.1 ht.2.2 (sE a S X E _ h4 g hG).opd (noStar (not_true h5)))
    · cases h
  | .call f es, S, X, E, pe, h, g, hG => by
    unfold okE at h
    split at h
    · simp only [Bool.and_eq_true] at h
      obtain ⟨⟨⟨⟨h1, h2⟩, h3⟩, h4⟩, h5⟩ := h
      obtain ⟨n1, n2, n3⟩ := nmOk_of h1
      split at h3
      · rename_i F hF
        have e := of_decide_eq_true h3
        subst e
        obtain ⟨fa, fd, ps, k1, k2, k3, k4, k5⟩ := hG.fn f F hF
        obtain ⟨p1, p2⟩ := sA' es S X E _ h4 g hG
        exact .ofVp rfl (pev_callN g k4 k5 (g.gl h2) k1 k2 k3 p1 n1 (fun u hu => noStar (not_true (List.all_eq_true.mp h5 u hu))) p2)
      · cases h3
    · cases h
  | .comp it t ifs elt own, S, X, E, pe, h, g, hG => by
    unfold okE at h
    split at h
    · simp only [Bool.and_eq_true] at h
      obtain ⟨⟨⟨⟨⟨⟨⟨h1, h2⟩, h3⟩, h4⟩, h5⟩, h6⟩, h7⟩, h8⟩ := h
      have ok := blkOk_by h2
      rw [← g.hN, ← g.sc] at ok
      have hd : X.N.Nodup := by rw [g.hN]; exact g.nd
      rename_i pos
      have q := pev_comp (pos := pos) (own := ownP S own) (E := E) g.calm hd (sI it S X E _ _ h1 g hG) ok (by rw [ownP_snd]; exact slots_of h3)
        (fun s H A cl fp => okT_of (g.blk h2 s H A cl fp) h4) (fun s H A cl fp => sF ifs _ _ EN _ h5 (g.blk h2 s H A cl fp) hG)
        (fun s H A cl fp => (sE elt _ _ EN _ h6 (g.blk h2 s H A cl fp) hG).val (not_true h7)) (noSet (not_true h8))
      rw [ownP_snd] at q
      exact .ofF q
    · cases h
  | .comp2 it t ifs it2 t2 ifs2 elt own vs1, S, X, E, pe, h, g, hG => by
    unfold okE at h
    split at h
    · simp only [Bool.and_eq_true] at h
      obtain ⟨⟨⟨⟨⟨⟨⟨⟨⟨⟨⟨⟨⟨h1, h2⟩, h3⟩, h4⟩, h5⟩, h6⟩, h7⟩, h8⟩, h9⟩, h10⟩, h11⟩, h12⟩, h13⟩, h14⟩ := h
      have ok := blkOk_by h2
      rw [← g.hN, ← g.sc] at ok
      have hd : X.N.Nodup := by rw [g.hN]; exact g.nd
      rename_i pos
      have q := pev_comp2 (pos := pos) (own := ownP S own) (vs1 := vs1) (E := E) g.calm hd (sI it S X E _ _ h1 g hG) ok (by rw [ownP_snd]; exact fun i hi => of_decide_eq_true (List.all_eq_true.mp h5 i hi)) (by rw [ownP_snd]; exact slots_of h3) (slots_of h4)
        (fun s H A cl fp => okT_of (g.blk h2 s H A cl fp) h6) (fun s H A cl fp => sF ifs _ _ EN _ h7 (g.blk h2 s H A cl fp) hG)
        (fun s H A cl fp => sI it2 _ _ EN _ _ h8 (g.blk h2 s H A cl fp) hG)
        (fun s H A cl fp => okT_of (g.blk h2 s H A cl fp) h9) (fun s H A cl fp => sF ifs2 _ _ EN _ h10 (g.blk h2 s H A cl fp) hG)
        (fun s H A cl fp => (sE elt _ _ EN _ h11 (g.blk h2 s H A cl fp) hG).val (not_true h12)) (noSet (not_true h13)) (noSet (not_true h14))
      rw [ownP_snd] at q
      exact .ofF q
    · cases h
theorem sC : ∀ (e : Ex) (S : Sta) (X : Cx) (E : XK) (pe : Expr), okC S e pe = true → Good G S k X E → GS G C k S → PT X pe (tTr G E (evC C e))
  | .tru a, S, X, E, pe, h, g, hG => by
    unfold okC at h
    rw [Bool.and_eq_true] at h
    exact ptv_tru g.hK (sE a S X E _ h.1 g hG).opd (plain_true h.2 _)
  | .and es, S, X, E, pe, h, g, hG => by
    unfold okC at h
    split at h
    · have := sCL es S X E _ h g hG
      rename_i pos
      exact (this pos).1.pt
    · cases h
  | .or es, S, X, E, pe, h, g, hG => by
    unfold okC at h
    split at h
    · have := sCL es S X E _ h g hG
      rename_i pos
      exact (this pos).2.pt
    · cases h
  | .not a, S, X, E, pe, h, g, hG => by
    unfold okC at h
    split at h
    · exact ptc_not (sC a S X E _ h g hG)
    · cases h
  | .cst d, S, X, E, pe, h, g, hG => by
    unfold okC at h
    rw [Bool.and_eq_true, Bool.or_eq_true] at h
    refine pt_ofB ?_ h.2
    rcases h.1 with h | h
    · exact cst_pe h
    · exact glob_pe g hG h
  | .var i, S, X, E, pe, h, g, hG => by
    unfold okC at h
    split at h
    · simp only [Bool.and_eq_true] at h
      obtain ⟨⟨h1, h2⟩, h3⟩ := h
      obtain ⟨n1, n2, _⟩ := nmOk_of h1
      exact pt_ofB (pev_var (g.slot h2) (g.vis h3) n1 n2) rfl
    · cases h
  | .ix a b, S, X, E, pe, h, g, hG => by
    unfold okC at h
    split at h
    · simp only [Bool.and_eq_true] at h
      obtain ⟨⟨h1, h2⟩, h3⟩ := h
      have ha := (sE a S X E _ h1 g hG).opd
      have hb := (sE b S X E _ h2 g hG).opd
      exact pt_ofB (pev_ix (by rw [← g.hK]; exact ix_seq) sem_ix ha hb (plainIx (not_true h3))) rfl
    · cases h
  | .blt b es, S, X, E, pe, h, g, hG => by
    unfold okC at h
    split at h
    · simp only [Bool.and_eq_true, decide_eq_true_eq] at h
      obtain ⟨⟨h1, h2⟩, h3⟩ := h
      obtain ⟨q1, q2⟩ := g.blt hG h2
      subst h1
      obtain ⟨n1, n2⟩ := blt_name b
      obtain ⟨m1, _, m3⟩ := nmOk_of n1
      obtain ⟨ha, hn⟩ := sW es S X E _ h3 g hG
      cases b with
      | len => exact pt_ofB (pev_bltB upE (by rw [← g.hK]; exact cr_len) blt_len q1 q2 n2 ha m3 m1 hn) rfl
      | int => exact pt_ofB (pev_bltT upE call_int1 blt_int q1 q2 n2 ha m3 m1 hn) rfl
      | str => exact pt_ofB (pev_bltT upE call_str_int blt_str q1 q2 n2 ha m3 m1 hn) rfl
      | list => exact pt_ofB (pe_F2E (pev_bltT upF (by rw [← g.hK]; exact call_list_of) blt_list q1 q2 n2 ha m3 m1 hn)) rfl
      | tuple => exact pt_ofB (pev_bltT upE (by rw [← g.hK]; exact call_tuple_of) blt_tuple q1 q2 n2 ha m3 m1 hn) rfl
      | all => exact pt_ofB (pev_bltB upE (by rw [← g.hK]; exact cr_all g.calm) blt_all q1 q2 n2 ha m3 m1 hn) rfl
      | any => exact pt_ofB (pev_bltB upE (by rw [← g.hK]; exact cr_any g.calm) blt_any q1 q2 n2 ha m3 m1 hn) rfl
    · cases h
  | .isi t a, S, X, E, pe, h, g, hG => by
    unfold okC at h
    split at h
    · simp only [Bool.and_eq_true, decide_eq_true_eq] at h
      obtain ⟨⟨⟨⟨⟨h0, h1⟩, h2⟩, h3⟩, h4⟩, h5⟩ := h
      subst h0 h1
      obtain ⟨q1, q2⟩ := g.blt hG h2
      obtain ⟨q3, q4⟩ := g.blt hG h3
      have ht : bootBuiltins (Str.ofString t.nm) = some (.type t.nm) ∧ (Str.ofString t.nm) ≠ "__name__" ∧ (Str.ofString t.nm == ("__debug__" : Str)) = false := by
        cases t <;> decide +kernel
      exact pt_ofB (pev_isi g.hK q1 q2 q3 q4 ht.1 ht.2.1 ht.2.2 (sE a S X E _ h4 g hG).opd (noStar (not_true h5))) rfl
    · cases h
  | .call f es, S, X, E, pe, h, g, hG => by
    unfold okC at h
    split at h
    · simp only [Bool.and_eq_true] at h
      obtain ⟨⟨⟨⟨h1, h2⟩, h3⟩, h4⟩, h5⟩ := h
      obtain ⟨n1, n2, n3⟩ := nmOk_of h1
      split at h3
      · rename_i F hF
        have e := of_decide_eq_true h3
        subst e
        obtain ⟨fa, fd, ps, k1, k2, k3, k4, k5⟩ := hG.fn f F hF
        obtain ⟨p1, p2⟩ := sA' es S X E _ h4 g hG
        exact pt_ofB (pev_callN g k4 k5 (g.gl h2) k1 k2 k3 p1 n1 (fun u hu => noStar (not_true (List.all_eq_true.mp h5 u hu))) p2) rfl
      · cases h3
    · cases h
  | .cmp op a b, S, X, E, pe, h, g, hG => by
    unfold okC at h
    split at h
    · simp only [Bool.and_eq_true] at h
      obtain ⟨⟨⟨h1, h2⟩, h3⟩, h4⟩ := h
      have ha := (sE a S X E _ h2 g hG).opd
      have hb := (sE b S X E _ h3 g hG).opd
      obtain ⟨r, o, s⟩ := cmp_sem g h1
      exact ptv_cmp o s ha hb (not_true h4)
    · cases h
  | .chain o1 o2 a b c, S, X, E, pe, h, g, hG => by
    unfold okC at h
    split at h
    · simp only [Bool.and_eq_true] at h
      obtain ⟨⟨⟨⟨⟨h1, h2⟩, h3⟩, h4⟩, h5⟩, h6⟩ := h
      obtain ⟨r, o, s⟩ := cmp_sem g h1
      obtain ⟨r', o', s'⟩ := cmp_sem g h2
      have ha := (sE a S X E _ h3 g hG).opd
      have hb := (sE b S X E _ h4 g hG).opd
      have hc := (sE c S X E _ h5 g hG).opd
      exact ptv_chain o o' s s' ha hb hc (not_true h6)
    · cases h
  | .peek _, S, X, E, pe, h, g, hG => by
    unfold okC at h
    cases h
  | .neg _, S, X, E, pe, h, g, hG => by
    unfold okC at h
    cases h
  | .bin _ _ _, S, X, E, pe, h, g, hG => by
    unfold okC at h
    cases h
  | .sl _ _ _, S, X, E, pe, h, g, hG => by
    unfold okC at h
    cases h
  | .ite _ _ _, S, X, E, pe, h, g, hG => by
    unfold okC at h
    cases h
  | .tup _, S, X, E, pe, h, g, hG => by
    unfold okC at h
    cases h
  | .lst _, S, X, E, pe, h, g, hG => by
    unfold okC at h
    cases h
  | .cell _, S, X, E, pe, h, g, hG => by
    unfold okC at h
    cases h
  | .comp _ _ _ _ _, S, X, E, pe, h, g, hG => by
    unfold okC at h
    cases h
  | .comp2 _ _ _ _ _ _ _ _ _, S, X, E, pe, h, g, hG => by
    unfold okC at h
    cases h
theorem sL : ∀ (es : Exs) (S : Sta) (X : Cx) (E : XK) (pes : List Expr), okL S es pes = true → Good G S k X E → GS G C k S → ∀ pos : Pos,
    PE X (.BoolOp .And pes pos) (tR G (rrE G) E (evAnd C es)) ∧ PE X (.BoolOp .Or pes pos) (tR G (rrE G) E (evOr C es))
  | .nil, S, X, E, pes, h, g, hG, pos => by simp [okL] at h
  | .star _ _, S, X, E, pes, h, g, hG, pos => by simp [okL] at h
  | .cons e .nil, S, X, E, [], h, g, hG, pos => by simp [okL] at h
  | .cons e .nil, S, X, E, [x], h, g, hG, pos => by
    rw [okL, Bool.and_eq_true] at h
    have a := sE e S X E _ h.1 g hG
    exact ⟨pe_one (a.val (not_true h.2)), pe_one (a.val (not_true h.2))⟩
  | .cons e .nil, S, X, E, x :: y :: pes, h, g, hG, pos => by simp [okL] at h
  | .cons e (.cons e2 r), S, X, E, [], h, g, hG, pos => by simp [okL] at h
  | .cons e (.cons e2 r), S, X, E, [x], h, g, hG, pos => by simp [okL] at h
  | .cons e (.cons e2 r), S, X, E, x :: y :: pes, h, g, hG, pos => by
    have h : (okE S e x && !isPeek e && okL S (.cons e2 r) (y :: pes)) = true := by rw [← h]; conv => rhs; unfold okL
    simp only [Bool.and_eq_true] at h
    have a := sE e S X E _ h.1.1 g hG
    obtain ⟨b1, b3⟩ := sL (.cons e2 r) S X E _ h.2 g hG pos
    rw [evAnd2, evOr2]
    exact ⟨pev_and (a.val (not_true h.1.2)) b1, pev_or (a.val (not_true h.1.2)) b3⟩
  | .cons e (.star e2 r), S, X, E, pes, h, g, hG, pos => by
    exfalso
    cases pes with
    | nil => simp [okL] at h
    | cons x pes => cases pes <;> simp [okL] at h
theorem sCL : ∀ (es : Exs) (S : Sta) (X : Cx) (E : XK) (pes : List Expr), okCL S es pes = true → Good G S k X E → GS G C k S → ∀ pos : Pos,
    PW X (.BoolOp .And pes pos) (tTr G E (evCA C es)) ∧ PW X (.BoolOp .Or pes pos) (tTr G E (evCO C es))
  | .nil, S, X, E, pes, h, g, hG, pos => by simp [okCL] at h
  | .star _ _, S, X, E, pes, h, g, hG, pos => by simp [okCL] at h
  | .cons e .nil, S, X, E, [], h, g, hG, pos => by simp [okCL] at h
  | .cons e .nil, S, X, E, [x], h, g, hG, pos => by
    rw [okCL] at h
    have a := sC e S X E _ h g hG
    exact ⟨pw_and1 a, pw_or1 a⟩
  | .cons e .nil, S, X, E, x :: y :: pes, h, g, hG, pos => by simp [okCL] at h
  | .cons e (.cons e2 r), S, X, E, [], h, g, hG, pos => by simp [okCL] at h
  | .cons e (.cons e2 r), S, X, E, [x], h, g, hG, pos => by simp [okCL] at h
  | .cons e (.cons e2 r), S, X, E, x :: y :: pes, h, g, hG, pos => by
    have h : (okC S e x && okCL S (.cons e2 r) (y :: pes)) = true := by rw [← h]; conv => rhs; unfold okCL
    simp only [Bool.and_eq_true] at h
    have a := sC e S X E _ h.1 g hG
    obtain ⟨b1, b3⟩ := sCL (.cons e2 r) S X E _ h.2 g hG pos
    rw [evCA2, evCO2]
    exact ⟨ptc_and a b1, ptc_or a b3⟩
  | .cons e (.star e2 r), S, X, E, pes, h, g, hG, pos => by
    exfalso
    cases pes with
    | nil => simp [okCL] at h
    | cons x pes => cases pes <;> simp [okCL] at h
theorem sA : ∀ (es : Exs) (S : Sta) (X : Cx) (E : XK) (pes : List Expr), okA S es pes = true → Good G S k X E → GS G C k S → PA X pes (tAr G E (evA C es))
  | .nil, S, X, E, pes, h, g, hG => by
    cases pes with
    | nil => exact pav_nil
    | cons => simp [okA] at h
  | .cons e r, S, X, E, [], h, g, hG => by simp [okA] at h
  | .cons e r, S, X, E, x :: pes, h, g, hG => by
    rw [okA] at h
    simp only [Bool.and_eq_true] at h
    obtain ⟨⟨⟨h1, h2⟩, h3⟩, h4⟩ := h
    exact pav_cons ((sE e S X E _ h1 g hG).val (not_true h2)) (sA r S X E _ h4 g hG) (noStar (not_true h3))
  | .star e r, S, X, E, [], h, g, hG => by simp [okA] at h
  | .star e r, S, X, E, x :: pes, h, g, hG => by
    cases x <;> simp only [okA, Bool.false_eq_true, Bool.and_eq_true] at h
    exact pav_star g.hK (sE e S X E _ h.1 g hG).opd (sA r S X E _ h.2 g hG)
theorem sA' : ∀ (es : Exs) (S : Sta) (X : Cx) (E : XK) (pes : List Expr), okA S es pes = true → Good G S k X E → GS G C k S → PA X pes (tAr G E (evA C es)) ∧ (pes = [] → evA C es = aNil) := fun es S X E pes h g hG =>
  ⟨sA es S X E pes h g hG, fun e => by subst e; cases es <;> simp [okA] at h; rfl⟩
theorem sW : ∀ (es : Exs) (S : Sta) (X : Cx) (E : XK) (pes : List Expr), okW S es pes = true → Good G S k X E → GS G C k S → PA X pes (tOr G E (evA C es)) ∧ ∀ u ∈ pes, ∀ a p, u ≠ .Starred a p
  | .nil, S, X, E, pes, h, g, hG => by
    cases pes with
    | nil => exact ⟨pov_nil, fun u hu => by cases hu⟩
    | cons => simp [okW] at h
  | .cons e r, S, X, E, [], h, g, hG => by simp [okW] at h
  | .cons e r, S, X, E, x :: pes, h, g, hG => by
    rw [okW] at h
    simp only [Bool.and_eq_true] at h
    obtain ⟨⟨h1, h2⟩, h3⟩ := h
    obtain ⟨q1, q2⟩ := sW r S X E _ h3 g hG
    refine ⟨pov_cons (sE e S X E _ h1 g hG).opd q1 (noStar (not_true h2)), fun u hu => ?_⟩
    rcases List.mem_cons.mp hu with e | hu
    · rw [e]; exact noStar (not_true h2)
    · exact q2 u hu
  | .star e r, S, X, E, pes, h, g, hG => by simp [okW] at h
theorem sO : ∀ (o : Exo) (S : Sta) (X : Cx) (E : XK) (pe : Option Expr), okO S o pe = true → Good G S k X E → GS G C k S → PO X pe (tPr G E (ePart (evO C o)))
  | .no, S, X, E, none, h, g, hG => pov_none
  | .no, S, X, E, some x, h, g, hG => by simp [okO] at h
  | .yes e, S, X, E, none, h, g, hG => by simp [okO] at h
  | .yes e, S, X, E, some x, h, g, hG => by
    rw [okO, Bool.and_eq_true] at h
    exact pov_some ((sE e S X E _ h.1 g hG).val (not_true h.2))
theorem sF : ∀ (o : Exo) (S : Sta) (X : Cx) (E : XK) (pes : List Expr), okF S o pes = true → Good G S k X E → GS G C k S → PTs X pes (tTr G E (evT C o))
  | .no, S, X, E, [], h, g, hG => ptsv_nil
  | .no, S, X, E, _ :: _, h, g, hG => by simp [okF] at h
  | .yes e, S, X, E, [], h, g, hG => by simp [okF] at h
  | .yes e, S, X, E, [x], h, g, hG => by
    rw [okF] at h
    exact pts_one (sC e S X E _ h g hG)
  | .yes e, S, X, E, _ :: _ :: _, h, g, hG => by simp [okF] at h
theorem sI : ∀ (it : Itr) (S : Sta) (X : Cx) (E : XK) (tg x : Expr), okI S it tg x = true → Good G S k X E → GS G C k S → PI X tg x (tIr G E (evI C it))
  | .seq e, S, X, E, tg, x, h, g, hG => by
    rw [okI, Bool.and_eq_true] at h
    exact pivv_seq g.hK ((sE e S X E _ h.1 g hG).val (not_true h.2))
  | .range es, S, X, E, tg, x, h, g, hG => by
    unfold okI at h
    split at h
    · simp only [Bool.and_eq_true, decide_eq_true_eq] at h
      obtain ⟨⟨⟨h1, h1'⟩, h2⟩, h3⟩ := h
      subst h1
      obtain ⟨q1, q2⟩ := g.blt hG h2
      obtain ⟨p1, p2⟩ := sW es S X E _ h3 g hG
      exact pivv_range q1 q2 p1 p2 h3 h1'
    · cases h
  | .zip es, S, X, E, tg, x, h, g, hG => by
    unfold okI at h
    split at h
    · simp only [Bool.and_eq_true, decide_eq_true_eq] at h
      obtain ⟨⟨⟨⟨h1, h2⟩, h3⟩, h4⟩, h5⟩ := h
      subst h1
      obtain ⟨q1, q2⟩ := g.blt hG h2
      exact pivv_zip g.hK q1 q2 (sA es S X E _ h3 g hG) (noStar (not_true h4)) (noStar (not_true h5))
    · cases h
end
end Iv

/-! Iv, part K: the checker is sound, statements. -/
namespace Iv
open PySem L2
variable {G : GC} {C : CallH} {k : Nat} {W0 : Wd} {H0 : Hp} {X : Cx} {E : XK} {S : Sta}

theorem isComp_no {e : Expr} (h : (!isComp e) = true) : isComp e = false := not_true h
/-- name = comprehension -/
theorem asg_comp (g : Good G S k X E) (hG : GS G C k S) (hk : X.env.scope.kind = .function) {i : Nat} {x : Str} {e : Ex} {py pos sp : Pos} {elt : Expr} {gs : List Comprehension} {scope : Scope}
    (h1 : slotOk S i x = true) (h3 : okE S e (.ListComp elt gs scope pos) = true) (ha : asgOk S x py (.ListComp elt gs scope pos) = true) :
    PS X (.Assign [.Name x py] (.ListComp elt gs scope pos) sp) (tAsg (tR G (rrF G) E (evE C e)) (gName i)) := by
  have hd : X.N.Nodup := by rw [g.hN]; exact g.nd
  simp only [asgOk, Bool.and_eq_true, decide_eq_true_eq] at ha
  obtain ⟨⟨a1, a2⟩, a3⟩ := ha
  have a1' : X.env.scope.names.lookup x = some .local := by rw [g.sc]; exact a1
  have sw := sw_true (elt := elt) (gs := gs) (pos := pos) (py := py) (l := sp.line) (env := X.env) hk a1' a2 (not_true a3)
  cases e with
  | comp it t ifs elt' own =>
    unfold okE at h3
    split at h3
    · rename_i q
      cases q
      simp only [Bool.and_eq_true] at h3
      obtain ⟨⟨⟨⟨⟨⟨⟨h1', h2⟩, h3⟩, h4⟩, h5⟩, h6⟩, h7⟩, h8⟩ := h3
      have ok := blkOk_by h2
      rw [← g.hN, ← g.sc] at ok
      refine ps_imp (ps_setLc g.calm hd (g.slot h1) a1' sw (sI it S X E _ _ h1' g hG) ok
        (fun s H A cl fp => okT_of (g.blk h2 s H A cl fp) h4) (fun s H A cl fp => sF ifs _ _ EN _ h5 (g.blk h2 s H A cl fp) hG)
        (fun s H A cl fp => (sE elt' _ _ EN _ h6 (g.blk h2 s H A cl fp) hG).val (not_true h7)) (folded_not (noSet (not_true h8)))) fun D σ H t => ?_
      rw [ownP_snd]
      exact comp_of (slots_of h3) t
    · cases h3
  | comp2 it t ifs it2 t2 ifs2 elt' own vs1 =>
    unfold okE at h3
    split at h3
    · rename_i q
      cases q
      simp only [Bool.and_eq_true] at h3
      obtain ⟨⟨⟨⟨⟨⟨⟨⟨⟨⟨⟨⟨⟨h1', h2⟩, h3⟩, h4⟩, h5⟩, h6⟩, h7⟩, h8⟩, h9⟩, h10⟩, h11⟩, h12⟩, h13⟩, h14⟩ := h3
      have ok := blkOk_by h2
      rw [← g.hN, ← g.sc] at ok
      refine ps_imp (ps_setLc2 (vs1 := vs1) g.calm hd (g.slot h1) a1' sw (sI it S X E _ _ h1' g hG) ok (by rw [ownP_snd]; exact fun i hi => of_decide_eq_true (List.all_eq_true.mp h5 i hi))
        (fun s H A cl fp => okT_of (g.blk h2 s H A cl fp) h6) (fun s H A cl fp => sF ifs _ _ EN _ h7 (g.blk h2 s H A cl fp) hG)
        (fun s H A cl fp => sI it2 _ _ EN _ _ h8 (g.blk h2 s H A cl fp) hG)
        (fun s H A cl fp => okT_of (g.blk h2 s H A cl fp) h9) (fun s H A cl fp => sF ifs2 _ _ EN _ h10 (g.blk h2 s H A cl fp) hG)
        (fun s H A cl fp => (sE elt' _ _ EN _ h11 (g.blk h2 s H A cl fp) hG).val (not_true h12)) (folded_not (noSet (not_true h13))) fun env => folded_not (noSet (not_true h14))) fun D σ H t => ?_
      rw [ownP_snd]
      exact comp2_of (slots_of h3) (slots_of h4) t
    · cases h3
  | cst d => unfold okE at h3; rw [Bool.or_eq_true] at h3; rcases h3 with h | h <;> simp [cstP, globP] at h
  | var i => simp [okE] at h3
  | peek i => simp [okE] at h3
  | neg => simp [okE] at h3
  | bin => simp [okE] at h3
  | cmp => simp [okE] at h3
  | ix => simp [okE] at h3
  | sl => simp [okE] at h3
  | and => simp [okE] at h3
  | or => simp [okE] at h3
  | not => simp [okE] at h3
  | tru => simp [okE] at h3
  | ite => simp [okE] at h3
  | chain => simp [okE] at h3
  | tup => simp [okE] at h3
  | lst => simp [okE] at h3
  | cell => simp [okE] at h3
  | blt => simp [okE] at h3
  | isi => simp [okE] at h3
  | call => simp [okE] at h3
theorem tAsg_F2E {g : TG} {ev : Env → M D} {st : Stmt} (h : PS X st (tAsg (tR G (rrF G) E ev) g)) : PS X st (tAsg (tR G (rrE G) E ev) g) := ps_imp h fun D σ H t => by
  obtain ⟨W, hh, env, H0, hr, er, p⟩ := t
  refine ⟨W, hh, env, H0, hr, er, p.mono (fun d h' k W' H' v f hr' r => ?_) fun _ _ _ k => k⟩
  cases d with
  | lst xs =>
    obtain ⟨q, vs, h1, h2, h3, h4, h5, h6, h7⟩ := r
    subst h1
    exact k (W'.fz q (.lst vs)) H' _ (f.freeze h5 h4) (hr'.freeze h2 h3 h4) (.lst (.inl (.inl upd_same)) h6 (h7.mono (le_fz h4)))
  | _ => exact k W' H' v f hr' r
theorem asg_any (g : Good G S k X E) (hG : GS G C k S) (hk : X.env.scope.kind = .function) {i : Nat} {x : Str} {e : Ex} {v : Expr} {py sp : Pos} (h1 : slotOk S i x = true) (h2 : tgOk S x = true) (h3 : okE S e v = true) (hp : isPeek e = false) (ha : asgOk S x py v = true) :
    PS X (.Assign [.Name x py] v sp) (tAsg (tR G (rrE G) E (evE C e)) (gName i)) := by
  have hd : X.N.Nodup := by rw [g.hN]; exact g.nd
  by_cases c : ∃ elt gs scope pos, v = .ListComp elt gs scope pos
  · obtain ⟨elt, gs, scope, pos, rfl⟩ := c
    exact tAsg_F2E (asg_comp g hG hk h1 h3 ha)
  · have n : isComp v = false := by
      unfold asgOk at ha
      split at ha
      · exact absurd ⟨_, _, _, _, rfl⟩ c
      · exact not_true ha
    exact asg_name hd (g.slot h1) (g.tg _ h2).1 (g.tg _ h2).2 ((sE e S X E v h3 g hG).val hp) n
theorem asg_fr (g : Good G S k X E) (hG : GS G C k S) (hk : X.env.scope.kind = .function) {i : Nat} {x : Str} {e : Ex} {v : Expr} {py sp : Pos} (h1 : slotOk S i x = true) (h2 : tgOk S x = true) (h3 : okE S e v = true) (hp : isFresh e = true) (ha : asgOk S x py v = true) :
    PS X (.Assign [.Name x py] v sp) (tAsg (tR G (rrF G) E (evE C e)) (gName i)) := by
  have hd : X.N.Nodup := by rw [g.hN]; exact g.nd
  by_cases c : ∃ elt gs scope pos, v = .ListComp elt gs scope pos
  · obtain ⟨elt, gs, scope, pos, rfl⟩ := c
    exact asg_comp g hG hk h1 h3 ha
  · have n : isComp v = false := by
      unfold asgOk at ha
      split at ha
      · exact absurd ⟨_, _, _, _, rfl⟩ c
      · exact not_true ha
    exact asg_name hd (g.slot h1) (g.tg _ h2).1 (g.tg _ h2).2 ((sE e S X E v h3 g hG).fr hp) n

mutual
theorem sS : ∀ (s : Sm) {st : Stmt}, okS S s st = true → Good G S k X E → GS G C k S → X.env.scope.kind = .function → PassesOwn (model X.prog X.w) X.A X.env X.xe → PS X st (tSr G W0 H0 E (evS C s))
  | .set i e, st, h, g, hG, hk, hp => by
    unfold okS at h
    split at h
    · simp only [Bool.and_eq_true] at h
      obtain ⟨⟨⟨⟨h1, h2⟩, h3⟩, h4⟩, h5⟩ := h
      exact psv_set (asg_any g hG hk h1 h2 h3 (not_true h4) h5)
    · cases h
  | .own i e, st, h, g, hG, hk, hp => by
    unfold okS at h
    split at h
    · simp only [Bool.and_eq_true] at h
      obtain ⟨⟨⟨⟨h1, h2⟩, h3⟩, h4⟩, h5⟩ := h
      exact psv_own (asg_fr g hG hk h1 h2 h3 h4 h5)
    · cases h
  | .tg t e, st, h, g, hG, hk, hp => by
    unfold okS at h
    split at h
    · simp only [Bool.and_eq_true] at h
      obtain ⟨⟨⟨h1, h2⟩, h3⟩, h4⟩ := h
      exact psv_tg ((sE e S X E _ h2 g hG).val (not_true h3)) (okT_of g h1) (not_true h4)
    · cases h
  | .ixs o i e, st, h, g, hG, hk, hp => by
    unfold okS at h
    split at h
    · simp only [Bool.and_eq_true] at h
      obtain ⟨⟨⟨⟨⟨⟨h1, h2⟩, h3⟩, h4⟩, h5⟩, h6⟩, h7⟩ := h
      exact psv_ix ((sE e S X E _ h3 g hG).val (not_true h6)) ((sE o S X E _ h1 g hG).val (not_true h4)) ((sE i S X E _ h2 g hG).val (not_true h5)) (noSlice (not_true h7))
    · cases h
  | .aug op i e, st, h, g, hG, hk, hp => by
    have hd : X.N.Nodup := by rw [g.hN]; exact g.nd
    unfold okS at h
    split at h
    · simp only [Bool.and_eq_true] at h
      obtain ⟨⟨⟨h1, h2⟩, h3⟩, h4⟩ := h
      split at h1
      · exact psv_aug hd (g.slot h2) (g.tg _ h3).1 (g.tg _ h3).2 (sE e S X E _ h4 g hG).opd ip_add sem_ipI
      · exact psv_aug hd (g.slot h2) (g.tg _ h3).1 (g.tg _ h3).2 (sE e S X E _ h4 g hG).opd ip_sub sem_ipI
      · cases h1
    · cases h
  | .app i e, st, h, g, hG, hk, hp => by
    unfold okS at h
    split at h
    · simp only [Bool.and_eq_true, decide_eq_true_eq] at h
      obtain ⟨⟨⟨⟨⟨⟨⟨h1, h2⟩, h3⟩, h4⟩, h5⟩, h6⟩, h7⟩, h8⟩ := h
      subst h1
      obtain ⟨n1, n2, _⟩ := nmOk_of h2
      exact psv_app g.hK (g.slot h3) (g.vis h4) n1 n2 ((sE e S X E _ h5 g hG).val (not_true h6)) (noStar (not_true h7)) h8
    · cases h
  | .ret e, st, h, g, hG, hk, hp => by
    unfold okS at h
    split at h
    · simp only [Bool.and_eq_true] at h
      exact psv_ret ((sE e S X E _ h.1 g hG).val (not_true h.2))
    · cases h
  | .retN, st, h, g, hG, hk, hp => by
    unfold okS at h
    split at h
    · exact psv_retN
    · cases h
  | .pass, st, h, g, hG, hk, hp => by
    unfold okS at h
    split at h
    · exact psv_pass
    · cases h
  | .brk, st, h, g, hG, hk, hp => by
    unfold okS at h
    split at h
    · exact psv_break
    · cases h
  | .cont, st, h, g, hG, hk, hp => by
    unfold okS at h
    split at h
    · exact psv_cont
    · cases h
  | .expr e, st, h, g, hG, hk, hp => by
    unfold okS at h
    split at h
    · simp only [Bool.and_eq_true] at h
      exact psv_expr ((sE e S X E _ h.1.1 g hG).val (not_true h.1.2)) (not_true h.2)
    · cases h
  | .ite c a b, st, h, g, hG, hk, hp => by
    unfold okS at h
    split at h
    · simp only [Bool.and_eq_true] at h
      obtain ⟨⟨h1, h3⟩, h4⟩ := h
      exact psv_if (sC c S X E _ h1 g hG) (sSs a h3 g hG hk hp) (sSs b h4 g hG hk hp)
    · cases h
  | .whl c b, st, h, g, hG, hk, hp => by
    unfold okS at h
    split at h
    · simp only [Bool.and_eq_true] at h
      obtain ⟨h1, h3⟩ := h
      exact psv_while hp (sC c S X E _ h1 g hG) (sSs b h3 g hG hk hp)
    · cases h
  | .forr it t b, st, h, g, hG, hk, hp => by
    unfold okS at h
    split at h
    · simp only [Bool.and_eq_true] at h
      obtain ⟨⟨⟨h1, h2⟩, h3⟩, h4⟩ := h
      exact psv_for hp g.calm (sI it S X E _ _ h1 g hG) (okT_of g h2) (sSs b h3 g hG hk hp) (noSet (not_true h4))
    · cases h
theorem sSs : ∀ (s : Sms) {sts : List Stmt}, okSs S s sts = true → Good G S k X E → GS G C k S → X.env.scope.kind = .function → PassesOwn (model X.prog X.w) X.A X.env X.xe → PSs X sts (tSr G W0 H0 E (evSs C s))
  | .nil, [], h, g, hG, hk, hp => pssv_nil
  | .nil, _ :: _, h, g, hG, hk, hp => by simp [okSs] at h
  | .cons s r, [], h, g, hG, hk, hp => by simp [okSs] at h
  | .cons s r, x :: xs, h, g, hG, hk, hp => by
    rw [okSs, Bool.and_eq_true] at h
    exact pssv_cons (sS s h.1 g hG hk hp) (sSs r h.2 g hG hk hp)
  | .frz i r, xs, h, g, hG, hk, hp => by
    unfold okSs at h
    exact pssv_frz (sSs r h g hG hk hp)
end
end Iv

/-! Iv, part L: defs, all together; the law's end. -/
namespace Iv
open PySem L2

/-- a def: its name, its parameters, its slots (the parameters first), its body -/
structure FnD where
  name : Str
  ps : List Str
  N : List Str
  body : Sms
def FnD.arity (F : FnD) : Nat := F.ps.length
def FnD.e (F : FnD) : FnE := ⟨F.name, F.arity⟩
def endV (f : Fl) : M D := match f with
  | .nx => ret .non
  | .rt d => ret d
  | _ => fun _ => .bad
noncomputable def runF (b : Env → M RS) (n : Nat) (ds : List D) : M D := bnd (b (ds.map Sl.val ++ List.replicate (n - ds.length) Sl.no)) fun r => endV r.1
noncomputable def callI (fns : List (Nat × FnD)) : Nat → CallH
  | 0 => fun _ _ _ => .bad
  | n + 1 => fun f ds => match fns.lookup f with
    | none => fun _ => .bad
    | some F => if ds.length = F.arity then runF (evSs (callI fns n) F.body) F.N.length ds else fun _ => .bad
def fnE (fns : List (Nat × FnD)) : List (Nat × FnE) := fns.map fun p => (p.1, p.2.e)
theorem fnE_look : ∀ {fns : List (Nat × FnD)} {i : Nat}, (fnE fns).lookup i = (fns.lookup i).map FnD.e
  | [], _ => rfl
  | (j, F) :: r, i => by
    show (match i == j with | true => some F.e | false => (fnE r).lookup i) = (match i == j with | true => some F | false => r.lookup i).map FnD.e
    cases i == j with
    | true => rfl
    | false => exact fnE_look
theorem look_mem {α : Type} : ∀ {l : List (Nat × α)} {i : Nat} {F : α}, l.lookup i = some F → (i, F) ∈ l
  | [], _, _, h => by cases h
  | (j, x) :: r, i, F, h => by
    have h : (match i == j with | true => some x | false => r.lookup i) = some F := h
    cases c : i == j with
    | true =>
      rw [c] at h
      cases h
      rw [beq_iff_eq.mp c]
      exact List.mem_cons_self
    | false =>
      rw [c] at h
      exact List.mem_cons_of_mem _ (look_mem h)
def staOf (fns : List (Nat × FnD)) (globs : List (Str × D)) (blts : List Str) (F : FnD) (st : Stmt) : Sta where
  N := F.N
  sc := defScope st
  loc := (defScope st).names
  globs := globs
  blts := blts
  funs := fnE fns
def scK (N P : List Str) (sc : Scope) : Bool :=
  decide (sc.kind = .function) && !sc.isCoroutine && !sc.isGenerator && decide N.Nodup && decide (N.take P.length = P) && P.all (fun x => decide (sc.names.lookup x = some .local) || decide (sc.names.lookup x = some .cell)) && sc.names.all (fun y => !decide (y.2 = .free))
theorem fnScope_of {N P : List Str} {sc : Scope} (h : scK N P sc = true) : FnScope N P sc := by
  unfold scK at h
  simp only [Bool.and_eq_true, Bool.not_eq_true', decide_eq_true_eq, List.all_eq_true, Bool.or_eq_true, decide_eq_false_iff_not] at h
  obtain ⟨⟨⟨⟨⟨⟨h1, h2⟩, h3⟩, h4⟩, h5⟩, h6⟩, h7⟩ := h
  exact ⟨h1, h2, h3, h4, h5, h6, h7⟩
def okD (fns : List (Nat × FnD)) (globs : List (Str × D)) (blts : List Str) (F : FnD) (st : Stmt) : Bool := scK F.N F.ps (defScope st) && okSs (staOf fns globs blts F st) F.body (defBody st)

variable {G : GC} {fns : List (Nat × FnD)} {globs : List (Str × D)} {blts : List Str}
theorem Er.start {W : Wd} {H : Hp} {ds : List D} {vs : List V} (r : Reps G W ds vs) (n : Nat) : Er G W H H (ds.map Sl.val ++ List.replicate (n - ds.length) Sl.no) (vs.map some ++ List.replicate (n - vs.length) none) := by
  have hl := r.length
  refine ⟨by simp [hl], fun i s v h1 h2 => ?_, fun i j xs ys p h1 => ?_⟩
  · by_cases hi : i < ds.length
    · rw [List.getElem?_append_left (by simpa using hi), List.getElem?_map] at h1
      rw [List.getElem?_append_left (by simpa [← hl] using hi), List.getElem?_map] at h2
      cases c : ds[i]? with
      | none => rw [c] at h1; cases h1
      | some d =>
        rw [c] at h1; cases h1
        obtain ⟨u, e, q⟩ := r.get c
        rw [e] at h2; cases h2
        exact ⟨u, rfl, q⟩
    · rw [List.getElem?_append_right (by simpa using hi), List.getElem?_replicate] at h1
      split at h1
      · cases h1; trivial
      · cases h1
  · exfalso
    by_cases hi : i < ds.length
    · rw [List.getElem?_append_left (by simpa using hi), List.getElem?_map] at h1
      cases c : ds[i]? with
      | none => rw [c] at h1; cases h1
      | some d => rw [c] at h1; cases h1
    · rw [List.getElem?_append_right (by simpa using hi), List.getElem?_replicate] at h1
      split at h1 <;> cases h1
theorem tgOk_loc {S : Sta} (h : S.loc = S.sc.names) {x : Str} (t : tgOk S x = true) : Loc S.sc x := by
  unfold tgOk at t
  rw [h] at t
  split at t
  · exact .inl (by assumption)
  · exact .inr (by assumption)
  · cases t
/-- where the defs stand -/
structure Placed (G : GC) (fns : List (Nat × FnD)) (globs : List (Str × D)) (blts : List Str) : Prop where
  at_ : ∀ p ∈ fns, ∃ f st fd, FunD G.K p.2.name p.2.name (defArgs st) (defBody st) (defScope st) [] [] f fd ∧ G.mg p.2.name = some (.ref f) ∧ Binds G.K fd p.2.ps [] ∧ okD fns globs blts p.2 st = true
  glob : ∀ x d, globs.lookup x = some d → ∃ u v, G.mg x = some u ∧ RelV v u ∧ ∀ W, Rep G W d v
  blt : ∀ x ∈ blts, G.mg x = none
theorem fn_ok {k : Nat} {C : CallH} (hG : GOk G C k globs blts (fnE fns)) {F : FnD} {st : Stmt} {f : Addr} {fd : FuncData} (hF : FunD G.K F.name F.name (defArgs st) (defBody st) (defScope st) [] [] f fd) (ok : okD fns globs blts F st = true) :
    FnOk G.P G.w G.K G.mg G.base (L2.CX G.P G.w) (k + 1) f fd F.ps (spI G (fun ds => if ds.length = F.arity then runF (evSs C F.body) F.N.length ds else fun _ => .bad) F.arity) := by
  unfold okD at ok
  rw [Bool.and_eq_true] at ok
  have S := fnScope_of ok.1
  refine hF.ok S (fun vs H Q E h => ?_) fun cdv A outer s H vs Q E hr h => ?_
  · obtain ⟨W, h, ds, _, r, e, _⟩ := h
    rw [← r.length, e]; rfl
  · obtain ⟨W, h, ds, hr0, r, e, p⟩ := h
    have p : ((if ds.length = F.arity then runF (evSs C F.body) F.N.length ds else fun _ => .bad : M D) h).post (KQ G (rrE G) W H Q) (KX G E W H) := p
    rw [if_pos e] at p
    have g : Good G (staOf fns globs blts F st) k (cxOf (L2.CX G.P G.w) G.P G.w G.K G.mg G.base F.N F.name (defScope st) f cdv A outer s H E) E :=
      ⟨rfl, rfl, rfl, rfl, rfl, rfl, S.nd, rfl, fun x hx => ⟨tgOk_loc (S := staOf fns globs blts F st) rfl hx, .inl rfl⟩, rfl, hr, passes_call (takes_of rfl rfl rfl rfl) fun _ _ _ _ h => h⟩
    refine ⟨_, sSs (W0 := W) (H0 := H) F.body ok.2 g hG S.kind (passes_of rfl), ?_⟩
    refine ⟨W, h, ds.map Sl.val ++ List.replicate (F.N.length - ds.length) Sl.no, hr0, Er.start r _, Fr.refl W H, ?_⟩
    refine (post_bnd.mp p).mono (fun q h1 p1 W1 H1 σ1 l1 f1 hr1 er1 => ?_) fun _ _ _ k => k
    cases hq : q.1 with
    | nx =>
      rw [hq] at p1
      have p1 : KQ G (rrE G) W H Q .non h1 := p1
      exact p1 W1 H1 _ f1 hr1 .non
    | rt d =>
      rw [hq] at p1
      have p1 : KQ G (rrE G) W H Q d h1 := p1
      exact fun v rv => p1 W1 H1 v f1 hr1 rv
    | bk => rw [hq] at p1; exact p1.elim
    | ct => rw [hq] at p1; exact p1.elim
theorem all_ok (P : Placed G fns globs blts) : ∀ k, GOk G (callI fns k) k globs blts (fnE fns)
  | 0 => by
    refine ⟨P.glob, P.blt, fun i F h => ?_⟩
    rw [fnE_look] at h
    obtain ⟨F', hF, rfl⟩ := Option.map_eq_some_iff.mp h
    obtain ⟨f, st, fd, k1, k2, k3, k4⟩ := P.at_ _ (look_mem hF)
    refine ⟨f, fd, F'.ps, k2, k1.kp, k3, ⟨fun vs H Q E q => ?_, fun A outer s H args us vs Q E hr he hb hv q => ?_⟩, fun ds h K Y q => q.elim⟩
    · obtain ⟨_, _, _, _, _, _, q⟩ := q; exact q.elim
    · obtain ⟨_, _, _, _, _, _, q⟩ := q; exact q.elim
  | k + 1 => by
    refine ⟨P.glob, P.blt, fun i F h => ?_⟩
    rw [fnE_look] at h
    obtain ⟨F', hF, rfl⟩ := Option.map_eq_some_iff.mp h
    obtain ⟨f, st, fd, k1, k2, k3, k4⟩ := P.at_ _ (look_mem hF)
    have e : callI fns (k + 1) i = fun ds => if ds.length = F'.arity then runF (evSs (callI fns k) F'.body) F'.N.length ds else fun _ => .bad := by
      funext ds
      simp only [callI, hF]
    refine ⟨f, fd, F'.ps, k2, k1.kp, k3, by rw [e]; exact fn_ok (all_ok P k) k1 k4, fun ds h K Y q => ?_⟩
    rw [e] at q
    have q : ((if ds.length = F'.arity then runF (evSs (callI fns k) F'.body) F'.N.length ds else fun _ => .bad : M D) h).post K Y := q
    by_cases c : ds.length = F'.arity
    · exact c
    · rw [if_neg c] at q; exact q.elim

/-! ### what the top has written, by the head's Hook -/
mutual
def repB (K : PySem.W.Frag) : D → Value → Bool
  | .non, .none => true
  | .bl b, .bool c => b == c
  | .int i, .int j _ => decide (i = j)
  | .str x, .str y _ => decide (y = ⟨x.toArray⟩ ∧ x.length ≤ 16777216)
  | .tup ds, .ref a => match K.lookup a with
    | some ⟨.type c, _, .seq its _, _⟩ => decide (c = "tuple") && decide (its.size ≤ 16777216) && repsB K ds its.toList
    | _ => false
  | _, _ => false
def repsB (K : PySem.W.Frag) : List D → List Value → Bool
  | [], [] => true
  | d :: ds, v :: vs => repB K d v && repsB K ds vs
  | _, _ => false
end
theorem repsB_len {K : PySem.W.Frag} : ∀ {ds : List D} {vs : List Value}, repsB K ds vs = true → ds.length = vs.length
  | [], [], _ => rfl
  | [], _ :: _, h => by simp [repsB] at h
  | _ :: _, [], h => by simp [repsB] at h
  | d :: ds, v :: vs, h => by
    rw [repsB, Bool.and_eq_true] at h
    rw [List.length_cons, List.length_cons, repsB_len h.2]
mutual
theorem repB_ok : ∀ {d : D} {u : Value}, repB G.K d u = true → ∃ v, RelV v u ∧ ∀ W, Rep G W d v
  | .non, u, h => by
    cases u <;> first | exact ⟨.non, rfl, fun _ => .non⟩ | (simp [repB] at h)
  | .bl b, u, h => by
    cases u <;> simp only [repB, Bool.false_eq_true] at h
    exact ⟨.bl b, by rw [beq_iff_eq.mp h]; rfl, fun _ => .bl b⟩
  | .int i, u, h => by
    cases u <;> simp only [repB, Bool.false_eq_true, decide_eq_true_eq] at h
    exact ⟨.int i, ⟨_, by rw [h]⟩, fun _ => .int i⟩
  | .str x, u, h => by
    cases u <;> simp only [repB, Bool.false_eq_true, decide_eq_true_eq] at h
    exact ⟨.str ⟨x.toArray⟩, ⟨_, by rw [h.1]⟩, fun _ => .str x (by rw [sizeLine_eq]; exact h.2)⟩
  | .tup ds, u, h => by
    cases u <;> simp only [repB, Bool.false_eq_true] at h
    rename_i a
    split at h
    · rename_i c dd its n sl e
      simp only [Bool.and_eq_true, decide_eq_true_eq] at h
      obtain ⟨⟨h1, h2⟩, h3⟩ := h
      subst h1
      obtain ⟨vs, r, q⟩ := repsB_ok h3
      have hl := repsB_len h3
      have h2' : its.size ≤ sizeLine := by rw [sizeLine_eq]; exact h2
      refine ⟨.ref a, rfl, fun W => .tup (.inr ⟨_, its, n, e, rfl, rfl, h2', r⟩) (by rw [hl, Array.length_toList]; exact h2') (q W)⟩
    · cases h
  | .lst _, u, h => by cases u <;> simp [repB] at h
  | .ref _, u, h => by cases u <;> simp [repB] at h
  | .ins _ _, u, h => by cases u <;> simp [repB] at h
theorem repsB_ok : ∀ {ds : List D} {us : List Value}, repsB G.K ds us = true → ∃ vs, Vals vs us ∧ ∀ W, Reps G W ds vs
  | [], [], _ => ⟨[], .nil, fun _ => .nil⟩
  | [], _ :: _, h => by simp [repsB] at h
  | _ :: _, [], h => by simp [repsB] at h
  | d :: ds, u :: us, h => by
    rw [repsB, Bool.and_eq_true] at h
    obtain ⟨v, r, q⟩ := repB_ok h.1
    obtain ⟨vs, rs, qs⟩ := repsB_ok h.2
    exact ⟨v :: vs, .cons r rs, fun W => .cons (q W) (qs W)⟩
end
def globB (K : PySem.W.Frag) (p : Str × D) : Bool := match PySem.W.nsIn K mainGlobals p.1 with
  | some (some u) => repB K p.2 u
  | _ => false
def exB (globs : List (Str × D)) (K : PySem.W.Frag) : Bool := globs.all (globB K)
/-- the facts that are asked of the head -/
def faOf (fns : List (Nat × FnD)) (blts : List Str) : List He.Fa := fns.map (fun F => He.Fa.glo F.2.name) ++ blts.map He.Fa.free
def ddOf (top : Nat → Stmt) (p : Nat × FnD) : He.DefD := ⟨(p.2.name, none), p.2.name, p.2.name, defArgs (top p.1), defBody (top p.1), defScope (top p.1), [], []⟩
def ddsOf (top : Nat → Stmt) (fns : List (Nat × FnD)) : List He.DefD := fns.map (ddOf top)
def BindP (st : Stmt) (F : FnD) : Prop := ∀ (kV doc pm : Value) (an : Option Addr) (cdv ct : Value) (us : List Value), us.length = F.ps.length → bindArgs (PySem.W.fnOf F.name F.name (defArgs st) (defBody st) (defScope st) .none kV doc pm an cdv ct) ⟨us, []⟩ = pure (F.ps.zip us)
/-- what is looked up in the text -/
structure TextOk (top : Nat → Stmt) (fns : List (Nat × FnD)) (globs : List (Str × D)) (blts : List Str) : Prop where
  ok : ∀ p ∈ fns, okD fns globs blts p.2 (top p.1) = true
  bd : ∀ p ∈ fns, BindP (top p.1) p.2
theorem lookup_mem2 {α : Type} {x : Str} {d : α} : ∀ {l : List (Str × α)}, l.lookup x = some d → (x, d) ∈ l := PySem.mem_of_lookup
theorem placed_of {top : Nat → Stmt} (T : TextOk top fns globs blts) {h : Heap} (X : G.K.In h) (N : h.Ns mainGlobals G.mg) (c : He.SaysX (faOf fns blts) (ddsOf top fns) [] [] (exB globs) G.w h G.K) : Placed G fns globs blts := by
  refine ⟨fun p hp => ?_, fun x d hx => ?_, fun x hx => ?_⟩
  · obtain ⟨fd, D⟩ := c.t.d.defs (d := ddOf top p) (List.mem_map_of_mem hp)
    have g := He.glo_ok X N (c.t.d.facts (f := .glo p.2.name) (List.mem_append_left _ (List.mem_map.mpr ⟨p, hp, rfl⟩)))
    exact ⟨_, top p.1, fd, D, g, FunD.bindsN D (T.bd p hp), T.ok p hp⟩
  · have q := List.all_eq_true.mp c.more (x, d) (lookup_mem2 hx)
    unfold globB at q
    split at q
    · rename_i u e
      obtain ⟨v, r, rr⟩ := repB_ok q
      exact ⟨u, v, PySem.W.mg_of X N e, r, rr⟩
    · cases q
  · exact He.free_ok X N (c.t.d.facts (f := .free x) (List.mem_append_right _ (List.mem_map_of_mem hx)))

/-! ### the law -/
def spLaw (K : PySem.W.Frag) : Sp := fun vs H Q _ => ∃ (a : Addr) (ns : List Int), vs = [.ref a] ∧ ns.length ≤ 63 ∧ SqL K H a (ns.map V.int) ∧ ∀ H', Q (.bl true) H'
theorem reps_ints {W : Wd} (ns : List Int) : Reps G W (ns.map D.int) (ns.map V.int) := by
  induction ns with
  | nil => exact .nil
  | cons i ns ih => exact .cons (.int i) ih
def LawV (fns : List (Nat × FnD)) (k i : Nat) : Prop := ∀ ns : List Int, ns.length ≤ 63 → ∃ h', callI fns k i [.lst (ns.map D.int)] [] = .ok (.bl true) h'
theorem spLaw_of {k i : Nat} {vs : List V} {H : Hp} {Q : VK} {E : XK} (law : LawV fns k i) (h : spLaw G.K vs H Q E) : spI G (callI fns k i) 1 vs H Q E := by
  obtain ⟨a, ns, rfl, hl, hS, q⟩ := h
  refine ⟨⟨H, []⟩, [], [.lst (ns.map D.int)], ⟨fun _ _ h => h, rfl, List.nodup_nil, fun i a c h => by simp at h, fun a h => by cases h⟩, .cons (.lst hS (by rw [List.length_map, sizeLine_eq]; omega) (reps_ints ns)) .nil, rfl, ?_⟩
  obtain ⟨h', e⟩ := law ns hl
  rw [e]
  intro W' H' v f hr r
  cases r
  exact q H'
theorem walk_ofW {l : PySem.W.OpenLaw} {n k : Nat} {q : Program} {loose : List Str} {XP : (Str → Option Value) → Heap → Prop} {YP : World → Heap → Prop} {d : DefRec} {CX : World → CXT} {x : Str}
    (hn : l.most = some n) (hn2 : n ≤ sizeLine) (hdf : d.params.defaults = []) (hr : Room k callerA)
    (F : ∀ (w : World) (mg : Str → Option Value) (fa : Addr) (h : Heap), YP w h → h.Ns mainGlobals mg → mg d.name = some (.ref fa) →
      ∃ (K : PySem.W.Frag) (fd : FuncData) (sp : Sp), K.In h ∧ (∀ (s : Shared) (u : Value), BindsTo s fd ⟨[u], []⟩ [(x, u)]) ∧
        (∀ (H : Hp) (a : Addr) (ns : List Int), ns.length ≤ n → Only H → SqL K H a (ns.map V.int) → sp [.ref a] H (fun v _ => v = .bl true) fun _ _ _ => False) ∧
        ∀ base : Heap, K.In base → base.Ns mainGlobals mg → FnOk l.prog w K mg base (CX w) k fa fd [x] sp)
    (hCX : ∀ (w : World) (H : Hp) (s : Shared) (e : Value) (s' : Shared), CX w [] H s (fun _ _ _ => False) e s' → False) :
    PySem.W.WalkO q loose XP YP l.row.toRowW d [] (fun f vs => PySem.call f vs) := by
  refine Att.attach_call hn hdf fun w s₀ s₁ mg mb fa o pm cd doc a vs ns G Y ho hd hcd hmg hobj hints hlen hg => ?_
  obtain ⟨K, fd, sp, KX, hb, hsp, hF⟩ := F w mg fa _ Y G.T.g hmg
  exact law_call KX G.T.g G.T.b G.T.builtins G.T.nolimit hg hobj hints (Nat.le_trans hlen hn2) hr hF hb (fun H hO hS => hsp H a ns hlen hO hS) fun H e s' => hCX w H s₁ e s'
theorem law_end {l : PySem.W.OpenLaw} {q : Program} {loose : List Str} {XP : (Str → Option Value) → Heap → Prop} {YP : World → Heap → Prop} {d : DefRec} {top : Nat → Stmt} {k i : Nat} {F : FnD} (hn : l.most = some 63) (hdf : d.params.defaults = []) (hr : Room (k + 1) callerA)
    (hY : ∀ (w : World) (h : Heap), YP w h → ∃ K : PySem.W.Frag, K.In h ∧ He.SaysX (faOf fns blts) (ddsOf top fns) [] [] (exB globs) w h K) (T : TextOk top fns globs blts) (hi : fns.lookup i = some F) (hp : F.ps = [("script" : Str)]) (hd : d.name = F.name) (law : LawV fns (k + 1) i) :
    PySem.W.WalkO q loose XP YP l.row.toRowW d [] (fun f vs => PySem.call f vs) := by
  refine walk_ofW (n := 63) (k := k + 1) (x := "script") (CX := fun w => L2.CX l.prog w) hn (by rw [sizeLine_eq]; decide) hdf hr (fun w mg fa h Y N hmg => ?_) fun w H s e s' z => ?_
  · obtain ⟨K, X, c⟩ := hY w h Y
    have hq := look_mem hi
    obtain ⟨fd, D⟩ := c.t.d.defs (d := ddOf top (i, F)) (List.mem_map_of_mem hq)
    have g := He.glo_ok X N (c.t.d.facts (f := .glo F.name) (List.mem_append_left _ (List.mem_map.mpr ⟨_, hq, rfl⟩)))
    rw [hd, g] at hmg
    have e : He.fAd K (F.name, none) = fa := by cases hmg; rfl
    have D : FunD K F.name F.name (defArgs (top i)) (defBody (top i)) (defScope (top i)) [] [] fa fd := e ▸ D
    refine ⟨K, fd, spLaw K, X, fun s u => ?_, fun H a ns hl _ hS => ⟨a, ns, rfl, hl, hS, fun _ => rfl⟩, fun base X2 N2 => ?_⟩
    · have := FunD.bindsA D (T.bd _ hq) s [u] (by rw [hp]; rfl)
      rw [hp] at this
      exact this
    · have P : Placed ⟨l.prog, w, K, mg, base, fun _ => none, fun _ => none⟩ fns globs blts := placed_of (G := ⟨l.prog, w, K, mg, base, fun _ => none, fun _ => none⟩) T X N c
      have A := fn_ok (all_ok P k) D (T.ok _ hq)
      rw [hp] at A
      refine A.imp fun vs H Q E h => ?_
      have e : callI fns (k + 1) i = fun ds => if ds.length = F.arity then runF (evSs (callI fns k) F.body) F.N.length ds else fun _ => .bad := by
        funext ds
        simp only [callI, hi]
      have a1 : F.arity = 1 := by unfold FnD.arity; rw [hp]; rfl
      have := spLaw_of (G := ⟨l.prog, w, K, mg, base, fun _ => none, fun _ => none⟩) law h
      rw [e] at this
      rw [a1] at this ⊢
      exact this
  · obtain ⟨_, _, _, _, _, _, _, _, _, _, _, _, z⟩ := z
    exact z
end Iv

/-! Iv, part P: plain reasoning about the evaluator (no program, no heap in sight): what a run must end in. -/
namespace Iv
variable {α β : Type} {K : α → IH → Prop} {Y : Nat → List D → IH → Prop} {h h' : IH}
abbrev NoX : Nat → List D → IH → Prop := fun _ _ _ => False

theorem w_ok {a : α} : ((R.ok a h).post K Y) = K a h := rfl
theorem w_ret {a : α} : ((ret a h).post K Y) = K a h := rfl
theorem w_bnd {m : M α} {f : α → M β} {K : β → IH → Prop} : ((bnd m f) h).post K Y = (m h).post (fun a h' => (f a h').post K Y) Y := propext post_bnd
theorem w_some {a : α} : ((lft (some a) h).post K Y) = K a h := rfl
theorem w_none : ((lft (none : Option α) h).post K Y) = False := rfl
theorem w_lft {o : Option α} : ((lft o h).post K Y) = ∃ a, o = some a ∧ K a h := by
  cases o with
  | none => exact propext ⟨fun q => q.elim, fun ⟨_, e, _⟩ => by cases e⟩
  | some a => exact propext ⟨fun q => ⟨a, rfl, q⟩, fun ⟨_, e, q⟩ => by cases e; exact q⟩
theorem w_noex {m : M α} : ((noex m h).post K Y) = (m h).post K NoX := by
  unfold noex
  cases m h <;> rfl
theorem eq_of_post {r : R α} {a : α} (p : r.post (fun a' h'' => a' = a ∧ h'' = h') NoX) : r = .ok a h' := by
  cases r with
  | ok b g => obtain ⟨rfl, rfl⟩ := p; rfl
  | ex => exact p.elim
  | bad => exact p.elim

section
variable {K : D → IH → Prop} {env : Env} {fa fb fc : Env → M D} {i : Nat}
theorem w_var : ((eVar i env h).post K Y) = (match env[i]? with | some (.val d) => K d h | _ => False) := by
  unfold eVar
  cases env[i]? with
  | none => rfl
  | some s => cases s <;> rfl
theorem w_peek : ((ePeek i env h).post K Y) = (match env[i]? with | some (.val d) => K d h | some (.own xs) => K (.lst xs) h | _ => False) := by
  unfold ePeek
  cases env[i]? with
  | none => rfl
  | some s => cases s <;> rfl
theorem w_op {op : IH → D → D → Option D} : ((eOp op fa fb env h).post K Y) = (fa env h).post (fun x h1 => (fb env h1).post (fun y h2 => ∃ d, op h2 x y = some d ∧ K d h2) Y) Y := by
  unfold eOp
  rw [w_bnd]
  congr 1
  funext x h1
  rw [w_bnd]
  congr 1
  funext y h2
  exact w_lft
theorem w_neg : ((eNeg fa env h).post K Y) = (fa env h).post (fun x h1 => ∃ d, negD x = some d ∧ K d h1) Y := by
  unfold eNeg
  rw [w_bnd]
  congr 1
  funext x h1
  exact w_lft
theorem w_toB {K : Bool → IH → Prop} : ((toB fa env h).post K Y) = (fa env h).post (fun x h1 => ∃ b, x = .bl b ∧ K b h1) Y := by
  unfold toB
  rw [w_bnd]
  congr 1
  funext x h1
  rw [w_lft]
  refine propext ⟨fun ⟨b, e, k⟩ => ⟨b, asB_some e, k⟩, fun ⟨b, e, k⟩ => ⟨b, by rw [e]; rfl, k⟩⟩
theorem w_toT {K : Bool → IH → Prop} : ((toT fa env h).post K Y) = (fa env h).post (fun x h1 => ∃ b, trD x = some b ∧ K b h1) Y := by
  unfold toT
  rw [w_bnd]
  congr 1
  funext x h1
  exact w_lft
theorem w_not : ((eNot (toB fa) env h).post K Y) = (fa env h).post (fun x h1 => ∃ b, x = .bl b ∧ K (.bl (!b)) h1) Y := by
  show ((bnd (toB fa env) fun c => ret (.bl (!c))) h).post K Y = _
  rw [w_bnd, w_toB]
  rfl
/-- both ways of a test -/
def Two (P : Prop) (b : Bool) (Q : Prop) : Prop := (b = true → P) ∧ (b = false → Q)
theorem two_true {P Q : Prop} : Two P true Q = P := propext ⟨fun h => h.1 rfl, fun h => ⟨fun _ => h, fun e => Bool.noConfusion e⟩⟩
theorem two_false {P Q : Prop} : Two P false Q = Q := propext ⟨fun h => h.2 rfl, fun h => ⟨fun e => Bool.noConfusion e, fun _ => h⟩⟩
theorem two_nf {P Q : Prop} : Two P (!false) Q = P := two_true
theorem two_nt {P Q : Prop} : Two P (!true) Q = Q := two_false
theorem post_ite {m n : R α} {K : α → IH → Prop} {b : Bool} : ((if b = true then m else n).post K Y) = Two (m.post K Y) b (n.post K Y) := by
  cases b with
  | true => rw [two_true, if_pos rfl]
  | false => rw [two_false, if_neg Bool.false_ne_true]
theorem ite_h {m n : M α} {b : Bool} : (if b = true then m else n) h = if b = true then m h else n h := by cases b <;> rfl
theorem w_if {tc : Env → M Bool} : ((eIf tc fa fb env h).post K Y) = (tc env h).post (fun b h1 => Two ((fa env h1).post K Y) b ((fb env h1).post K Y)) Y := by
  show ((bnd (tc env) fun c => if c = true then fa env else fb env) h).post K Y = _
  rw [w_bnd]
  congr 1
  funext b h1
  rw [ite_h, post_ite]
theorem w_and {tc : Env → M Bool} : ((eAnd tc fa env h).post K Y) = (tc env h).post (fun b h1 => Two ((fa env h1).post K Y) b (K (.bl false) h1)) Y := by
  show ((bnd (tc env) fun c => if c = true then fa env else ret (.bl false)) h).post K Y = _
  rw [w_bnd]
  congr 1
  funext b h1
  rw [ite_h, post_ite]
  rfl
theorem w_or {tc : Env → M Bool} : ((eOr tc fa env h).post K Y) = (tc env h).post (fun b h1 => Two (K (.bl true) h1) b ((fa env h1).post K Y)) Y := by
  show ((bnd (tc env) fun c => if c = true then ret (.bl true) else fa env) h).post K Y = _
  rw [w_bnd]
  congr 1
  funext b h1
  rw [ite_h, post_ite]
  rfl
theorem w_cAnd {ta tb : Env → M Bool} {K : Bool → IH → Prop} : ((cAnd ta tb env h).post K Y) = (ta env h).post (fun b h1 => Two ((tb env h1).post K Y) b (K false h1)) Y := by
  show ((bnd (ta env) fun c => if c = true then tb env else ret false) h).post K Y = _
  rw [w_bnd]
  congr 1
  funext b h1
  rw [ite_h, post_ite]
  rfl
theorem w_cOr {ta tb : Env → M Bool} {K : Bool → IH → Prop} : ((cOr ta tb env h).post K Y) = (ta env h).post (fun b h1 => Two (K true h1) b ((tb env h1).post K Y)) Y := by
  show ((bnd (ta env) fun c => if c = true then ret true else tb env) h).post K Y = _
  rw [w_bnd]
  congr 1
  funext b h1
  rw [ite_h, post_ite]
  rfl
theorem w_cNot {ta : Env → M Bool} {K : Bool → IH → Prop} : ((cNot ta env h).post K Y) = (ta env h).post (fun b h1 => K (!b) h1) Y := by
  show ((bnd (ta env) fun c => ret (!c)) h).post K Y = _
  rw [w_bnd]
  rfl
theorem w_chain {f g : IH → D → D → Option D} : ((eChain f g fa fb fc env h).post K Y) = (fa env h).post (fun x h1 => (fb env h1).post (fun y h2 => ∃ b, f h2 x y = some (.bl b) ∧ Two ((fc env h2).post (fun u h3 => ∃ d, g h3 y u = some d ∧ K d h3) Y) b (K (.bl false) h2)) Y) Y := by
  show ((bnd (fa env) fun x => bnd (fb env) fun y => bnd (liftH f x y) fun z => bnd (lft (asB z)) fun k => if k = true then bnd (fc env) fun u => liftH g y u else ret (.bl false)) h).post K Y = _
  rw [w_bnd]
  congr 1
  funext x h1
  rw [w_bnd]
  congr 1
  funext y h2
  rw [w_bnd]
  show ((lft (f h2 x y) h2).post _ Y) = _
  rw [w_lft]
  refine propext ⟨fun ⟨z, e, p⟩ => ?_, fun ⟨b, e, p⟩ => ⟨_, e, ?_⟩⟩
  · rw [w_bnd, w_lft] at p
    obtain ⟨b, e2, p⟩ := p
    have e2 := asB_some e2
    subst e2
    refine ⟨b, e, ?_⟩
    rw [ite_h, post_ite, w_bnd] at p
    refine ⟨fun c => ?_, p.2⟩
    refine R.post.mono (p.1 c) (fun u h3 q => ?_) fun _ _ _ q => q
    have q : ((lft (g h3 y u) h3).post K Y) := q
    rw [w_lft] at q
    exact q
  · rw [w_bnd, w_lft]
    refine ⟨b, rfl, ?_⟩
    rw [ite_h, post_ite, w_bnd]
    refine ⟨fun c => ?_, p.2⟩
    refine R.post.mono (p.1 c) (fun u h3 q => ?_) fun _ _ _ q => q
    show ((lft (g h3 y u) h3).post K Y)
    rw [w_lft]
    exact q
theorem w_fits {K : Unit → IH → Prop} {n : Nat} : ((lft (fits n) h).post K Y) = (n ≤ 16777216 ∧ K () h) := by
  rw [w_lft]
  unfold fits
  split
  · rename_i l; exact propext ⟨fun ⟨_, _, k⟩ => ⟨l, k⟩, fun ⟨_, k⟩ => ⟨_, rfl, k⟩⟩
  · rename_i l; exact propext ⟨(fun ⟨_, e, _⟩ => by cases e), fun ⟨l', _⟩ => absurd l' l⟩
theorem w_tup {ga : Env → M (List D)} : ((eTup ga env h).post K Y) = (ga env h).post (fun xs h1 => xs.length ≤ 16777216 ∧ K (.tup xs) h1) Y := by
  show ((bnd (ga env) fun xs => bnd (lft (fits xs.length)) fun _ => ret (.tup xs)) h).post K Y = _
  rw [w_bnd]
  congr 1
  funext xs h1
  rw [w_bnd, w_fits]
  rfl
theorem w_lst {ga : Env → M (List D)} : ((eLst ga env h).post K Y) = (ga env h).post (fun xs h1 => xs.length ≤ 16777216 ∧ K (.lst xs) h1) Y := by
  show ((bnd (ga env) fun xs => bnd (lft (fits xs.length)) fun _ => ret (.lst xs)) h).post K Y = _
  rw [w_bnd]
  congr 1
  funext xs h1
  rw [w_bnd, w_fits]
  rfl
theorem w_cell {ga : Env → M (List D)} : ((eCell ga env h).post K Y) = (ga env h).post (fun xs h1 => xs.length ≤ 16777216 ∧ K (.ref h1.length) (h1 ++ [.lst xs])) Y := by
  show ((bnd (ga env) fun xs => bnd (lft (fits xs.length)) fun _ => fun h => .ok (.ref h.length) (h ++ [.lst xs])) h).post K Y = _
  rw [w_bnd]
  congr 1
  funext xs h1
  rw [w_bnd, w_fits]
  rfl
theorem w_blt {ga : Env → M (List D)} {op : List D → Option D} : ((eBlt op ga env h).post K Y) = (ga env h).post (fun xs h1 => ∃ d, op xs = some d ∧ K d h1) Y := by
  show ((bnd (ga env) fun xs => lft (op xs)) h).post K Y = _
  rw [w_bnd]
  congr 1
  funext xs h1
  exact w_lft
theorem w_isi {t : Ty} : ((eIsi t fa env h).post K Y) = (fa env h).post (fun x h1 => ∃ b, isiD x t = some b ∧ K (.bl b) h1) Y := by
  show ((bnd (fa env) fun x => lft ((isiD x t).map D.bl)) h).post K Y = _
  rw [w_bnd]
  congr 1
  funext x h1
  rw [w_lft]
  refine propext ⟨fun ⟨a, e, k⟩ => ?_, fun ⟨b, e, k⟩ => ⟨_, by rw [e]; rfl, k⟩⟩
  obtain ⟨b, e2, rfl⟩ := Option.map_eq_some_iff.mp e
  exact ⟨b, e2, k⟩
theorem w_call {ga : Env → M (List D)} {f : List D → M D} : ((eCall f ga env h).post K Y) = (ga env h).post (fun xs h1 => (f xs h1).post K Y) Y := w_bnd
theorem w_aNil {K : List D → IH → Prop} : ((aNil env h).post K Y) = K [] h := rfl
theorem w_aCons {K : List D → IH → Prop} {ga : Env → M (List D)} : ((aCons fa ga env h).post K Y) = (fa env h).post (fun x h1 => (ga env h1).post (fun xs h2 => K (x :: xs) h2) Y) Y := by
  show ((bnd (fa env) fun x => bnd (ga env) fun xs => ret (x :: xs)) h).post K Y = _
  rw [w_bnd]
  congr 1
  funext x h1
  rw [w_bnd]
  rfl
theorem w_aStar {K : List D → IH → Prop} {ga : Env → M (List D)} : ((aStar fa ga env h).post K Y) = (fa env h).post (fun x h1 => ∃ xs, seqOf x = some xs ∧ (ga env h1).post (fun ys h2 => K (xs ++ ys) h2) Y) Y := by
  show ((bnd (fa env) fun x => bnd (lft (seqOf x)) fun xs => bnd (ga env) fun ys => ret (xs ++ ys)) h).post K Y = _
  rw [w_bnd]
  congr 1
  funext x h1
  rw [w_bnd, w_lft]
  refine propext ⟨fun ⟨xs, e, p⟩ => ⟨xs, e, ?_⟩, fun ⟨xs, e, p⟩ => ⟨xs, e, ?_⟩⟩
  · rw [w_bnd] at p; exact p
  · rw [w_bnd]; exact p
theorem w_part_no {K : Option Int → IH → Prop} : ((ePart none env h).post K Y) = K none h := rfl
theorem w_part {K : Option Int → IH → Prop} : ((ePart (some fa) env h).post K Y) = (fa env h).post (fun x h1 => ∃ i, x = .int i ∧ K (some i) h1) Y := by
  show ((bnd (fa env) fun d => bnd (lft (asI d)) fun i => ret (some i)) h).post K Y = _
  rw [w_bnd]
  congr 1
  funext x h1
  rw [w_bnd, w_lft]
  refine propext ⟨fun ⟨i, e, p⟩ => ⟨i, ?_, p⟩, fun ⟨i, e, p⟩ => ⟨i, by rw [e]; rfl, p⟩⟩
  cases x <;> simp only [asI, Option.some.injEq, reduceCtorEq] at e
  rw [e]
theorem w_sl {lo hi : FO} : ((eSl fa lo hi env h).post K Y) = (fa env h).post (fun x h1 => (ePart lo env h1).post (fun l h2 => (ePart hi env h2).post (fun u h3 => ∃ d, slD x l u = some d ∧ K d h3) Y) Y) Y := by
  show ((bnd (fa env) fun x => bnd (ePart lo env) fun l => bnd (ePart hi env) fun u => lft (slD x l u)) h).post K Y = _
  rw [w_bnd]
  congr 1
  funext x h1
  rw [w_bnd]
  congr 1
  funext l h2
  rw [w_bnd]
  congr 1
  funext u h3
  exact w_lft
theorem w_seq {K : List D → IH → Prop} : ((iSeq fa env h).post K Y) = (fa env h).post (fun x h1 => ∃ xs, itemsD x = some xs ∧ K xs h1) Y := by
  show ((bnd (fa env) fun x => lft (itemsD x)) h).post K Y = _
  rw [w_bnd]
  congr 1
  funext x h1
  exact w_lft
theorem w_args {K : List D → IH → Prop} {op : List D → Option (List D)} {ga : Env → M (List D)} : ((iArgs op ga env h).post K Y) = (ga env h).post (fun xs h1 => ∃ ds, op xs = some ds ∧ K ds h1) Y := by
  show ((bnd (ga env) fun x => lft (op x)) h).post K Y = _
  rw [w_bnd]
  congr 1
  funext x h1
  exact w_lft
end

/-! ### statements -/
section
variable {K : RS → IH → Prop} {env : Env} {f fo fi : Env → M D} {i : Nat} {a b : Env → M RS}
theorem s_seq : ((sSeq a b env h).post K Y) = (a env h).post (fun r h1 => match r.1 with | .nx => (b r.2 h1).post K Y | _ => K r h1) Y := by
  unfold sSeq
  rw [w_bnd]
  congr 1
  funext r h1
  cases r with
  | mk f e => cases f <;> rfl
theorem s_set : ((sSet i f env h).post K Y) = (f env h).post (fun d h1 => K (.nx, env.set i (.val d)) h1) Y := w_bnd
theorem s_own : ((sOwn i f env h).post K Y) = (f env h).post (fun d h1 => ∃ xs, d = .lst xs ∧ K (.nx, env.set i (.own xs)) h1) Y := by
  show ((bnd (f env) fun d => match d with | .lst xs => ret (.nx, env.set i (.own xs)) | _ => fun _ => .bad) h).post K Y = _
  rw [w_bnd]
  congr 1
  funext d h1
  cases d with
  | lst xs => exact propext ⟨fun k => ⟨xs, rfl, k⟩, fun ⟨_, e, k⟩ => by cases e; exact k⟩
  | _ => exact propext ⟨fun k => k.elim, fun ⟨_, e, k⟩ => by cases e⟩
theorem s_tg {t : Tg} : ((sTg t f env h).post K Y) = (f env h).post (fun d h1 => ∃ env', bindT t d env = some env' ∧ K (.nx, env') h1) Y := by
  show ((bnd (f env) fun d => bnd (lft (bindT t d env)) fun env' => ret (.nx, env')) h).post K Y = _
  rw [w_bnd]
  congr 1
  funext d h1
  rw [w_bnd, w_lft]
  rfl
theorem s_ix : ((sIx fo fi f env h).post K Y) = (f env h).post (fun v h1 => (fo env h1).post (fun o h2 => (fi env h2).post (fun j h3 => ∃ h4, setCell h3 o j v = some h4 ∧ K (.nx, env) h4) Y) Y) Y := by
  show ((bnd (f env) fun v => bnd (fo env) fun o => bnd (fi env) fun i => fun h => match setCell h o i v with | some h' => .ok (.nx, env) h' | none => .bad) h).post K Y = _
  rw [w_bnd]
  congr 1
  funext v h1
  rw [w_bnd]
  congr 1
  funext o h2
  rw [w_bnd]
  congr 1
  funext j h3
  show (((match setCell h3 o j v with | some h' => .ok (.nx, env) h' | none => .bad) : R RS).post K Y) = _
  cases e : setCell h3 o j v with
  | none => exact propext ⟨fun k => k.elim, fun ⟨_, q, _⟩ => by cases q⟩
  | some h4 => exact propext ⟨fun k => ⟨h4, rfl, k⟩, fun ⟨_, q, k⟩ => by cases q; exact k⟩
theorem s_ret : ((sRet f env h).post K Y) = (f env h).post (fun d h1 => K (.rt d, env) h1) Y := w_bnd
theorem s_end {fl : Fl} : ((sEnd fl env h).post K Y) = K (fl, env) h := rfl
theorem s_drop : ((sDrop f env h).post K Y) = (f env h).post (fun _ h1 => K (.nx, env) h1) Y := w_bnd
theorem s_if {c : Env → M Bool} : ((sIf c a b env h).post K Y) = (c env h).post (fun t h1 => Two ((a env h1).post K Y) t ((b env h1).post K Y)) Y := by
  show ((bnd (c env) fun t => if t = true then a env else b env) h).post K Y = _
  rw [w_bnd]
  congr 1
  funext t h1
  rw [ite_h, post_ite]
theorem s_for {it : Env → M (List D)} {t : Tg} : ((sFor it t b env h).post K Y) = (it env h).post (fun ds h1 => (forL t b ds env h1).post K Y) Y := w_bnd
end

/-! ### the same by the syntax -/
section
variable {C : CallH} {K : D → IH → Prop} {env : Env} {a b c : Ex} {es : Exs} {i : Nat} {d : D}
theorem x_cst (k : K d h) : (evE C (.cst d) env h).post K Y := k
theorem x_var (e : env[i]? = some (.val d)) (k : K d h) : (evE C (.var i) env h).post K Y := by
  show ((eVar i env h).post K Y)
  rw [w_var, e]; exact k
theorem x_peekV (e : env[i]? = some (.val d)) (k : K d h) : (evE C (.peek i) env h).post K Y := by
  show ((ePeek i env h).post K Y)
  rw [w_peek, e]; exact k
theorem x_peek {xs : List D} (e : env[i]? = some (.own xs)) (k : K (.lst xs) h) : (evE C (.peek i) env h).post K Y := by
  show ((ePeek i env h).post K Y)
  rw [w_peek, e]; exact k
theorem x_neg (p : (evE C a env h).post (fun x h1 => ∃ d, negD x = some d ∧ K d h1) Y) : (evE C (.neg a) env h).post K Y := w_neg.mpr p
theorem x_bin {op : BOp} (p : (evE C a env h).post (fun x h1 => (evE C b env h1).post (fun y h2 => ∃ d, binF op h2 x y = some d ∧ K d h2) Y) Y) : (evE C (.bin op a b) env h).post K Y := w_op.mpr p
theorem x_cmp {op : COp} (p : (evE C a env h).post (fun x h1 => (evE C b env h1).post (fun y h2 => ∃ d, cmpF op h2 x y = some d ∧ K d h2) Y) Y) : (evE C (.cmp op a b) env h).post K Y := w_op.mpr p
theorem x_ix (p : (evE C a env h).post (fun x h1 => (evE C b env h1).post (fun y h2 => ∃ d, opIx h2 x y = some d ∧ K d h2) Y) Y) : (evE C (.ix a b) env h).post K Y := w_op.mpr p
theorem x_sl {lo hi : Exo} (p : (evE C a env h).post (fun x h1 => (ePart (evO C lo) env h1).post (fun l h2 => (ePart (evO C hi) env h2).post (fun u h3 => ∃ d, slD x l u = some d ∧ K d h3) Y) Y) Y) : (evE C (.sl a lo hi) env h).post K Y := w_sl.mpr p
theorem x_pno {K : Option Int → IH → Prop} (k : K none h) : (ePart (evO C .no) env h).post K Y := k
theorem x_pyes {K : Option Int → IH → Prop} (p : (evE C a env h).post (fun x h1 => ∃ i, x = .int i ∧ K (some i) h1) Y) : (ePart (evO C (.yes a)) env h).post K Y := w_part.mpr p
theorem x_and (p : (evAnd C es env h).post K Y) : (evE C (.and es) env h).post K Y := p
theorem x_or (p : (evOr C es env h).post K Y) : (evE C (.or es) env h).post K Y := p
theorem x_and1 (p : (evE C a env h).post K Y) : (evAnd C (.cons a .nil) env h).post K Y := p
theorem x_or1 (p : (evE C a env h).post K Y) : (evOr C (.cons a .nil) env h).post K Y := p
theorem x_and2 (p : (evE C a env h).post (fun x h1 => ∃ t, x = .bl t ∧ Two ((evAnd C (.cons b es) env h1).post K Y) t (K (.bl false) h1)) Y) : (evAnd C (.cons a (.cons b es)) env h).post K Y := by
  refine w_and.mpr ?_
  rw [w_toB]; exact p
theorem x_or2 (p : (evE C a env h).post (fun x h1 => ∃ t, x = .bl t ∧ Two (K (.bl true) h1) t ((evOr C (.cons b es) env h1).post K Y)) Y) : (evOr C (.cons a (.cons b es)) env h).post K Y := by
  refine w_or.mpr ?_
  rw [w_toB]; exact p
theorem x_not (p : (evE C a env h).post (fun x h1 => ∃ t, x = .bl t ∧ K (.bl (!t)) h1) Y) : (evE C (.not a) env h).post K Y := w_not.mpr p
theorem x_ite (p : (evC C c env h).post (fun t h1 => Two ((evE C a env h1).post K Y) t ((evE C b env h1).post K Y)) Y) : (evE C (.ite c a b) env h).post K Y := w_if.mpr p
theorem x_chain {o1 o2 : COp} (p : (evE C a env h).post (fun x h1 => (evE C b env h1).post (fun y h2 => ∃ t, cmpF o1 h2 x y = some (.bl t) ∧ Two ((evE C c env h2).post (fun u h3 => ∃ d, cmpF o2 h3 y u = some d ∧ K d h3) Y) t (K (.bl false) h2)) Y) Y) : (evE C (.chain o1 o2 a b c) env h).post K Y := w_chain.mpr p
theorem x_tup (p : (evA C es env h).post (fun xs h1 => xs.length ≤ 16777216 ∧ K (.tup xs) h1) Y) : (evE C (.tup es) env h).post K Y := w_tup.mpr p
theorem x_lst (p : (evA C es env h).post (fun xs h1 => xs.length ≤ 16777216 ∧ K (.lst xs) h1) Y) : (evE C (.lst es) env h).post K Y := w_lst.mpr p
theorem x_cell (p : (evA C es env h).post (fun xs h1 => xs.length ≤ 16777216 ∧ K (.ref h1.length) (h1 ++ [.lst xs])) Y) : (evE C (.cell es) env h).post K Y := w_cell.mpr p
theorem x_blt {t : Blt} (p : (evA C es env h).post (fun xs h1 => ∃ d, bltF t xs = some d ∧ K d h1) Y) : (evE C (.blt t es) env h).post K Y := w_blt.mpr p
theorem x_isi {t : Ty} (p : (evE C a env h).post (fun x h1 => ∃ b, isiD x t = some b ∧ K (.bl b) h1) Y) : (evE C (.isi t a) env h).post K Y := w_isi.mpr p
theorem x_call {f : Nat} (p : (evA C es env h).post (fun xs h1 => (C f xs h1).post K Y) Y) : (evE C (.call f es) env h).post K Y := w_call.mpr p
theorem x_nil {K : List D → IH → Prop} (k : K [] h) : (evA C .nil env h).post K Y := k
theorem x_acons {K : List D → IH → Prop} (p : (evE C a env h).post (fun x h1 => (evA C es env h1).post (fun xs h2 => K (x :: xs) h2) Y) Y) : (evA C (.cons a es) env h).post K Y := w_aCons.mpr p
theorem x_star {K : List D → IH → Prop} (p : (evE C a env h).post (fun x h1 => ∃ xs, seqOf x = some xs ∧ (evA C es env h1).post (fun ys h2 => K (xs ++ ys) h2) Y) Y) : (evA C (.star a es) env h).post K Y := w_aStar.mpr p
theorem x_iseq {K : List D → IH → Prop} (p : (evE C a env h).post (fun x h1 => ∃ xs, itemsD x = some xs ∧ K xs h1) Y) : (evI C (.seq a) env h).post K Y := w_seq.mpr p
theorem x_irange {K : List D → IH → Prop} (p : (evA C es env h).post (fun xs h1 => ∃ ds, rangeF xs = some ds ∧ K ds h1) Y) : (evI C (.range es) env h).post K Y := w_args.mpr p
theorem x_izip {K : List D → IH → Prop} (p : (evA C es env h).post (fun xs h1 => ∃ ds, zipD xs = some ds ∧ K ds h1) Y) : (evI C (.zip es) env h).post K Y := w_args.mpr p
end
section
variable {C : CallH} {K : Bool → IH → Prop} {env : Env} {a b c : Ex} {es : Exs} {i : Nat} {d : D}
theorem c_tru (p : (evE C a env h).post (fun x h1 => ∃ b, trD x = some b ∧ K b h1) Y) : (evC C (.tru a) env h).post K Y := w_toT.mpr p
theorem c_and (p : (evCA C es env h).post K Y) : (evC C (.and es) env h).post K Y := p
theorem c_or (p : (evCO C es env h).post K Y) : (evC C (.or es) env h).post K Y := p
theorem c_and1 (p : (evC C a env h).post K Y) : (evCA C (.cons a .nil) env h).post K Y := p
theorem c_or1 (p : (evC C a env h).post K Y) : (evCO C (.cons a .nil) env h).post K Y := p
theorem c_and2 (p : (evC C a env h).post (fun t h1 => Two ((evCA C (.cons b es) env h1).post K Y) t (K false h1)) Y) : (evCA C (.cons a (.cons b es)) env h).post K Y := w_cAnd.mpr p
theorem c_or2 (p : (evC C a env h).post (fun t h1 => Two (K true h1) t ((evCO C (.cons b es) env h1).post K Y)) Y) : (evCO C (.cons a (.cons b es)) env h).post K Y := w_cOr.mpr p
theorem c_not (p : (evC C a env h).post (fun t h1 => K (!t) h1) Y) : (evC C (.not a) env h).post K Y := w_cNot.mpr p
theorem c_cst {b : Bool} (k : K b h) : (evC C (.cst (.bl b)) env h).post K Y := k
theorem c_var {b : Bool} (e : env[i]? = some (.val (.bl b))) (k : K b h) : (evC C (.var i) env h).post K Y := by
  refine w_toB.mpr ?_
  rw [w_var, e]
  exact ⟨b, rfl, k⟩
theorem c_cmp {op : COp} (p : (evE C (.cmp op a b) env h).post (fun x h1 => ∃ b, x = .bl b ∧ K b h1) Y) : (evC C (.cmp op a b) env h).post K Y := w_toB.mpr p
theorem c_ix (p : (evE C (.ix a b) env h).post (fun x h1 => ∃ b, x = .bl b ∧ K b h1) Y) : (evC C (.ix a b) env h).post K Y := w_toB.mpr p
theorem c_chain {o1 o2 : COp} (p : (evE C (.chain o1 o2 a b c) env h).post (fun x h1 => ∃ b, x = .bl b ∧ K b h1) Y) : (evC C (.chain o1 o2 a b c) env h).post K Y := w_toB.mpr p
theorem c_blt {t : Blt} (p : (evE C (.blt t es) env h).post (fun x h1 => ∃ b, x = .bl b ∧ K b h1) Y) : (evC C (.blt t es) env h).post K Y := w_toB.mpr p
theorem c_isi {t : Ty} (p : (evE C (.isi t a) env h).post (fun x h1 => ∃ b, x = .bl b ∧ K b h1) Y) : (evC C (.isi t a) env h).post K Y := w_toB.mpr p
theorem c_call {f : Nat} (p : (evE C (.call f es) env h).post (fun x h1 => ∃ b, x = .bl b ∧ K b h1) Y) : (evC C (.call f es) env h).post K Y := w_toB.mpr p
theorem t_no (k : K true h) : (evT C .no env h).post K Y := k
theorem t_yes (p : (evC C a env h).post K Y) : (evT C (.yes a) env h).post K Y := p
end
section
variable {C : CallH} {K : RS → IH → Prop} {env : Env} {a b c : Ex} {es : Exs} {i : Nat} {d : D} {s : Sm} {r t u : Sms}
/-- what follows a statement -/
def Then (C : CallH) (r : Sms) (K : RS → IH → Prop) (Y : Nat → List D → IH → Prop) (x : RS) (h : IH) : Prop := match x.1 with
  | .nx => (evSs C r x.2 h).post K Y
  | _ => K x h
theorem y_nil (k : K (.nx, env) h) : (evSs C .nil env h).post K Y := k
theorem y_cons (p : (evS C s env h).post (Then C r K Y) Y) : (evSs C (.cons s r) env h).post K Y := by
  refine s_seq.mpr (R.post.mono p (fun x h1 q => ?_) fun _ _ _ q => q)
  cases x with
  | mk f e => cases f <;> exact q
theorem y_frz {xs : List D} (e : env[i]? = some (.own xs)) (p : (evSs C r (env.set i (.val (.lst xs))) h).post K Y) : (evSs C (.frz i r) env h).post K Y := by
  show (((fun env => bnd (sFrz i env) fun x => evSs C r x.2) env h).post K Y)
  dsimp only
  rw [w_bnd]
  unfold sFrz
  rw [e]
  exact p
theorem y_frzV {d : D} (e : env[i]? = some (.val d)) (p : (evSs C r env h).post K Y) : (evSs C (.frz i r) env h).post K Y := by
  show (((fun env => bnd (sFrz i env) fun x => evSs C r x.2) env h).post K Y)
  dsimp only
  rw [w_bnd]
  unfold sFrz
  rw [e]
  exact p
theorem n_nx (p : (evSs C r env h).post K Y) : Then C r K Y (.nx, env) h := p
theorem n_rt {d : D} (p : K (.rt d, env) h) : Then C r K Y (.rt d, env) h := p
theorem n_bk (p : K (.bk, env) h) : Then C r K Y (.bk, env) h := p
theorem n_ct (p : K (.ct, env) h) : Then C r K Y (.ct, env) h := p
theorem y_set (p : (evE C a env h).post (fun d h1 => K (.nx, env.set i (.val d)) h1) Y) : (evS C (.set i a) env h).post K Y := s_set.mpr p
theorem y_own (p : (evE C a env h).post (fun d h1 => ∃ xs, d = .lst xs ∧ K (.nx, env.set i (.own xs)) h1) Y) : (evS C (.own i a) env h).post K Y := s_own.mpr p
theorem y_tg {t : Tg} (p : (evE C a env h).post (fun d h1 => ∃ env', bindT t d env = some env' ∧ K (.nx, env') h1) Y) : (evS C (.tg t a) env h).post K Y := s_tg.mpr p
theorem y_ixs (p : (evE C c env h).post (fun v h1 => (evE C a env h1).post (fun o h2 => (evE C b env h2).post (fun j h3 => ∃ h4, setCell h3 o j v = some h4 ∧ K (.nx, env) h4) Y) Y) Y) : (evS C (.ixs a b c) env h).post K Y := s_ix.mpr p
theorem y_aug {op : BOp} {x : D} (e : env[i]? = some (.val x)) (p : (evE C a env h).post (fun y h1 => ∃ z, augF op h1 x y = some z ∧ K (.nx, env.set i (.val z)) h1) Y) : (evS C (.aug op i a) env h).post K Y := by
  show ((sAug (augF op) i (evE C a) env h).post K Y)
  unfold sAug
  rw [e]
  dsimp only
  rw [w_bnd]
  refine R.post.mono p (fun y h1 ⟨z, e2, k⟩ => ?_) fun _ _ _ q => q
  rw [w_bnd]
  show ((lft (augF op h1 x y) h1).post _ Y)
  rw [w_lft]
  exact ⟨z, e2, k⟩
theorem y_app {xs : List D} (e : env[i]? = some (.own xs)) (p : (evE C a env h).post (fun d h1 => xs.length + 1 ≤ 16777216 ∧ K (.nx, env.set i (.own (xs ++ [d]))) h1) Y) : (evS C (.app i a) env h).post K Y := by
  show ((sApp i (evE C a) env h).post K Y)
  unfold sApp
  rw [e]
  dsimp only
  rw [w_bnd]
  refine R.post.mono p (fun d h1 ⟨l, k⟩ => ?_) fun _ _ _ q => q
  rw [w_bnd, w_fits]
  exact ⟨l, k⟩
theorem y_ret (p : (evE C a env h).post (fun d h1 => K (.rt d, env) h1) Y) : (evS C (.ret a) env h).post K Y := s_ret.mpr p
theorem y_retN (k : K (.rt .non, env) h) : (evS C .retN env h).post K Y := k
theorem y_pass (k : K (.nx, env) h) : (evS C .pass env h).post K Y := k
theorem y_brk (k : K (.bk, env) h) : (evS C .brk env h).post K Y := k
theorem y_cont (k : K (.ct, env) h) : (evS C .cont env h).post K Y := k
theorem y_expr (p : (evE C a env h).post (fun _ h1 => K (.nx, env) h1) Y) : (evS C (.expr a) env h).post K Y := s_drop.mpr p
theorem y_ite (p : (evC C c env h).post (fun b h1 => Two ((evSs C t env h1).post K Y) b ((evSs C u env h1).post K Y)) Y) : (evS C (.ite c t u) env h).post K Y := s_if.mpr p
/-- for, by an invariant of what is done -/
theorem w_for (I : List D → Env → IH → Prop) {tg : Tg} {b : Env → M RS} {ds : List D} (h0 : I [] env h)
    (step : ∀ pre d post env h, ds = pre ++ d :: post → I pre env h → ∃ env1, bindT tg d env = some env1 ∧ (b env1 h).post (fun r h' => match r.1 with
      | .nx => I (pre ++ [d]) r.2 h' | .ct => I (pre ++ [d]) r.2 h' | .bk => K (.nx, r.2) h' | .rt v => K (.rt v, r.2) h') Y)
    (fin : ∀ env h, I ds env h → K (.nx, env) h) : (forL tg b ds env h).post K Y := by
  have go : ∀ (post pre : List D) (env : Env) (h : IH), ds = pre ++ post → I pre env h → (forL tg b post env h).post K Y := by
    intro post
    induction post with
    | nil =>
      intro pre env h e i
      rw [List.append_nil] at e
      exact fin env h (e ▸ i)
    | cons d post ih =>
      intro pre env h e i
      obtain ⟨env1, e1, p⟩ := step pre d post env h e i
      unfold forL
      rw [e1]
      dsimp only
      rw [w_bnd]
      refine R.post.mono p (fun r h' q => ?_) fun _ _ _ q => q
      cases r with
      | mk f e2 => cases f with
        | nx => exact ih (pre ++ [d]) e2 h' (by rw [e]; simp) q
        | ct => exact ih (pre ++ [d]) e2 h' (by rw [e]; simp) q
        | bk => exact q
        | rt v => exact q
  exact go ds [] env h rfl h0
theorem y_for {it : Itr} {tg : Tg} (p : (evI C it env h).post (fun ds h1 => (forL tg (evSs C t) ds env h1).post K Y) Y) : (evS C (.forr it tg t) env h).post K Y := s_for.mpr p
/-- while, by an invariant and a measure -/
theorem w_while (I : Env → IH → Prop) (m : Env → IH → Nat) {c : Env → M Bool} {b : Env → M RS} (h0 : I env h)
    (step : ∀ env h, I env h → (c env h).post (fun t h' => Two ((b env h').post (fun r h'' => match r.1 with
      | .nx => I r.2 h'' ∧ m r.2 h'' < m env h | .ct => I r.2 h'' ∧ m r.2 h'' < m env h | .bk => K (.nx, r.2) h'' | .rt v => K (.rt v, r.2) h'') Y) t (K (.nx, env) h')) Y) : (sWhile c b env h).post K Y := by
  have go : ∀ (n : Nat) (env : Env) (h : IH), m env h < n → I env h → ∃ r, whN c b n env h = some r ∧ r.post K Y := by
    intro n
    induction n with
    | zero => intro env h l; omega
    | succ n ih =>
      intro env h l i
      have p := step env h i
      unfold whN
      cases q : c env h with
      | bad => rw [q] at p; exact p.elim
      | ex k fs h' => rw [q] at p; exact ⟨_, rfl, p⟩
      | ok t h' =>
        rw [q] at p
        cases t with
        | false => exact ⟨_, rfl, p.2 rfl⟩
        | true =>
          have p := p.1 rfl
          dsimp only
          cases q2 : b env h' with
          | bad => rw [q2] at p; exact p.elim
          | ex k fs h' => rw [q2] at p; exact ⟨_, rfl, p⟩
          | ok r2 h'' =>
            rw [q2] at p
            obtain ⟨fl, e2⟩ := r2
            cases fl with
            | nx =>
              have p : I e2 h'' ∧ m e2 h'' < m env h := p
              exact ih e2 h'' (by omega) p.1
            | ct =>
              have p : I e2 h'' ∧ m e2 h'' < m env h := p
              exact ih e2 h'' (by omega) p.1
            | bk => exact ⟨_, rfl, p⟩
            | rt v => exact ⟨_, rfl, p⟩
  obtain ⟨r, e, p⟩ := go (m env h + 1) env h (Nat.lt_succ_self _) h0
  rw [sWhile_of e]
  exact p
theorem y_whl {I : Env → IH → Prop} {m : Env → IH → Nat} (h0 : I env h)
    (step : ∀ env h, I env h → (evC C c env h).post (fun t' h' => Two ((evSs C t env h').post (fun r h'' => match r.1 with
      | .nx => I r.2 h'' ∧ m r.2 h'' < m env h | .ct => I r.2 h'' ∧ m r.2 h'' < m env h | .bk => K (.nx, r.2) h'' | .rt v => K (.rt v, r.2) h'') Y) t' (K (.nx, env) h')) Y) : (evS C (.whl c t) env h).post K Y := w_while I m h0 step
end
/-! ### comprehensions -/
section
variable {C : CallH} {K : List D → IH → Prop} {env : Env} {tg : Tg} {ft : Env → M Bool} {fe : Env → M D}
theorem w_comp (I : List D → List D → IH → Prop) {ds : List D} (h0 : I [] [] h)
    (step : ∀ pre d post acc h, ds = pre ++ d :: post → I pre acc h → ∃ env1, bindT tg d env = some env1 ∧ (ft env1 h).post (fun b h1 => Two ((fe env1 h1).post (fun y h2 => I (pre ++ [d]) (acc ++ [y]) h2) NoX) b (I (pre ++ [d]) acc h1)) NoX)
    (fin : ∀ acc h, I ds acc h → K acc h) : (cLoop tg ft fe env ds [] h).post K Y := by
  have go : ∀ (post pre acc : List D) (h : IH), ds = pre ++ post → I pre acc h → (cLoop tg ft fe env post acc h).post K Y := by
    intro post
    induction post with
    | nil =>
      intro pre acc h e i
      rw [List.append_nil] at e
      exact fin acc h (e ▸ i)
    | cons d post ih =>
      intro pre acc h e i
      obtain ⟨env1, e1, p⟩ := step pre d post acc h e i
      unfold cLoop
      rw [e1]
      dsimp only
      rw [w_bnd, w_noex]
      refine R.post.mono p (fun b h' q => ?_) fun _ _ _ q => q.elim
      cases b with
      | true =>
        rw [if_pos rfl, w_bnd, w_noex]
        refine R.post.mono (q.1 rfl) (fun y h2 q => ?_) fun _ _ _ q => q.elim
        exact ih (pre ++ [d]) (acc ++ [y]) h2 (by rw [e]; simp) q
      | false =>
        rw [if_neg Bool.false_ne_true]
        exact ih (pre ++ [d]) acc h' (by rw [e]; simp) (q.2 rfl)
  exact go ds [] [] h rfl h0
/-- .. where nothing is changed -/
theorem w_compP (p : D → Bool) (g : D → D) {ds : List D} (step : ∀ d ∈ ds, ∃ env1, bindT tg d env = some env1 ∧ (ft env1 h).post (fun b h1 => h1 = h ∧ b = p d) NoX ∧ (p d = true → (fe env1 h).post (fun y h1 => h1 = h ∧ y = g d) NoX))
    (k : K ((ds.filter p).map g) h) : (cLoop tg ft fe env ds [] h).post K Y := by
  refine w_comp (fun pre acc h' => h' = h ∧ acc = (pre.filter p).map g) ⟨rfl, rfl⟩ (fun pre d post acc h' e ⟨e1, e2⟩ => ?_) fun acc h' ⟨e1, e2⟩ => by rw [e1, e2]; exact k
  subst e1
  obtain ⟨env1, b1, p1, p2⟩ := step d (by rw [e]; simp)
  refine ⟨env1, b1, R.post.mono p1 (fun b h1 ⟨q1, q2⟩ => ?_) fun _ _ _ q => q⟩
  subst q1 q2
  refine ⟨fun c => R.post.mono (p2 c) (fun y h2 ⟨q1, q2⟩ => ⟨q1, ?_⟩) fun _ _ _ q => q, fun c => ⟨rfl, ?_⟩⟩
  · rw [e2, q2, List.filter_append, List.map_append, List.filter_cons_of_pos c]; rfl
  · rw [e2, List.filter_append, List.filter_cons_of_neg (by rw [c]; exact Bool.false_ne_true)]; simp
theorem x_comp {K : D → IH → Prop} {it : Itr} {ifs : Exo} {a : Ex} {own : List Nat} (p : (evI C it env h).post (fun ds h1 => (cLoop tg (evT C ifs) (evE C a) (wipeE env own) ds [] h1).post (fun acc h2 => K (.lst acc) h2) Y) Y) : (evE C (.comp it tg ifs a own) env h).post K Y := by
  show ((eComp (evI C it) tg (evT C ifs) (evE C a) own env h).post K Y)
  unfold eComp
  rw [w_bnd]
  refine R.post.mono p (fun ds h1 q => ?_) fun _ _ _ q => q
  rw [w_bnd]
  exact q
theorem w_cIn (I : List D → List D → IH → Prop) {ds acc0 : List D} (h0 : I [] acc0 h)
    (step : ∀ pre d post acc h, ds = pre ++ d :: post → I pre acc h → ∃ env1, bindT tg d env = some env1 ∧ (ft env1 h).post (fun b h1 => Two ((fe env1 h1).post (fun y h2 => acc.length + 1 ≤ 16777216 ∧ I (pre ++ [d]) (acc ++ [y]) h2) NoX) b (I (pre ++ [d]) acc h1)) NoX)
    (fin : ∀ acc h, I ds acc h → K acc h) : (cIn tg ft fe env ds acc0 h).post K Y := by
  have go : ∀ (post pre acc : List D) (h : IH), ds = pre ++ post → I pre acc h → (cIn tg ft fe env post acc h).post K Y := by
    intro post
    induction post with
    | nil =>
      intro pre acc h e i
      rw [List.append_nil] at e
      exact fin acc h (e ▸ i)
    | cons d post ih =>
      intro pre acc h e i
      obtain ⟨env1, e1, p⟩ := step pre d post acc h e i
      unfold cIn
      rw [e1]
      dsimp only
      rw [w_bnd, w_noex]
      refine R.post.mono p (fun b h' q => ?_) fun _ _ _ q => q.elim
      cases b with
      | true =>
        rw [if_pos rfl, w_bnd, w_noex]
        refine R.post.mono (q.1 rfl) (fun y h2 ⟨l, q⟩ => ?_) fun _ _ _ q => q.elim
        rw [w_bnd, w_fits]
        exact ⟨l, ih (pre ++ [d]) (acc ++ [y]) h2 (by rw [e]; simp) q⟩
      | false =>
        rw [if_neg Bool.false_ne_true]
        exact ih (pre ++ [d]) acc h' (by rw [e]; simp) (q.2 rfl)
  exact go ds [] acc0 h rfl h0
theorem w_comp2 {ft1 : Env → M Bool} {it2 : Env → M (List D)} {t2 : Tg} {vs1 : List Nat} (I : List D → List D → IH → Prop) {ds : List D} (h0 : I [] [] h)
    (step : ∀ pre d post acc h, ds = pre ++ d :: post → I pre acc h → ∃ env1, bindT tg d env = some env1 ∧ (ft1 env1 h).post (fun b h1 => Two ((it2 env1 h1).post (fun es h2 => (cIn t2 ft fe (wipeE env1 vs1) es acc h2).post (fun acc' h3 => I (pre ++ [d]) acc' h3) Y) NoX) b (I (pre ++ [d]) acc h1)) NoX)
    (fin : ∀ acc h, I ds acc h → K acc h) : (cLoop2 tg ft1 it2 t2 ft fe vs1 env ds [] h).post K Y := by
  have go : ∀ (post pre acc : List D) (h : IH), ds = pre ++ post → I pre acc h → (cLoop2 tg ft1 it2 t2 ft fe vs1 env post acc h).post K Y := by
    intro post
    induction post with
    | nil =>
      intro pre acc h e i
      rw [List.append_nil] at e
      exact fin acc h (e ▸ i)
    | cons d post ih =>
      intro pre acc h e i
      obtain ⟨env1, e1, p⟩ := step pre d post acc h e i
      unfold cLoop2
      rw [e1]
      dsimp only
      rw [w_bnd, w_noex]
      refine R.post.mono p (fun b h' q => ?_) fun _ _ _ q => q.elim
      cases b with
      | true =>
        rw [if_pos rfl, w_bnd, w_noex]
        refine R.post.mono (q.1 rfl) (fun es h2 q => ?_) fun _ _ _ q => q.elim
        rw [w_bnd]
        refine R.post.mono q (fun acc' h3 q => ?_) fun _ _ _ q => q
        exact ih (pre ++ [d]) acc' h3 (by rw [e]; simp) q
      | false =>
        rw [if_neg Bool.false_ne_true]
        exact ih (pre ++ [d]) acc h' (by rw [e]; simp) (q.2 rfl)
  exact go ds [] [] h rfl h0
theorem x_comp2 {K : D → IH → Prop} {it it2 : Itr} {t2 : Tg} {ifs ifs2 : Exo} {a : Ex} {own vs1 : List Nat} (p : (evI C it env h).post (fun ds h1 => (cLoop2 tg (evT C ifs) (evI C it2) t2 (evT C ifs2) (evE C a) vs1 (wipeE env own) ds [] h1).post (fun acc h2 => K (.lst acc) h2) Y) Y) : (evE C (.comp2 it tg ifs it2 t2 ifs2 a own vs1) env h).post K Y := by
  show ((eComp2 (evI C it) tg (evT C ifs) (evI C it2) t2 (evT C ifs2) (evE C a) own vs1 env h).post K Y)
  unfold eComp2
  rw [w_bnd]
  refine R.post.mono p (fun ds h1 q => ?_) fun _ _ _ q => q
  rw [w_bnd]
  exact q
end
/-! ### calls -/
theorem call_def {fns : List (Nat × FnD)} {n f : Nat} {F : FnD} {ds : List D} {K : D → IH → Prop} (hF : fns.lookup f = some F) (hl : ds.length = F.arity)
    (p : (evSs (callI fns n) F.body (ds.map Sl.val ++ List.replicate (F.N.length - ds.length) Sl.no) h).post (fun r h1 => match r.1 with | .nx => K .non h1 | .rt d => K d h1 | _ => False) Y) : (callI fns (n + 1) f ds h).post K Y := by
  simp only [callI, hF]
  rw [if_pos hl]
  show ((bnd (evSs (callI fns n) F.body (ds.map Sl.val ++ List.replicate (F.N.length - ds.length) Sl.no)) fun r => endV r.1) h).post K Y
  rw [w_bnd]
  refine R.post.mono p (fun r h1 q => ?_) fun _ _ _ q => q
  obtain ⟨fl, e⟩ := r
  cases fl <;> exact q
/-- more fuel does no harm to what is told of all fuels from a least one on -/
theorem fuel {P : Nat → Prop} {n k : Nat} (h : ∀ k, P (k + n)) (l : n ≤ k) : P k := by
  have := h (k - n)
  rwa [Nat.sub_add_cancel l] at this
end Iv

/-! Iv, part Q: the operations at values whose kinds are known. -/
namespace Iv
open PySem L2
variable {P : D → Prop} {h : IH}
theorem o_addI {i j : Int} (k : P (.int (i + j))) : ∃ d, binF .add h (.int i) (.int j) = some d ∧ P d := ⟨_, rfl, k⟩
theorem o_addS {x y : List Nat} (l : x.length + y.length ≤ 16777216) (k : P (.str (x ++ y))) : ∃ d, binF .add h (.str x) (.str y) = some d ∧ P d := ⟨_, by show (if _ then _ else _) = _; rw [if_pos l], k⟩
theorem o_addL {x y : List D} (l : x.length + y.length ≤ 16777216) (k : P (.lst (x ++ y))) : ∃ d, binF .add h (.lst x) (.lst y) = some d ∧ P d := ⟨_, by show (if _ then _ else _) = _; rw [if_pos l], k⟩
theorem o_addT {x y : List D} (l : x.length + y.length ≤ 16777216) (k : P (.tup (x ++ y))) : ∃ d, binF .add h (.tup x) (.tup y) = some d ∧ P d := ⟨_, by show (if _ then _ else _) = _; rw [if_pos l], k⟩
theorem o_subI {i j : Int} (k : P (.int (i - j))) : ∃ d, binF .sub h (.int i) (.int j) = some d ∧ P d := ⟨_, rfl, k⟩
theorem o_mulI {i j : Int} (l : (-(2 ^ 64) < i ∧ i < 2 ^ 64) ∨ (-(2 ^ 64) < j ∧ j < 2 ^ 64)) (k : P (.int (i * j))) : ∃ d, binF .mul h (.int i) (.int j) = some d ∧ P d :=
  ⟨.int (i * j), by show (Option.map D.int (if _ then _ else _)) = _; rw [if_pos l]; rfl, k⟩
theorem o_fdivI {i j : Int} (l : 0 < j ∧ j < 1073741824) (k : P (.int (i / j))) : ∃ d, binF .fdiv h (.int i) (.int j) = some d ∧ P d :=
  ⟨.int (i / j), by show (Option.map D.int (if _ then _ else _)) = _; rw [if_pos l]; rfl, k⟩
theorem o_modI {i j : Int} (l : 0 < j) (k : P (.int (i % j))) : ∃ d, binF .mod h (.int i) (.int j) = some d ∧ P d :=
  ⟨.int (i % j), by show (Option.map D.int (if _ then _ else _)) = _; rw [if_pos l]; rfl, k⟩
theorem o_powI {i j : Int} (l : 0 ≤ j ∧ j ≤ 1000000 ∧ i.natAbs < 2 ^ 64) (k : P (.int (i ^ j.toNat))) : ∃ d, binF .pow h (.int i) (.int j) = some d ∧ P d :=
  ⟨.int (i ^ j.toNat), by show (Option.map D.int (if _ then _ else _)) = _; rw [if_pos l]; rfl, k⟩
theorem o_andI {i j : Int} (k : P (.int (Builtin.bitAnd i j))) : ∃ d, binF .band h (.int i) (.int j) = some d ∧ P d := ⟨_, rfl, k⟩
theorem o_eq {x y : D} (l : eqOk x y = true) (k : P (.bl (D.eqv x y))) : ∃ d, cmpF .eq h x y = some d ∧ P d := ⟨_, by show (if _ then _ else _) = _; rw [if_pos l], k⟩
theorem o_ne {x y : D} (l : eqOk x y = true) (k : P (.bl (!D.eqv x y))) : ∃ d, cmpF .ne h x y = some d ∧ P d := ⟨_, by show (if _ then _ else _) = _; rw [if_pos l], k⟩
theorem o_eqI {i j : Int} (k : P (.bl (i == j))) : ∃ d, cmpF .eq h (.int i) (.int j) = some d ∧ P d := o_eq rfl k
theorem o_neI {i j : Int} (k : P (.bl (!(i == j)))) : ∃ d, cmpF .ne h (.int i) (.int j) = some d ∧ P d := o_ne rfl k
theorem o_eqS {x y : List Nat} (k : P (.bl (x == y))) : ∃ d, cmpF .eq h (.str x) (.str y) = some d ∧ P d := o_eq rfl k
theorem o_neS {x y : List Nat} (k : P (.bl (!(x == y)))) : ∃ d, cmpF .ne h (.str x) (.str y) = some d ∧ P d := o_ne rfl k
theorem o_ltI {i j : Int} (k : P (.bl (decide (i < j)))) : ∃ d, cmpF .lt h (.int i) (.int j) = some d ∧ P d := ⟨_, rfl, k⟩
theorem o_leI {i j : Int} (k : P (.bl (decide (i ≤ j)))) : ∃ d, cmpF .le h (.int i) (.int j) = some d ∧ P d := ⟨_, rfl, k⟩
theorem o_gtI {i j : Int} (k : P (.bl (decide (j < i)))) : ∃ d, cmpF .gt h (.int i) (.int j) = some d ∧ P d := ⟨_, rfl, k⟩
theorem o_geI {i j : Int} (k : P (.bl (decide (j ≤ i)))) : ∃ d, cmpF .ge h (.int i) (.int j) = some d ∧ P d := ⟨_, rfl, k⟩
theorem o_lt {x y : D} {b : Bool} (l : ordOk x y = true) (e : ordP .Lt x.py y.py = some b) (k : P (.bl b)) : ∃ d, cmpF .lt h x y = some d ∧ P d := ⟨.bl b, by show (if _ then _ else _) = _; rw [if_pos l, e]; rfl, k⟩
theorem o_le {x y : D} {b : Bool} (l : ordOk x y = true) (e : ordP .LtE x.py y.py = some b) (k : P (.bl b)) : ∃ d, cmpF .le h x y = some d ∧ P d := ⟨.bl b, by show (if _ then _ else _) = _; rw [if_pos l, e]; rfl, k⟩
theorem o_inS {c : Nat} {z : List Nat} (k : P (.bl (decide (c ∈ z)))) : ∃ d, cmpF .inn h (.str [c]) (.str z) = some d ∧ P d := ⟨_, rfl, k⟩
theorem o_ninS {c : Nat} {z : List Nat} (k : P (.bl (!decide (c ∈ z)))) : ∃ d, cmpF .nin h (.str [c]) (.str z) = some d ∧ P d := ⟨_, rfl, k⟩
theorem in_seq {x : D} {xs : List D} (l : inOk x xs = true) : inB x (.tup xs) = some (memD x xs) ∧ inB x (.lst xs) = some (memD x xs) := by
  constructor
  · unfold inB
    split <;> simp_all
  · unfold inB
    split <;> simp_all
theorem o_inT {x : D} {xs : List D} (l : inOk x xs = true) (k : P (.bl (memD x xs))) : ∃ d, cmpF .inn h x (.tup xs) = some d ∧ P d := ⟨.bl (memD x xs), by show (inB x (.tup xs)).map D.bl = _; rw [(in_seq l).1]; rfl, k⟩
theorem o_inL {x : D} {xs : List D} (l : inOk x xs = true) (k : P (.bl (memD x xs))) : ∃ d, cmpF .inn h x (.lst xs) = some d ∧ P d := ⟨.bl (memD x xs), by show (inB x (.lst xs)).map D.bl = _; rw [(in_seq l).2]; rfl, k⟩
theorem o_ninT {x : D} {xs : List D} (l : inOk x xs = true) (k : P (.bl (!memD x xs))) : ∃ d, cmpF .nin h x (.tup xs) = some d ∧ P d := ⟨.bl (!memD x xs), by show (inB x (.tup xs)).map _ = _; rw [(in_seq l).1]; rfl, k⟩
theorem o_ninL {x : D} {xs : List D} (l : inOk x xs = true) (k : P (.bl (!memD x xs))) : ∃ d, cmpF .nin h x (.lst xs) = some d ∧ P d := ⟨.bl (!memD x xs), by show (inB x (.lst xs)).map _ = _; rw [(in_seq l).2]; rfl, k⟩
theorem o_isN {x : D} (k : P (.bl (match x with | .non => true | _ => false))) : ∃ d, cmpF .isn h x .non = some d ∧ P d := by
  cases x <;> exact ⟨_, rfl, k⟩
theorem o_isnN {x : D} (k : P (.bl (match x with | .non => false | _ => true))) : ∃ d, cmpF .isnn h x .non = some d ∧ P d := by
  cases x <;> exact ⟨_, rfl, k⟩
/-! ### x[i] -/
theorem atI_pos {α : Type} {xs : List α} {i : Int} {d : α} (h0 : 0 ≤ i) (e : xs[i.toNat]? = some d) : atI xs i = some d := by
  have hl := (List.getElem?_eq_some_iff.mp e).1
  unfold atI ixN
  rw [if_pos h0, if_pos (by omega)]
  exact e
theorem atI_neg {α : Type} {xs : List α} {i : Int} {d : α} (h0 : i < 0) (l : -(xs.length : Int) ≤ i) (e : xs[(i + xs.length).toNat]? = some d) : atI xs i = some d := by
  unfold atI ixN
  rw [if_neg (by omega), if_pos l]
  exact e
theorem o_ixT {xs : List D} {i : Int} {d : D} (e : atI xs i = some d) (k : P d) : ∃ d, opIx h (.tup xs) (.int i) = some d ∧ P d := ⟨d, e, k⟩
theorem o_ixL {xs : List D} {i : Int} {d : D} (e : atI xs i = some d) (k : P d) : ∃ d, opIx h (.lst xs) (.int i) = some d ∧ P d := ⟨d, e, k⟩
theorem o_ixS {z : List Nat} {i : Int} {c : Nat} (e : atI z i = some c) (k : P (.str [c])) : ∃ d, opIx h (.str z) (.int i) = some d ∧ P d := ⟨.str [c], by show (atI z i).map _ = _; rw [e]; rfl, k⟩
theorem atI_zero {α : Type} {x : α} {xs : List α} : atI (x :: xs) 0 = some x := atI_pos (Int.le_refl 0) rfl
theorem o_ixT0 {x : D} {xs : List D} (k : P x) : ∃ d, opIx h (.tup (x :: xs)) (.int 0) = some d ∧ P d := o_ixT atI_zero k
theorem o_ixL0 {x : D} {xs : List D} (k : P x) : ∃ d, opIx h (.lst (x :: xs)) (.int 0) = some d ∧ P d := o_ixL atI_zero k
theorem o_ixS0 {c : Nat} {z : List Nat} (k : P (.str [c])) : ∃ d, opIx h (.str (c :: z)) (.int 0) = some d ∧ P d := o_ixS atI_zero k
theorem o_fit {n : Nat} {P : Prop} (l : Nat.ble n 16777216 = true) (k : P) : n ≤ 16777216 ∧ P := ⟨Nat.le_of_ble_eq_true l, k⟩
theorem o_isi {x : D} {t : Ty} {b : Bool} {P : Bool → Prop} (e : isiD x t = some b) (k : P b) : ∃ b, isiD x t = some b ∧ P b := ⟨b, e, k⟩
theorem nfalse {b : Bool} (h : (!b) = false) : b = true := by cases b <;> first | rfl | cases h
theorem o_ixR {r : Nat} {xs : List D} {i : Int} {d : D} (e : h[r]? = some (.lst xs)) (e2 : atI xs i = some d) (k : P d) : ∃ d, opIx h (.ref r) (.int i) = some d ∧ P d := ⟨d, by show (match h[r]? with | some (.lst xs) => atI xs i | none => none) = _; rw [e]; exact e2, k⟩
theorem o_setR {r : Nat} {xs : List D} {i : Int} {j : Nat} {v : D} {P : IH → Prop} (e : h[r]? = some (.lst xs)) (e2 : ixN xs.length i = some j) (k : P (h.set r (.lst (xs.set j v)))) : ∃ h4, setCell h (.ref r) (.int i) v = some h4 ∧ P h4 :=
  ⟨_, by show (match h[r]? with | some (.lst xs) => (ixN xs.length i).map fun j => h.set r (.lst (xs.set j v)) | none => none) = _; rw [e]; simp only [e2]; rfl, k⟩
theorem o_len {xs : List D} (k : P (.int xs.length)) : ∃ d, bltF .len [.lst xs] = some d ∧ P d := ⟨_, rfl, k⟩
theorem o_lenT {xs : List D} (k : P (.int xs.length)) : ∃ d, bltF .len [.tup xs] = some d ∧ P d := ⟨_, rfl, k⟩
theorem o_lenS {z : List Nat} (k : P (.int z.length)) : ∃ d, bltF .len [.str z] = some d ∧ P d := ⟨_, rfl, k⟩
theorem o_int {i : Int} (k : P (.int i)) : ∃ d, bltF .int [.int i] = some d ∧ P d := ⟨_, rfl, k⟩
theorem o_bl {b : Bool} {P : Bool → Prop} (k : P b) : ∃ c, D.bl b = .bl c ∧ P c := ⟨b, rfl, k⟩
theorem o_isI {i : Int} {P : Int → Prop} (k : P i) : ∃ c, D.int i = .int c ∧ P c := ⟨i, rfl, k⟩
theorem o_isL {i : List D} {P : List D → Prop} (k : P i) : ∃ c, D.lst i = .lst c ∧ P c := ⟨i, rfl, k⟩
/-- all other cells are as they were -/
def Oth (r : Nat) (h h' : IH) : Prop := h'.length = h.length ∧ ∀ j, j ≠ r → h'[j]? = h[j]?
theorem Oth.refl (r : Nat) (h : IH) : Oth r h h := ⟨rfl, fun _ _ => rfl⟩
theorem Oth.trans {r : Nat} {h h1 h2 : IH} (a : Oth r h h1) (b : Oth r h1 h2) : Oth r h h2 := ⟨b.1.trans a.1, fun j n => (b.2 j n).trans (a.2 j n)⟩
theorem o_setS {r : Nat} {xs : List D} {i : Int} {j : Nat} {v : D} {P : IH → Prop} (e : h[r]? = some (.lst xs)) (e2 : ixN xs.length i = some j) (k : ∀ h2, h2[r]? = some (.lst (xs.set j v)) → Oth r h h2 → P h2) : ∃ h4, setCell h (.ref r) (.int i) v = some h4 ∧ P h4 :=
  o_setR e e2 (k _ (List.getElem?_set_self (List.getElem?_eq_some_iff.mp e).1) ⟨by simp, fun j n => List.getElem?_set_ne (Ne.symm n)⟩)
theorem y_cut {C : CallH} {K : RS → IH → Prop} {Y : Nat → List D → IH → Prop} {env : Env} {s : Sm} {r : Sms} (Mid : RS → IH → Prop) (p : (evS C s env h).post Mid Y) (q : ∀ x h, Mid x h → Then C r K Y x h) : (evSs C (.cons s r) env h).post K Y :=
  y_cons (R.post.mono p q fun _ _ _ k => k)
section
variable {P : List D → Prop}
theorem o_itL {xs : List D} (k : P xs) : ∃ ys, itemsD (.lst xs) = some ys ∧ P ys := ⟨_, rfl, k⟩
theorem o_itT {xs : List D} (k : P xs) : ∃ ys, itemsD (.tup xs) = some ys ∧ P ys := ⟨_, rfl, k⟩
theorem o_itS {z : List Nat} (k : P (z.map fun c => D.str [c])) : ∃ ys, itemsD (.str z) = some ys ∧ P ys := ⟨_, rfl, k⟩
theorem o_sqL {xs : List D} (k : P xs) : ∃ ys, seqOf (.lst xs) = some ys ∧ P ys := ⟨_, rfl, k⟩
theorem o_sqT {xs : List D} (k : P xs) : ∃ ys, seqOf (.tup xs) = some ys ∧ P ys := ⟨_, rfl, k⟩
theorem o_rg1 {j : Int} (l : -(2 ^ 62) ≤ j ∧ j ≤ 16777216) (k : P (rng 0 1 j.toNat)) : ∃ ds, rangeF [.int j] = some ds ∧ P ds := ⟨_, by show (if _ then _ else _) = _; rw [if_pos l], k⟩
theorem o_rg2 {i j : Int} (l : (-(2 ^ 62) ≤ i ∧ i < 2 ^ 62 ∧ -(2 ^ 62) ≤ j ∧ j < 2 ^ 62) ∧ (j - i).toNat ≤ 16777216) (k : P (rng i 1 (j - i).toNat)) : ∃ ds, rangeF [.int i, .int j] = some ds ∧ P ds := ⟨_, by show (if _ then _ else _) = _; rw [if_pos l], k⟩
theorem o_zipT {xs ys : List D} (k : P ((xs.zip ys).map fun p => .tup [p.1, p.2])) : ∃ ds, zipD [.tup xs, .tup ys] = some ds ∧ P ds := ⟨_, rfl, k⟩
theorem o_zipL {xs ys : List D} (k : P ((xs.zip ys).map fun p => .tup [p.1, p.2])) : ∃ ds, zipD [.lst xs, .lst ys] = some ds ∧ P ds := ⟨_, rfl, k⟩
end
section
variable {P : D → Prop}
theorem o_slL {xs : List D} {lo hi : Option Int} (k : P (.lst (cutD xs lo hi))) : ∃ d, slD (.lst xs) lo hi = some d ∧ P d := ⟨_, rfl, k⟩
theorem o_slT {xs : List D} {lo hi : Option Int} (k : P (.tup (cutD xs lo hi))) : ∃ d, slD (.tup xs) lo hi = some d ∧ P d := ⟨_, rfl, k⟩
theorem o_slS {z : List Nat} {lo hi : Option Int} (k : P (.str (cutD z lo hi))) : ∃ d, slD (.str z) lo hi = some d ∧ P d := ⟨_, rfl, k⟩
theorem o_neg {i : Int} (k : P (.int (-i))) : ∃ d, negD (.int i) = some d ∧ P d := ⟨_, rfl, k⟩
theorem o_list {xs : List D} (k : P (.lst xs)) : ∃ d, bltF .list [.lst xs] = some d ∧ P d := ⟨_, rfl, k⟩
theorem o_listT {xs : List D} (k : P (.lst xs)) : ∃ d, bltF .list [.tup xs] = some d ∧ P d := ⟨_, rfl, k⟩
theorem o_tuple {xs : List D} (k : P (.tup xs)) : ∃ d, bltF .tuple [.lst xs] = some d ∧ P d := ⟨_, rfl, k⟩
theorem o_tupleT {xs : List D} (k : P (.tup xs)) : ∃ d, bltF .tuple [.tup xs] = some d ∧ P d := ⟨_, rfl, k⟩
theorem allB_map : ∀ bs : List Bool, allB (bs.map D.bl) = some bs
  | [] => rfl
  | b :: bs => by simp [allB, allB_map bs]
theorem o_all {xs : List D} {bs : List Bool} (e : xs = bs.map D.bl) (k : P (.bl (bs.all id))) : ∃ d, bltF .all [.lst xs] = some d ∧ P d := ⟨.bl (bs.all id), by subst e; simp [bltF, bAll, allB_map], k⟩
theorem o_any {xs : List D} {bs : List Bool} (e : xs = bs.map D.bl) (k : P (.bl (bs.any id))) : ∃ d, bltF .any [.lst xs] = some d ∧ P d := ⟨.bl (bs.any id), by subst e; simp [bltF, bAny, allB_map], k⟩
end
section
variable {P : Bool → Prop}
theorem o_trI {i : Int} (k : P (i != 0)) : ∃ b, trD (.int i) = some b ∧ P b := ⟨_, rfl, k⟩
theorem o_trL {xs : List D} (k : P (!xs.isEmpty)) : ∃ b, trD (.lst xs) = some b ∧ P b := ⟨_, rfl, k⟩
theorem o_trT {xs : List D} (k : P (!xs.isEmpty)) : ∃ b, trD (.tup xs) = some b ∧ P b := ⟨_, rfl, k⟩
theorem o_trB {b : Bool} (k : P b) : ∃ c, trD (.bl b) = some c ∧ P c := ⟨_, rfl, k⟩
end
theorem o_leB {i j : Int} {P : Bool → Prop} (k : P (decide (i ≤ j))) : ∃ t, cmpF .le h (.int i) (.int j) = some (.bl t) ∧ P t := ⟨_, rfl, k⟩
theorem o_ltB {i j : Int} {P : Bool → Prop} (k : P (decide (i < j))) : ∃ t, cmpF .lt h (.int i) (.int j) = some (.bl t) ∧ P t := ⟨_, rfl, k⟩
/-- a comprehension over a known row where nothing is changed -/
theorem w_compZ {K : List D → IH → Prop} {Y : Nat → List D → IH → Prop} {env : Env} {tg : Tg} {ft : Env → M Bool} {fe : Env → M D} {ζ : Type} (f g : ζ → D) (p : ζ → Bool) {zs : List ζ}
    (step : ∀ z ∈ zs, ∃ env1, bindT tg (f z) env = some env1 ∧ (ft env1 h).post (fun b h1 => h1 = h ∧ b = p z) NoX ∧ (p z = true → (fe env1 h).post (fun y h1 => h1 = h ∧ y = g z) NoX))
    (k : K ((zs.filter p).map g) h) : (cLoop tg ft fe env (zs.map f) [] h).post K Y := by
  refine w_comp (fun pre acc h' => h' = h ∧ ∃ zp, zp <+: zs ∧ zp.length = pre.length ∧ acc = (zp.filter p).map g) ⟨rfl, [], List.nil_prefix, rfl, rfl⟩ (fun pre d post acc h' e ⟨e1, zp, e2, e3, e4⟩ => ?_) fun acc h' ⟨e1, zp, e2, e3, e4⟩ => ?_
  · subst e1
    obtain ⟨zq, rfl⟩ := e2
    have hl : zp.length < (zp ++ zq).length := by
      have := congrArg List.length e
      rw [List.length_map, List.length_append, List.length_append, List.length_cons] at this
      rw [List.length_append]; omega
    cases zq with
    | nil => simp at hl
    | cons z zq =>
      have ed : d = f z := by
        have := congrArg (fun l => l[pre.length]?) e
        simp only [List.getElem?_map] at this
        rw [← e3, List.getElem?_append_right (Nat.le_refl _), e3, List.getElem?_append_right (Nat.le_refl _)] at this
        simp at this
        exact this.symm
      subst ed
      obtain ⟨env1, b1, p1, p2⟩ := step z (by simp)
      refine ⟨env1, b1, R.post.mono p1 (fun b h1 ⟨q1, q2⟩ => ?_) fun _ _ _ q => q⟩
      subst q1 q2
      refine ⟨fun c => R.post.mono (p2 c) (fun y h2 ⟨q1, q2⟩ => ⟨q1, zp ++ [z], ⟨zq, by simp⟩, by simp [e3], ?_⟩) fun _ _ _ q => q, fun c => ⟨rfl, zp ++ [z], ⟨zq, by simp⟩, by simp [e3], ?_⟩⟩
      · rw [e4, q2, List.filter_append, List.map_append, List.filter_cons_of_pos c]; rfl
      · rw [e4, List.filter_append, List.filter_cons_of_neg (by rw [c]; exact Bool.false_ne_true)]; simp
  · rw [e1, e4]
    have : zp = zs := List.IsPrefix.eq_of_length e2 (by rw [e3, List.length_map])
    rw [this]; exact k
theorem w_compA {C : CallH} {K : List D → IH → Prop} {Y : Nat → List D → IH → Prop} {env : Env} {tg : Tg} {fe : Env → M D} {ζ : Type} (f g : ζ → D) {zs : List ζ}
    (step : ∀ z ∈ zs, ∃ env1, bindT tg (f z) env = some env1 ∧ (fe env1 h).post (fun y h1 => h1 = h ∧ y = g z) NoX)
    (k : K (zs.map g) h) : (cLoop tg (evT C .no) fe env (zs.map f) [] h).post K Y := by
  refine w_compZ f g (fun _ => true) (fun z hz => ?_) (by rw [List.filter_eq_self.mpr (fun _ _ => rfl)]; exact k)
  obtain ⟨env1, e, q⟩ := step z hz
  exact ⟨env1, e, ⟨rfl, rfl⟩, fun _ => q⟩
theorem w_cut {α : Type} {r : R α} {K : α → IH → Prop} {Y : Nat → List D → IH → Prop} (Mid : α → IH → Prop) (p : r.post Mid Y) (q : ∀ x h, Mid x h → K x h) : r.post K Y := R.post.mono p q fun _ _ _ k => k
/-- how a loop's turn ends -/
def Turn (J : Env → IH → Prop) (K : RS → IH → Prop) (r : RS) (h : IH) : Prop := match r.1 with
  | .nx => J r.2 h | .ct => J r.2 h | .bk => K (.nx, r.2) h | .rt v => K (.rt v, r.2) h
theorem u_nx {J : Env → IH → Prop} {K : RS → IH → Prop} {env : Env} (k : J env h) : Turn J K (.nx, env) h := k
theorem u_ct {J : Env → IH → Prop} {K : RS → IH → Prop} {env : Env} (k : J env h) : Turn J K (.ct, env) h := k
theorem u_bk {J : Env → IH → Prop} {K : RS → IH → Prop} {env : Env} (k : K (.nx, env) h) : Turn J K (.bk, env) h := k
theorem u_rt {J : Env → IH → Prop} {K : RS → IH → Prop} {env : Env} {v : D} (k : K (.rt v, env) h) : Turn J K (.rt v, env) h := k
/-- while, by an invariant with a number that goes down -/
theorem y_whlN {C : CallH} {K : RS → IH → Prop} {Y : Nat → List D → IH → Prop} {env : Env} {c : Ex} {t : Sms} (I : Nat → Env → IH → Prop) (n : Nat) (h0 : I n env h)
    (step : ∀ n env h, I n env h → (evC C c env h).post (fun b h' => Two ((evSs C t env h').post (Turn (fun e h'' => ∃ m, m < n ∧ I m e h'') K) Y) b (K (.nx, env) h')) Y) : (evS C (.whl c t) env h).post K Y := by
  show (sWhile (evC C c) (evSs C t) env h).post K Y
  have go : ∀ (n : Nat) (env : Env) (h : IH), I n env h → ∃ (k : Nat) (r : R RS), whN (evC C c) (evSs C t) k env h = some r ∧ r.post K Y := by
    intro n
    induction n using Nat.strongRecOn with
    | _ n ih =>
      intro env h i
      have p := step n env h i
      cases q : evC C c env h with
      | bad => rw [q] at p; exact p.elim
      | ex k fs h' => rw [q] at p; exact ⟨1, _, by unfold whN; rw [q], p⟩
      | ok b h' =>
        rw [q] at p
        cases b with
        | false => exact ⟨1, .ok (.nx, env) h', by unfold whN; rw [q], p.2 rfl⟩
        | true =>
          have p := p.1 rfl
          cases q2 : evSs C t env h' with
          | bad => rw [q2] at p; exact p.elim
          | ex k fs h'' => rw [q2] at p; exact ⟨1, .ex k fs h'', by unfold whN; rw [q]; dsimp only; rw [q2], p⟩
          | ok r2 h'' =>
            rw [q2] at p
            obtain ⟨fl, e2⟩ := r2
            cases fl with
            | nx =>
              obtain ⟨m, l, i2⟩ := (show ∃ m, m < n ∧ I m e2 h'' from p)
              obtain ⟨k, r, e, pr⟩ := ih m l e2 h'' i2
              exact ⟨k + 1, r, by unfold whN; rw [q]; dsimp only; rw [q2]; exact e, pr⟩
            | ct =>
              obtain ⟨m, l, i2⟩ := (show ∃ m, m < n ∧ I m e2 h'' from p)
              obtain ⟨k, r, e, pr⟩ := ih m l e2 h'' i2
              exact ⟨k + 1, r, by unfold whN; rw [q]; dsimp only; rw [q2]; exact e, pr⟩
            | bk => exact ⟨1, .ok (.nx, e2) h'', by unfold whN; rw [q]; dsimp only; rw [q2], p⟩
            | rt v => exact ⟨1, .ok (.rt v, e2) h'', by unfold whN; rw [q]; dsimp only; rw [q2], p⟩
  obtain ⟨k, r, e, p⟩ := go n env h h0
  rw [sWhile_of e]
  exact p
/-- for, by an invariant of what is done -/
theorem f_for {K : RS → IH → Prop} {Y : Nat → List D → IH → Prop} {env : Env} (I : List D → Env → IH → Prop) {tg : Tg} {b : Env → M RS} {ds : List D} (h0 : I [] env h)
    (step : ∀ pre d post env h, ds = pre ++ d :: post → I pre env h → ∃ env1, bindT tg d env = some env1 ∧ (b env1 h).post (Turn (I (pre ++ [d])) K) Y)
    (fin : ∀ env h, I ds env h → K (.nx, env) h) : (forL tg b ds env h).post K Y :=
  w_for I h0 (fun pre d post env h e i => step pre d post env h e i) fin
/-- for, the body is walked through for each item of a known list -/
theorem f_nil {K : RS → IH → Prop} {Y : Nat → List D → IH → Prop} {env : Env} {tg : Tg} {b : Env → M RS} (k : K (.nx, env) h) : (forL tg b [] env h).post K Y := k
theorem f_cons {K : RS → IH → Prop} {Y : Nat → List D → IH → Prop} {env env1 : Env} {tg : Tg} {b : Env → M RS} {d : D} {ds : List D} (e : bindT tg d env = some env1)
    (p : (b env1 h).post (Turn (fun e h' => (forL tg b ds e h').post K Y) K) Y) : (forL tg b (d :: ds) env h).post K Y := by
  unfold forL
  rw [e]
  dsimp only
  rw [w_bnd]
  refine R.post.mono p (fun r h' q => ?_) fun _ _ _ q => q
  obtain ⟨f, e2⟩ := r
  cases f <;> exact q
/-- for over a known row, by an invariant of what is left -/
theorem f_forR {K : RS → IH → Prop} {Y : Nat → List D → IH → Prop} {tg : Tg} {b : Env → M RS} {ζ : Type} (f : ζ → D) (I : List ζ → Env → IH → Prop)
    (step : ∀ z zs env h, I (z :: zs) env h → ∃ env1, bindT tg (f z) env = some env1 ∧ (b env1 h).post (Turn (I zs) K) Y)
    (fin : ∀ env h, I [] env h → K (.nx, env) h) : ∀ {zs : List ζ} {env : Env} {h : IH}, I zs env h → (forL tg b (zs.map f) env h).post K Y
  | [], env, h, i => fin env h i
  | z :: zs, env, h, i => by
    obtain ⟨env1, e, p⟩ := step z zs env h i
    rw [List.map_cons]
    refine f_cons e (R.post.mono p (fun r h' q => ?_) fun _ _ _ q => q)
    obtain ⟨fl, e2⟩ := r
    cases fl with
    | nx => exact f_forR f I step fin q
    | ct => exact f_forR f I step fin q
    | bk => exact q
    | rt v => exact q
/-- two clauses over known rows where nothing is changed -/
theorem w_cInZ {K : List D → IH → Prop} {Y : Nat → List D → IH → Prop} {env : Env} {tg : Tg} {ft : Env → M Bool} {fe : Env → M D} {ζ : Type} (f g : ζ → D) (p : ζ → Bool) :
    ∀ {zs : List ζ} {acc : List D}, (∀ z ∈ zs, ∃ env1, bindT tg (f z) env = some env1 ∧ (ft env1 h).post (fun b h1 => h1 = h ∧ b = p z) NoX ∧ (p z = true → (fe env1 h).post (fun y h1 => h1 = h ∧ y = g z) NoX)) →
      acc.length + (zs.filter p).length ≤ 16777216 → K (acc ++ (zs.filter p).map g) h → (cIn tg ft fe env (zs.map f) acc h).post K Y
  | [], acc, _, _, k => by
    show K acc h
    simpa using k
  | z :: zs, acc, step, l, k => by
    obtain ⟨env1, e, p1, p2⟩ := step z List.mem_cons_self
    rw [List.map_cons]
    unfold cIn
    rw [e]
    dsimp only
    rw [w_bnd, w_noex]
    refine R.post.mono p1 (fun b h1 ⟨q1, q2⟩ => ?_) fun _ _ _ q => q.elim
    subst h1 b
    cases c : p z with
    | true =>
      rw [List.filter_cons_of_pos c] at l k
      rw [if_pos rfl, w_bnd, w_noex]
      refine R.post.mono (p2 c) (fun y h2 ⟨q1, q2⟩ => ?_) fun _ _ _ q => q.elim
      subst h2 y
      rw [w_bnd, w_fits]
      rw [List.length_cons] at l
      refine ⟨by omega, ?_⟩
      exact w_cInZ f g p (fun x hx => step x (List.mem_cons_of_mem _ hx)) (by rw [List.length_append, List.length_singleton]; omega) (by simpa using k)
    | false =>
      rw [List.filter_cons_of_neg (by rw [c]; exact Bool.false_ne_true)] at l k
      rw [if_neg Bool.false_ne_true]
      exact w_cInZ f g p (fun x hx => step x (List.mem_cons_of_mem _ hx)) l k
theorem w_comp2Z {C : CallH} {K : List D → IH → Prop} {Y : Nat → List D → IH → Prop} {env : Env} {tg t2 : Tg} {it2 : Env → M (List D)} {ft : Env → M Bool} {fe : Env → M D} {vs1 : List Nat} {ζ ξ : Type} (f : ζ → D) (it : ζ → List ξ) (f2 : ξ → D) (p : ζ → ξ → Bool) (g : ζ → ξ → D) {zs : List ζ}
    (step : ∀ z ∈ zs, ∃ env1, bindT tg (f z) env = some env1 ∧ (it2 env1 h).post (fun es h1 => h1 = h ∧ es = (it z).map f2) NoX ∧
      ∀ x ∈ it z, ∃ env2, bindT t2 (f2 x) (wipeE env1 vs1) = some env2 ∧ (ft env2 h).post (fun b h1 => h1 = h ∧ b = p z x) NoX ∧ (p z x = true → (fe env2 h).post (fun y h1 => h1 = h ∧ y = g z x) NoX))
    (l : (zs.flatMap fun z => ((it z).filter (p z)).map (g z)).length ≤ 16777216) (k : K (zs.flatMap fun z => ((it z).filter (p z)).map (g z)) h) : (cLoop2 tg (evT C .no) it2 t2 ft fe vs1 env (zs.map f) [] h).post K Y := by
  have go : ∀ {zs : List ζ} {acc : List D}, (∀ z ∈ zs, ∃ env1, bindT tg (f z) env = some env1 ∧ (it2 env1 h).post (fun es h1 => h1 = h ∧ es = (it z).map f2) NoX ∧
      ∀ x ∈ it z, ∃ env2, bindT t2 (f2 x) (wipeE env1 vs1) = some env2 ∧ (ft env2 h).post (fun b h1 => h1 = h ∧ b = p z x) NoX ∧ (p z x = true → (fe env2 h).post (fun y h1 => h1 = h ∧ y = g z x) NoX)) →
      (acc ++ zs.flatMap fun z => ((it z).filter (p z)).map (g z)).length ≤ 16777216 → K (acc ++ zs.flatMap fun z => ((it z).filter (p z)).map (g z)) h → (cLoop2 tg (evT C .no) it2 t2 ft fe vs1 env (zs.map f) acc h).post K Y := by
    intro zs
    induction zs with
    | nil =>
      intro acc _ _ k
      show K acc h
      simpa using k
    | cons z zs ih =>
      intro acc step l k
      obtain ⟨env1, e, p1, p2⟩ := step z List.mem_cons_self
      rw [List.map_cons]
      unfold cLoop2
      rw [e]
      dsimp only
      rw [w_bnd, w_noex]
      show ((bnd (noex (it2 env1)) fun es => _) h).post K Y
      rw [w_bnd, w_noex]
      refine R.post.mono p1 (fun es h1 ⟨q1, q2⟩ => ?_) fun _ _ _ q => q.elim
      subst q1 q2
      rw [List.flatMap_cons, ← List.append_assoc] at l k
      rw [w_bnd]
      refine w_cInZ f2 (g z) (p z) p2 ?_ ?_
      · rw [List.length_append, List.length_append, List.length_map] at l; omega
      · exact ih (fun x hx => step x (List.mem_cons_of_mem _ hx)) l k
  exact go step (by simpa using l) (by simpa using k)
end Iv

/-! defs as Iv terms, by their numbers in reg.json (printed by gen.py) -/
namespace Fn
open PySem Iv
/-- _law_source -/
def b2 : Sms := .cons (.ret (.cell (.cons (.blt .list (.cons (.var 0) (.nil))) (.cons (.cst (.int 0)) (.cons (.cst (.int 0)) (.nil)))))) (.nil)
def f2 : FnD := ⟨"_law_source", ["script"], ["script"], b2⟩
/-- _law_relations -/
def b3 : Sms := .cons (.set 2 (.lst (.cons (.tup (.cons (.cst (.str [65])) (.cons (.cst (.int 1)) (.nil)))) (.cons (.tup (.cons (.cst (.str [66])) (.cons (.cst (.int 1)) (.nil)))) (.cons (.tup (.cons (.cst (.str [69])) (.cons (.cst (.int 2)) (.nil)))) (.cons (.tup (.cons (.cst (.str [70])) (.cons (.cst (.int 2)) (.nil)))) (.cons (.tup (.cons (.cst (.str [65])) (.cons (.cst (.int 2)) (.nil)))) (.cons (.tup (.cons (.cst (.str [69, 100, 103, 101])) (.cons (.cst (.int 2)) (.nil)))) (.cons (.tup (.cons (.cst (.str [77, 97, 114, 107])) (.cons (.cst (.int 1)) (.nil)))) (.cons (.tup (.cons (.cst (.str [66])) (.cons (.cst (.int 2)) (.nil)))) (.nil))))))))))) (.cons (.set 3 (.call 5 (.cons (.var 0) (.cons (.cst (.int 8)) (.nil))))) (.cons (.set 4 (.ix (.lst (.cons (.cst (.int 3)) (.cons (.cst (.int 5)) (.cons (.cst (.int 1)) (.nil))))) (.call 5 (.cons (.var 0) (.cons (.cst (.int 3)) (.nil)))))) (.cons (.ret (.comp (.range (.cons (.bin .add (.cst (.int 2)) (.call 5 (.cons (.var 0) (.cons (.cst (.int 3)) (.nil))))) (.nil))) (.nm 1) .no (.ix (.var 2) (.bin .mod (.blt .int (.cons (.bin .add (.var 3) (.bin .mul (.var 4) (.var 1))) (.nil))) (.cst (.int 8)))) [1])) (.nil))))
def f3 : FnD := ⟨"_law_relations", ["source"], ["source", "k", "pool", "first", "step"], b3⟩
/-- _law_names -/
def b4 : Sms := .cons (.set 2 (.cst (.str [97, 98, 99, 100, 101, 102, 103, 104, 105, 106, 107, 108, 109, 110, 111, 112, 113, 114, 115, 116, 117, 118, 119, 120, 121, 122]))) (.cons (.set 3 (.call 5 (.cons (.var 0) (.cons (.cst (.int 26)) (.nil))))) (.cons (.set 4 (.call 5 (.cons (.var 0) (.cons (.cst (.int 4)) (.nil))))) (.cons (.own 5 (.lst (.nil))) (.cons (.forr (.range (.cons (.var 1) (.nil))) (.nm 6) (.cons (.set 7 (.ix (.var 2) (.bin .mod (.blt .int (.cons (.bin .add (.var 3) (.bin .mul (.cst (.int 11)) (.var 6))) (.nil))) (.cst (.int 26))))) (.cons (.set 8 (.var 7)) (.cons (.ite (.cmp .eq (.var 4) (.cst (.int 1))) (.cons (.set 8 (.bin .add (.bin .add (.ix (.lst (.cons (.cst (.str [])) (.cons (.cst (.str [120])) (.cons (.cst (.str [113, 55])) (.cons (.cst (.str [98])) (.nil)))))) (.call 5 (.cons (.var 0) (.cons (.cst (.int 4)) (.nil))))) (.var 7)) (.ix (.lst (.cons (.cst (.str [])) (.cons (.cst (.str [49])) (.cons (.cst (.str [122, 122])) (.cons (.cst (.str [99, 48])) (.nil)))))) (.call 5 (.cons (.var 0) (.cons (.cst (.int 4)) (.nil))))))) (.nil)) (.nil)) (.cons (.ite (.cmp .eq (.var 4) (.cst (.int 2))) (.cons (.set 8 (.bin .add (.cst (.str [116, 104, 105, 110, 103])) (.var 7))) (.nil)) (.nil)) (.cons (.ite (.cmp .eq (.var 4) (.cst (.int 3))) (.cons (.set 8 (.bin .add (.var 7) (.blt .str (.cons (.call 5 (.cons (.var 0) (.cons (.cst (.int 1000)) (.nil)))) (.nil))))) (.cons (.ite (.cmp .eq (.call 5 (.cons (.var 0) (.cons (.cst (.int 3)) (.nil)))) (.cst (.int 0))) (.cons (.set 8 (.bin .add (.cst (.str [110])) (.blt .str (.cons (.bin .add (.cst (.int 1)) (.call 5 (.cons (.var 0) (.cons (.cst (.int 3)) (.nil))))) (.nil))))) (.nil)) (.nil)) (.nil))) (.nil)) (.cons (.ite (.cmp .inn (.var 8) (.peek 5)) (.cons (.set 8 (.bin .add (.bin .add (.cst (.str [119])) (.blt .str (.cons (.var 6) (.nil)))) (.var 7))) (.nil)) (.nil)) (.cons (.app 5 (.var 8)) (.nil))))))))) (.frz 5 (.cons (.ret (.var 5)) (.nil)))))))
def f4 : FnD := ⟨"_law_names", ["source", "many"], ["source", "many", "letters", "first", "style", "names", "k", "letter", "name"], b4⟩
/-- _law_draw -/
def b5 : Sms := .cons (.ite (.cmp .le (.var 1) (.cst (.int 1))) (.cons (.ret (.cst (.int 0))) (.nil)) (.nil)) (.cons (.ite (.cmp .eq (.ix (.var 0) (.cst (.int 2))) (.cst (.int 0))) (.cons (.ite (.cmp .ge (.ix (.var 0) (.cst (.int 1))) (.blt .len (.cons (.ix (.var 0) (.cst (.int 0))) (.nil)))) (.cons (.ret (.cst (.int 0))) (.nil)) (.nil)) (.cons (.set 2 (.ix (.ix (.var 0) (.cst (.int 0))) (.ix (.var 0) (.cst (.int 1))))) (.cons (.ixs (.var 0) (.cst (.int 1)) (.bin .add (.ix (.var 0) (.cst (.int 1))) (.cst (.int 1)))) (.cons (.ite (.cmp .ge (.var 2) (.bin .pow (.cst (.int 10)) (.cst (.int 18)))) (.cons (.ixs (.var 0) (.cst (.int 2)) (.var 2)) (.nil)) (.cons (.set 3 (.bin .mod (.blt .int (.cons (.bin .add (.bin .add (.bin .mul (.var 2) (.cst (.int 48271))) (.bin .mul (.ix (.var 0) (.cst (.int 1))) (.cst (.int 69621)))) (.cst (.int 7))) (.nil))) (.cst (.int 2147483647)))) (.cons (.set 4 (.bin .mod (.blt .int (.cons (.bin .add (.bin .add (.bin .mul (.var 3) (.cst (.int 40692))) (.bin .mul (.var 2) (.cst (.int 16807)))) (.cst (.int 11))) (.nil))) (.cst (.int 2147483399)))) (.cons (.ixs (.var 0) (.cst (.int 2)) (.bin .add (.bin .add (.bin .mul (.var 3) (.cst (.int 2147483399))) (.var 4)) (.cst (.int 1)))) (.nil))))) (.nil))))) (.nil)) (.cons (.set 5 (.bin .mod (.blt .int (.cons (.ix (.var 0) (.cst (.int 2))) (.nil))) (.var 1))) (.cons (.ixs (.var 0) (.cst (.int 2)) (.bin .fdiv (.ix (.var 0) (.cst (.int 2))) (.var 1))) (.cons (.ret (.var 5)) (.nil)))))
def f5 : FnD := ⟨"_law_draw", ["source", "many"], ["source", "many", "cell", "first", "second", "digit"], b5⟩
/-- _law_pattern -/
def b6 : Sms := .cons (.tg (.tp [3, 4]) (.ix (.var 1) (.call 5 (.cons (.var 0) (.cons (.blt .len (.cons (.var 1) (.nil))) (.nil)))))) (.cons (.own 5 (.lst (.cons (.var 3) (.nil)))) (.cons (.forr (.range (.cons (.var 4) (.nil))) (.nm 6) (.cons (.set 7 (.ix (.var 2) (.call 5 (.cons (.var 0) (.cons (.blt .len (.cons (.var 2) (.nil))) (.nil)))))) (.cons (.app 5 (.ix (.lst (.cons (.cst (.str [])) (.cons (.var 7) (.nil)))) (.call 5 (.cons (.var 0) (.cons (.cst (.int 2)) (.nil)))))) (.nil)))) (.cons (.ret (.blt .tuple (.cons (.peek 5) (.nil)))) (.nil))))
def f6 : FnD := ⟨"_law_pattern", ["source", "relations", "names"], ["source", "relations", "names", "word", "count", "parts", "k", "name"], b6⟩
/-- _law_opened -/
def b7 : Sms := .cons (.own 2 (.lst (.cons (.ix (.var 1) (.cst (.int 0))) (.nil)))) (.cons (.forr (.seq (.sl (.var 1) (.yes (.cst (.int 1))) .no)) (.nm 3) (.cons (.app 2 (.ix (.lst (.cons (.var 3) (.cons (.cst (.str [])) (.nil)))) (.call 5 (.cons (.var 0) (.cons (.cst (.int 2)) (.nil)))))) (.nil))) (.cons (.ret (.blt .tuple (.cons (.peek 2) (.nil)))) (.nil)))
def f7 : FnD := ⟨"_law_opened", ["source", "pattern"], ["source", "pattern", "parts", "part"], b7⟩
/-- _law_atom -/
def b8 : Sms := .cons (.tg (.tp [3, 4]) (.ix (.var 1) (.call 5 (.cons (.var 0) (.cons (.blt .len (.cons (.var 1) (.nil))) (.nil)))))) (.cons (.ite (.cmp .eq (.var 4) (.cst (.int 1))) (.cons (.ret (.tup (.cons (.var 3) (.cons (.ix (.var 2) (.call 5 (.cons (.var 0) (.cons (.blt .len (.cons (.var 2) (.nil))) (.nil))))) (.nil))))) (.nil)) (.nil)) (.cons (.ret (.tup (.cons (.var 3) (.cons (.ix (.var 2) (.call 5 (.cons (.var 0) (.cons (.blt .len (.cons (.var 2) (.nil))) (.nil))))) (.cons (.ix (.var 2) (.call 5 (.cons (.var 0) (.cons (.blt .len (.cons (.var 2) (.nil))) (.nil))))) (.nil)))))) (.nil)))
def f8 : FnD := ⟨"_law_atom", ["source", "relations", "pool"], ["source", "relations", "pool", "word", "count"], b8⟩
/-- _law_all_facts -/
def b9 : Sms := .cons (.set 3 (.lst (.cons (.tup (.cons (.ix (.var 0) (.cst (.int 0))) (.nil))) (.nil)))) (.cons (.forr (.seq (.sl (.var 0) (.yes (.cst (.int 1))) .no)) (.nm 4) (.cons (.set 5 (.lst (.nil))) (.cons (.forr (.seq (.var 3)) (.nm 6) (.cons (.set 5 (.bin .add (.var 5) (.comp (.seq (.var 1)) (.nm 2) (.yes (.or (.cons (.cmp .eq (.var 4) (.cst (.str []))) (.cons (.cmp .eq (.var 4) (.var 2)) (.nil))))) (.bin .add (.var 6) (.tup (.cons (.var 2) (.nil)))) [2]))) (.nil))) (.cons (.set 3 (.blt .list (.cons (.var 5) (.nil)))) (.nil))))) (.cons (.ret (.call 15 (.cons (.var 3) (.nil)))) (.nil)))
def f9 : FnD := ⟨"_law_all_facts", ["pattern", "names"], ["pattern", "names", "name", "rows", "part", "more", "row"], b9⟩
/-- _law_same -/
def b10 : Sms := .cons (.ite (.or (.cons (.cmp .isn (.var 0) (.cst (.non))) (.cons (.cmp .isn (.var 1) (.cst (.non))) (.nil)))) (.cons (.ret (.and (.cons (.cmp .isn (.var 0) (.cst (.non))) (.cons (.cmp .isn (.var 1) (.cst (.non))) (.nil))))) (.nil)) (.nil)) (.cons (.ite (.or (.cons (.isi .bool (.var 0)) (.cons (.isi .bool (.var 1)) (.nil)))) (.cons (.ret (.and (.cons (.isi .bool (.var 0)) (.cons (.isi .bool (.var 1)) (.cons (.cmp .eq (.var 0) (.var 1)) (.nil)))))) (.nil)) (.nil)) (.cons (.ite (.or (.cons (.isi .int (.var 0)) (.cons (.isi .int (.var 1)) (.nil)))) (.cons (.ret (.and (.cons (.isi .int (.var 0)) (.cons (.isi .int (.var 1)) (.cons (.cmp .eq (.var 0) (.var 1)) (.nil)))))) (.nil)) (.nil)) (.cons (.ite (.or (.cons (.isi .str (.var 0)) (.cons (.isi .str (.var 1)) (.nil)))) (.cons (.ret (.and (.cons (.isi .str (.var 0)) (.cons (.isi .str (.var 1)) (.cons (.cmp .eq (.var 0) (.var 1)) (.nil)))))) (.nil)) (.nil)) (.cons (.ite (.or (.cons (.and (.cons (.isi .list (.var 0)) (.cons (.isi .list (.var 1)) (.nil)))) (.cons (.and (.cons (.isi .tuple (.var 0)) (.cons (.isi .tuple (.var 1)) (.nil)))) (.nil)))) (.cons (.ite (.cmp .ne (.blt .len (.cons (.var 0) (.nil))) (.blt .len (.cons (.var 1) (.nil)))) (.cons (.ret (.cst (.bl false))) (.nil)) (.nil)) (.cons (.forr (.range (.cons (.blt .len (.cons (.var 0) (.nil))) (.nil))) (.nm 2) (.cons (.ite (.not (.call 10 (.cons (.ix (.var 0) (.var 2)) (.cons (.ix (.var 1) (.var 2)) (.nil))))) (.cons (.ret (.cst (.bl false))) (.nil)) (.nil)) (.nil))) (.cons (.ret (.cst (.bl true))) (.nil)))) (.nil)) (.cons (.ret (.cst (.bl false))) (.nil))))))
def f10 : FnD := ⟨"_law_same", ["one", "two"], ["one", "two", "k"], b10⟩
/-- fact_fits -/
def b11 : Sms := .cons (.ite (.or (.cons (.cmp .ne (.blt .len (.cons (.var 0) (.nil))) (.blt .len (.cons (.var 1) (.nil)))) (.cons (.cmp .ne (.ix (.var 0) (.cst (.int 0))) (.ix (.var 1) (.cst (.int 0)))) (.nil)))) (.cons (.ret (.cst (.bl false))) (.nil)) (.nil)) (.cons (.ret (.blt .all (.cons (.comp (.zip (.cons (.sl (.var 1) (.yes (.cst (.int 1))) .no) (.cons (.sl (.var 0) (.yes (.cst (.int 1))) .no) (.nil)))) (.tp [2, 3]) .no (.cmp .inn (.var 2) (.tup (.cons (.cst (.str [])) (.cons (.var 3) (.nil))))) [2, 3]) (.nil)))) (.nil))
def f11 : FnD := ⟨"fact_fits", ["fact", "pattern"], ["fact", "pattern", "part", "name"], b11⟩
/-- _law_fits -/
def b12 : Sms := .cons (.ite (.or (.cons (.cmp .ne (.blt .len (.cons (.var 0) (.nil))) (.blt .len (.cons (.var 1) (.nil)))) (.cons (.cmp .ne (.ix (.var 0) (.cst (.int 0))) (.ix (.var 1) (.cst (.int 0)))) (.nil)))) (.cons (.ret (.cst (.bl false))) (.nil)) (.nil)) (.cons (.forr (.range (.cons (.cst (.int 1)) (.cons (.blt .len (.cons (.var 0) (.nil))) (.nil)))) (.nm 2) (.cons (.ite (.and (.cons (.cmp .ne (.ix (.var 1) (.var 2)) (.cst (.str []))) (.cons (.cmp .ne (.ix (.var 1) (.var 2)) (.ix (.var 0) (.var 2))) (.nil)))) (.cons (.ret (.cst (.bl false))) (.nil)) (.nil)) (.nil))) (.cons (.ret (.cst (.bl true))) (.nil)))
def f12 : FnD := ⟨"_law_fits", ["fact", "pattern"], ["fact", "pattern", "k"], b12⟩
/-- pattern_covers -/
def b13 : Sms := .cons (.ite (.or (.cons (.cmp .ne (.blt .len (.cons (.var 0) (.nil))) (.blt .len (.cons (.var 1) (.nil)))) (.cons (.cmp .ne (.ix (.var 0) (.cst (.int 0))) (.ix (.var 1) (.cst (.int 0)))) (.nil)))) (.cons (.ret (.cst (.bl false))) (.nil)) (.nil)) (.cons (.ret (.blt .all (.cons (.comp (.zip (.cons (.sl (.var 0) (.yes (.cst (.int 1))) .no) (.cons (.sl (.var 1) (.yes (.cst (.int 1))) .no) (.nil)))) (.tp [2, 3]) .no (.cmp .inn (.var 2) (.tup (.cons (.cst (.str [])) (.cons (.var 3) (.nil))))) [2, 3]) (.nil)))) (.nil))
def f13 : FnD := ⟨"pattern_covers", ["one", "two"], ["one", "two", "part", "other"], b13⟩
/-- _law_covers -/
def b14 : Sms := .cons (.ite (.or (.cons (.cmp .ne (.blt .len (.cons (.var 0) (.nil))) (.blt .len (.cons (.var 1) (.nil)))) (.cons (.cmp .ne (.ix (.var 0) (.cst (.int 0))) (.ix (.var 1) (.cst (.int 0)))) (.nil)))) (.cons (.ret (.cst (.bl false))) (.nil)) (.nil)) (.cons (.forr (.range (.cons (.cst (.int 1)) (.cons (.blt .len (.cons (.var 0) (.nil))) (.nil)))) (.nm 2) (.cons (.ite (.and (.cons (.cmp .ne (.ix (.var 0) (.var 2)) (.cst (.str []))) (.cons (.cmp .ne (.ix (.var 0) (.var 2)) (.ix (.var 1) (.var 2))) (.nil)))) (.cons (.ret (.cst (.bl false))) (.nil)) (.nil)) (.nil))) (.cons (.ret (.cst (.bl true))) (.nil)))
def f14 : FnD := ⟨"_law_covers", ["one", "two"], ["one", "two", "k"], b14⟩
/-- _law_ascending -/
def b15 : Sms := .cons (.own 1 (.lst (.nil))) (.cons (.forr (.seq (.var 0)) (.nm 2) (.cons (.set 3 (.blt .len (.cons (.peek 1) (.nil)))) (.cons (.forr (.range (.cons (.blt .len (.cons (.peek 1) (.nil))) (.nil))) (.nm 4) (.cons (.ite (.cmp .le (.ix (.peek 1) (.bin .sub (.var 3) (.cst (.int 1)))) (.var 2)) (.cons (.brk) (.nil)) (.nil)) (.cons (.set 3 (.bin .sub (.var 3) (.cst (.int 1)))) (.nil)))) (.cons (.ite (.and (.cons (.cmp .eq (.var 3) (.blt .len (.cons (.peek 1) (.nil)))) (.cons (.or (.cons (.cmp .eq (.var 3) (.cst (.int 0))) (.cons (.cmp .ne (.ix (.peek 1) (.bin .sub (.var 3) (.cst (.int 1)))) (.var 2)) (.nil)))) (.nil)))) (.cons (.app 1 (.var 2)) (.nil)) (.cons (.ite (.or (.cons (.cmp .eq (.var 3) (.cst (.int 0))) (.cons (.cmp .ne (.ix (.peek 1) (.bin .sub (.var 3) (.cst (.int 1)))) (.var 2)) (.nil)))) (.cons (.own 1 (.bin .add (.bin .add (.sl (.peek 1) .no (.yes (.var 3))) (.lst (.cons (.var 2) (.nil)))) (.sl (.peek 1) (.yes (.var 3)) .no))) (.nil)) (.nil)) (.nil))) (.nil))))) (.frz 1 (.cons (.ret (.var 1)) (.nil))))
def f15 : FnD := ⟨"_law_ascending", ["rows"], ["rows", "found", "row", "at", "k"], b15⟩
/-- pattern_names -/
def b16 : Sms := .cons (.ret (.call 21 (.cons (.comp2 (.seq (.var 0)) (.nm 1) .no (.seq (.sl (.var 1) (.yes (.cst (.int 1))) .no)) (.nm 2) (.yes (.cmp .ne (.var 2) (.cst (.str [])))) (.var 2) [1, 2] [2]) (.nil)))) (.nil)
def f16 : FnD := ⟨"pattern_names", ["patterns"], ["patterns", "pattern", "part"], b16⟩
/-- facts_like -/
def b17 : Sms := .cons (.set 4 (.lst (.cons (.tup (.cons (.ix (.var 0) (.cst (.int 0))) (.nil))) (.nil)))) (.cons (.forr (.seq (.sl (.var 0) (.yes (.cst (.int 1))) .no)) (.nm 5) (.cons (.set 6 (.ite (.cmp .eq (.var 5) (.cst (.str []))) (.var 1) (.comp (.seq (.var 1)) (.nm 3) (.yes (.cmp .eq (.var 3) (.var 5))) (.var 3) [3]))) (.cons (.set 4 (.comp2 (.seq (.var 4)) (.nm 2) .no (.seq (.var 6)) (.nm 3) .no (.tup (.star (.var 2) (.cons (.var 3) (.nil)))) [2, 3] [3])) (.nil)))) (.cons (.ret (.call 21 (.cons (.var 4) (.nil)))) (.nil)))
def f17 : FnD := ⟨"facts_like", ["pattern", "names"], ["pattern", "names", "row", "name", "rows", "part", "chosen"], b17⟩
/-- common_pattern -/
def b18 : Sms := .cons (.ite (.or (.cons (.cmp .ne (.blt .len (.cons (.var 0) (.nil))) (.blt .len (.cons (.var 1) (.nil)))) (.cons (.cmp .ne (.ix (.var 0) (.cst (.int 0))) (.ix (.var 1) (.cst (.int 0)))) (.nil)))) (.cons (.ret (.cst (.non))) (.nil)) (.nil)) (.cons (.own 2 (.lst (.nil))) (.cons (.forr (.zip (.cons (.sl (.var 0) (.yes (.cst (.int 1))) .no) (.cons (.sl (.var 1) (.yes (.cst (.int 1))) .no) (.nil)))) (.tp [3, 4]) (.cons (.ite (.and (.cons (.cmp .ne (.var 3) (.cst (.str []))) (.cons (.cmp .ne (.var 4) (.cst (.str []))) (.cons (.cmp .ne (.var 3) (.var 4)) (.nil))))) (.cons (.ret (.cst (.non))) (.nil)) (.nil)) (.cons (.app 2 (.ite (.cmp .eq (.var 3) (.cst (.str []))) (.var 4) (.var 3))) (.nil)))) (.cons (.ret (.tup (.cons (.ix (.var 0) (.cst (.int 0))) (.star (.peek 2) (.nil))))) (.nil))))
def f18 : FnD := ⟨"common_pattern", ["one", "two"], ["one", "two", "parts", "part", "other"], b18⟩
/-- whole_pattern -/
def b19 : Sms := .cons (.ret (.tup (.cons (.var 0) (.star (.comp (.range (.cons (.var 1) (.nil))) (.nm 2) .no (.cst (.str [])) [2]) (.nil))))) (.nil)
def f19 : FnD := ⟨"whole_pattern", ["word", "number"], ["word", "number", "_"], b19⟩
/-- _law_forms -/
def b20 : Sms := .cons (.set 2 (.ix (.lst (.cons (.cst (.str [65, 97])) (.cons (.cst (.str [49, 97])) (.cons (.cst (.str [97, 95, 98])) (.cons (.cst (.str [116, 111, 111, 108, 111, 110, 103, 57, 57])) (.cons (.cst (.str [42])) (.cons (.cst (.str [65])) (.cons (.cst (.str [97, 32, 98])) (.nil))))))))) (.call 5 (.cons (.var 0) (.cons (.cst (.int 7)) (.nil)))))) (.cons (.set 3 (.bin .add (.cst (.int 1)) (.call 5 (.cons (.var 0) (.cons (.bin .sub (.blt .len (.cons (.var 1) (.nil))) (.cst (.int 1))) (.nil)))))) (.cons (.ite (.or (.cons (.not (.call 22 (.cons (.var 1) (.nil)))) (.cons (.call 22 (.cons (.bin .add (.bin .add (.sl (.var 1) .no (.yes (.var 3))) (.tup (.cons (.var 2) (.nil)))) (.sl (.var 1) (.yes (.bin .add (.var 3) (.cst (.int 1)))) .no)) (.nil))) (.nil)))) (.cons (.ret (.cst (.bl false))) (.nil)) (.nil)) (.cons (.ite (.call 22 (.cons (.bin .add (.tup (.cons (.ix (.lst (.cons (.cst (.str [97])) (.cons (.cst (.str [])) (.cons (.cst (.str [84, 111, 111, 108, 111, 110, 103, 57, 57])) (.cons (.cst (.str [65, 95])) (.nil)))))) (.call 5 (.cons (.var 0) (.cons (.cst (.int 4)) (.nil))))) (.nil))) (.sl (.var 1) (.yes (.cst (.int 1))) .no)) (.nil))) (.cons (.ret (.cst (.bl false))) (.nil)) (.nil)) (.cons (.ite (.or (.cons (.call 22 (.cons (.tup (.cons (.ix (.var 1) (.cst (.int 0))) (.nil))) (.nil))) (.cons (.call 22 (.cons (.tup (.cons (.ix (.var 1) (.cst (.int 0))) (.cons (.cst (.str [97])) (.cons (.cst (.str [])) (.cons (.cst (.str [98])) (.nil)))))) (.nil))) (.cons (.call 22 (.cons (.tup (.nil)) (.nil))) (.nil))))) (.cons (.ret (.cst (.bl false))) (.nil)) (.nil)) (.cons (.ret (.and (.cons (.call 22 (.cons (.tup (.cons (.ix (.var 1) (.cst (.int 0))) (.cons (.cst (.str [])) (.nil)))) (.nil))) (.cons (.call 22 (.cons (.tup (.cons (.ix (.var 1) (.cst (.int 0))) (.cons (.cst (.str [97])) (.cons (.cst (.str [])) (.nil))))) (.nil))) (.cons (.call 22 (.cons (.tup (.cons (.ix (.var 1) (.cst (.int 0))) (.cons (.cst (.str [])) (.cons (.cst (.str [98, 50])) (.nil))))) (.nil))) (.nil)))))) (.nil))))))
def f20 : FnD := ⟨"_law_forms", ["source", "pattern"], ["source", "pattern", "bad", "at"], b20⟩
/-- ascending -/
def b21 : Sms := .cons (.set 2 (.comp (.seq (.var 0)) (.nm 1) .no (.lst (.cons (.var 1) (.nil))) [1])) (.cons (.whl (.cmp .gt (.blt .len (.cons (.var 2) (.nil))) (.cst (.int 1))) (.cons (.own 3 (.lst (.nil))) (.cons (.forr (.range (.cons (.cst (.int 0)) (.cons (.bin .sub (.blt .len (.cons (.var 2) (.nil))) (.cst (.int 1))) (.cons (.cst (.int 2)) (.nil))))) (.nm 4) (.cons (.app 3 (.call 23 (.cons (.ix (.var 2) (.var 4)) (.cons (.ix (.var 2) (.bin .add (.var 4) (.cst (.int 1)))) (.nil))))) (.nil))) (.cons (.ite (.tru (.bin .band (.blt .len (.cons (.var 2) (.nil))) (.cst (.int 1)))) (.cons (.app 3 (.ix (.var 2) (.neg (.cst (.int 1))))) (.nil)) (.nil)) (.frz 3 (.cons (.set 2 (.var 3)) (.nil))))))) (.cons (.ite (.cmp .eq (.blt .len (.cons (.var 2) (.nil))) (.cst (.int 0))) (.cons (.ret (.lst (.nil))) (.nil)) (.nil)) (.cons (.ret (.ix (.var 2) (.cst (.int 0)))) (.nil))))
def f21 : FnD := ⟨"ascending", ["rows"], ["rows", "row", "lists", "pairs", "k"], b21⟩
/-- is_pattern -/
def b22 : Sms := .cons (.ite (.or (.cons (.not (.isi .tuple (.var 0))) (.cons (.cmp .nin (.blt .len (.cons (.var 0) (.nil))) (.tup (.cons (.cst (.int 2)) (.cons (.cst (.int 3)) (.nil))))) (.cons (.not (.call 24 (.cons (.ix (.var 0) (.cst (.int 0))) (.nil)))) (.nil))))) (.cons (.ret (.cst (.bl false))) (.nil)) (.nil)) (.cons (.ret (.blt .all (.cons (.comp (.seq (.sl (.var 0) (.yes (.cst (.int 1))) .no)) (.nm 1) .no (.or (.cons (.cmp .eq (.var 1) (.cst (.str []))) (.cons (.call 25 (.cons (.var 1) (.nil))) (.nil)))) [1]) (.nil)))) (.nil))
def f22 : FnD := ⟨"is_pattern", ["value"], ["value", "part"], b22⟩
/-- merged -/
def b23 : Sms := .cons (.own 2 (.lst (.nil))) (.cons (.set 3 (.cst (.int 0))) (.cons (.set 4 (.cst (.int 0))) (.cons (.whl (.and (.cons (.cmp .lt (.var 3) (.blt .len (.cons (.var 0) (.nil)))) (.cons (.cmp .lt (.var 4) (.blt .len (.cons (.var 1) (.nil)))) (.nil)))) (.cons (.ite (.cmp .lt (.ix (.var 1) (.var 4)) (.ix (.var 0) (.var 3))) (.cons (.app 2 (.ix (.var 1) (.var 4))) (.cons (.set 4 (.bin .add (.var 4) (.cst (.int 1)))) (.nil))) (.cons (.app 2 (.ix (.var 0) (.var 3))) (.cons (.ite (.cmp .eq (.ix (.var 0) (.var 3)) (.ix (.var 1) (.var 4))) (.cons (.set 4 (.bin .add (.var 4) (.cst (.int 1)))) (.nil)) (.nil)) (.cons (.set 3 (.bin .add (.var 3) (.cst (.int 1)))) (.nil))))) (.nil))) (.cons (.ret (.bin .add (.bin .add (.peek 2) (.sl (.var 0) (.yes (.var 3)) .no)) (.sl (.var 1) (.yes (.var 4)) .no))) (.nil)))))
def f23 : FnD := ⟨"merged", ["left", "right"], ["left", "right", "rows", "i", "j"], b23⟩
/-- is_word -/
def b24 : Sms := .cons (.ite (.or (.cons (.not (.chain .le .le (.cst (.int 1)) (.blt .len (.cons (.var 0) (.nil))) (.cst (.int 8)))) (.cons (.cmp .nin (.ix (.var 0) (.cst (.int 0))) (.cst (.str [65, 66, 67, 68, 69, 70, 71, 72, 73, 74, 75, 76, 77, 78, 79, 80, 81, 82, 83, 84, 85, 86, 87, 88, 89, 90]))) (.nil)))) (.cons (.ret (.cst (.bl false))) (.nil)) (.nil)) (.cons (.ret (.blt .all (.cons (.comp (.seq (.var 0)) (.nm 1) .no (.or (.cons (.cmp .inn (.var 1) (.cst (.str [97, 98, 99, 100, 101, 102, 103, 104, 105, 106, 107, 108, 109, 110, 111, 112, 113, 114, 115, 116, 117, 118, 119, 120, 121, 122]))) (.cons (.cmp .inn (.var 1) (.cst (.str [65, 66, 67, 68, 69, 70, 71, 72, 73, 74, 75, 76, 77, 78, 79, 80, 81, 82, 83, 84, 85, 86, 87, 88, 89, 90]))) (.cons (.cmp .inn (.var 1) (.cst (.str [48, 49, 50, 51, 52, 53, 54, 55, 56, 57]))) (.nil))))) [1]) (.nil)))) (.nil))
def f24 : FnD := ⟨"is_word", ["value"], ["value", "char"], b24⟩
/-- is_name -/
def b25 : Sms := .cons (.ite (.or (.cons (.not (.chain .le .le (.cst (.int 1)) (.blt .len (.cons (.var 0) (.nil))) (.cst (.int 8)))) (.cons (.cmp .nin (.ix (.var 0) (.cst (.int 0))) (.cst (.str [97, 98, 99, 100, 101, 102, 103, 104, 105, 106, 107, 108, 109, 110, 111, 112, 113, 114, 115, 116, 117, 118, 119, 120, 121, 122]))) (.nil)))) (.cons (.ret (.cst (.bl false))) (.nil)) (.nil)) (.cons (.ret (.blt .all (.cons (.comp (.seq (.var 0)) (.nm 1) .no (.or (.cons (.cmp .inn (.var 1) (.cst (.str [97, 98, 99, 100, 101, 102, 103, 104, 105, 106, 107, 108, 109, 110, 111, 112, 113, 114, 115, 116, 117, 118, 119, 120, 121, 122]))) (.cons (.cmp .inn (.var 1) (.cst (.str [48, 49, 50, 51, 52, 53, 54, 55, 56, 57]))) (.nil)))) [1]) (.nil)))) (.nil))
def f25 : FnD := ⟨"is_name", ["value"], ["value", "char"], b25⟩
end Fn

local macro_rules | `(tactic| walk_at "iv") => `(tactic| first
  | with_reducible first
    | refine Iv.y_cons ?_ | refine Iv.n_nx ?_ | refine Iv.n_rt ?_ | refine Iv.n_bk ?_ | refine Iv.n_ct ?_
    | refine Iv.x_acons ?_ | refine Iv.x_nil ?_ | refine Iv.x_cst ?_
    | refine Iv.x_bin ?_ | refine Iv.x_cmp ?_ | refine Iv.x_ix ?_ | refine Iv.x_call ?_ | refine Iv.x_blt ?_ | refine Iv.x_tup ?_ | refine Iv.x_lst ?_ | refine Iv.x_cell ?_ | refine Iv.x_isi ?_
    | refine Iv.x_neg ?_ | refine Iv.x_sl ?_ | refine Iv.x_pno ?_ | refine Iv.x_pyes ?_ | refine Iv.x_and ?_ | refine Iv.x_or ?_ | refine Iv.x_and2 ?_ | refine Iv.x_or2 ?_ | refine Iv.x_and1 ?_ | refine Iv.x_or1 ?_
    | refine Iv.x_not ?_ | refine Iv.x_ite ?_ | refine Iv.x_chain ?_ | refine Iv.x_star ?_ | refine Iv.x_comp ?_ | refine Iv.x_comp2 ?_ | refine Iv.x_iseq ?_ | refine Iv.x_irange ?_ | refine Iv.x_izip ?_
    | refine Iv.c_tru ?_ | refine Iv.c_and ?_ | refine Iv.c_or ?_ | refine Iv.c_and2 ?_ | refine Iv.c_or2 ?_ | refine Iv.c_and1 ?_ | refine Iv.c_or1 ?_ | refine Iv.c_not ?_ | refine Iv.c_cst ?_
    | refine Iv.c_cmp ?_ | refine Iv.c_ix ?_ | refine Iv.c_chain ?_ | refine Iv.c_blt ?_ | refine Iv.c_isi ?_ | refine Iv.c_call ?_ | refine Iv.t_no ?_ | refine Iv.t_yes ?_
    | refine Iv.y_nil ?_ | refine Iv.y_set ?_ | refine Iv.y_own ?_ | refine Iv.y_tg ?_ | refine Iv.y_ixs ?_
    | refine Iv.y_ret ?_ | refine Iv.y_retN ?_ | refine Iv.y_pass ?_ | refine Iv.y_brk ?_ | refine Iv.y_cont ?_ | refine Iv.y_expr ?_ | refine Iv.y_ite ?_ | refine Iv.y_for ?_
    | refine Iv.o_addI ?_ | refine Iv.o_andI ?_ | refine Iv.o_subI ?_ | refine Iv.o_eqI ?_ | refine Iv.o_neI ?_ | refine Iv.o_eqS ?_ | refine Iv.o_neS ?_ | refine Iv.o_ltI ?_ | refine Iv.o_leI ?_ | refine Iv.o_gtI ?_ | refine Iv.o_geI ?_ | refine Iv.o_inS ?_ | refine Iv.o_ninS ?_ | refine Iv.o_isN ?_ | refine Iv.o_isnN ?_
    | refine Iv.o_len ?_ | refine Iv.o_lenT ?_ | refine Iv.o_lenS ?_ | refine Iv.o_int ?_ | refine Iv.o_bl ?_ | refine Iv.o_isI ?_ | refine Iv.o_isL ?_
    | refine Iv.o_itL ?_ | refine Iv.o_itT ?_ | refine Iv.o_itS ?_ | refine Iv.o_sqL ?_ | refine Iv.o_sqT ?_ | refine Iv.o_zipT ?_ | refine Iv.o_zipL ?_ | refine Iv.o_slL ?_ | refine Iv.o_slT ?_ | refine Iv.o_slS ?_ | refine Iv.o_neg ?_ | refine Iv.o_list ?_ | refine Iv.o_listT ?_ | refine Iv.o_tuple ?_ | refine Iv.o_tupleT ?_ | refine Iv.o_trI ?_ | refine Iv.o_trL ?_ | refine Iv.o_trT ?_ | refine Iv.o_trB ?_
    | refine Iv.o_leB ?_ | refine Iv.o_ltB ?_
    | refine Iv.u_nx ?_ | refine Iv.u_ct ?_ | refine Iv.u_bk ?_ | refine Iv.u_rt ?_
    | refine (Iv.two_nf.mpr ?_) | refine (Iv.two_nt.mpr ?_)
    | refine (Iv.two_true.mpr ?_) | refine (Iv.two_false.mpr ?_)
  | refine Iv.o_isi rfl ?_ | refine Iv.o_fit rfl ?_ | refine Iv.o_ixT0 ?_ | refine Iv.o_ixL0 ?_ | refine Iv.o_ixS0 ?_
  | refine Iv.x_var rfl ?_ | refine Iv.x_peek rfl ?_ | refine Iv.x_peekV rfl ?_ | refine Iv.c_var rfl ?_
  | refine Iv.y_frz rfl ?_ | refine Iv.y_frzV rfl ?_ | refine Iv.y_aug rfl ?_ | refine Iv.y_app rfl ?_
  | refine Iv.o_ixR (by assumption) rfl ?_ | (refine Iv.o_setS (by assumption) rfl ?_; intro _ _ _)
  | refine Iv.o_ixT rfl ?_ | refine Iv.o_ixL rfl ?_ | refine Iv.o_ixS rfl ?_)
/-! what the laws' own defs compute: draws -/
namespace Lw
open PySem L2 Iv Fn
variable {fns : List (Nat × FnD)} {h h' : IH} {K : D → IH → Prop} {Y : Nat → List D → IH → Prop}
/-- the script's source stands in cell r -/
def Src (r : Nat) (h : IH) : Prop := ∃ (ns : List Int) (i z : Int), h[r]? = some (.lst [.lst (ns.map D.int), .int i, .int z]) ∧ 0 ≤ i
theorem ints_get {ns : List Int} {i : Nat} (hi : i < ns.length) : (ns.map D.int)[i]? = some (.int ns[i]) := by simp [hi]
theorem draw_ok {n r : Nat} {many : Int} (hF : fns.lookup 5 = some f5) (hm : many < 1073741824) (s : Src r h) (q : ∀ (d : Int) (h' : IH), 0 ≤ d → d < max many 1 → Src r h' → Oth r h h' → K (.int d) h') : (callI fns (n + 1) 5 [.ref r, .int many] h).post K Y := by
  obtain ⟨ns, i, z, e, hi⟩ := s
  refine call_def hF rfl ?_
  show (evSs (callI fns n) b5 [.val (.ref r), .val (.int many), .no, .no, .no, .no] h).post _ Y
  unfold b5
  repeat walk_at "iv"
  refine ⟨fun c => ?_, fun c => ?_⟩
  · have c := of_decide_eq_true c
    repeat walk_at "iv"
    exact q 0 h (by omega) (by omega) ⟨ns, i, z, e, hi⟩ (Oth.refl r h)
  have c := of_decide_eq_false c
  have hr : r < h.length := (List.getElem?_eq_some_iff.mp e).1
  walk_at "iv"
  walk_at "iv"
  refine y_cut (fun x h1 => (x.1 = .nx ∧ Src r h1 ∧ Oth r h h1 ∧ ∃ s2 s3 s4, x.2 = [.val (.ref r), .val (.int many), s2, s3, s4, .no]) ∨ (x.1 = .rt (.int 0) ∧ Src r h1 ∧ Oth r h h1)) ?_ ?_
  · repeat walk_at "iv"
    refine ⟨fun c1 => ?_, fun c1 => ?_⟩
    · repeat walk_at "iv"
      refine ⟨fun c2 => ?_, fun c2 => ?_⟩
      · repeat walk_at "iv"
        exact .inr ⟨rfl, ⟨ns, i, z, e, hi⟩, Oth.refl r h⟩
      · have c2 := of_decide_eq_false c2
        have hi2 : i.toNat < ns.length := by simp at c2; omega
        repeat walk_at "iv"
        refine o_ixL (atI_pos hi (ints_get hi2)) ?_
        repeat walk_at "iv"
        rename_i h2 e2 o2
        refine o_powI (by decide) ?_
        repeat walk_at "iv"
        refine ⟨fun c3 => ?_, fun c3 => ?_⟩
        · repeat walk_at "iv"
          rename_i h3 e3 o3
          exact .inl ⟨rfl, ⟨ns, _, _, e3, by omega⟩, o2.trans o3, _, _, _, rfl⟩
        · repeat walk_at "iv"
          refine o_mulI (.inr (by decide)) ?_
          repeat walk_at "iv"
          refine o_mulI (.inr (by decide)) ?_
          repeat walk_at "iv"
          refine o_modI (by decide) ?_
          repeat walk_at "iv"
          refine o_mulI (.inr (by decide)) ?_
          repeat walk_at "iv"
          refine o_mulI (.inr (by decide)) ?_
          repeat walk_at "iv"
          refine o_modI (by decide) ?_
          repeat walk_at "iv"
          refine o_mulI (.inr (by decide)) ?_
          repeat walk_at "iv"
          rename_i h3 e3 o3
          exact .inl ⟨rfl, ⟨ns, _, _, e3, by omega⟩, o2.trans o3, _, _, _, rfl⟩
    · repeat walk_at "iv"
      exact .inl ⟨rfl, ⟨ns, i, z, e, hi⟩, Oth.refl r h, _, _, _, rfl⟩
  · rintro ⟨fl, env⟩ h1 (⟨h2, ⟨ns, i, z, e, hi⟩, o1, s2, s3, s4, h3⟩ | ⟨h2, s, o1⟩)
    · cases h2
      cases h3
      repeat walk_at "iv"
      refine o_modI (by omega) ?_
      repeat walk_at "iv"
      refine o_fdivI (by omega) ?_
      repeat walk_at "iv"
      rename_i h2 e2 o2
      refine q _ _ (Int.emod_nonneg _ (by omega)) (by have := Int.emod_lt_of_pos z (show 0 < many by omega); omega) ⟨ns, i, _, e2, hi⟩ (o1.trans o2)
    · cases h2
      walk_at "iv"
      exact q 0 h1 (by omega) (by omega) s o1
end Lw

/-! kinds of values with an order that the program's comparisons show; ascending rows -/
namespace Lw
open PySem L2 Iv
/-- a kind of values: how they stand as data, their order -/
structure OE (α : Type) [DecidableEq α] where
  e : α → D
  lt : α → α → Bool
  dat : ∀ a, (e a).dat = true
  depth : ∀ a, (e a).depth ≤ 60
  eq : ∀ a b, D.eqv (e a) (e b) = decide (a = b)
  ltP : ∀ a b, ordP .Lt (e a).py (e b).py = some (lt a b)
  leP : ∀ a b, ordP .LtE (e a).py (e b).py = some (!lt b a)
  irr : ∀ a, lt a a = false
  tr : ∀ a b c, lt a b = true → lt b c = true → lt a c = true
  tot : ∀ a b, lt a b = false → lt b a = false → a = b
section
variable {α : Type} [DecidableEq α] (o : OE α) {P : D → Prop} {h : IH}
theorem OE.inj {a b : α} (q : o.e a = o.e b) : a = b := by
  have h1 := o.eq a b
  have h2 := o.eq b b
  rw [q, h2] at h1
  simpa using h1.symm
theorem OE.asy {a b : α} (q : o.lt a b = true) : o.lt b a = false := by
  cases c : o.lt b a with
  | false => rfl
  | true => have := o.tr a b a q c; rw [o.irr] at this; cases this
theorem OE.o_eq {a b : α} (k : P (.bl (decide (a = b)))) : ∃ d, cmpF .eq h (o.e a) (o.e b) = some d ∧ P d := by
  have l : eqOk (o.e a) (o.e b) = true := by
    have := o.depth a
    simp only [eqOk, o.dat, Bool.and_true, Bool.true_and, decide_eq_true_eq]; omega
  refine Iv.o_eq l ?_
  rw [o.eq]; exact k
theorem OE.o_ne {a b : α} (k : P (.bl (!decide (a = b)))) : ∃ d, cmpF .ne h (o.e a) (o.e b) = some d ∧ P d := by
  have l : eqOk (o.e a) (o.e b) = true := by
    have := o.depth a
    simp only [eqOk, o.dat, Bool.and_true, Bool.true_and, decide_eq_true_eq]; omega
  refine Iv.o_ne l ?_
  rw [o.eq]; exact k
theorem OE.okO (a b : α) : ordOk (o.e a) (o.e b) = true := by
  have := o.depth a
  simp only [ordOk, o.dat, Bool.and_true, Bool.true_and, decide_eq_true_eq]; omega
theorem OE.o_lt {a b : α} (k : P (.bl (o.lt a b))) : ∃ d, cmpF .lt h (o.e a) (o.e b) = some d ∧ P d := Iv.o_lt (o.okO a b) (o.ltP a b) k
theorem OE.o_le {a b : α} (k : P (.bl (!o.lt b a))) : ∃ d, cmpF .le h (o.e a) (o.e b) = some d ∧ P d := Iv.o_le (o.okO a b) (o.leP a b) k
theorem OE.mem {a : α} {xs : List α} : memD (o.e a) (xs.map o.e) = decide (a ∈ xs) := by
  unfold memD
  rw [List.any_map, Bool.eq_iff_iff, List.any_eq_true, decide_eq_true_eq]
  constructor
  · rintro ⟨x, hx, e⟩
    have : decide (x = a) = true := by rw [← o.eq]; exact e
    rw [of_decide_eq_true this] at hx; exact hx
  · exact fun hx => ⟨a, hx, by show D.eqv (o.e a) (o.e a) = true; rw [o.eq]; simp⟩
theorem OE.dats {xs : List α} : D.dats (xs.map o.e) = true := by
  induction xs with
  | nil => rfl
  | cons x xs ih => rw [List.map_cons, D.dats, o.dat, ih]; rfl
theorem OE.inOk {a : α} {xs : List α} : inOk (o.e a) (xs.map o.e) = true := by
  have := o.depth a
  simp only [Iv.inOk, o.dat, o.dats, Bool.and_true, Bool.true_and, decide_eq_true_eq]; omega
theorem OE.o_inL {a : α} {xs : List α} (k : P (.bl (decide (a ∈ xs)))) : ∃ d, cmpF .inn h (o.e a) (.lst (xs.map o.e)) = some d ∧ P d := Iv.o_inL o.inOk (by rw [o.mem]; exact k)
theorem OE.o_inT {a : α} {xs : List α} (k : P (.bl (decide (a ∈ xs)))) : ∃ d, cmpF .inn h (o.e a) (.tup (xs.map o.e)) = some d ∧ P d := Iv.o_inT o.inOk (by rw [o.mem]; exact k)
end
/-! ### ascending -/
section
variable {α : Type} [DecidableEq α] (o : OE α)
/-- strictly ascending -/
def OE.Asc (xs : List α) : Prop := xs.Pairwise fun a b => o.lt a b = true
theorem OE.asc_eq {xs ys : List α} (hx : o.Asc xs) (hy : o.Asc ys) (m : ∀ a, a ∈ xs ↔ a ∈ ys) : xs = ys := by
  induction xs generalizing ys with
  | nil =>
    cases ys with
    | nil => rfl
    | cons y ys => exact absurd ((m y).mpr List.mem_cons_self) (by simp)
  | cons x xs ih =>
    cases ys with
    | nil => exact absurd ((m x).mp List.mem_cons_self) (by simp)
    | cons y ys =>
      have hx' := List.pairwise_cons.mp hx
      have hy' := List.pairwise_cons.mp hy
      have e : x = y := by
        rcases List.mem_cons.mp ((m x).mp List.mem_cons_self) with e | h1
        · exact e
        · rcases List.mem_cons.mp ((m y).mpr List.mem_cons_self) with e | h2
          · exact e.symm
          · have a := hy'.1 x h1
            have b := hx'.1 y h2
            rw [o.asy a] at b; cases b
      subst e
      have nx : ∀ {zs : List α}, (∀ b ∈ zs, o.lt x b = true) → x ∉ zs := fun h c => by have := h x c; rw [o.irr] at this; cases this
      congr 1
      refine ih hx'.2 hy'.2 fun a => ⟨fun ha => ?_, fun ha => ?_⟩
      · rcases List.mem_cons.mp ((m a).mp (List.mem_cons_of_mem _ ha)) with e | h1
        · subst e; exact absurd ha (nx hx'.1)
        · exact h1
      · rcases List.mem_cons.mp ((m a).mpr (List.mem_cons_of_mem _ ha)) with e | h1
        · subst e; exact absurd ha (nx hy'.1)
        · exact h1
/-- put in its place -/
def OE.ins (a : α) : List α → List α
  | [] => [a]
  | x :: xs => if o.lt a x = true then a :: x :: xs else if a = x then x :: xs else x :: OE.ins a xs
theorem OE.mem_ins {a b : α} {xs : List α} : b ∈ o.ins a xs ↔ b = a ∨ b ∈ xs := by
  induction xs with
  | nil => simp [OE.ins]
  | cons x xs ih =>
    unfold OE.ins
    split
    · simp
    · split
      · rename_i e; subst e; simp
      · simp only [List.mem_cons, ih]
        constructor
        · rintro (h | h | h) <;> simp [h]
        · rintro (h | h | h) <;> simp [h]
theorem OE.asc_ins {a : α} {xs : List α} (h : o.Asc xs) : o.Asc (o.ins a xs) := by
  induction xs with
  | nil => exact List.pairwise_singleton _ _
  | cons x xs ih =>
    have h' := List.pairwise_cons.mp h
    unfold OE.ins
    split
    · rename_i c
      refine List.pairwise_cons.mpr ⟨fun b hb => ?_, h⟩
      rcases List.mem_cons.mp hb with e | hb
      · rw [e]; exact c
      · exact o.tr _ _ _ c (h'.1 b hb)
    · split
      · exact h
      · rename_i c n
        refine List.pairwise_cons.mpr ⟨fun b hb => ?_, ih h'.2⟩
        rcases o.mem_ins.mp hb with e | hb
        · subst e
          cases q : o.lt x b with
          | true => rfl
          | false => exact absurd (o.tot b x (by simpa using c) q) n
        · exact h'.1 b hb
/-- all of a row, ascending, each once -/
def OE.asc (xs : List α) : List α := xs.foldl (fun r a => o.ins a r) []
theorem OE.asc_foldl {xs r : List α} (h : o.Asc r) : o.Asc (xs.foldl (fun r a => o.ins a r) r) ∧ ∀ b, b ∈ xs.foldl (fun r a => o.ins a r) r ↔ b ∈ xs ∨ b ∈ r := by
  induction xs generalizing r with
  | nil => exact ⟨h, fun b => by simp⟩
  | cons x xs ih =>
    obtain ⟨h1, h2⟩ := ih (o.asc_ins (a := x) h)
    refine ⟨h1, fun b => ?_⟩
    rw [List.foldl_cons, h2, o.mem_ins, List.mem_cons]
    constructor
    · rintro (h | h | h) <;> simp [h]
    · rintro ((h | h) | h) <;> simp [h]
theorem OE.asc_asc (xs : List α) : o.Asc (o.asc xs) := (o.asc_foldl (xs := xs) (r := []) List.Pairwise.nil).1
theorem OE.mem_asc {xs : List α} {b : α} : b ∈ o.asc xs ↔ b ∈ xs := by
  rw [OE.asc, (o.asc_foldl (xs := xs) (r := []) List.Pairwise.nil).2]; simp
theorem OE.asc_of {xs ys : List α} (h : o.Asc ys) (m : ∀ a, a ∈ ys ↔ a ∈ xs) : ys = o.asc xs := o.asc_eq h (o.asc_asc xs) fun a => by rw [m, o.mem_asc]
theorem OE.asc_id {xs : List α} (h : o.Asc xs) : o.asc xs = xs := (o.asc_of h fun _ => Iff.rfl).symm
theorem OE.asc_congr {xs ys : List α} (m : ∀ a, a ∈ xs ↔ a ∈ ys) : o.asc xs = o.asc ys := o.asc_of (o.asc_asc xs) fun a => by rw [o.mem_asc, m]
/-- two ascending rows as one -/
def OE.mrg : List α → List α → List α
  | [], ys => ys
  | xs, [] => xs
  | x :: xs, y :: ys => if o.lt y x = true then y :: OE.mrg (x :: xs) ys else if x = y then x :: OE.mrg xs ys else x :: OE.mrg xs (y :: ys)
termination_by xs ys => xs.length + ys.length
theorem OE.mrg_nil (xs : List α) : o.mrg xs [] = xs := by cases xs <;> simp [OE.mrg]
theorem OE.mem_mrg : ∀ {xs ys : List α} {b : α}, b ∈ o.mrg xs ys ↔ b ∈ xs ∨ b ∈ ys
  | [], ys, b => by simp [OE.mrg]
  | x :: xs, [], b => by simp [OE.mrg]
  | x :: xs, y :: ys, b => by
    rw [OE.mrg]
    split
    · rw [List.mem_cons, OE.mem_mrg (xs := x :: xs) (ys := ys)]
      simp only [List.mem_cons]
      constructor
      · rintro (h | (h | h) | h) <;> simp [h]
      · rintro ((h | h) | h | h) <;> simp [h]
    · split
      · rename_i e
        subst e
        rw [List.mem_cons, OE.mem_mrg (xs := xs) (ys := ys)]
        simp only [List.mem_cons]
        constructor
        · rintro (h | h | h) <;> simp [h]
        · rintro ((h | h) | h | h) <;> simp [h]
      · rw [List.mem_cons, OE.mem_mrg (xs := xs) (ys := y :: ys)]
        simp only [List.mem_cons]
        constructor
        · rintro (h | h | h | h) <;> simp [h]
        · rintro ((h | h) | h | h) <;> simp [h]
termination_by xs ys => xs.length + ys.length
theorem OE.asc_mrg : ∀ {xs ys : List α}, o.Asc xs → o.Asc ys → o.Asc (o.mrg xs ys)
  | [], ys, _, h => by rw [OE.mrg]; exact h
  | x :: xs, [], h, _ => by rw [OE.mrg_nil]; exact h
  | x :: xs, y :: ys, hx, hy => by
    have hx' := List.pairwise_cons.mp hx
    have hy' := List.pairwise_cons.mp hy
    rw [OE.mrg]
    split
    · rename_i c
      refine List.pairwise_cons.mpr ⟨fun b hb => ?_, OE.asc_mrg hx hy'.2⟩
      rcases o.mem_mrg.mp hb with h | h
      · rcases List.mem_cons.mp h with e | h
        · rw [e]; exact c
        · exact o.tr _ _ _ c (hx'.1 b h)
      · exact hy'.1 b h
    · rename_i c
      split
      · rename_i e
        subst e
        refine List.pairwise_cons.mpr ⟨fun b hb => ?_, OE.asc_mrg hx'.2 hy'.2⟩
        rcases o.mem_mrg.mp hb with h | h
        · exact hx'.1 b h
        · exact hy'.1 b h
      · rename_i n
        have c2 : o.lt x y = true := by
          cases q : o.lt x y with
          | true => rfl
          | false => exact absurd (o.tot x y q (by simpa using c)) n
        refine List.pairwise_cons.mpr ⟨fun b hb => ?_, OE.asc_mrg hx'.2 hy⟩
        rcases o.mem_mrg.mp hb with h | h
        · exact hx'.1 b h
        · rcases List.mem_cons.mp h with e | h
          · rw [e]; exact c2
          · exact o.tr _ _ _ c2 (hy'.1 b h)
termination_by xs ys => xs.length + ys.length
end
end Lw

/-! texts, tuples of such values -/
namespace Lw
open PySem L2 Iv
def oS : OE (List Nat) where
  e := D.str
  lt x y := decide (x < y)
  dat _ := rfl
  depth _ := Nat.zero_le _
  eq a b := by
    show (a == b) = _
    rw [Bool.eq_iff_iff]; simp
  ltP a b := by show some (decide (_ < _)) = _; simp
  leP a b := by show some (!decide (_ < _)) = _; simp
  irr a := by simp [List.lt_irrefl]
  tr a b c h1 h2 := by
    simp only [decide_eq_true_eq] at *
    exact List.lt_trans h1 h2
  tot a b h1 h2 := by
    simp only [decide_eq_false_iff_not] at *
    exact List.le_antisymm (List.not_lt.mp h2) (List.not_lt.mp h1)
section
variable {α : Type} [DecidableEq α] (o : OE α)
def lexB (lt : α → α → Bool) : List α → List α → Bool
  | [], [] => false
  | [], _ :: _ => true
  | _ :: _, [] => false
  | x :: xs, y :: ys => if x = y then lexB lt xs ys else lt x y
theorem tup_eq (o : OE α) : ∀ (a b : List α), D.eqvs (a.map o.e) (b.map o.e) = decide (a = b)
  | [], [] => rfl
  | [], _ :: _ => rfl
  | _ :: _, [] => rfl
  | x :: xs, y :: ys => by
    show (D.eqv (o.e x) (o.e y) && D.eqvs (xs.map o.e) (ys.map o.e)) = _
    rw [o.eq, tup_eq o xs ys, Bool.eq_iff_iff]; simp
theorem tup_lt (o : OE α) : ∀ (a b : List α), ordPs .Lt (D.pys (a.map o.e)) (D.pys (b.map o.e)) = some (lexB o.lt a b)
  | [], [] => rfl
  | [], _ :: _ => rfl
  | _ :: _, [] => rfl
  | x :: xs, y :: ys => by
    show (if PyData.eqv (o.e x).py (o.e y).py = true then ordPs .Lt (D.pys (xs.map o.e)) (D.pys (ys.map o.e)) else match ordP .Lt (o.e x).py (o.e y).py, ordPs .Lt (D.pys (xs.map o.e)) (D.pys (ys.map o.e)) with
      | some r, some _ => some r
      | _, _ => none) = _
    rw [tup_lt o xs ys, o.ltP, eqv_py _ _ (o.dat x) (o.dat y), o.eq, lexB]
    by_cases c : x = y <;> simp [c]
theorem tup_le (o : OE α) : ∀ (a b : List α), ordPs .LtE (D.pys (a.map o.e)) (D.pys (b.map o.e)) = some (!lexB o.lt b a)
  | [], [] => rfl
  | [], _ :: _ => rfl
  | _ :: _, [] => rfl
  | x :: xs, y :: ys => by
    show (if PyData.eqv (o.e x).py (o.e y).py = true then ordPs .LtE (D.pys (xs.map o.e)) (D.pys (ys.map o.e)) else match ordP .LtE (o.e x).py (o.e y).py, ordPs .LtE (D.pys (xs.map o.e)) (D.pys (ys.map o.e)) with
      | some r, some _ => some r
      | _, _ => none) = _
    rw [tup_le o xs ys, o.leP, eqv_py _ _ (o.dat x) (o.dat y), o.eq, lexB]
    by_cases c : x = y
    · simp [c]
    · simp [c, Ne.symm c]
theorem tup_depth (o : OE α) {n : Nat} (hd : ∀ a, (o.e a).depth ≤ n) : ∀ xs : List α, D.depths (xs.map o.e) ≤ n
  | [] => Nat.zero_le _
  | x :: xs => by
    show max (o.e x).depth (D.depths (xs.map o.e)) ≤ n
    have := hd x
    have := tup_depth o hd xs
    omega
theorem lex_irr (o : OE α) : ∀ xs : List α, lexB o.lt xs xs = false
  | [] => rfl
  | x :: xs => by rw [lexB, if_pos rfl, lex_irr o xs]
theorem lex_tr (o : OE α) : ∀ xs ys zs : List α, lexB o.lt xs ys = true → lexB o.lt ys zs = true → lexB o.lt xs zs = true
  | [], [], _, h, _ => by simp [lexB] at h
  | [], _ :: _, [], _, h => by simp [lexB] at h
  | [], _ :: _, _ :: _, _, _ => rfl
  | _ :: _, [], _, h, _ => by simp [lexB] at h
  | _ :: _, _ :: _, [], _, h => by simp [lexB] at h
  | x :: xs, y :: ys, z :: zs, h1, h2 => by
    rw [lexB] at h1 h2 ⊢
    by_cases c1 : x = y
    · subst c1
      rw [if_pos rfl] at h1
      by_cases c2 : x = z
      · subst c2
        rw [if_pos rfl] at h2 ⊢
        exact lex_tr o xs ys zs h1 h2
      · rw [if_neg c2] at h2 ⊢; exact h2
    · rw [if_neg c1] at h1
      by_cases c2 : y = z
      · subst c2
        rw [if_neg c1]; exact h1
      · rw [if_neg c2] at h2
        have h3 := o.tr _ _ _ h1 h2
        have c3 : x ≠ z := fun e => by subst e; rw [o.irr] at h3; cases h3
        rw [if_neg c3]; exact h3
theorem lex_tot (o : OE α) : ∀ xs ys : List α, lexB o.lt xs ys = false → lexB o.lt ys xs = false → xs = ys
  | [], [], _, _ => rfl
  | [], _ :: _, h, _ => by simp [lexB] at h
  | _ :: _, [], _, h => by simp [lexB] at h
  | x :: xs, y :: ys, h1, h2 => by
    rw [lexB] at h1 h2
    by_cases c : x = y
    · subst c
      rw [if_pos rfl] at h1 h2
      rw [lex_tot o xs ys h1 h2]
    · rw [if_neg c] at h1
      rw [if_neg (Ne.symm c)] at h2
      exact absurd (o.tot x y h1 h2) c
/-- tuples of such values -/
def OE.tup (hd : ∀ a, (o.e a).depth ≤ 59) : OE (List α) where
  e xs := .tup (xs.map o.e)
  lt := lexB o.lt
  dat xs := by show D.dats (xs.map o.e) = true; exact o.dats
  depth xs := by
    show D.depths (xs.map o.e) + 1 ≤ 60
    have := tup_depth o hd xs; omega
  eq a b := tup_eq o a b
  ltP a b := tup_lt o a b
  leP a b := tup_le o a b
  irr := lex_irr o
  tr := lex_tr o
  tot := lex_tot o
end
theorem cut_from {α : Type} (xs : List α) (i : Nat) : cutD xs (some (i : Int)) none = xs.drop i := by
  unfold cutD
  rw [HT.sIx_nat, HT.sIx_none]
  by_cases c : i ≤ xs.length
  · rw [Nat.min_eq_left c, List.take_of_length_le (by rw [List.length_drop]; omega)]
  · rw [Nat.min_eq_right (by omega), List.drop_of_length_le (Nat.le_refl _), List.drop_of_length_le (by omega)]; simp
theorem cut_to {α : Type} (xs : List α) (i : Nat) : cutD xs none (some (i : Int)) = xs.take i := by
  unfold cutD
  rw [HT.sIx_nat, HT.sIx_none]
  simp
def oF : OE (List (List Nat)) := oS.tup fun _ => Nat.zero_le _
theorem oF_e (xs : List (List Nat)) : oF.e xs = .tup (xs.map D.str) := rfl
end Lw

/-! ascending rows in the program and in the laws -/
namespace Lw
open PySem L2 Iv Fn
variable {fns : List (Nat × FnD)} {h h' : IH} {K : D → IH → Prop} {Y : Nat → List D → IH → Prop} {α : Type} [DecidableEq α] (o : OE α) {n : Nat}
theorem get_map {xs : List α} {i : Nat} (hi : i < xs.length) : (xs.map o.e)[i]? = some (o.e xs[i]) := by simp [hi]
theorem slD_lst {xs : List D} {lo hi : Option Int} : slD (.lst xs) lo hi = some (.lst (cutD xs lo hi)) := rfl
theorem drop_cons {xs : List α} {i : Nat} (hi : i < xs.length) : xs.drop i = xs[i] :: xs.drop (i + 1) := List.drop_eq_getElem_cons hi
theorem merged_ok {xs ys : List α} (hF : fns.lookup 23 = some f23) (hl : xs.length + ys.length ≤ 16000000) (q : K (.lst ((o.mrg xs ys).map o.e)) h) : (callI fns (n + 1) 23 [.lst (xs.map o.e), .lst (ys.map o.e)] h).post K Y := by
  refine call_def hF rfl ?_
  show (evSs (callI fns n) b23 [.val (.lst (xs.map o.e)), .val (.lst (ys.map o.e)), .no, .no, .no] h).post _ Y
  unfold b23
  repeat walk_at "iv"
  refine w_cut (fun x h1 => h1 = h ∧ ∃ (rows : List α) (i j : Nat), x = (.nx, [.val (.lst (xs.map o.e)), .val (.lst (ys.map o.e)), .own (rows.map o.e), .val (.int (i : Nat)), .val (.int (j : Nat))]) ∧ rows ++ xs.drop i ++ ys.drop j = o.mrg xs ys ∧ rows.length + (xs.length - i) + (ys.length - j) ≤ 16000000) ?_ ?_
  · refine y_whlN (fun m env h1 => h1 = h ∧ ∃ (rows : List α) (i j : Nat), env = [.val (.lst (xs.map o.e)), .val (.lst (ys.map o.e)), .own (rows.map o.e), .val (.int (i : Nat)), .val (.int (j : Nat))] ∧ i ≤ xs.length ∧ j ≤ ys.length ∧
      rows ++ o.mrg (xs.drop i) (ys.drop j) = o.mrg xs ys ∧ rows.length ≤ i + j ∧ m = xs.length + ys.length - (i + j)) (xs.length + ys.length) ⟨rfl, [], 0, 0, rfl, Nat.zero_le _, Nat.zero_le _, by simp, Nat.zero_le _, by simp⟩ ?_
    rintro m env h1 ⟨rfl, rows, i, j, rfl, hi, hj, e, hr, rfl⟩
    repeat walk_at "iv"
    refine ⟨fun c1 => ?_, fun c1 => ?_⟩
    · have ci : i < xs.length := by have := of_decide_eq_true c1; rw [List.length_map] at this; omega
      repeat walk_at "iv"
      refine ⟨fun c2 => ?_, fun c2 => ?_⟩
      · have cj : j < ys.length := by have := of_decide_eq_true c2; rw [List.length_map] at this; omega
        have gx : atI (xs.map o.e) (i : Int) = some (o.e xs[i]) := atI_pos (Int.natCast_nonneg i) (get_map o ci)
        have gy : atI (ys.map o.e) (j : Int) = some (o.e ys[j]) := atI_pos (Int.natCast_nonneg j) (get_map o cj)
        have ee : o.mrg (xs.drop i) (ys.drop j) = if o.lt ys[j] xs[i] = true then ys[j] :: o.mrg (xs.drop i) (ys.drop (j + 1)) else if xs[i] = ys[j] then xs[i] :: o.mrg (xs.drop (i + 1)) (ys.drop (j + 1)) else xs[i] :: o.mrg (xs.drop (i + 1)) (ys.drop j) := by
          conv => lhs; rw [drop_cons ci, drop_cons cj, OE.mrg]
          rw [← drop_cons ci, ← drop_cons cj]
        repeat walk_at "iv"
        refine o_ixL gy ?_
        repeat walk_at "iv"
        refine o_ixL gx ?_
        refine o.o_lt ?_
        repeat walk_at "iv"
        refine ⟨fun c3 => ?_, fun c3 => ?_⟩
        · repeat walk_at "iv"
          refine o_ixL gy ⟨by rw [List.length_map]; omega, ?_⟩
          repeat walk_at "iv"
          rw [if_pos c3] at ee
          refine ⟨_, ?_, rfl, rows ++ [ys[j]], i, j + 1, by simp, hi, cj, by rw [← e, ee]; simp, by simp; omega, rfl⟩
          omega
        · repeat walk_at "iv"
          refine o_ixL gx ⟨by rw [List.length_map]; omega, ?_⟩
          repeat walk_at "iv"
          refine o_ixL gx ?_
          repeat walk_at "iv"
          refine o_ixL gy ?_
          refine o.o_eq ?_
          repeat walk_at "iv"
          rw [if_neg (by rw [c3]; exact Bool.false_ne_true)] at ee
          refine ⟨fun c4 => ?_, fun c4 => ?_⟩
          · repeat walk_at "iv"
            rw [if_pos (of_decide_eq_true c4)] at ee
            refine ⟨_, ?_, rfl, rows ++ [xs[i]], i + 1, j + 1, by simp, ci, cj, by rw [← e, ee]; simp, by simp; omega, rfl⟩
            omega
          · repeat walk_at "iv"
            rw [if_neg (of_decide_eq_false c4)] at ee
            refine ⟨_, ?_, rfl, rows ++ [xs[i]], i + 1, j, by simp, ci, hj, by rw [← e, ee]; simp, by simp; omega, rfl⟩
            omega
      · have cj : ys.length ≤ j := by have := of_decide_eq_false c2; rw [List.length_map] at this; omega
        repeat walk_at "iv"
        refine ⟨rfl, rows, i, j, rfl, ?_, by omega⟩
        rw [← e, List.drop_of_length_le cj, OE.mrg_nil]; simp
    · have ci : xs.length ≤ i := by have := of_decide_eq_false c1; rw [List.length_map] at this; omega
      repeat walk_at "iv"
      refine ⟨rfl, rows, i, j, rfl, ?_, by omega⟩
      rw [← e, List.drop_of_length_le ci, OE.mrg]; simp
  · rintro x h1 ⟨rfl, rows, i, j, rfl, e, hl2⟩
    repeat walk_at "iv"
    rw [cut_from]
    refine o_addL (by simp; omega) ?_
    repeat walk_at "iv"
    rw [cut_from]
    refine o_addL (by simp; omega) ?_
    repeat walk_at "iv"
    rw [← List.map_drop, ← List.map_drop, ← List.map_append, ← List.map_append, e]
    exact q
end Lw

/-! ascending rows, the program's way -/
namespace Lw
open PySem L2 Iv Fn
variable {fns : List (Nat × FnD)} {h h' : IH} {K : D → IH → Prop} {Y : Nat → List D → IH → Prop} {α : Type} [DecidableEq α] (o : OE α) {n : Nat}
abbrev LL (xs : List α) : D := .lst (xs.map o.e)
def tot (ls : List (List α)) : Nat := (ls.map List.length).sum
theorem tot_cons (x : List α) (ls : List (List α)) : tot (x :: ls) = x.length + tot ls := by simp [tot]
theorem tot_append (a b : List (List α)) : tot (a ++ b) = tot a + tot b := by simp [tot]
theorem len_tot {ls : List (List α)} {x : List α} (h : x ∈ ls) : x.length ≤ tot ls := by
  induction ls with
  | nil => cases h
  | cons y ls ih =>
    rw [tot_cons]
    rcases List.mem_cons.mp h with e | h
    · subst e; omega
    · have := ih h; omega
theorem mrg_len : ∀ (xs ys : List α), (o.mrg xs ys).length ≤ xs.length + ys.length
  | [], ys => by simp [OE.mrg]
  | x :: xs, [] => by rw [OE.mrg_nil]; simp
  | x :: xs, y :: ys => by
    rw [OE.mrg]
    split
    · have := mrg_len (x :: xs) ys; simp only [List.length_cons] at *; omega
    · split
      · have := mrg_len xs ys; simp only [List.length_cons] at *; omega
      · have := mrg_len xs (y :: ys); simp only [List.length_cons] at *; omega
termination_by xs ys => xs.length + ys.length
theorem tot_sing : ∀ rows : List α, tot (rows.map fun a => [a]) = rows.length
  | [] => rfl
  | a :: r => by rw [List.map_cons, tot_cons, tot_sing r]; simp; omega
theorem range3_even (m : Nat) : range3 [.int 0, .int (m : Int), .int 2] = some (rng 0 2 ((m + 1) / 2)) ∨ 16777216 < m := by
  by_cases hm : 16777216 < m
  · exact .inr hm
  refine .inl ?_
  have e : Builtin.Range.rangeSize 0 (m : Int) 2 = (((m + 1) / 2 : Nat) : Int) := by
    unfold Builtin.Range.rangeSize
    rw [if_pos (by decide)]
    split
    · omega
    · omega
  unfold range3
  have sm : Builtin.Range.small 0 (m : Int) 2 = true := by
    have f : ∀ i : Int, -1 ≤ i → i ≤ 33554432 → Builtin.Range.rangeFitsLong i = true := fun i h1 h2 => by
      simp [Builtin.Range.rangeFitsLong]
      omega
    unfold Builtin.Range.small
    rw [e]
    simp only [Bool.and_eq_true, Bool.or_eq_true]
    exact ⟨⟨⟨⟨f _ (by omega) (by omega), f _ (by omega) (by omega)⟩, f _ (by omega) (by omega)⟩, f _ (by omega) (by omega)⟩, .inr (f _ (by omega) (by omega))⟩
  show (if ((2 : Int) ≠ 0 ∧ (2 : Int).natAbs < 1073741824 ∧ Builtin.Range.small 0 (m : Int) 2 = true) ∧ (0 ≤ Builtin.Range.rangeSize 0 (m : Int) 2 ∧ Builtin.Range.rangeSize 0 (m : Int) 2 ≤ 16777216) then some (rng 0 2 (Builtin.Range.rangeSize 0 (m : Int) 2).toNat) else none) = _
  rw [e, if_pos ⟨⟨by decide, by decide, sm⟩, by omega, by omega⟩]
  rfl
theorem rng_split {lo c : Int} {n : Nat} {pre post : List D} {d : D} (e : rng lo c n = pre ++ d :: post) : d = .int (lo + (pre.length : Int) * c) ∧ pre.length < n := by
  have hl : (rng lo c n).length = n := by simp [rng]
  have h1 : pre.length < (rng lo c n).length := by rw [e]; simp
  have h2 : (rng lo c n)[pre.length]? = some d := by rw [e]; simp
  rw [hl] at h1
  refine ⟨?_, h1⟩
  simp [rng, h1] at h2
  exact h2.symm
theorem ascending_ok {rows : List α} (hF : fns.lookup 21 = some f21) (hM : fns.lookup 23 = some f23) (hl : rows.length ≤ 8000000) (q : K (.lst ((o.asc rows).map o.e)) h) : (callI fns (n + 2) 21 [.lst (rows.map o.e)] h).post K Y := by
  refine call_def hF rfl ?_
  show (evSs (callI fns (n + 1)) b21 [.val (.lst (rows.map o.e)), .no, .no, .no, .no] h).post _ Y
  unfold b21
  repeat walk_at "iv"
  refine w_compP (fun _ => true) (fun d => .lst [d]) ?_ ?_
  · refine fun d hd => ⟨_, rfl, ?_, fun _ => ?_⟩
    · repeat walk_at "iv"
      exact ⟨rfl, rfl⟩
    · repeat walk_at "iv"
      exact ⟨rfl, rfl⟩
  repeat walk_at "iv"
  have e0 : ((rows.map o.e).filter fun _ => true).map (fun d => D.lst [d]) = (rows.map fun a => [a]).map (LL o) := by
    rw [List.filter_eq_self.mpr (fun _ _ => rfl), List.map_map, List.map_map]
    rfl
  rw [e0]
  refine w_cut (fun x h1 => h1 = h ∧ ∃ (ls : List (List α)) (s1 s3 s4 : Sl), x = (.nx, [.val (.lst (rows.map o.e)), s1, .val (.lst (ls.map (LL o))), s3, s4]) ∧ ls.length ≤ 1 ∧ (∀ xs ∈ ls, o.Asc xs) ∧ ∀ a, (∃ xs ∈ ls, a ∈ xs) ↔ a ∈ rows) ?_ ?_
  · refine y_whlN (fun m env h1 => h1 = h ∧ ∃ (ls : List (List α)) (s1 s3 s4 : Sl), env = [.val (.lst (rows.map o.e)), s1, .val (.lst (ls.map (LL o))), s3, s4] ∧ ls.length = m ∧ (∀ xs ∈ ls, o.Asc xs) ∧ (∀ a, (∃ xs ∈ ls, a ∈ xs) ↔ a ∈ rows) ∧ ls.length ≤ 8000000 ∧ tot ls ≤ 8000000) rows.length
      ⟨rfl, rows.map fun a => [a], _, _, _, rfl, by simp, fun xs hx => ?_, fun a => ?_, by simpa using hl, ?_⟩ ?_
    · obtain ⟨a, _, rfl⟩ := List.mem_map.mp hx
      exact List.pairwise_singleton _ _
    · constructor
      · rintro ⟨xs, hx, h⟩
        obtain ⟨b, hb, rfl⟩ := List.mem_map.mp hx
        rw [List.mem_singleton.mp h]; exact hb
      · exact fun h => ⟨[a], List.mem_map.mpr ⟨a, h, rfl⟩, List.mem_singleton.mpr rfl⟩
    · rw [tot_sing]; exact hl
    rintro m env h1 ⟨rfl, ls, s1, s3, s4, rfl, rfl, ha, hm, hn, ht⟩
    repeat walk_at "iv"
    refine ⟨fun c1 => ?_, fun c1 => ?_⟩
    · have c : 1 < ls.length := by have := of_decide_eq_true c1; rw [List.length_map] at this; omega
      repeat walk_at "iv"
      have er : range3 [.int 0, .int (((ls.map (LL o)).length : Int) - 1), .int 2] = some (rng 0 2 (ls.length / 2)) := by
        rw [List.length_map, show ((ls.length : Int) - 1) = ((ls.length - 1 : Nat) : Int) by omega]
        rcases range3_even (ls.length - 1) with e | e
        · rw [e, show (ls.length - 1 + 1) / 2 = ls.length / 2 by omega]
        · omega
      refine ⟨_, er, ?_⟩
      refine f_for (fun pre env h2 => h2 = h1 ∧ ∃ (ps : List (List α)) (s1 s4 : Sl), env = [.val (.lst (rows.map o.e)), s1, .val (.lst (ls.map (LL o))), .own (ps.map (LL o)), s4] ∧ ps.length = pre.length ∧ (∀ xs ∈ ps, o.Asc xs) ∧
        (∀ a, (∃ xs ∈ ps, a ∈ xs) ↔ ∃ xs ∈ ls.take (2 * pre.length), a ∈ xs) ∧ tot ps ≤ tot (ls.take (2 * pre.length))) ⟨rfl, [], _, _, rfl, rfl, (fun _ h => by cases h), (fun a => by simp), by simp [tot]⟩ ?_ ?_
      · rintro pre d post env h2 e ⟨rfl, ps, s1, s4, rfl, e1, e2, e3, e4⟩
        obtain ⟨rfl, hp⟩ := rng_split e
        refine ⟨_, rfl, ?_⟩
        have i1 : 2 * pre.length < ls.length := by omega
        have i2 : 2 * pre.length + 1 < ls.length := by omega
        repeat walk_at "iv"
        refine o_ixL (d := LL o ls[2 * pre.length]) (atI_pos (by omega) ?_) ?_
        · rw [show ((0 : Int) + (pre.length : Int) * 2).toNat = 2 * pre.length by omega]; simp [i1]
        repeat walk_at "iv"
        refine o_ixL (d := LL o ls[2 * pre.length + 1]) (atI_pos (by omega) ?_) ?_
        · rw [show ((0 : Int) + (pre.length : Int) * 2 + 1).toNat = 2 * pre.length + 1 by omega]; simp [i2]
        repeat walk_at "iv"
        have l1 := len_tot (List.getElem_mem i1)
        have l2 := len_tot (List.getElem_mem i2)
        have tk : ls.take (2 * (pre.length + 1)) = ls.take (2 * pre.length) ++ [ls[2 * pre.length], ls[2 * pre.length + 1]] := by
          rw [show 2 * (pre.length + 1) = 2 * pre.length + 1 + 1 by omega, List.take_succ_eq_append_getElem i2, List.take_succ_eq_append_getElem i1, List.append_assoc]; rfl
        refine merged_ok o hM (by omega) ⟨by rw [List.length_map]; omega, ?_⟩
        repeat walk_at "iv"
        refine ⟨rfl, ps ++ [o.mrg ls[2 * pre.length] ls[2 * pre.length + 1]], _, _, by rw [List.map_append]; rfl, by simp [e1], fun xs hx => ?_, fun a => ?_, ?_⟩
        · rcases List.mem_append.mp hx with hx | hx
          · exact e2 xs hx
          · rw [List.mem_singleton.mp hx]
            exact o.asc_mrg (ha _ (List.getElem_mem i1)) (ha _ (List.getElem_mem i2))
        · rw [List.length_append, List.length_singleton, tk]
          simp only [List.mem_append, List.mem_cons, List.not_mem_nil, or_false, or_and_right, exists_or, exists_eq_left, o.mem_mrg]
          rw [e3]
        · rw [List.length_append, List.length_singleton, tk, tot_append, tot_append, tot_cons, tot_cons, tot_cons]
          have := mrg_len o ls[2 * pre.length] ls[2 * pre.length + 1]
          simp only [tot, List.map_nil, List.sum_nil] at *
          omega
      · rintro env h2 ⟨rfl, ps, s1, s4, rfl, e1, e2, e3, e4⟩
        have hr : (rng 0 2 (ls.length / 2)).length = ls.length / 2 := by simp [rng]
        rw [hr] at e1 e3 e4
        repeat walk_at "iv"
        refine ⟨fun c2 => ?_, fun c2 => ?_⟩
        · have od : ls.length % 2 = 1 := by
            rw [List.length_map, PyProof.Rows.bitAnd_m1] at c2
            have := bne_iff_ne.mp c2
            omega
          repeat walk_at "iv"
          refine o_ixL (d := LL o ls[ls.length - 1]) (atI_neg (by decide) (by rw [List.length_map]; omega) ?_) ⟨by rw [List.length_map]; omega, ?_⟩
          · rw [List.length_map, show ((-1 : Int) + (ls.length : Int)).toNat = ls.length - 1 by omega, List.getElem?_map, List.getElem?_eq_getElem (by omega)]; rfl
          repeat walk_at "iv"
          have tk : ls = ls.take (2 * (ls.length / 2)) ++ [ls[ls.length - 1]] := by
            have h1 : ls.take (2 * (ls.length / 2)) = ls.take (ls.length - 1) := by congr 1; omega
            rw [h1]
            conv => lhs; rw [← List.take_length (l := ls)]
            rw [show ls.take ls.length = ls.take (ls.length - 1 + 1) by congr 1; omega, List.take_succ_eq_append_getElem (by omega)]
          refine ⟨ls.length / 2 + 1, by omega, rfl, ps ++ [ls[ls.length - 1]], _, _, _, by rw [List.map_append]; rfl, by simp [e1], fun xs hx => ?_, fun a => ?_, by simp [e1]; omega, ?_⟩
          · rcases List.mem_append.mp hx with hx | hx
            · exact e2 xs hx
            · rw [List.mem_singleton.mp hx]; exact ha _ (List.getElem_mem _)
          · rw [← hm a]
            conv => rhs; rw [tk]
            simp only [List.mem_append, List.mem_cons, List.not_mem_nil, or_false, or_and_right, exists_or, exists_eq_left]
            rw [e3]
          · rw [tk, tot_append] at ht
            rw [tot_append]; omega
        · have ev : ls.length % 2 = 0 := by
            rw [List.length_map, PyProof.Rows.bitAnd_m1] at c2
            have : ¬ (((ls.length : Int) % 2) ≠ 0) := fun c => by rw [bne_iff_ne.mpr c] at c2; cases c2
            omega
          repeat walk_at "iv"
          have tk : ls.take (2 * (ls.length / 2)) = ls := by rw [show 2 * (ls.length / 2) = ls.length by omega, List.take_length]
          rw [tk] at e3 e4
          refine ⟨ls.length / 2, by omega, rfl, ps, _, _, _, rfl, e1, e2, fun a => ?_, by omega, by omega⟩
          rw [e3, hm]
    · have c : ls.length ≤ 1 := by have := of_decide_eq_false c1; rw [List.length_map] at this; omega
      repeat walk_at "iv"
      exact ⟨rfl, ls, s1, s3, s4, rfl, c, ha, hm⟩
  · rintro x h1 ⟨rfl, ls, s1, s3, s4, rfl, hc, ha, hm⟩
    repeat walk_at "iv"
    match ls, hc, ha, hm with
    | [], _, ha, hm =>
      refine ⟨fun _ => ?_, fun c => absurd c (by simp)⟩
      repeat walk_at "iv"
      have : o.asc rows = [] := by
        refine (o.asc_of List.Pairwise.nil fun a => ?_).symm
        rw [← hm]; simp
      rw [this] at q
      exact q
    | [xs], _, ha, hm =>
      refine ⟨fun c => absurd c (by simp), fun _ => ?_⟩
      repeat walk_at "iv"
      have : o.asc rows = xs := by
        refine (o.asc_of (ha xs List.mem_cons_self) fun a => ?_).symm
        rw [← hm]; simp
      rw [this] at q
      exact q
end Lw

/-! ascending rows, the laws' way -/
namespace Lw
open PySem L2 Iv Fn
variable {fns : List (Nat × FnD)} {h h' : IH} {K : D → IH → Prop} {Y : Nat → List D → IH → Prop} {α : Type} [DecidableEq α] (o : OE α) {n : Nat}
theorem OE.mem_map {a : α} {xs : List α} : o.e a ∈ xs.map o.e ↔ a ∈ xs := by
  rw [List.mem_map]
  exact ⟨fun ⟨b, hb, e⟩ => o.inj e ▸ hb, fun h => ⟨a, h, rfl⟩⟩
/-- where a value is put -/
theorem put_asc {found : List α} {row : α} {at_ : Nat} (hf : o.Asc found) (hl : at_ ≤ found.length) (h1 : ∀ j (hj : j < found.length), at_ ≤ j → o.lt row found[j] = true) (h2 : ∀ j (hj : j < found.length), j < at_ → o.lt found[j] row = true) :
    o.Asc (found.take at_ ++ [row] ++ found.drop at_) := by
  unfold OE.Asc
  rw [List.append_assoc, List.pairwise_append]
  refine ⟨hf.sublist (List.take_sublist _ _), ?_, fun a ha b hb => ?_⟩
  · rw [List.singleton_append, List.pairwise_cons]
    refine ⟨fun b hb => ?_, hf.sublist (List.drop_sublist _ _)⟩
    obtain ⟨j, hj, e⟩ := List.mem_iff_getElem.mp hb
    rw [List.getElem_drop] at e
    rw [← e]
    exact h1 _ (by rw [List.length_drop] at hj; omega) (by omega)
  · obtain ⟨i, hi, e⟩ := List.mem_iff_getElem.mp ha
    rw [List.getElem_take] at e
    rw [List.length_take] at hi
    have l1 : o.lt a row = true := by rw [← e]; exact h2 i (by omega) (by omega)
    rw [List.singleton_append] at hb
    rcases List.mem_cons.mp hb with e2 | hb
    · rw [e2]; exact l1
    · obtain ⟨j, hj, e2⟩ := List.mem_iff_getElem.mp hb
      rw [List.getElem_drop] at e2
      rw [List.length_drop] at hj
      refine o.tr _ _ _ l1 ?_
      rw [← e2]
      exact h1 _ (by omega) (by omega)
theorem asc_get {found : List α} (hf : o.Asc found) {i j : Nat} (hi : i < found.length) (hj : j < found.length) (l : i < j) : o.lt found[i] found[j] = true := (List.pairwise_iff_getElem.mp hf) i j hi hj l
theorem rng0_split {n : Nat} {pre post : List D} {d : D} (e : rng 0 1 n = pre ++ d :: post) : d = .int (pre.length : Int) ∧ pre.length < n := by
  obtain ⟨h1, h2⟩ := rng_split e
  exact ⟨by rw [h1]; simp, h2⟩
theorem rng_len {lo c : Int} {n : Nat} : (rng lo c n).length = n := by simp [rng]
theorem lawasc_ok {rows : List α} (hF : fns.lookup 15 = some f15) (hl : rows.length ≤ 8000000) (q : K (.lst ((o.asc rows).map o.e)) h) : (callI fns (n + 1) 15 [.lst (rows.map o.e)] h).post K Y := by
  refine call_def hF rfl ?_
  show (evSs (callI fns n) b15 [.val (.lst (rows.map o.e)), .no, .no, .no, .no] h).post _ Y
  unfold b15
  repeat walk_at "iv"
  refine f_for (fun pre env h1 => h1 = h ∧ ∃ (found : List α) (s2 s3 s4 : Sl), env = [.val (.lst (rows.map o.e)), .own (found.map o.e), s2, s3, s4] ∧ o.Asc found ∧ (∀ a, a ∈ found ↔ o.e a ∈ pre) ∧ found.length ≤ pre.length)
    ⟨rfl, [], _, _, _, rfl, List.Pairwise.nil, fun a => by simp, Nat.zero_le _⟩ ?_ ?_
  · rintro pre d post env h1 e ⟨rfl, found, s2, s3, s4, rfl, ha, hm, hn⟩
    obtain ⟨row, hrow, rfl⟩ : ∃ a, a ∈ rows ∧ o.e a = d := List.mem_map.mp (by rw [e]; simp)
    have hpl : pre.length < rows.length := by have := congrArg List.length e; simp at this; omega
    refine ⟨_, rfl, ?_⟩
    repeat walk_at "iv"
    refine o_rg1 ⟨by omega, by simp; omega⟩ ?_
    rw [List.length_map, Int.toNat_natCast]
    refine w_cut (fun x h2 => h2 = h1 ∧ ∃ (t : Nat) (s4 : Sl), x = (.nx, [.val (.lst (rows.map o.e)), .own (found.map o.e), .val (o.e row), .val (.int (t : Nat)), s4]) ∧ t ≤ found.length ∧ (∀ j (hj : j < found.length), t ≤ j → o.lt row found[j] = true) ∧
      (∀ j (hj : j < found.length), j + 1 = t → o.lt row found[j] = false)) ?_ ?_
    · refine f_for (fun pre env h2 => h2 = h1 ∧ pre.length ≤ found.length ∧ ∃ (s4 : Sl), env = [.val (.lst (rows.map o.e)), .own (found.map o.e), .val (o.e row), .val (.int ((found.length - pre.length : Nat) : Int)), s4] ∧
        (∀ j (hj : j < found.length), found.length - pre.length ≤ j → o.lt row found[j] = true)) ⟨rfl, Nat.zero_le _, _, by simp; rfl, fun j hj l => by simp at l; omega⟩ ?_ ?_
      · rintro pre d post env h2 e ⟨rfl, hp, s4, rfl, h3⟩
        obtain ⟨rfl, hp2⟩ := rng0_split e
        refine ⟨_, rfl, ?_⟩
        have hi : found.length - pre.length - 1 < found.length := by omega
        repeat walk_at "iv"
        refine o_ixL (d := o.e found[found.length - pre.length - 1]) (atI_pos (by omega) ?_) ?_
        · rw [show (((found.length - pre.length : Nat) : Int) - 1).toNat = found.length - pre.length - 1 by omega, List.getElem?_map, List.getElem?_eq_getElem hi]; rfl
        refine o.o_le ?_
        repeat walk_at "iv"
        refine ⟨fun c => ?_, fun c => ?_⟩
        · repeat walk_at "iv"
          refine ⟨rfl, _, _, rfl, by omega, h3, fun j hj e2 => ?_⟩
          have e3 : j = found.length - pre.length - 1 := by omega
          subst e3
          simpa using c
        · repeat walk_at "iv"
          refine ⟨rfl, by simp; omega, .val (.int (pre.length : Int)), ?_, fun j hj l => ?_⟩
          · rw [List.length_append, List.length_singleton]
            rw [show ((found.length - (pre.length + 1) : Nat) : Int) = ((found.length - pre.length : Nat) : Int) - 1 by omega]
            rfl
          · rw [List.length_append, List.length_singleton] at l
            by_cases e3 : j = found.length - pre.length - 1
            · subst e3; simpa using c
            · exact h3 j hj (by omega)
      · rintro env h2 ⟨rfl, hp, s4, rfl, h3⟩
        rw [rng_len] at h3
        refine ⟨rfl, 0, s4, ?_, Nat.zero_le _, fun j hj _ => h3 j hj (by omega), fun j hj e => by omega⟩
        rw [rng_len, Nat.sub_self]; done
    · rintro x h2 ⟨rfl, t, s4, rfl, ht, h3, h4⟩
      have low : ∀ (ne : ∀ j (hj : j < found.length), j + 1 = t → found[j] ≠ row), ∀ j (hj : j < found.length), j < t → o.lt found[j] row = true := fun ne j hj l => by
        have k1 : t - 1 < found.length := by omega
        have k2 : o.lt found[t - 1] row = true := by
          cases c : o.lt found[t - 1] row with
          | true => rfl
          | false => exact absurd (o.tot _ _ c (h4 (t - 1) k1 (by omega))) (ne _ k1 (by omega))
        by_cases e : j = t - 1
        · subst e; exact k2
        · exact o.tr _ _ _ (asc_get o ha hj k1 (by omega)) k2
      -- the new row
      have newA : ∀ (ne : ∀ j (hj : j < found.length), j + 1 = t → found[j] ≠ row), o.Asc (found.take t ++ [row] ++ found.drop t) ∧ ∀ a, a ∈ found.take t ++ [row] ++ found.drop t ↔ o.e a ∈ pre ++ [o.e row] := fun ne => by
        refine ⟨put_asc o ha ht h3 (low ne), fun a => ?_⟩
        rw [List.mem_append, List.mem_append, List.mem_append, List.mem_singleton, List.mem_singleton, ← hm a]
        have sp : a ∈ found ↔ a ∈ found.take t ∨ a ∈ found.drop t := by conv => lhs; rw [← List.take_append_drop t found, List.mem_append]
        rw [sp]
        constructor
        · rintro ((h | h) | h)
          · exact .inl (.inl h)
          · exact .inr (congrArg o.e h)
          · exact .inl (.inr h)
        · rintro ((h | h) | h)
          · exact .inl (.inl h)
          · exact .inr h
          · exact .inl (.inr (o.inj h))
      have ixA : ∀ {P : D → Prop}, (0 < t) → (∀ (hj : t - 1 < found.length), P (o.e found[t - 1])) → ∃ d, opIx h2 (.lst (found.map o.e)) (.int ((t : Int) - 1)) = some d ∧ P d := fun hp hq => by
        have hj : t - 1 < found.length := by omega
        refine o_ixL (atI_pos (by omega) ?_) (hq hj)
        rw [show ((t : Int) - 1).toNat = t - 1 by omega, List.getElem?_map, List.getElem?_eq_getElem hj]; rfl
      have old : ∀ (e : ∃ (hj : t - 1 < found.length), 0 < t ∧ found[t - 1] = row), ∀ a, a ∈ found ↔ o.e a ∈ pre ++ [o.e row] := fun ⟨hj, _, e⟩ a => by
        rw [List.mem_append, List.mem_singleton, ← hm a]
        refine ⟨.inl, ?_⟩
        rintro (h | h)
        · exact h
        · rw [o.inj h, ← e]; exact List.getElem_mem hj
      repeat walk_at "iv"
      -- at == 0 or found[at - 1] != row
      have tst : ∀ {Q1 Q2 : Prop}, ((∀ j (hj : j < found.length), j + 1 = t → found[j] ≠ row) → Q1) → ((∃ (hj : t - 1 < found.length), 0 < t ∧ found[t - 1] = row) → Q2) →
          ∀ (hj : t - 1 < found.length), 0 < t → Two Q1 (!decide (found[t - 1] = row)) Q2 := fun q1 q2 hj hp => by
        refine ⟨fun c => q1 fun j hj' e => ?_, fun c => q2 ⟨hj, hp, ?_⟩⟩
        · have e : j = t - 1 := by omega
          subst e
          simpa using c
        · simpa using c
      refine ⟨fun c1 => ?_, fun c1 => ?_⟩
      · have c1 : t = found.length := by simp at c1; omega
        repeat walk_at "iv"
        refine ⟨fun c2 => ?_, fun c2 => ?_⟩
        · have c2 : t = 0 := by simp at c2; omega
          have ne : ∀ j (hj : j < found.length), j + 1 = t → found[j] ≠ row := fun j hj e => by omega
          obtain ⟨a1, a2⟩ := newA ne
          have ee : found.take t ++ [row] ++ found.drop t = found ++ [row] := by rw [c1]; simp
          rw [ee] at a1 a2
          repeat walk_at "iv"
          refine ⟨by rw [List.length_map]; omega, ?_⟩
          repeat walk_at "iv"
          exact ⟨rfl, found ++ [row], _, _, _, by rw [List.map_append]; rfl, a1, a2, by simp; omega⟩
        · have c2 : 0 < t := by simp at c2; omega
          repeat walk_at "iv"
          refine ixA c2 fun hj => ?_
          refine o.o_ne ?_
          repeat walk_at "iv"
          refine tst (fun ne => ?_) (fun oe => ?_) hj c2
          · obtain ⟨a1, a2⟩ := newA ne
            have ee : found.take t ++ [row] ++ found.drop t = found ++ [row] := by rw [c1]; simp
            rw [ee] at a1 a2
            repeat walk_at "iv"
            refine ⟨by rw [List.length_map]; omega, ?_⟩
            repeat walk_at "iv"
            exact ⟨rfl, found ++ [row], _, _, _, by rw [List.map_append]; rfl, a1, a2, by simp; omega⟩
          · repeat walk_at "iv"
            refine ⟨fun c => ?_, fun _ => ?_⟩
            · have : t = 0 := by simp at c; omega
              omega
            repeat walk_at "iv"
            refine ixA c2 fun hj => ?_
            refine o.o_ne ?_
            repeat walk_at "iv"
            refine tst (fun ne => ?_) (fun oe => ?_) hj c2
            · exact absurd oe.2.2 (ne _ oe.1 (by omega))
            · repeat walk_at "iv"
              exact ⟨rfl, found, _, _, _, rfl, ha, old oe, by simp; omega⟩
      · have c1 : t ≠ found.length := by simp at c1; omega
        repeat walk_at "iv"
        refine ⟨fun c2 => ?_, fun c2 => ?_⟩
        · have c2 : t = 0 := by simp at c2; omega
          have ne : ∀ j (hj : j < found.length), j + 1 = t → found[j] ≠ row := fun j hj e => by omega
          obtain ⟨a1, a2⟩ := newA ne
          repeat walk_at "iv"
          rw [cut_to]
          refine o_addL (by simp; omega) ?_
          repeat walk_at "iv"
          rw [cut_from]
          refine o_addL (by simp; omega) ?_
          repeat walk_at "iv"
          exact ⟨rfl, found.take t ++ [row] ++ found.drop t, _, _, _, by rw [List.map_append, List.map_append, List.map_take, List.map_drop]; rfl, a1, a2, by simp; omega⟩
        · have c2 : 0 < t := by simp at c2; omega
          repeat walk_at "iv"
          refine ixA c2 fun hj => ?_
          refine o.o_ne ?_
          repeat walk_at "iv"
          refine tst (fun ne => ?_) (fun oe => ?_) hj c2
          · obtain ⟨a1, a2⟩ := newA ne
            repeat walk_at "iv"
            rw [cut_to]
            refine o_addL (by simp; omega) ?_
            repeat walk_at "iv"
            rw [cut_from]
            refine o_addL (by simp; omega) ?_
            repeat walk_at "iv"
            exact ⟨rfl, found.take t ++ [row] ++ found.drop t, _, _, _, by rw [List.map_append, List.map_append, List.map_take, List.map_drop]; rfl, a1, a2, by simp; omega⟩
          · repeat walk_at "iv"
            exact ⟨rfl, found, _, _, _, rfl, ha, old oe, by simp; omega⟩
  · rintro env h1 ⟨rfl, found, s2, s3, s4, rfl, ha, hm, hn⟩
    repeat walk_at "iv"
    have : found = o.asc rows := o.asc_of ha fun a => by rw [hm, o.mem_map]
    rw [this]
    exact q
end Lw

/-! names, words, patterns -/
namespace Lw
open PySem L2 Iv Fn
variable {fns : List (Nat × FnD)} {h h' : IH} {K : D → IH → Prop} {Y : Nat → List D → IH → Prop} {n : Nat}
abbrev lettersL : List Nat := [97, 98, 99, 100, 101, 102, 103, 104, 105, 106, 107, 108, 109, 110, 111, 112, 113, 114, 115, 116, 117, 118, 119, 120, 121, 122]
abbrev capitalsL : List Nat := [65, 66, 67, 68, 69, 70, 71, 72, 73, 74, 75, 76, 77, 78, 79, 80, 81, 82, 83, 84, 85, 86, 87, 88, 89, 90]
abbrev digitsL : List Nat := [48, 49, 50, 51, 52, 53, 54, 55, 56, 57]
def nameB (z : List Nat) : Bool := match z with
  | [] => false
  | c :: r => decide ((c :: r).length ≤ 8) && decide (c ∈ lettersL) && (c :: r).all fun c => decide (c ∈ lettersL) || decide (c ∈ digitsL)
def wordB (z : List Nat) : Bool := match z with
  | [] => false
  | c :: r => decide ((c :: r).length ≤ 8) && decide (c ∈ capitalsL) && (c :: r).all fun c => decide (c ∈ lettersL) || decide (c ∈ capitalsL) || decide (c ∈ digitsL)
theorem nameB_cons (c : Nat) (r : List Nat) : nameB (c :: r) = (decide ((c :: r).length ≤ 8) && decide (c ∈ lettersL) && (c :: r).all fun c => decide (c ∈ lettersL) || decide (c ∈ digitsL)) := rfl
theorem wordB_cons (c : Nat) (r : List Nat) : wordB (c :: r) = (decide ((c :: r).length ≤ 8) && decide (c ∈ capitalsL) && (c :: r).all fun c => decide (c ∈ lettersL) || decide (c ∈ capitalsL) || decide (c ∈ digitsL)) := rfl
theorem name_ok {z : List Nat} (hF : fns.lookup 25 = some f25) (q : K (.bl (nameB z)) h) : (callI fns (n + 1) 25 [.str z] h).post K Y := by
  refine call_def hF rfl ?_
  show (evSs (callI fns n) b25 [.val (.str z), .no] h).post _ Y
  unfold b25
  repeat walk_at "iv"
  cases z with
  | nil =>
    refine ⟨fun c => absurd (of_decide_eq_true c) (by decide), fun _ => ?_⟩
    repeat walk_at "iv"
    exact q
  | cons c r =>
    refine ⟨fun _ => ?_, fun c => absurd (of_decide_eq_false c) (by simp; omega)⟩
    repeat walk_at "iv"
    have fin : ∀ b : Bool, (b = true → decide ((c :: r).length ≤ 8) = false ∨ decide (c ∈ lettersL) = false) → b = true → K (.bl false) h := fun b e e2 => by
      have : nameB (c :: r) = false := by
        rw [nameB_cons]
        rcases e e2 with e | e <;> rw [e] <;> simp
      rw [this] at q; exact q
    refine ⟨fun c1 => ?_, fun c1 => ?_⟩
    · repeat walk_at "iv"
      exact fin true (fun _ => .inl (by simp at c1 ⊢; omega)) rfl
    · have c1 : (c :: r).length ≤ 8 := by simp at c1 ⊢; omega
      repeat walk_at "iv"
      refine ⟨fun c2 => ?_, fun c2 => ?_⟩
      · repeat walk_at "iv"
        exact fin true (fun _ => .inr (not_true c2)) rfl
      · have c2 : c ∈ lettersL := of_decide_eq_true (nfalse c2)
        repeat walk_at "iv"
        refine w_compA (fun c => .str [c]) (fun c => .bl (decide (c ∈ lettersL) || decide (c ∈ digitsL))) ?_ ?_
        · refine fun d hd => ⟨_, rfl, ?_⟩
          repeat walk_at "iv"
          refine ⟨fun c3 => ?_, fun c3 => ?_⟩
          · exact ⟨rfl, by rw [c3]; rfl⟩
          · repeat walk_at "iv"
            exact ⟨rfl, by rw [c3]; rfl⟩
        · repeat walk_at "iv"
          refine o_all (bs := (c :: r).map fun c => decide (c ∈ lettersL) || decide (c ∈ digitsL)) (by rw [List.map_map]; rfl) ?_
          repeat walk_at "iv"
          have : nameB (c :: r) = ((c :: r).map fun c => decide (c ∈ lettersL) || decide (c ∈ digitsL)).all id := by
            rw [nameB_cons, decide_eq_true c1, decide_eq_true c2, List.all_map]; rfl
          rw [← this]
          exact q
theorem word_ok {z : List Nat} (hF : fns.lookup 24 = some f24) (q : K (.bl (wordB z)) h) : (callI fns (n + 1) 24 [.str z] h).post K Y := by
  refine call_def hF rfl ?_
  show (evSs (callI fns n) b24 [.val (.str z), .no] h).post _ Y
  unfold b24
  repeat walk_at "iv"
  cases z with
  | nil =>
    refine ⟨fun c => absurd (of_decide_eq_true c) (by decide), fun _ => ?_⟩
    repeat walk_at "iv"
    exact q
  | cons c r =>
    refine ⟨fun _ => ?_, fun c => absurd (of_decide_eq_false c) (by simp; omega)⟩
    repeat walk_at "iv"
    have fin : ∀ b : Bool, (b = true → decide ((c :: r).length ≤ 8) = false ∨ decide (c ∈ capitalsL) = false) → b = true → K (.bl false) h := fun b e e2 => by
      have : wordB (c :: r) = false := by
        rw [wordB_cons]
        rcases e e2 with e | e <;> rw [e] <;> simp
      rw [this] at q; exact q
    refine ⟨fun c1 => ?_, fun c1 => ?_⟩
    · repeat walk_at "iv"
      exact fin true (fun _ => .inl (by simp at c1 ⊢; omega)) rfl
    · have c1 : (c :: r).length ≤ 8 := by simp at c1 ⊢; omega
      repeat walk_at "iv"
      refine ⟨fun c2 => ?_, fun c2 => ?_⟩
      · repeat walk_at "iv"
        exact fin true (fun _ => .inr (not_true c2)) rfl
      · have c2 : c ∈ capitalsL := of_decide_eq_true (nfalse c2)
        repeat walk_at "iv"
        refine w_compA (fun c => .str [c]) (fun c => .bl (decide (c ∈ lettersL) || decide (c ∈ capitalsL) || decide (c ∈ digitsL))) ?_ ?_
        · refine fun d hd => ⟨_, rfl, ?_⟩
          repeat walk_at "iv"
          refine ⟨fun c3 => ?_, fun c3 => ?_⟩
          · exact ⟨rfl, by rw [c3]; rfl⟩
          · repeat walk_at "iv"
            refine ⟨fun c4 => ?_, fun c4 => ?_⟩
            · exact ⟨rfl, by rw [c3, c4]; rfl⟩
            · repeat walk_at "iv"
              exact ⟨rfl, by rw [c3, c4]; rfl⟩
        · repeat walk_at "iv"
          refine o_all (bs := (c :: r).map fun c => decide (c ∈ lettersL) || decide (c ∈ capitalsL) || decide (c ∈ digitsL)) (by rw [List.map_map]; rfl) ?_
          repeat walk_at "iv"
          have : wordB (c :: r) = ((c :: r).map fun c => decide (c ∈ lettersL) || decide (c ∈ capitalsL) || decide (c ∈ digitsL)).all id := by
            rw [wordB_cons, decide_eq_true c1, decide_eq_true c2, List.all_map]; rfl
          rw [← this]
          exact q
/-- a pattern: a word, then names or nothing, one or two -/
def patB (p : List (List Nat)) : Bool := match p with
  | [] => false
  | w :: r => (decide (r.length = 1) || decide (r.length = 2)) && wordB w && r.all fun x => decide (x = []) || nameB x
abbrev TS (p : List (List Nat)) : D := .tup (p.map D.str)
theorem pat_ok {p : List (List Nat)} (hF : fns.lookup 22 = some f22) (hW : fns.lookup 24 = some f24) (hN : fns.lookup 25 = some f25) (q : K (.bl (patB p)) h) : (callI fns (n + 2) 22 [TS p] h).post K Y := by
  refine call_def hF rfl ?_
  show (evSs (callI fns (n + 1)) b22 [.val (TS p), .no] h).post _ Y
  unfold b22
  repeat walk_at "iv"
  refine o_ninT ?_ ?_
  · rfl
  repeat walk_at "iv"
  have em : memD (.int (p.map D.str).length) [.int 2, .int 3] = (decide (p.length = 2) || decide (p.length = 3)) := by
    simp only [memD, List.any_cons, List.any_nil, D.eqv, List.length_map, Bool.or_false]
    rw [Bool.eq_iff_iff]
    simp
    omega
  rw [em]
  cases p with
  | nil =>
    refine ⟨fun _ => ?_, fun c => by cases c⟩
    repeat walk_at "iv"
    exact q
  | cons w r =>
    have e1 : patB (w :: r) = ((decide (r.length = 1) || decide (r.length = 2)) && wordB w && r.all fun x => decide (x = []) || nameB x) := rfl
    have e2 : (decide ((w :: r).length = 2) || decide ((w :: r).length = 3)) = (decide (r.length = 1) || decide (r.length = 2)) := by
      rw [Bool.eq_iff_iff]; simp
    rw [e2]
    refine ⟨fun c1 => ?_, fun c1 => ?_⟩
    · have c1 : (decide (r.length = 1) || decide (r.length = 2)) = false := not_true c1
      repeat walk_at "iv"
      rw [e1, c1] at q
      exact q
    · have c1 : (decide (r.length = 1) || decide (r.length = 2)) = true := nfalse c1
      repeat walk_at "iv"
      refine word_ok hW ?_
      repeat walk_at "iv"
      refine ⟨fun c2 => ?_, fun c2 => ?_⟩
      · have c2 : wordB w = false := not_true c2
        repeat walk_at "iv"
        rw [e1, c1, c2] at q
        exact q
      · have c2 : wordB w = true := nfalse c2
        repeat walk_at "iv"
        rw [show ((1 : Int)) = ((1 : Nat) : Int) from rfl, cut_from]
        refine w_compA D.str (fun x => .bl (decide (x = []) || nameB x)) ?_ ?_
        · refine fun d hd => ⟨_, rfl, ?_⟩
          repeat walk_at "iv"
          have ed : (d == ([] : List Nat)) = decide (d = []) := by rw [Bool.eq_iff_iff]; simp
          rw [ed]
          refine ⟨fun c3 => ?_, fun c3 => ?_⟩
          · exact ⟨rfl, by rw [c3]; rfl⟩
          · repeat walk_at "iv"
            refine name_ok hN ?_
            repeat walk_at "iv"
            exact ⟨rfl, by rw [c3]; rfl⟩
        · repeat walk_at "iv"
          refine o_all (bs := r.map fun x => decide (x = []) || nameB x) (by rw [List.map_map]; rfl) ?_
          repeat walk_at "iv"
          have : patB (w :: r) = (r.map fun x => decide (x = []) || nameB x).all id := by
            rw [e1, c1, c2, List.all_map]; rfl
          rw [← this]
          exact q
end Lw

/-! what fits a pattern, what a pattern covers -/
namespace Lw
open PySem L2 Iv Fn
variable {fns : List (Nat × FnD)} {h h' : IH} {K : D → IH → Prop} {Y : Nat → List D → IH → Prop} {n : Nat}
def cov1 (x : List Nat × List Nat) : Bool := decide (x.1 = []) || decide (x.1 = x.2)
/-- the pattern p covers q -/
def cov (p q : List (List Nat)) : Bool := match p, q with
  | a :: r, b :: s => decide (r.length = s.length) && decide (a = b) && (r.zip s).all cov1
  | _, _ => false
theorem cov_cons (a b : List Nat) (r s : List (List Nat)) : cov (a :: r) (b :: s) = (decide (r.length = s.length) && decide (a = b) && (r.zip s).all cov1) := rfl
theorem zipS (r s : List (List Nat)) : ((r.map D.str).zip (s.map D.str)).map (fun p => D.tup [p.1, p.2]) = (r.zip s).map fun p => D.tup [.str p.1, .str p.2] := by
  rw [List.zip_map, List.map_map]; rfl
theorem cut1 {α : Type} (x : α) (xs : List α) : cutD (x :: xs) (some 1) none = xs := by
  rw [show ((1 : Int)) = ((1 : Nat) : Int) from rfl, cut_from]; rfl
theorem memEO (x y : List Nat) : memD (.str x) [.str [], .str y] = cov1 (x, y) := by
  simp only [memD, List.any_cons, List.any_nil, D.eqv, Bool.or_false, cov1]
  rw [Bool.eq_iff_iff]
  simp only [Bool.or_eq_true, beq_iff_eq, decide_eq_true_eq]
  constructor
  · rintro (h | h)
    · exact .inl h.symm
    · exact .inr h.symm
  · rintro (h | h)
    · exact .inl h.symm
    · exact .inr h.symm
theorem rng_split1 {lo : Int} {n : Nat} {pre post : List D} {d : D} (e : rng lo 1 n = pre ++ d :: post) : d = .int (lo + (pre.length : Int)) ∧ pre.length < n := by
  obtain ⟨h1, h2⟩ := rng_split e
  exact ⟨by rw [h1, Int.mul_one], h2⟩

theorem fits_ok {a b : List Nat} {r s : List (List Nat)} (hF : fns.lookup 11 = some f11) (q : K (.bl (cov (a :: r) (b :: s))) h) : (callI fns (n + 1) 11 [TS (b :: s), TS (a :: r)] h).post K Y := by
  refine call_def hF rfl ?_
  show (evSs (callI fns n) b11 [.val (TS (b :: s)), .val (TS (a :: r)), .no, .no] h).post _ Y
  unfold b11
  repeat walk_at "iv"
  rw [cov_cons] at q
  refine ⟨fun c1 => ?_, fun c1 => ?_⟩
  · repeat walk_at "iv"
    have c1 : r.length ≠ s.length := by have := not_true c1; simp at this; omega
    rw [decide_eq_false c1] at q
    exact q
  have c1 : r.length = s.length := by have := nfalse c1; simp at this; omega
  repeat walk_at "iv"
  refine ⟨fun c2 => ?_, fun c2 => ?_⟩
  · repeat walk_at "iv"
    have c2 : a ≠ b := by have := not_true c2; simp at this; first | exact this | exact fun e => this e.symm
    rw [decide_eq_false c2, Bool.and_false] at q
    exact q
  have c2 : a = b := by have := nfalse c2; simp at this; first | exact this | exact this.symm
  repeat walk_at "iv"
  rw [List.map_cons, List.map_cons, cut1, cut1, zipS]
  refine w_compA (fun p => D.tup [.str p.1, .str p.2]) (fun p => .bl (cov1 p)) ?_ ?_
  · refine fun d hd => ⟨_, rfl, ?_⟩
    repeat walk_at "iv"
    refine o_inT ?_ ?_
    · rfl
    rw [memEO]
    exact ⟨rfl, rfl⟩
  · repeat walk_at "iv"
    refine o_all (bs := (r.zip s).map cov1) (by rw [List.map_map]; rfl) ?_
    repeat walk_at "iv"
    rw [decide_eq_true c1, decide_eq_true c2] at q
    rw [List.all_map]
    exact q

theorem covers_ok {a b : List Nat} {r s : List (List Nat)} (hF : fns.lookup 13 = some f13) (q : K (.bl (cov (a :: r) (b :: s))) h) : (callI fns (n + 1) 13 [TS (a :: r), TS (b :: s)] h).post K Y := by
  refine call_def hF rfl ?_
  show (evSs (callI fns n) b13 [.val (TS (a :: r)), .val (TS (b :: s)), .no, .no] h).post _ Y
  unfold b13
  repeat walk_at "iv"
  rw [cov_cons] at q
  refine ⟨fun c1 => ?_, fun c1 => ?_⟩
  · repeat walk_at "iv"
    have c1 : r.length ≠ s.length := by have := not_true c1; simp at this; omega
    rw [decide_eq_false c1] at q
    exact q
  have c1 : r.length = s.length := by have := nfalse c1; simp at this; omega
  repeat walk_at "iv"
  refine ⟨fun c2 => ?_, fun c2 => ?_⟩
  · repeat walk_at "iv"
    have c2 : a ≠ b := by have := not_true c2; simp at this; first | exact this | exact fun e => this e.symm
    rw [decide_eq_false c2, Bool.and_false] at q
    exact q
  have c2 : a = b := by have := nfalse c2; simp at this; first | exact this | exact this.symm
  repeat walk_at "iv"
  rw [List.map_cons, List.map_cons, cut1, cut1, zipS]
  refine w_compA (fun p => D.tup [.str p.1, .str p.2]) (fun p => .bl (cov1 p)) ?_ ?_
  · refine fun d hd => ⟨_, rfl, ?_⟩
    repeat walk_at "iv"
    refine o_inT ?_ ?_
    · rfl
    rw [memEO]
    exact ⟨rfl, rfl⟩
  · repeat walk_at "iv"
    refine o_all (bs := (r.zip s).map cov1) (by rw [List.map_map]; rfl) ?_
    repeat walk_at "iv"
    rw [decide_eq_true c1, decide_eq_true c2] at q
    rw [List.all_map]
    exact q

theorem lawfits_ok {a b : List Nat} {r s : List (List Nat)} (hF : fns.lookup 12 = some f12) (hl : s.length ≤ 1000) (q : K (.bl (cov (a :: r) (b :: s))) h) : (callI fns (n + 1) 12 [TS (b :: s), TS (a :: r)] h).post K Y := by
  refine call_def hF rfl ?_
  show (evSs (callI fns n) b12 [.val (TS (b :: s)), .val (TS (a :: r)), .no] h).post _ Y
  unfold b12
  repeat walk_at "iv"
  rw [cov_cons] at q
  refine ⟨fun c1 => ?_, fun c1 => ?_⟩
  · repeat walk_at "iv"
    have c1 : r.length ≠ s.length := by have := not_true c1; simp at this; omega
    rw [decide_eq_false c1] at q
    exact q
  have c1 : r.length = s.length := by have := nfalse c1; simp at this; omega
  repeat walk_at "iv"
  refine ⟨fun c2 => ?_, fun c2 => ?_⟩
  · repeat walk_at "iv"
    have c2 : a ≠ b := by have := not_true c2; simp at this; first | exact this | exact fun e => this e.symm
    rw [decide_eq_false c2, Bool.and_false] at q
    exact q
  have c2 : a = b := by have := nfalse c2; simp at this; first | exact this | exact this.symm
  rw [decide_eq_true c1, decide_eq_true c2] at q
  have q : K (.bl ((r.zip s).all cov1)) h := q
  repeat walk_at "iv"
  refine o_rg2 ⟨⟨by decide, by decide, by simp; omega, by simp; omega⟩, by simp; omega⟩ ?_
  rw [show (((((b :: s).map D.str).length : Nat) : Int) - 1).toNat = s.length by simp <;> omega]
  have hz : (r.zip s).length = s.length := by rw [List.length_zip]; omega
  refine f_for (fun pre env h1 => h1 = h ∧ ∃ (s2 : Sl), env = [.val (TS (b :: s)), .val (TS (a :: r)), s2] ∧ ∀ j (hj : j < (r.zip s).length), j < pre.length → cov1 (r.zip s)[j] = true) ⟨rfl, _, rfl, fun j _ l => by cases l⟩ ?_ ?_
  · rintro pre d post env h1 e ⟨rfl, s2, rfl, h3⟩
    obtain ⟨rfl, hp⟩ := rng_split1 e
    refine ⟨_, rfl, ?_⟩
    have i1 : pre.length < r.length := by omega
    have g1 : atI ((a :: r).map D.str) (1 + (pre.length : Int)) = some (.str r[pre.length]) := atI_pos (by omega) (by rw [show (1 + (pre.length : Int)).toNat = pre.length + 1 by omega]; simp [i1])
    have g2 : atI ((b :: s).map D.str) (1 + (pre.length : Int)) = some (.str s[pre.length]) := atI_pos (by omega) (by rw [show (1 + (pre.length : Int)).toNat = pre.length + 1 by omega]; simp [hp])
    have ez : (r.zip s)[pre.length]'(by omega) = (r[pre.length], s[pre.length]) := by simp
    repeat walk_at "iv"
    refine o_ixT g1 ?_
    repeat walk_at "iv"
    have next : cov1 (r[pre.length], s[pre.length]) = true → (fun pre env h2 => h2 = h1 ∧ ∃ (s2 : Sl), env = [.val (TS (b :: s)), .val (TS (a :: r)), s2] ∧ ∀ j (hj : j < (r.zip s).length), j < pre.length → cov1 (r.zip s)[j] = true) (pre ++ [D.int (1 + (pre.length : Int))]) [.val (TS (b :: s)), .val (TS (a :: r)), .val (.int (1 + (pre.length : Int)))] h1 := fun c => by
      refine ⟨rfl, _, rfl, fun j hj l => ?_⟩
      rw [List.length_append, List.length_singleton] at l
      by_cases e : j = pre.length
      · subst e; rw [ez]; exact c
      · exact h3 j hj (by omega)
    refine ⟨fun c3 => ?_, fun c3 => ?_⟩
    · repeat walk_at "iv"
      refine o_ixT g1 ?_
      repeat walk_at "iv"
      refine o_ixT g2 ?_
      repeat walk_at "iv"
      refine ⟨fun c4 => ?_, fun c4 => ?_⟩
      · repeat walk_at "iv"
        have : (r.zip s).all cov1 = false := by
          rw [List.all_eq_false]
          refine ⟨(r.zip s)[pre.length]'(by omega), List.getElem_mem _, ?_⟩
          rw [ez]
          have k3 := not_true c3
          have k4 := not_true c4
          simp only [cov1, Bool.or_eq_true, decide_eq_true_eq]
          rintro (h | h)
          · rw [h] at k3; simp at k3
          · rw [h] at k4; simp at k4
        rw [this] at q
        exact q
      · repeat walk_at "iv"
        refine next ?_
        have k4 := nfalse c4
        simp only [beq_iff_eq] at k4
        simp [cov1, k4]
    · repeat walk_at "iv"
      refine next ?_
      have k3 := nfalse c3
      simp only [beq_iff_eq] at k3
      simp [cov1, k3]
  · rintro env h1 ⟨rfl, s2, rfl, h3⟩
    repeat walk_at "iv"
    have : (r.zip s).all cov1 = true := by
      rw [List.all_eq_true]
      intro x hx
      obtain ⟨j, hj, e⟩ := List.mem_iff_getElem.mp hx
      rw [← e]
      exact h3 j hj (by rw [rng_len]; omega)
    rw [this] at q
    exact q

theorem lawcovers_ok {a b : List Nat} {r s : List (List Nat)} (hF : fns.lookup 14 = some f14) (hl : s.length ≤ 1000) (q : K (.bl (cov (a :: r) (b :: s))) h) : (callI fns (n + 1) 14 [TS (a :: r), TS (b :: s)] h).post K Y := by
  refine call_def hF rfl ?_
  show (evSs (callI fns n) b14 [.val (TS (a :: r)), .val (TS (b :: s)), .no] h).post _ Y
  unfold b14
  repeat walk_at "iv"
  rw [cov_cons] at q
  refine ⟨fun c1 => ?_, fun c1 => ?_⟩
  · repeat walk_at "iv"
    have c1 : r.length ≠ s.length := by have := not_true c1; simp at this; omega
    rw [decide_eq_false c1] at q
    exact q
  have c1 : r.length = s.length := by have := nfalse c1; simp at this; omega
  repeat walk_at "iv"
  refine ⟨fun c2 => ?_, fun c2 => ?_⟩
  · repeat walk_at "iv"
    have c2 : a ≠ b := by have := not_true c2; simp at this; first | exact this | exact fun e => this e.symm
    rw [decide_eq_false c2, Bool.and_false] at q
    exact q
  have c2 : a = b := by have := nfalse c2; simp at this; first | exact this | exact this.symm
  rw [decide_eq_true c1, decide_eq_true c2] at q
  have q : K (.bl ((r.zip s).all cov1)) h := q
  repeat walk_at "iv"
  refine o_rg2 ⟨⟨by decide, by decide, by simp; omega, by simp; omega⟩, by simp; omega⟩ ?_
  rw [show (((((a :: r).map D.str).length : Nat) : Int) - 1).toNat = s.length by simp <;> omega]
  have hz : (r.zip s).length = s.length := by rw [List.length_zip]; omega
  refine f_for (fun pre env h1 => h1 = h ∧ ∃ (s2 : Sl), env = [.val (TS (a :: r)), .val (TS (b :: s)), s2] ∧ ∀ j (hj : j < (r.zip s).length), j < pre.length → cov1 (r.zip s)[j] = true) ⟨rfl, _, rfl, fun j _ l => by cases l⟩ ?_ ?_
  · rintro pre d post env h1 e ⟨rfl, s2, rfl, h3⟩
    obtain ⟨rfl, hp⟩ := rng_split1 e
    refine ⟨_, rfl, ?_⟩
    have i1 : pre.length < r.length := by omega
    have g1 : atI ((a :: r).map D.str) (1 + (pre.length : Int)) = some (.str r[pre.length]) := atI_pos (by omega) (by rw [show (1 + (pre.length : Int)).toNat = pre.length + 1 by omega]; simp [i1])
    have g2 : atI ((b :: s).map D.str) (1 + (pre.length : Int)) = some (.str s[pre.length]) := atI_pos (by omega) (by rw [show (1 + (pre.length : Int)).toNat = pre.length + 1 by omega]; simp [hp])
    have ez : (r.zip s)[pre.length]'(by omega) = (r[pre.length], s[pre.length]) := by simp
    repeat walk_at "iv"
    refine o_ixT g1 ?_
    repeat walk_at "iv"
    have next : cov1 (r[pre.length], s[pre.length]) = true → (fun pre env h2 => h2 = h1 ∧ ∃ (s2 : Sl), env = [.val (TS (a :: r)), .val (TS (b :: s)), s2] ∧ ∀ j (hj : j < (r.zip s).length), j < pre.length → cov1 (r.zip s)[j] = true) (pre ++ [D.int (1 + (pre.length : Int))]) [.val (TS (a :: r)), .val (TS (b :: s)), .val (.int (1 + (pre.length : Int)))] h1 := fun c => by
      refine ⟨rfl, _, rfl, fun j hj l => ?_⟩
      rw [List.length_append, List.length_singleton] at l
      by_cases e : j = pre.length
      · subst e; rw [ez]; exact c
      · exact h3 j hj (by omega)
    refine ⟨fun c3 => ?_, fun c3 => ?_⟩
    · repeat walk_at "iv"
      refine o_ixT g1 ?_
      repeat walk_at "iv"
      refine o_ixT g2 ?_
      repeat walk_at "iv"
      refine ⟨fun c4 => ?_, fun c4 => ?_⟩
      · repeat walk_at "iv"
        have : (r.zip s).all cov1 = false := by
          rw [List.all_eq_false]
          refine ⟨(r.zip s)[pre.length]'(by omega), List.getElem_mem _, ?_⟩
          rw [ez]
          have k3 := not_true c3
          have k4 := not_true c4
          simp only [cov1, Bool.or_eq_true, decide_eq_true_eq]
          rintro (h | h)
          · rw [h] at k3; simp at k3
          · rw [h] at k4; simp at k4
        rw [this] at q
        exact q
      · repeat walk_at "iv"
        refine next ?_
        have k4 := nfalse c4
        simp only [beq_iff_eq] at k4
        simp [cov1, k4]
    · repeat walk_at "iv"
      refine next ?_
      have k3 := nfalse c3
      simp only [beq_iff_eq] at k3
      simp [cov1, k3]
  · rintro env h1 ⟨rfl, s2, rfl, h3⟩
    repeat walk_at "iv"
    have : (r.zip s).all cov1 = true := by
      rw [List.all_eq_true]
      intro x hx
      obtain ⟨j, hj, e⟩ := List.mem_iff_getElem.mp hx
      rw [← e]
      exact h3 j hj (by rw [rng_len]; omega)
    rw [this] at q
    exact q
end Lw

/-! all facts of a pattern over names -/
namespace Lw
open PySem L2 Iv Fn
variable {fns : List (Nat × FnD)} {h h' : IH} {K : D → IH → Prop} {Y : Nat → List D → IH → Prop} {n : Nat}
abbrev Txt := List Nat
def fillB (part x : Txt) : Bool := decide (part = []) || decide (part = x)
def grow (names : List Txt) (part : Txt) (rows : List (List Txt)) : List (List Txt) := rows.flatMap fun row => (names.filter (fillB part)).map fun x => row ++ [x]
def growAll (names : List Txt) : List Txt → List (List Txt) → List (List Txt)
  | [], rows => rows
  | p :: ps, rows => growAll names ps (grow names p rows)
def factsOf (names : List Txt) (p : List Txt) : List (List Txt) := match p with
  | [] => []
  | w :: ps => oF.asc (growAll names ps [[w]])
theorem grow_len (names : List Txt) (part : Txt) : ∀ rows : List (List Txt), (grow names part rows).length ≤ rows.length * names.length
  | [] => by simp [grow]
  | r :: rows => by
    have ih := grow_len names part rows
    have l := List.length_filter_le (fillB part) names
    unfold grow at ih ⊢
    rw [List.flatMap_cons, List.length_append, List.length_map, List.length_cons, Nat.add_mul]
    omega
theorem TS_app (r s : List Txt) : TS (r ++ s) = .tup (r.map D.str ++ s.map D.str) := by rw [TS, List.map_append]
theorem pow_next {ps N R G : Nat} (hp : ps + 1 ≤ 3) (hN : N ≤ 200) (hR : R ≤ 200 ^ (3 - (ps + 1))) (hG : G ≤ R * N) : G ≤ 200 ^ (3 - ps) := by
  have e : 200 ^ (3 - ps) = 200 ^ (3 - (ps + 1)) * 200 := by rw [← Nat.pow_succ]; congr 1; omega
  rw [e]
  exact Nat.le_trans hG (Nat.mul_le_mul hR hN)
theorem pow_top {m R : Nat} (hR : R ≤ 200 ^ (3 - m)) : R ≤ 8000000 := Nat.le_trans hR (by
  have : 200 ^ (3 - m) ≤ 200 ^ 3 := Nat.pow_le_pow_right (by decide) (by omega)
  exact this)
theorem all_facts_ok {w : Txt} {ps names : List Txt} (hF : fns.lookup 9 = some f9) (hA : fns.lookup 15 = some f15) (hp : ps.length ≤ 3) (hn : names.length ≤ 200) (q : K (.lst ((factsOf names (w :: ps)).map TS)) h) :
    (callI fns (n + 2) 9 [TS (w :: ps), .lst (names.map D.str)] h).post K Y := by
  refine call_def hF rfl ?_
  show (evSs (callI fns (n + 1)) b9 [.val (TS (w :: ps)), .val (.lst (names.map D.str)), .no, .no, .no, .no, .no] h).post _ Y
  unfold b9
  repeat walk_at "iv"
  rw [List.map_cons, cut1]
  refine f_forR D.str (fun rest env h1 => h1 = h ∧ ∃ (rows : List (List Txt)) (s2 s4 s5 s6 : Sl), env = [.val (TS (w :: ps)), .val (.lst (names.map D.str)), s2, .val (.lst (rows.map TS)), s4, s5, s6] ∧ growAll names rest rows = growAll names ps [[w]] ∧ rest.length ≤ 3 ∧ rows.length ≤ 200 ^ (3 - rest.length) ∧ ∀ r ∈ rows, r.length + rest.length ≤ 4)
    ?_ ?_ ⟨rfl, [[w]], _, _, _, _, rfl, rfl, hp, Nat.one_le_pow _ _ (by decide), fun r hr => by rw [List.mem_singleton.mp hr, List.length_singleton]; omega⟩
  · rintro p rest env h1 ⟨rfl, rows, s2, s4, s5, s6, rfl, e, hr, hl, hw⟩
    refine ⟨_, rfl, ?_⟩
    rw [List.length_cons] at hr hl
    repeat walk_at "iv"
    have gl := grow_len names p rows
    have gl2 := pow_next hr hn hl gl
    have gl3 := pow_top gl2
    refine w_cut (fun x h2 => h2 = h1 ∧ ∃ (s2 s6 : Sl), x = (.nx, [.val (TS (w :: ps)), .val (.lst (names.map D.str)), s2, .val (.lst (rows.map TS)), .val (.str p), .val (.lst ((grow names p rows).map TS)), s6])) ?_ ?_
    · refine f_forR TS (fun rest env h2 => h2 = h1 ∧ ∃ (more : List (List Txt)) (s2 s6 : Sl), env = [.val (TS (w :: ps)), .val (.lst (names.map D.str)), s2, .val (.lst (rows.map TS)), .val (.str p), .val (.lst (more.map TS)), s6] ∧ more ++ grow names p rest = grow names p rows ∧ ∀ r ∈ rest, r ∈ rows)
        ?_ ?_ ⟨rfl, [], _, _, rfl, rfl, fun _ h => h⟩
      · rintro row rest env h2 ⟨rfl, more, s2, s6, rfl, e2, hs⟩
        refine ⟨_, rfl, ?_⟩
        repeat walk_at "iv"
        refine w_compZ D.str (fun x => TS (row ++ [x])) (fillB p) ?_ ?_
        · refine fun x hx => ⟨_, rfl, ?_, fun _ => ?_⟩
          · repeat walk_at "iv"
            refine ⟨fun c => ?_, fun c => ?_⟩
            · refine ⟨rfl, ?_⟩
              have : p = [] := by simpa using c
              rw [this]; rfl
            · repeat walk_at "iv"
              refine ⟨rfl, ?_⟩
              rw [Bool.eq_iff_iff]
              have : ¬ p = [] := by simpa using c
              simp [fillB, this]
          · repeat walk_at "iv"
            refine o_addT ?_ ?_
            · have := hw row (hs row List.mem_cons_self)
              rw [List.length_cons] at this
              simp; omega
            · exact ⟨rfl, (TS_app row [x]).symm⟩
        · have e3 : more ++ ((names.filter (fillB p)).map fun x => row ++ [x]) ++ grow names p rest = grow names p rows := by
            rw [← e2, List.append_assoc]; rfl
          have l3 := congrArg List.length e3
          rw [List.length_append, List.length_append] at l3
          refine o_addL (by simp only [List.length_map] at l3 ⊢; omega) ?_
          repeat walk_at "iv"
          exact ⟨rfl, _, _, _, by rw [List.map_append, List.map_map]; rfl, e3, fun r hr => hs r (List.mem_cons_of_mem _ hr)⟩
      · rintro env h2 ⟨rfl, more, s2, s6, rfl, e2, _⟩
        refine ⟨rfl, s2, s6, ?_⟩
        have : more = grow names p rows := by rw [← e2]; simp [grow]
        rw [this]
    · rintro x h2 ⟨rfl, s2, s6, rfl⟩
      repeat walk_at "iv"
      refine ⟨rfl, grow names p rows, _, _, _, _, rfl, e, by omega, gl2, fun r hr => ?_⟩
      obtain ⟨row, h1, h2⟩ := List.mem_flatMap.mp hr
      obtain ⟨y, _, rfl⟩ := List.mem_map.mp h2
      have := hw row h1
      rw [List.length_cons] at this
      rw [List.length_append, List.length_singleton]; omega
  · rintro env h1 ⟨rfl, rows, s2, s4, s5, s6, rfl, e, hr, hl, hw⟩
    repeat walk_at "iv"
    refine lawasc_ok oF hA (pow_top hl) ?_
    have e : rows = growAll names ps [[w]] := e
    rw [e]
    exact q
end Lw

/-! the program's own ways with patterns -/
namespace Lw
open PySem L2 Iv Fn
variable {fns : List (Nat × FnD)} {h h' : IH} {K : D → IH → Prop} {Y : Nat → List D → IH → Prop} {n : Nat}
theorem two_cut {α : Type} {r1 r2 : R α} {b : Bool} {K1 : α → IH → Prop} (Mid : α → IH → Prop) (p : Two (r1.post Mid Y) b (r2.post Mid Y)) (q : ∀ x h, Mid x h → K1 x h) : Two (r1.post K1 Y) b (r2.post K1 Y) :=
  ⟨fun c => R.post.mono (p.1 c) q fun _ _ _ k => k, fun c => R.post.mono (p.2 c) q fun _ _ _ k => k⟩
theorem filter_true {α : Type} (xs : List α) : xs.filter (fun _ => true) = xs := List.filter_eq_self.mpr fun _ _ => rfl
theorem chosen_eq (names : List Txt) (p : Txt) : names.filter (fillB p) = if p = [] then names else names.filter fun x => decide (x = p) := by
  split
  · rename_i e
    refine List.filter_eq_self.mpr fun x _ => ?_
    simp [fillB, e]
  · rename_i e
    congr 1
    funext x
    rw [Bool.eq_iff_iff]
    simp only [fillB, Bool.or_eq_true, decide_eq_true_eq]
    constructor
    · rintro (h | h)
      · exact absurd h e
      · exact h.symm
    · exact fun h => .inr h.symm
theorem grow_mapTS (names : List Txt) (p : Txt) (rows : List (List Txt)) : (rows.flatMap fun row => ((names.filter (fillB p)).filter fun _ => true).map fun x => TS (row ++ [x])) = (grow names p rows).map TS := by
  unfold grow
  rw [List.map_flatMap]
  congr 1
  funext row
  rw [filter_true, List.map_map]; rfl
theorem facts_like_ok {w : Txt} {ps names : List Txt} (hF : fns.lookup 17 = some f17) (hA : fns.lookup 21 = some f21) (hM : fns.lookup 23 = some f23) (hp : ps.length ≤ 3) (hn : names.length ≤ 200) (q : K (.lst ((factsOf names (w :: ps)).map TS)) h) :
    (callI fns (n + 3) 17 [TS (w :: ps), .lst (names.map D.str)] h).post K Y := by
  refine call_def hF rfl ?_
  show (evSs (callI fns (n + 2)) b17 [.val (TS (w :: ps)), .val (.lst (names.map D.str)), .no, .no, .no, .no, .no] h).post _ Y
  unfold b17
  repeat walk_at "iv"
  rw [List.map_cons, cut1]
  refine f_forR D.str (fun rest env h1 => h1 = h ∧ ∃ (rows : List (List Txt)) (s2 s3 s5 s6 : Sl), env = [.val (TS (w :: ps)), .val (.lst (names.map D.str)), s2, s3, .val (.lst (rows.map TS)), s5, s6] ∧ growAll names rest rows = growAll names ps [[w]] ∧ rest.length ≤ 3 ∧ rows.length ≤ 200 ^ (3 - rest.length) ∧ ∀ r ∈ rows, r.length + rest.length ≤ 4)
    ?_ ?_ ⟨rfl, [[w]], _, _, _, _, rfl, rfl, hp, Nat.one_le_pow _ _ (by decide), fun r hr => by rw [List.mem_singleton.mp hr, List.length_singleton]; omega⟩
  · rintro p rest env h1 ⟨rfl, rows, s2, s3, s5, s6, rfl, e, hr, hl, hw⟩
    refine ⟨_, rfl, ?_⟩
    rw [List.length_cons] at hr hl
    have gl := grow_len names p rows
    have gl2 := pow_next hr hn hl gl
    have gl3 := pow_top gl2
    repeat walk_at "iv"
    refine two_cut (fun x h2 => h2 = h1 ∧ x = D.lst ((names.filter (fillB p)).map D.str)) ?_ ?_
    · rw [chosen_eq]
      refine ⟨fun c => ?_, fun c => ?_⟩
      · have c : p = [] := by simpa using c
        repeat walk_at "iv"
        rw [if_pos c]
        exact ⟨rfl, rfl⟩
      · have c : ¬ p = [] := by simpa using c
        repeat walk_at "iv"
        refine w_compZ D.str D.str (fun x => decide (x = p)) ?_ ?_
        · refine fun x hx => ⟨_, rfl, ?_, fun _ => ?_⟩
          · repeat walk_at "iv"
            refine ⟨rfl, ?_⟩
            rw [Bool.eq_iff_iff]; simp
          · repeat walk_at "iv"
            exact ⟨rfl, rfl⟩
        · rw [if_neg c]
          exact ⟨rfl, rfl⟩
    · rintro x h2 ⟨rfl, rfl⟩
      repeat walk_at "iv"
      refine w_comp2Z (C := callI fns n) TS (fun _ => names.filter (fillB p)) D.str (fun _ _ => true) (fun row x => TS (row ++ [x])) ?_ ?_ ?_
      · refine fun row hrow => ⟨_, rfl, ?_, fun x hx => ⟨_, rfl, ?_, fun _ => ?_⟩⟩
        · repeat walk_at "iv"
          exact ⟨rfl, rfl⟩
        · repeat walk_at "iv"
          exact ⟨rfl, rfl⟩
        · repeat walk_at "iv"
          have := hw row hrow
          rw [List.length_cons] at this
          refine ⟨by simp; omega, rfl, ?_⟩
          exact (TS_app row [x]).symm
      · rw [grow_mapTS, List.length_map]; omega
      · rw [grow_mapTS]
        repeat walk_at "iv"
        refine ⟨rfl, grow names p rows, _, _, _, _, rfl, e, by omega, gl2, fun r hr => ?_⟩
        obtain ⟨row, h1, h2⟩ := List.mem_flatMap.mp hr
        obtain ⟨y, _, rfl⟩ := List.mem_map.mp h2
        have := hw row h1
        rw [List.length_cons] at this
        rw [List.length_append, List.length_singleton]; omega
  · rintro env h1 ⟨rfl, rows, s2, s3, s5, s6, rfl, e, hr, hl, hw⟩
    repeat walk_at "iv"
    refine ascending_ok oF hA hM (pow_top hl) ?_
    have e : rows = growAll names ps [[w]] := e
    rw [e]
    exact q
/-- the names of patterns -/
def namesOf (ps : List (List Txt)) : List Txt := ps.flatMap fun p => p.tail.filter fun x => !decide (x = [])
theorem cut_tail (p : List Txt) : cutD (p.map D.str) (some 1) none = p.tail.map D.str := by
  cases p with
  | nil => rfl
  | cons a r => rw [List.map_cons, cut1]; rfl
theorem pattern_names_ok {ps : List (List Txt)} (hF : fns.lookup 16 = some f16) (hA : fns.lookup 21 = some f21) (hM : fns.lookup 23 = some f23) (hl : (namesOf ps).length ≤ 8000000) (q : K (.lst ((oS.asc (namesOf ps)).map D.str)) h) :
    (callI fns (n + 3) 16 [.lst (ps.map TS)] h).post K Y := by
  refine call_def hF rfl ?_
  show (evSs (callI fns (n + 2)) b16 [.val (.lst (ps.map TS)), .no, .no] h).post _ Y
  unfold b16
  repeat walk_at "iv"
  have en : (ps.flatMap fun p => (p.tail.filter fun x => !decide (x = [])).map D.str) = (namesOf ps).map D.str := by
    unfold namesOf
    rw [List.map_flatMap]
  refine w_comp2Z (C := callI fns n) TS (fun p => p.tail) D.str (fun _ x => !decide (x = [])) (fun _ x => D.str x) ?_ ?_ ?_
  · refine fun p hp => ⟨_, rfl, ?_, fun x hx => ⟨_, rfl, ?_, fun _ => ?_⟩⟩
    · repeat walk_at "iv"
      exact ⟨rfl, cut_tail p⟩
    · repeat walk_at "iv"
      refine ⟨rfl, ?_⟩
      rw [Bool.eq_iff_iff]; simp
    · repeat walk_at "iv"
      exact ⟨rfl, rfl⟩
  · rw [en, List.length_map]; omega
  · rw [en]
    repeat walk_at "iv"
    exact ascending_ok oS hA hM hl q
theorem whole_ok {w : Txt} {m : Nat} (hF : fns.lookup 19 = some f19) (hl : m ≤ 16000000) (q : K (TS (w :: List.replicate m [])) h) : (callI fns (n + 1) 19 [.str w, .int (m : Int)] h).post K Y := by
  refine call_def hF rfl ?_
  show (evSs (callI fns n) b19 [.val (.str w), .val (.int (m : Int)), .no] h).post _ Y
  unfold b19
  repeat walk_at "iv"
  refine o_rg1 ⟨by omega, by omega⟩ ?_
  rw [Int.toNat_natCast]
  show (cLoop _ _ _ _ ((List.range m).map _) [] h).post _ Y
  refine w_compA (C := callI fns n) _ (fun _ => D.str []) ?_ ?_
  · refine fun d hd => ⟨_, rfl, ?_⟩
    repeat walk_at "iv"
    exact ⟨rfl, rfl⟩
  · repeat walk_at "iv"
    have e : [D.str w] ++ ((List.range m).map fun _ => D.str []) = (w :: List.replicate m []).map D.str := by
      rw [List.map_cons, List.map_replicate, List.singleton_append]
      congr 1
      refine List.eq_replicate_iff.mpr ⟨by simp, fun b hb => ?_⟩
      obtain ⟨_, _, rfl⟩ := List.mem_map.mp hb; rfl
    refine ⟨by simp; omega, ?_⟩
    repeat walk_at "iv"
    have q : K (.tup ((w :: List.replicate m []).map D.str)) h := q
    rw [← e] at q
    first | exact q | (simpa using q)
end Lw

/-! the common pattern; the laws' sameness -/
namespace Lw
open PySem L2 Iv Fn
variable {fns : List (Nat × FnD)} {h h' : IH} {K : D → IH → Prop} {Y : Nat → List D → IH → Prop} {n : Nat}
def clash (x : Txt × Txt) : Bool := !decide (x.1 = []) && !decide (x.2 = []) && !decide (x.1 = x.2)
def pick (x : Txt × Txt) : Txt := if x.1 = [] then x.2 else x.1
/-- the pattern of what fits both -/
def com (p q : List Txt) : Option (List Txt) := match p, q with
  | a :: r, b :: s => if (decide (r.length = s.length) && decide (a = b) && (r.zip s).all fun x => !clash x) = true then some (a :: (r.zip s).map pick) else none
  | _, _ => none
def optD : Option (List Txt) → D
  | none => .non
  | some p => TS p
theorem com_cons (a b : Txt) (r s : List Txt) : com (a :: r) (b :: s) = if (decide (r.length = s.length) && decide (a = b) && (r.zip s).all fun x => !clash x) = true then some (a :: (r.zip s).map pick) else none := rfl
theorem common_ok {a b : Txt} {r s : List Txt} (hF : fns.lookup 18 = some f18) (hl : s.length ≤ 1000) (q : K (optD (com (a :: r) (b :: s))) h) : (callI fns (n + 1) 18 [TS (a :: r), TS (b :: s)] h).post K Y := by
  refine call_def hF rfl ?_
  show (evSs (callI fns n) b18 [.val (TS (a :: r)), .val (TS (b :: s)), .no, .no, .no] h).post _ Y
  unfold b18
  repeat walk_at "iv"
  rw [com_cons] at q
  refine ⟨fun c1 => ?_, fun c1 => ?_⟩
  · repeat walk_at "iv"
    have c1 : r.length ≠ s.length := by have := not_true c1; simp at this; omega
    rw [decide_eq_false c1] at q
    exact q
  have c1 : r.length = s.length := by have := nfalse c1; simp at this; omega
  repeat walk_at "iv"
  refine ⟨fun c2 => ?_, fun c2 => ?_⟩
  · repeat walk_at "iv"
    have c2 : a ≠ b := by have := not_true c2; simp at this; first | exact this | exact fun e => this e.symm
    rw [decide_eq_false c2, Bool.and_false] at q
    exact q
  have c2 : a = b := by have := nfalse c2; simp at this; first | exact this | exact this.symm
  rw [decide_eq_true c1, decide_eq_true c2] at q
  have q : K (optD (if ((r.zip s).all fun x => !clash x) = true then some (a :: (r.zip s).map pick) else none)) h := q
  repeat walk_at "iv"
  rw [List.map_cons, List.map_cons, cut1, cut1, zipS]
  have hz : (r.zip s).length ≤ 1000 := by rw [List.length_zip]; omega
  refine f_forR (fun p => D.tup [.str p.1, .str p.2]) (fun rest env h1 => h1 = h ∧ ∃ (parts : List Txt) (s3 s4 : Sl), env = [.val (TS (a :: r)), .val (TS (b :: s)), .own (parts.map D.str), s3, s4] ∧ parts ++ rest.map pick = (r.zip s).map pick ∧
    ((r.zip s).all fun x => !clash x) = rest.all fun x => !clash x) ?_ ?_ ⟨rfl, [], _, _, rfl, rfl, rfl⟩
  · rintro ⟨x, y⟩ rest env h1 ⟨rfl, parts, s3, s4, rfl, e, e2⟩
    refine ⟨_, rfl, ?_⟩
    have el := congrArg List.length e
    simp only [List.length_append, List.length_map, List.length_cons] at el
    rw [List.all_cons] at e2
    have next : clash (x, y) = false → ∀ (P : D → IH → Prop), P (.str (pick (x, y))) h1 → P (.str (if x = [] then y else x)) h1 := fun _ _ k => k
    have app : ∀ {z : Txt}, clash (x, y) = false → z = pick (x, y) → (fun rest env h2 => h2 = h1 ∧ ∃ (parts : List Txt) (s3 s4 : Sl), env = [.val (TS (a :: r)), .val (TS (b :: s)), .own (parts.map D.str), s3, s4] ∧ parts ++ rest.map pick = (r.zip s).map pick ∧
        ((r.zip s).all fun x => !clash x) = rest.all fun x => !clash x) rest [.val (TS (a :: r)), .val (TS (b :: s)), .own (parts.map D.str ++ [.str z]), .val (.str x), .val (.str y)] h1 := fun {z} c ez => by
      refine ⟨rfl, parts ++ [z], _, _, by rw [List.map_append]; rfl, ?_, ?_⟩
      · rw [← e, ez]; simp
      · rw [e2, c]; rfl
    repeat walk_at "iv"
    refine ⟨fun c3 => ?_, fun c3 => ?_⟩
    · have c3 : ¬ x = [] := by simpa using c3
      repeat walk_at "iv"
      refine ⟨fun c4 => ?_, fun c4 => ?_⟩
      · have c4 : ¬ y = [] := by simpa using c4
        repeat walk_at "iv"
        refine ⟨fun c5 => ?_, fun c5 => ?_⟩
        · have c5 : ¬ x = y := by simpa using c5
          repeat walk_at "iv"
          have : clash (x, y) = true := by simp [clash, c3, c4, c5]
          rw [e2, this] at q
          exact q
        · have c5 : x = y := by simpa using c5
          have cl : clash (x, y) = false := by simp [clash, c5]
          repeat walk_at "iv"
          refine ⟨fun c6 => ?_, fun c6 => ?_⟩
          · exact absurd (by simpa using c6) c3
          · repeat walk_at "iv"
            refine ⟨by rw [List.length_map]; omega, ?_⟩
            repeat walk_at "iv"
            exact app cl (by simp [pick, c3])
      · have c4 : y = [] := by simpa using c4
        have cl : clash (x, y) = false := by simp [clash, c4]
        repeat walk_at "iv"
        refine ⟨fun c6 => ?_, fun c6 => ?_⟩
        · exact absurd (by simpa using c6) c3
        · repeat walk_at "iv"
          refine ⟨by rw [List.length_map]; omega, ?_⟩
          repeat walk_at "iv"
          exact app cl (by simp [pick, c3])
    · have c3 : x = [] := by simpa using c3
      have cl : clash (x, y) = false := by simp [clash, c3]
      repeat walk_at "iv"
      refine ⟨fun c6 => ?_, fun c6 => ?_⟩
      · repeat walk_at "iv"
        refine ⟨by rw [List.length_map]; omega, ?_⟩
        repeat walk_at "iv"
        exact app cl (by simp [pick, c3])
      · exact absurd c3 (by simpa using c6)
  · rintro env h1 ⟨rfl, parts, s3, s4, rfl, e, e2⟩
    rw [e2, if_pos (show (List.all ([] : List (Txt × Txt)) fun x => !clash x) = true from rfl)] at q
    have ep : parts = (r.zip s).map pick := by simpa using e
    repeat walk_at "iv"
    have el : parts.length ≤ 1000 := by rw [ep, List.length_map]; exact hz
    refine ⟨by simp; omega, ?_⟩
    repeat walk_at "iv"
    rw [ep]
    simpa [optD, TS] using q

/-! ### sameness -/
theorem beq_of {d : D} (x : IH) {P : D → Prop} (e : eqOk d d = true) (e2 : D.eqv d d = true) (k : P (.bl true)) : ∃ y, cmpF .eq x d d = some y ∧ P y := o_eq e (by rw [e2]; exact k)
theorem eqv_bl (b : Bool) : D.eqv (.bl b) (.bl b) = true := by cases b <;> rfl
theorem depth_mem : ∀ {xs : List D} {x : D}, x ∈ xs → x.depth ≤ D.depths xs
  | y :: ys, x, h => by
    show _ ≤ max y.depth (D.depths ys)
    rcases List.mem_cons.mp h with e | h
    · rw [e]; omega
    · have := depth_mem h; omega
theorem dat_mem : ∀ {xs : List D} {x : D}, D.dats xs = true → x ∈ xs → x.dat = true
  | y :: ys, x, q, h => by
    have q : (y.dat && D.dats ys) = true := q
    rw [Bool.and_eq_true] at q
    rcases List.mem_cons.mp h with e | h
    · rw [e]; exact q.1
    · exact dat_mem q.2 h
/-! lists and tuples are no longer than what a row may be -/
mutual
def small : D → Prop
  | .tup xs => xs.length ≤ 8000000 ∧ smalls xs
  | .lst xs => xs.length ≤ 8000000 ∧ smalls xs
  | _ => True
def smalls : List D → Prop
  | [] => True
  | x :: xs => small x ∧ smalls xs
end
theorem small_mem : ∀ {xs : List D} {x : D}, smalls xs → x ∈ xs → small x
  | y :: ys, x, q, h => by
    rw [smalls] at q
    rcases List.mem_cons.mp h with e | h
    · rw [e]; exact q.1
    · exact small_mem q.2 h
theorem smalls_of : ∀ {xs : List D}, (∀ x ∈ xs, small x) → smalls xs
  | [], _ => by rw [smalls]; trivial
  | x :: xs, h => by rw [smalls]; exact ⟨h x List.mem_cons_self, smalls_of fun y hy => h y (List.mem_cons_of_mem _ hy)⟩
theorem same_ok (hF : fns.lookup 10 = some f10) : ∀ (m : Nat) (d : D), d.dat = true → d.depth ≤ m → small d → ∀ {h : IH} {K : D → IH → Prop} {Y : Nat → List D → IH → Prop}, K (.bl true) h → (callI fns (n + m + 1) 10 [d, d] h).post K Y
  | m, d, hd, hm, hs, h, K, Y, q => by
    refine call_def hF rfl ?_
    show (evSs (callI fns (n + m)) b10 [.val d, .val d, .no] h).post _ Y
    unfold b10
    cases d with
    | non => repeat walk_at "iv"
             exact q
    | bl b =>
      repeat walk_at "iv"
      refine beq_of _ rfl (eqv_bl b) ?_
      repeat walk_at "iv"
      exact q
    | int i =>
      repeat walk_at "iv"
      rw [beq_self_eq_true]
      exact q
    | str z =>
      repeat walk_at "iv"
      rw [beq_self_eq_true]
      exact q
    | ref r => cases hd
    | ins c fs => cases hd
    | tup xs =>
      have hd : D.dats xs = true := hd
      have hm : D.depths xs + 1 ≤ m := hm
      have hs : xs.length ≤ 8000000 ∧ smalls xs := by rw [small] at hs; exact hs
      repeat walk_at "iv"
      refine ⟨fun c => absurd c (by simp), fun _ => ?_⟩
      repeat walk_at "iv"
      refine o_rg1 ⟨by omega, by omega⟩ ?_
      rw [Int.toNat_natCast]
      refine f_for (fun pre env h1 => h1 = h ∧ ∃ s2, env = [.val (.tup xs), .val (.tup xs), s2]) ⟨rfl, _, rfl⟩ ?_ ?_
      · rintro pre d post env h1 e ⟨rfl, s2, rfl⟩
        obtain ⟨rfl, hp⟩ := rng0_split e
        refine ⟨_, rfl, ?_⟩
        have g : atI xs (pre.length : Int) = some xs[pre.length] := atI_pos (by omega) (by simp [hp])
        repeat walk_at "iv"
        refine o_ixT g ?_
        repeat walk_at "iv"
        refine o_ixT g ?_
        repeat walk_at "iv"
        obtain ⟨m', rfl⟩ : ∃ m', m = m' + 1 := ⟨m - 1, by omega⟩
        have mem := List.getElem_mem hp
        refine same_ok hF m' xs[pre.length] (dat_mem hd mem) (by have := depth_mem mem; omega) (small_mem hs.2 mem) ?_
        repeat walk_at "iv"
        exact ⟨rfl, _, rfl⟩
      · rintro env h1 ⟨rfl, s2, rfl⟩
        repeat walk_at "iv"
        exact q
    | lst xs =>
      have hd : D.dats xs = true := hd
      have hm : D.depths xs + 1 ≤ m := hm
      have hs : xs.length ≤ 8000000 ∧ smalls xs := by rw [small] at hs; exact hs
      repeat walk_at "iv"
      refine ⟨fun c => absurd c (by simp), fun _ => ?_⟩
      repeat walk_at "iv"
      refine o_rg1 ⟨by omega, by omega⟩ ?_
      rw [Int.toNat_natCast]
      refine f_for (fun pre env h1 => h1 = h ∧ ∃ s2, env = [.val (.lst xs), .val (.lst xs), s2]) ⟨rfl, _, rfl⟩ ?_ ?_
      · rintro pre d post env h1 e ⟨rfl, s2, rfl⟩
        obtain ⟨rfl, hp⟩ := rng0_split e
        refine ⟨_, rfl, ?_⟩
        have g : atI xs (pre.length : Int) = some xs[pre.length] := atI_pos (by omega) (by simp [hp])
        repeat walk_at "iv"
        refine o_ixL g ?_
        repeat walk_at "iv"
        refine o_ixL g ?_
        repeat walk_at "iv"
        obtain ⟨m', rfl⟩ : ∃ m', m = m' + 1 := ⟨m - 1, by omega⟩
        have mem := List.getElem_mem hp
        refine same_ok hF m' xs[pre.length] (dat_mem hd mem) (by have := depth_mem mem; omega) (small_mem hs.2 mem) ?_
        repeat walk_at "iv"
        exact ⟨rfl, _, rfl⟩
      · rintro env h1 ⟨rfl, s2, rfl⟩
        repeat walk_at "iv"
        exact q
termination_by m => m
end Lw

/-! what the laws draw: relations, names, patterns, facts -/
namespace Lw
open PySem L2 Iv Fn
variable {fns : List (Nat × FnD)} {h h' : IH} {K : D → IH → Prop} {Y : Nat → List D → IH → Prop} {n r : Nat}
theorem o_pick {xs : List D} {d : Int} {P : D → Prop} (h0 : 0 ≤ d) (h1 : d < xs.length) (k : ∀ x ∈ xs, P x) : ∃ y, opIx h (.lst xs) (.int d) = some y ∧ P y := by
  have hj : d.toNat < xs.length := by omega
  exact o_ixL (atI_pos h0 (List.getElem?_eq_getElem hj)) (k _ (List.getElem_mem hj))
theorem o_pickM {α : Type} {f : α → D} {xs : List α} {d : Int} {P : D → Prop} (h0 : 0 ≤ d) (h1 : d < xs.length) (k : ∀ x ∈ xs, P (f x)) : ∃ y, opIx h (.lst (xs.map f)) (.int d) = some y ∧ P y := by
  refine o_pick h0 (by simpa using h1) fun y hy => ?_
  obtain ⟨x, hx, rfl⟩ := List.mem_map.mp hy
  exact k x hx
theorem o_pickS {z : List Nat} {d : Int} {P : D → Prop} (h0 : 0 ≤ d) (h1 : d < z.length) (k : ∀ c ∈ z, P (.str [c])) : ∃ y, opIx h (.str z) (.int d) = some y ∧ P y := by
  have hj : d.toNat < z.length := by omega
  exact o_ixS (atI_pos h0 (List.getElem?_eq_getElem hj)) (k _ (List.getElem_mem hj))
theorem maps_of {α : Type} {f : α → D} {R : α → Prop} : ∀ {xs : List D}, (∀ x ∈ xs, ∃ a, R a ∧ x = f a) → ∃ ys : List α, xs = ys.map f ∧ ∀ a ∈ ys, R a
  | [], _ => ⟨[], rfl, fun _ h => by cases h⟩
  | x :: xs, h => by
    obtain ⟨a, ha, e⟩ := h x List.mem_cons_self
    obtain ⟨ys, e2, h2⟩ := maps_of fun y hy => h y (List.mem_cons_of_mem _ hy)
    refine ⟨a :: ys, by rw [List.map_cons, e, e2], fun b hb => ?_⟩
    rcases List.mem_cons.mp hb with e | hb
    · rw [e]; exact ha
    · exact h2 b hb
theorem source_ok {ns : List Int} (hF : fns.lookup 2 = some f2) (q : ∀ h', Src h.length h' → h'.length = h.length + 1 → K (.ref h.length) h') : (callI fns (n + 1) 2 [.lst (ns.map D.int)] h).post K Y := by
  refine call_def hF rfl ?_
  show (evSs (callI fns n) b2 [.val (.lst (ns.map D.int))] h).post _ Y
  unfold b2
  repeat walk_at "iv"
  exact q _ ⟨ns, 0, 0, by simp, Int.le_refl 0⟩ (by simp)
/-! ### relations -/
abbrev Rel := Txt × Nat
abbrev relD (p : Rel) : D := .tup [.str p.1, .int p.2]
def poolL : List Rel := [([65], 1), ([66], 1), ([69], 2), ([70], 2), ([65], 2), ([69, 100, 103, 101], 2), ([77, 97, 114, 107], 1), ([66], 2)]
theorem pool_ok : ∀ p ∈ poolL, wordB p.1 = true ∧ (p.2 = 1 ∨ p.2 = 2) := by decide +kernel
theorem relations_ok (hF : fns.lookup 3 = some f3) (hD : fns.lookup 5 = some f5) (s : Src r h) (q : ∀ (rs : List Rel) h', Src r h' → Oth r h h' → 2 ≤ rs.length → rs.length ≤ 4 → (∀ p ∈ rs, p ∈ poolL) → K (.lst (rs.map relD)) h') : (callI fns (n + 2) 3 [.ref r] h).post K Y := by
  refine call_def hF rfl ?_
  show (evSs (callI fns (n + 1)) b3 [.val (.ref r), .no, .no, .no, .no] h).post _ Y
  unfold b3
  repeat walk_at "iv"
  refine draw_ok hD (by decide) s fun d1 h1 a1 b1 s1 o1 => ?_
  repeat walk_at "iv"
  refine draw_ok hD (by decide) s1 fun d2 h2 a2 b2 s2 o2 => ?_
  refine o_pick (xs := [.int 3, .int 5, .int 1]) a2 (by show d2 < 3; omega) fun x hx => ?_
  obtain ⟨st, rfl, t1, t2⟩ : ∃ st : Int, x = .int st ∧ -(2^64) < st ∧ st < 2^64 := by
    simp only [List.mem_cons, List.not_mem_nil, or_false] at hx
    rcases hx with e | e | e <;> exact ⟨_, e, by decide, by decide⟩
  repeat walk_at "iv"
  refine draw_ok hD (by decide) s2 fun d3 h3 a3 b3 s3 o3 => ?_
  repeat walk_at "iv"
  refine o_rg1 ⟨by omega, by omega⟩ ?_
  refine w_comp (fun pre acc h4 => h4 = h3 ∧ acc.length = pre.length ∧ ∀ x ∈ acc, ∃ p : Rel, p ∈ poolL ∧ x = relD p) ⟨rfl, rfl, fun _ h => by cases h⟩ ?_ ?_
  · rintro pre d post acc h4 e ⟨rfl, l, hm⟩
    obtain ⟨rfl, hp⟩ := rng0_split e
    refine ⟨_, rfl, ?_⟩
    repeat walk_at "iv"
    refine o_mulI (.inl ⟨t1, t2⟩) ?_
    repeat walk_at "iv"
    refine o_modI (by decide) ?_
    refine o_pickM (f := relD) (xs := poolL) (Int.emod_nonneg _ (by decide)) (Int.emod_lt_of_pos _ (by decide)) fun p hp => ?_
    refine ⟨rfl, by simp [l], fun x hx => ?_⟩
    rcases List.mem_append.mp hx with hx | hx
    · exact hm x hx
    · exact ⟨p, hp, List.mem_singleton.mp hx⟩
  · rintro acc h4 ⟨rfl, l, hm⟩
    repeat walk_at "iv"
    rw [rng_len] at l
    obtain ⟨ys, rfl, hy⟩ := maps_of hm
    rw [List.length_map] at l
    exact q ys h4 s3 ((o1.trans o2).trans o3) (by omega) (by omega) hy
/-! ### names -/
theorem name_of {c : Nat} {rest : List Nat} (hc : c ∈ lettersL) (hl : rest.length ≤ 7) (hr : ∀ x ∈ rest, x ∈ lettersL ∨ x ∈ digitsL) : nameB (c :: rest) = true := by
  rw [nameB_cons, decide_eq_true hc, decide_eq_true (show (c :: rest).length ≤ 8 by simp; omega), Bool.true_and, Bool.true_and, List.all_eq_true]
  intro x hx
  rcases List.mem_cons.mp hx with e | hx
  · rw [e, decide_eq_true hc]; rfl
  · rcases hr x hx with h | h
    · rw [decide_eq_true h]; rfl
    · rw [decide_eq_true h, Bool.or_true]
def digs (z : List Nat) (m : Nat) : Bool := decide (z.length ≤ m) && z.all fun c => decide (c ∈ digitsL)
theorem strI_1000 : ∀ i, i < 1000 → digs (strI (i : Nat)) 3 = true := by decide +kernel
theorem str_dig {d : Int} (h0 : 0 ≤ d) (h1 : d < 1000) : (strI d).length ≤ 3 ∧ ∀ x ∈ strI d, x ∈ digitsL := by
  have := strI_1000 d.toNat (by omega)
  rw [Int.toNat_of_nonneg h0, digs, Bool.and_eq_true, List.all_eq_true] at this
  exact ⟨of_decide_eq_true this.1, fun x hx => of_decide_eq_true (this.2 x hx)⟩
theorem o_str {d : Int} {P : D → Prop} (h0 : 0 ≤ d) (h1 : d < 1000) (k : P (.str (strI d))) : ∃ y, bltF .str [.int d] = some y ∧ P y := by
  have l := (str_dig h0 h1).1
  have g : d.natAbs.log2 < 1920 := by
    have : d.natAbs < 2 ^ 1920 := Nat.lt_of_lt_of_le (show d.natAbs < 2 ^ 10 by omega) (Nat.pow_le_pow_right (by decide) (by decide))
    by_cases z : d.natAbs = 0
    · rw [z]; decide
    · exact (Nat.log2_lt z).mpr this
  exact ⟨_, by show (if _ then _ else _) = _; rw [if_pos ⟨g, by omega⟩], k⟩
theorem style1 : ∀ a ∈ [[], [120], [113, 55], [98]], ∀ b ∈ [[], [49], [122, 122], [99, 48]], ∀ c ∈ lettersL, nameB (a ++ [c] ++ b) = true ∧ (a ++ [c] ++ b).length ≤ 8 := by decide +kernel
theorem style2 : ∀ c ∈ lettersL, nameB ([116, 104, 105, 110, 103] ++ [c]) = true := by decide +kernel
def NmEnv (r : Nat) (many first style : Int) (zs : List Txt) (k : Nat) (c : Nat) (z : Txt) : Iv.Env := [.val (.ref r), .val (.int many), .val (.str lettersL), .val (.int first), .val (.int style), .own (zs.map D.str), .val (.int (k : Int)), .val (.str [c]), .val (.str z)]
def NmMid (r : Nat) (h : IH) (many first style : Int) (zs : List Txt) (k : Nat) (c : Nat) (x : RS) (h4 : IH) : Prop := Src r h4 ∧ Oth r h h4 ∧ ∃ z : Txt, nameB z = true ∧ x = (.nx, NmEnv r many first style zs k c z)
theorem names_ok {many : Int} (hF : fns.lookup 4 = some f4) (hD : fns.lookup 5 = some f5) (hm : 0 ≤ many) (hm2 : many ≤ 1000) (s : Src r h)
    (q : ∀ (zs : List Txt) h', Src r h' → Oth r h h' → zs.length = many.toNat → (∀ z ∈ zs, nameB z = true) → K (.lst (zs.map D.str)) h') : (callI fns (n + 2) 4 [.ref r, .int many] h).post K Y := by
  refine call_def hF rfl ?_
  show (evSs (callI fns (n + 1)) b4 [.val (.ref r), .val (.int many), .no, .no, .no, .no, .no, .no, .no] h).post _ Y
  unfold b4
  repeat walk_at "iv"
  refine draw_ok hD (by decide) s fun first h1 a1 b1 s1 o1 => ?_
  repeat walk_at "iv"
  refine draw_ok hD (by decide) s1 fun style h2 a2 b2 s2 o2 => ?_
  repeat walk_at "iv"
  refine o_rg1 ⟨by omega, by omega⟩ ?_
  refine f_for (fun pre env h3 => Src r h3 ∧ Oth r h h3 ∧ ∃ (zs : List Txt) (s6 s7 s8 : Sl), env = [.val (.ref r), .val (.int many), .val (.str lettersL), .val (.int first), .val (.int style), .own (zs.map D.str), s6, s7, s8] ∧ zs.length = pre.length ∧ ∀ z ∈ zs, nameB z = true)
    ⟨s2, o1.trans o2, [], _, _, _, rfl, rfl, fun _ h => by cases h⟩ ?_ ?_
  · rintro pre d post env h3 e ⟨s3, o3, zs, s6, s7, s8, rfl, e1, hz⟩
    obtain ⟨rfl, hp⟩ := rng0_split e
    refine ⟨_, rfl, ?_⟩
    repeat walk_at "iv"
    refine o_mulI (.inl ⟨by decide, by decide⟩) ?_
    repeat walk_at "iv"
    refine o_modI (by decide) ?_
    refine o_pickS (z := lettersL) (Int.emod_nonneg _ (by decide)) (Int.emod_lt_of_pos _ (by decide)) fun c hc => ?_
    have hc0 : nameB [c] = true := name_of hc (Nat.zero_le _) fun _ h => by cases h
    repeat walk_at "iv"
    -- the three styles, one behind another
    refine two_cut (NmMid r h many first style zs pre.length c) ⟨fun c1 => ?_, fun c1 => ?_⟩ ?_
    · repeat walk_at "iv"
      refine draw_ok hD (by decide) s3 fun d4 h4 a4 b4 s4 o4 => ?_
      refine o_pickM (f := D.str) (xs := [[], [120], [113, 55], [98]]) a4 (by show d4 < 4; omega) fun x hx => ?_
      have lx : x.length ≤ 2 := by revert x; decide
      repeat walk_at "iv"
      refine o_addS (by simp; omega) ?_
      repeat walk_at "iv"
      refine draw_ok hD (by decide) s4 fun d5 h5 a5 b5 s5 o5 => ?_
      refine o_pickM (f := D.str) (xs := [[], [49], [122, 122], [99, 48]]) a5 (by show d5 < 4; omega) fun y hy => ?_
      have ly : y.length ≤ 2 := by revert y; decide
      refine o_addS (by simp; omega) ?_
      repeat walk_at "iv"
      exact ⟨s5, (o3.trans o4).trans o5, _, (style1 x hx y hy c hc).1, rfl⟩
    · repeat walk_at "iv"
      exact ⟨s3, o3, [c], hc0, rfl⟩
    rintro x h4 ⟨s4, o4, z, hz4, rfl⟩
    unfold NmEnv
    repeat walk_at "iv"
    refine two_cut (NmMid r h many first style zs pre.length c) ⟨fun c1 => ?_, fun c1 => ?_⟩ ?_
    · repeat walk_at "iv"
      refine o_addS (by simp) ?_
      repeat walk_at "iv"
      exact ⟨s4, o4, _, style2 c hc, rfl⟩
    · repeat walk_at "iv"
      exact ⟨s4, o4, z, hz4, rfl⟩
    rintro x h5 ⟨s5, o5, z, hz5, rfl⟩
    unfold NmEnv
    repeat walk_at "iv"
    refine two_cut (NmMid r h many first style zs pre.length c) ⟨fun c1 => ?_, fun c1 => ?_⟩ ?_
    · repeat walk_at "iv"
      refine draw_ok hD (by decide) s5 fun d6 h6 a6 b6 s6 o6 => ?_
      repeat walk_at "iv"
      refine o_str a6 (by omega) ?_
      have sd := str_dig a6 (show d6 < 1000 by omega)
      refine o_addS (by simp; omega) ?_
      repeat walk_at "iv"
      refine draw_ok hD (by decide) s6 fun d7 h7 a7 b7 s7 o7 => ?_
      repeat walk_at "iv"
      refine ⟨fun c2 => ?_, fun c2 => ?_⟩
      · repeat walk_at "iv"
        refine draw_ok hD (by decide) s7 fun d8 h8 a8 b8 s8 o8 => ?_
        repeat walk_at "iv"
        refine o_str (by omega) (by omega) ?_
        have sd := str_dig (show 0 ≤ 1 + d8 by omega) (show 1 + d8 < 1000 by omega)
        refine o_addS (by simp; omega) ?_
        repeat walk_at "iv"
        exact ⟨s8, ((o5.trans o6).trans o7).trans o8, _, name_of (by decide) (by omega) fun x hx => .inr (sd.2 x hx), rfl⟩
      · repeat walk_at "iv"
        exact ⟨s7, (o5.trans o6).trans o7, _, name_of hc (by omega) fun x hx => .inr (sd.2 x hx), rfl⟩
    · repeat walk_at "iv"
      exact ⟨s5, o5, z, hz5, rfl⟩
    rintro x h6 ⟨s6, o6, z, hz6, rfl⟩
    unfold NmEnv
    repeat walk_at "iv"
    refine oS.o_inL (a := z) (xs := zs) ?_
    repeat walk_at "iv"
    refine two_cut (NmMid r h many first style zs pre.length c) ⟨fun c1 => ?_, fun c1 => ?_⟩ ?_
    · repeat walk_at "iv"
      have sd := str_dig (show 0 ≤ (pre.length : Int) by omega) (show (pre.length : Int) < 1000 by omega)
      refine o_str (by omega) (by omega) ?_
      refine o_addS (by simp; omega) ?_
      repeat walk_at "iv"
      refine o_addS (by simp; omega) ?_
      repeat walk_at "iv"
      refine ⟨s6, o6, _, name_of (c := 119) (rest := strI (pre.length : Int) ++ [c]) (by decide) (by simp; omega) fun x hx => ?_, rfl⟩
      rcases List.mem_append.mp hx with hx | hx
      · exact .inr (sd.2 x hx)
      · rw [List.mem_singleton.mp hx]; exact .inl hc
    · repeat walk_at "iv"
      exact ⟨s6, o6, z, hz6, rfl⟩
    rintro x h7 ⟨s7, o7, z, hz7, rfl⟩
    unfold NmEnv
    repeat walk_at "iv"
    refine ⟨by rw [List.length_map]; omega, ?_⟩
    repeat walk_at "iv"
    refine ⟨s7, o7, zs ++ [z], _, _, _, by rw [List.map_append]; rfl, by simp [e1], fun y hy => ?_⟩
    rcases List.mem_append.mp hy with hy | hy
    · exact hz y hy
    · rw [List.mem_singleton.mp hy]; exact hz7
  · rintro env h3 ⟨s3, o3, zs, s6, s7, s8, rfl, e1, hz⟩
    repeat walk_at "iv"
    rw [rng_len] at e1
    exact q zs h3 s3 o3 e1 hz
end Lw

/-! drawn patterns and facts, spoilt forms -/
namespace Lw
open PySem L2 Iv Fn
variable {fns : List (Nat × FnD)} {h h' : IH} {K : D → IH → Prop} {Y : Nat → List D → IH → Prop} {n r : Nat}
theorem pattern_ok {rs : List Rel} {names : List Txt} (hF : fns.lookup 6 = some f6) (hD : fns.lookup 5 = some f5) (hr : rs ≠ []) (hr2 : rs.length ≤ 1000) (hn : names ≠ []) (hn2 : names.length ≤ 1000) (hc : ∀ p ∈ rs, p.2 ≤ 100) (s : Src r h)
    (q : ∀ (p : Rel) (ps : List Txt) h', Src r h' → Oth r h h' → p ∈ rs → ps.length = p.2 → (∀ x ∈ ps, x = [] ∨ x ∈ names) → K (TS (p.1 :: ps)) h') : (callI fns (n + 2) 6 [.ref r, .lst (rs.map relD), .lst (names.map D.str)] h).post K Y := by
  refine call_def hF rfl ?_
  show (evSs (callI fns (n + 1)) b6 [.val (.ref r), .val (.lst (rs.map relD)), .val (.lst (names.map D.str)), .no, .no, .no, .no, .no] h).post _ Y
  unfold b6
  have hr0 := List.length_pos_iff.mpr hr
  have hn0 := List.length_pos_iff.mpr hn
  repeat walk_at "iv"
  refine draw_ok hD (by rw [List.length_map]; omega) s fun d1 h1 a1 b1 s1 o1 => ?_
  rw [List.length_map] at b1
  refine o_pickM a1 (by omega) fun p hp => ?_
  refine ⟨_, rfl, ?_⟩
  repeat walk_at "iv"
  have hp2 := hc p hp
  refine o_rg1 ⟨by omega, by omega⟩ ?_
  rw [Int.toNat_natCast]
  refine f_for (fun pre env h3 => Src r h3 ∧ Oth r h h3 ∧ ∃ (ps : List Txt) (s6 s7 : Sl), env = [.val (.ref r), .val (.lst (rs.map relD)), .val (.lst (names.map D.str)), .val (.str p.1), .val (.int p.2), .own ((p.1 :: ps).map D.str), s6, s7] ∧ ps.length = pre.length ∧ ∀ x ∈ ps, x = [] ∨ x ∈ names)
    ⟨s1, o1, [], _, _, rfl, rfl, fun _ h => by cases h⟩ ?_ ?_
  · rintro pre d post env h3 e ⟨s3, o3, ps, s6, s7, rfl, e1, hx⟩
    obtain ⟨rfl, hlt⟩ := rng0_split e
    refine ⟨_, rfl, ?_⟩
    repeat walk_at "iv"
    refine draw_ok hD (by rw [List.length_map]; omega) s3 fun d4 h4 a4 b4 s4 o4 => ?_
    rw [List.length_map] at b4
    refine o_pickM a4 (by omega) fun nm hnm => ?_
    repeat walk_at "iv"
    refine draw_ok hD (by decide) s4 fun d5 h5 a5 b5 s5 o5 => ?_
    refine o_pickM (f := D.str) (xs := [[], nm]) a5 (by show d5 < 2; omega) fun x hx2 => ?_
    refine ⟨by rw [List.length_map, List.length_cons]; omega, ?_⟩
    repeat walk_at "iv"
    refine ⟨s5, (o3.trans o4).trans o5, ps ++ [x], _, _, by rw [← List.cons_append, List.map_append]; rfl, by simp [e1], fun y hy => ?_⟩
    · rcases List.mem_append.mp hy with hy | hy
      · exact hx y hy
      · rw [List.mem_singleton.mp hy]
        simp only [List.mem_cons, List.not_mem_nil, or_false] at hx2
        rcases hx2 with e | e
        · exact .inl e
        · exact .inr (e ▸ hnm)
  · rintro env h3 ⟨s3, o3, ps, s6, s7, rfl, e1, hx⟩
    rw [rng_len] at e1
    repeat walk_at "iv"
    exact q p ps h3 s3 o3 hp e1 hx
theorem opened_ok {w : Txt} {ps : List Txt} (hF : fns.lookup 7 = some f7) (hD : fns.lookup 5 = some f5) (hl : ps.length ≤ 1000) (s : Src r h)
    (q : ∀ (qs : List Txt) h', Src r h' → Oth r h h' → qs.length = ps.length → (∀ x ∈ qs, x = [] ∨ x ∈ ps) → K (TS (w :: qs)) h') : (callI fns (n + 2) 7 [.ref r, TS (w :: ps)] h).post K Y := by
  refine call_def hF rfl ?_
  show (evSs (callI fns (n + 1)) b7 [.val (.ref r), .val (TS (w :: ps)), .no, .no] h).post _ Y
  unfold b7
  repeat walk_at "iv"
  rw [List.map_cons, cut1]
  refine f_forR D.str (fun rest env h3 => Src r h3 ∧ Oth r h h3 ∧ ∃ (qs : List Txt) (s3 : Sl), env = [.val (.ref r), .val (TS (w :: ps)), .own ((w :: qs).map D.str), s3] ∧ qs.length + rest.length = ps.length ∧ (∀ x ∈ qs, x = [] ∨ x ∈ ps) ∧ ∀ x ∈ rest, x ∈ ps)
    ?_ ?_ ⟨s, Oth.refl r h, [], _, rfl, by simp, (fun _ h => by cases h), fun _ h => h⟩
  · rintro x rest env h3 ⟨s3, o3, qs, s4, rfl, e1, hx, hr⟩
    refine ⟨_, rfl, ?_⟩
    rw [List.length_cons] at e1
    repeat walk_at "iv"
    refine draw_ok hD (by decide) s3 fun d5 h5 a5 b5 s5 o5 => ?_
    refine o_pickM (f := D.str) (xs := [x, []]) a5 (by show d5 < 2; omega) fun y hy => ?_
    refine ⟨by rw [List.length_map, List.length_cons]; omega, ?_⟩
    repeat walk_at "iv"
    refine ⟨s5, o3.trans o5, qs ++ [y], _, by rw [← List.cons_append, List.map_append]; rfl, by simp; omega, fun z hz => ?_, fun z hz => hr z (List.mem_cons_of_mem _ hz)⟩
    · rcases List.mem_append.mp hz with hz | hz
      · exact hx z hz
      · rw [List.mem_singleton.mp hz]
        simp only [List.mem_cons, List.not_mem_nil, or_false] at hy
        rcases hy with e | e
        · exact .inr (e ▸ hr x List.mem_cons_self)
        · exact .inl e
  · rintro env h3 ⟨s3, o3, qs, s4, rfl, e1, hx, hr⟩
    repeat walk_at "iv"
    exact q qs h3 s3 o3 (by simpa using e1) hx
theorem atom_ok {rs : List Rel} {names : List Txt} (hF : fns.lookup 8 = some f8) (hD : fns.lookup 5 = some f5) (hr : rs ≠ []) (hr2 : rs.length ≤ 1000) (hn : names ≠ []) (hn2 : names.length ≤ 1000) (hc : ∀ p ∈ rs, p.2 = 1 ∨ p.2 = 2) (s : Src r h)
    (q : ∀ (p : Rel) (ps : List Txt) h', Src r h' → Oth r h h' → p ∈ rs → ps.length = p.2 → (∀ x ∈ ps, x ∈ names) → K (TS (p.1 :: ps)) h') : (callI fns (n + 2) 8 [.ref r, .lst (rs.map relD), .lst (names.map D.str)] h).post K Y := by
  refine call_def hF rfl ?_
  show (evSs (callI fns (n + 1)) b8 [.val (.ref r), .val (.lst (rs.map relD)), .val (.lst (names.map D.str)), .no, .no] h).post _ Y
  unfold b8
  have hr0 := List.length_pos_iff.mpr hr
  have hn0 := List.length_pos_iff.mpr hn
  repeat walk_at "iv"
  refine draw_ok hD (by rw [List.length_map]; omega) s fun d1 h1 a1 b1 s1 o1 => ?_
  rw [List.length_map] at b1
  refine o_pickM a1 (by omega) fun p hp => ?_
  refine ⟨_, rfl, ?_⟩
  repeat walk_at "iv"
  refine ⟨fun c => ?_, fun c => ?_⟩
  · have c : p.2 = 1 := by simp at c; omega
    repeat walk_at "iv"
    refine draw_ok hD (by rw [List.length_map]; omega) s1 fun d2 h2 a2 b2 s2 o2 => ?_
    rw [List.length_map] at b2
    refine o_pickM a2 (by omega) fun x hx => ?_
    repeat walk_at "iv"
    exact q p [x] h2 s2 (o1.trans o2) hp (by rw [c]; rfl) fun y hy => by rw [List.mem_singleton.mp hy]; exact hx
  · have c : p.2 = 2 := by
      have := hc p hp
      simp at c; omega
    repeat walk_at "iv"
    refine draw_ok hD (by rw [List.length_map]; omega) s1 fun d2 h2 a2 b2 s2 o2 => ?_
    rw [List.length_map] at b2
    refine o_pickM a2 (by omega) fun x hx => ?_
    repeat walk_at "iv"
    refine draw_ok hD (by rw [List.length_map]; omega) s2 fun d3 h3 a3 b3 s3 o3 => ?_
    rw [List.length_map] at b3
    refine o_pickM a3 (by omega) fun y hy => ?_
    repeat walk_at "iv"
    refine q p [x, y] h3 s3 ((o1.trans o2).trans o3) hp (by rw [c]; rfl) fun z hz => ?_
    simp only [List.mem_cons, List.not_mem_nil, or_false] at hz
    rcases hz with e | e <;> rw [e]
    · exact hx
    · exact hy
/-! ### forms -/
abbrev badL : List Txt := [[65, 97], [49, 97], [97, 95, 98], [116, 111, 111, 108, 111, 110, 103, 57, 57], [42], [65], [97, 32, 98]]
theorem bad_no : ∀ x ∈ badL, x ≠ [] ∧ nameB x = false := by decide +kernel
abbrev badW : List Txt := [[97], [], [84, 111, 111, 108, 111, 110, 103, 57, 57], [65, 95]]
theorem badW_no : ∀ x ∈ badW, wordB x = false := by decide +kernel
theorem patB_cons (w : Txt) (r : List Txt) : patB (w :: r) = ((decide (r.length = 1) || decide (r.length = 2)) && wordB w && r.all fun x => decide (x = []) || nameB x) := rfl
theorem patB_bad {w : Txt} {r : List Txt} {x : Txt} (hx : x ∈ r) (h : x ≠ [] ∧ nameB x = false) : patB (w :: r) = false := by
  rw [patB_cons]
  have : (r.all fun x => decide (x = []) || nameB x) = false := by
    rw [List.all_eq_false]
    exact ⟨x, hx, by simp [h.1, h.2]⟩
  rw [this, Bool.and_false]
theorem forms_ok {w : Txt} {ps : List Txt} (hF : fns.lookup 20 = some f20) (hD : fns.lookup 5 = some f5) (h22 : fns.lookup 22 = some f22) (h24 : fns.lookup 24 = some f24) (h25 : fns.lookup 25 = some f25) (hp : patB (w :: ps) = true) (s : Src r h)
    (q : ∀ h', Src r h' → Oth r h h' → K (.bl true) h') : (callI fns (n + 3) 20 [.ref r, TS (w :: ps)] h).post K Y := by
  refine call_def hF rfl ?_
  show (evSs (callI fns (n + 2)) b20 [.val (.ref r), .val (TS (w :: ps)), .no, .no] h).post _ Y
  unfold b20
  have hp' := hp
  rw [patB_cons, Bool.and_eq_true, Bool.and_eq_true, Bool.or_eq_true, decide_eq_true_eq, decide_eq_true_eq] at hp'
  obtain ⟨⟨hl, hw⟩, ha⟩ := hp'
  repeat walk_at "iv"
  refine draw_ok hD (by decide) s fun d1 h1 a1 b1 s1 o1 => ?_
  refine o_pickM (f := D.str) (xs := badL) a1 (by show d1 < 7; omega) fun bad hb => ?_
  have nb := bad_no bad hb
  repeat walk_at "iv"
  refine draw_ok hD (by simp; omega) s1 fun d2 h2 a2 b2 s2 o2 => ?_
  have b2 : d2 < ps.length := by simp at b2; omega
  obtain ⟨k, rfl⟩ : ∃ k : Nat, d2 = (k : Int) := ⟨d2.toNat, by omega⟩
  repeat walk_at "iv"
  refine pat_ok h22 h24 h25 ?_
  repeat walk_at "iv"
  rw [hp]
  repeat walk_at "iv"
  rw [show (1 + (k : Int)) = ((k + 1 : Nat) : Int) by omega, cut_to]
  refine o_addT (by simp; omega) ?_
  repeat walk_at "iv"
  rw [show (((k + 1 : Nat) : Int) + 1) = ((k + 2 : Nat) : Int) by omega, cut_from]
  refine o_addT (by simp; omega) ?_
  repeat walk_at "iv"
  have e1 : D.tup (((w :: ps).map D.str).take (k + 1) ++ [.str bad] ++ ((w :: ps).map D.str).drop (k + 2)) = TS (w :: (ps.take k ++ [bad] ++ ps.drop (k + 1))) := by
    simp [TS, List.map_take, List.map_drop]
  rw [e1]
  refine pat_ok h22 h24 h25 ?_
  rw [patB_bad (x := bad) (by simp) nb]
  repeat walk_at "iv"
  refine draw_ok hD (by decide) s2 fun d3 h3 a3 b3 s3 o3 => ?_
  refine o_pickM (f := D.str) (xs := badW) a3 (by show d3 < 4; omega) fun bw hbw => ?_
  repeat walk_at "iv"
  rw [List.map_cons, cut1]
  refine o_addT (by simp; omega) ?_
  repeat walk_at "iv"
  refine pat_ok (p := bw :: ps) h22 h24 h25 ?_
  rw [show patB (bw :: ps) = false by rw [patB_cons, badW_no bw hbw, Bool.and_false]; rfl]
  repeat walk_at "iv"
  refine pat_ok (p := [w]) h22 h24 h25 ?_
  rw [show patB [w] = false from rfl]
  repeat walk_at "iv"
  refine pat_ok (p := [w, [97], [], [98]]) h22 h24 h25 ?_
  rw [show patB [w, [97], [], [98]] = false from rfl]
  repeat walk_at "iv"
  refine pat_ok (p := []) h22 h24 h25 ?_
  rw [show patB [] = false from rfl]
  repeat walk_at "iv"
  refine pat_ok (p := [w, []]) h22 h24 h25 ?_
  rw [show patB [w, []] = true by rw [patB_cons, hw]; rfl]
  repeat walk_at "iv"
  refine pat_ok (p := [w, [97], []]) h22 h24 h25 ?_
  rw [show patB [w, [97], []] = true by rw [patB_cons, hw]; decide +kernel]
  repeat walk_at "iv"
  refine pat_ok (p := [w, [], [98, 50]]) h22 h24 h25 ?_
  rw [show patB [w, [], [98, 50]] = true by rw [patB_cons, hw]; decide +kernel]
  exact q h3 s3 ((o1.trans o2).trans o3)
end Lw

/-! facts and patterns: the mathematics -/
namespace Lw
open PySem L2 Iv Fn
theorem mem_grow {names : List Txt} {p : Txt} {rows : List (List Txt)} {f : List Txt} : f ∈ grow names p rows ↔ ∃ row x, row ∈ rows ∧ x ∈ names ∧ fillB p x = true ∧ f = row ++ [x] := by
  unfold grow
  rw [List.mem_flatMap]
  constructor
  · rintro ⟨row, h1, h2⟩
    obtain ⟨x, hx, rfl⟩ := List.mem_map.mp h2
    obtain ⟨h3, h4⟩ := List.mem_filter.mp hx
    exact ⟨row, x, h1, h3, h4, rfl⟩
  · rintro ⟨row, x, h1, h3, h4, rfl⟩
    exact ⟨row, h1, List.mem_map.mpr ⟨x, List.mem_filter.mpr ⟨h3, h4⟩, rfl⟩⟩
def fillsB (names : List Txt) : List Txt → List Txt → Prop
  | [], [] => True
  | p :: ps, x :: xs => (x ∈ names ∧ fillB p x = true) ∧ fillsB names ps xs
  | _, _ => False
theorem mem_growAll {names : List Txt} {f : List Txt} : ∀ {ps : List Txt} {rows : List (List Txt)}, f ∈ growAll names ps rows ↔ ∃ row xs, row ∈ rows ∧ fillsB names ps xs ∧ f = row ++ xs
  | [], rows => by
    rw [growAll]
    constructor
    · exact fun h => ⟨f, [], h, trivial, by simp⟩
    · rintro ⟨row, xs, h1, h2, rfl⟩
      cases xs with
      | nil => simpa using h1
      | cons x xs => exact h2.elim
  | p :: ps, rows => by
    rw [growAll, mem_growAll (ps := ps)]
    constructor
    · rintro ⟨row, xs, h1, h2, rfl⟩
      obtain ⟨row', x, h3, h4, h5, rfl⟩ := mem_grow.mp h1
      exact ⟨row', x :: xs, h3, ⟨⟨h4, h5⟩, h2⟩, by simp⟩
    · rintro ⟨row, xs, h1, h2, rfl⟩
      cases xs with
      | nil => exact h2.elim
      | cons x xs => exact ⟨row ++ [x], xs, mem_grow.mpr ⟨row, x, h1, h2.1.1, h2.1.2, rfl⟩, h2.2, by simp⟩
theorem fillsB_iff {names : List Txt} : ∀ {ps xs : List Txt}, fillsB names ps xs ↔ ps.length = xs.length ∧ (ps.zip xs).all cov1 = true ∧ ∀ x ∈ xs, x ∈ names
  | [], [] => by simp [fillsB]
  | [], _ :: _ => by simp [fillsB]
  | _ :: _, [] => by simp [fillsB]
  | p :: ps, x :: xs => by
    rw [fillsB, fillsB_iff (ps := ps)]
    simp only [List.length_cons, List.zip_cons_cons, List.all_cons, Bool.and_eq_true, List.mem_cons, forall_eq_or_imp, Nat.add_right_cancel_iff]
    show (x ∈ names ∧ cov1 (p, x) = true) ∧ _ ↔ _
    constructor
    · rintro ⟨⟨h1, h2⟩, h3, h4, h5⟩; exact ⟨h3, ⟨h2, h4⟩, h1, h5⟩
    · rintro ⟨h3, ⟨h2, h4⟩, h1, h5⟩; exact ⟨⟨h1, h2⟩, h3, h4, h5⟩
theorem mem_factsOf {names : List Txt} {w : Txt} {ps f : List Txt} : f ∈ factsOf names (w :: ps) ↔ cov (w :: ps) f = true ∧ ∀ x ∈ f.tail, x ∈ names := by
  show f ∈ oF.asc _ ↔ _
  rw [oF.mem_asc, mem_growAll]
  constructor
  · rintro ⟨row, xs, h1, h2, rfl⟩
    rw [List.mem_singleton.mp h1]
    obtain ⟨h3, h4, h5⟩ := fillsB_iff.mp h2
    refine ⟨?_, by simpa using h5⟩
    show cov (w :: ps) (w :: xs) = true
    rw [cov_cons, decide_eq_true h3, decide_eq_true rfl, h4]; rfl
  · rintro ⟨h1, h2⟩
    cases f with
    | nil => cases h1
    | cons a xs =>
      rw [cov_cons, Bool.and_eq_true, Bool.and_eq_true, decide_eq_true_eq, decide_eq_true_eq] at h1
      refine ⟨[w], xs, List.mem_singleton.mpr rfl, fillsB_iff.mpr ⟨h1.1.1, h1.2, by simpa using h2⟩, by rw [h1.1.2]; rfl⟩
theorem factsOf_asc (names : List Txt) (w : Txt) (ps : List Txt) : oF.Asc (factsOf names (w :: ps)) := oF.asc_asc _
/-- what fits both fits the common pattern, and the other way round -/
theorem zip_both : ∀ {r s xs : List Txt}, r.length = s.length → s.length = xs.length →
    (((r.zip xs).all cov1 = true ∧ (s.zip xs).all cov1 = true) ↔ ((r.zip s).all fun x => !clash x) = true ∧ (((r.zip s).map pick).zip xs).all cov1 = true)
  | [], [], [], _, _ => by simp
  | [], _ :: _, _, h, _ => by cases h
  | _ :: _, [], _, h, _ => by cases h
  | [], [], _ :: _, _, h => by cases h
  | _ :: _, _ :: _, [], _, h => by cases h
  | a :: r, b :: s, x :: xs, h1, h2 => by
    have ih := zip_both (r := r) (s := s) (xs := xs) (by simpa using h1) (by simpa using h2)
    simp only [List.zip_cons_cons, List.all_cons, List.map_cons, Bool.and_eq_true]
    have one : (cov1 (a, x) = true ∧ cov1 (b, x) = true) ↔ ((!clash (a, b)) = true ∧ cov1 (pick (a, b), x) = true) := by
      simp only [cov1, clash, pick, Bool.or_eq_true, decide_eq_true_eq, Bool.not_eq_true', Bool.and_eq_false_iff, Bool.not_eq_false', decide_eq_false_iff_not]
      by_cases ha : a = []
      · subst ha; simp
      · by_cases hb : b = []
        · subst hb; simp [ha]
        · simp only [ha, hb, if_false, false_or]
          constructor
          · rintro ⟨h3, h4⟩; exact ⟨h3.trans h4.symm, h3⟩
          · rintro ⟨h3, h4⟩
            exact ⟨h4, h3 ▸ h4⟩
    constructor
    · rintro ⟨⟨h3, h4⟩, h5, h6⟩
      obtain ⟨k1, k2⟩ := one.mp ⟨h3, h5⟩
      obtain ⟨k3, k4⟩ := ih.mp ⟨h4, h6⟩
      exact ⟨⟨k1, k3⟩, k2, k4⟩
    · rintro ⟨⟨k1, k3⟩, k2, k4⟩
      obtain ⟨h3, h5⟩ := one.mpr ⟨k1, k2⟩
      obtain ⟨h4, h6⟩ := ih.mpr ⟨k3, k4⟩
      exact ⟨⟨h3, h4⟩, h5, h6⟩
theorem com_iff {a b : Txt} {r s f : List Txt} : (cov (a :: r) f = true ∧ cov (b :: s) f = true) ↔ ∃ c, com (a :: r) (b :: s) = some c ∧ cov c f = true := by
  cases f with
  | nil =>
    constructor
    · rintro ⟨h, _⟩; cases h
    · rintro ⟨c, h1, h2⟩
      rw [com_cons] at h1
      split at h1
      · cases h1; cases h2
      · cases h1
  | cons x xs =>
    rw [cov_cons, cov_cons, com_cons]
    simp only [Bool.and_eq_true, decide_eq_true_eq]
    constructor
    · rintro ⟨⟨⟨h1, h2⟩, h3⟩, ⟨h4, h5⟩, h6⟩
      obtain ⟨k1, k2⟩ := (zip_both (h1.trans h4.symm) h4).mp ⟨h3, h6⟩
      refine ⟨a :: (r.zip s).map pick, by rw [if_pos ⟨⟨h1.trans h4.symm, h2.trans h5.symm⟩, k1⟩], ?_⟩
      rw [cov_cons, decide_eq_true h2, k2, decide_eq_true (by rw [List.length_map, List.length_zip]; omega)]; rfl
    · rintro ⟨c, h1, h2⟩
      split at h1
      · rename_i hc
        obtain ⟨⟨h3, h4⟩, h5⟩ := hc
        cases h1
        rw [cov_cons, Bool.and_eq_true, Bool.and_eq_true, decide_eq_true_eq, decide_eq_true_eq, List.length_map, List.length_zip] at h2
        obtain ⟨⟨k1, k2⟩, k3⟩ := h2
        obtain ⟨m1, m2⟩ := (zip_both h3 (by omega)).mpr ⟨h5, k3⟩
        exact ⟨⟨⟨by omega, k2⟩, m1⟩, ⟨by omega, h4.symm.trans k2⟩, m2⟩
      · cases h1
/-- the facts that fit both -/
theorem both_of {a b : Txt} {r s wide : List Txt} {c : List Txt} (h : com (a :: r) (b :: s) = some c) : (factsOf wide (a :: r)).filter (fun f => cov (b :: s) f) = factsOf wide c := by
  obtain ⟨w, ps, rfl⟩ : ∃ w ps, c = w :: ps := by
    rw [com_cons] at h
    split at h
    · cases h; exact ⟨_, _, rfl⟩
    · cases h
  refine oF.asc_eq ((factsOf_asc wide a r).sublist List.filter_sublist) (factsOf_asc wide w ps) fun f => ?_
  rw [List.mem_filter, mem_factsOf, mem_factsOf]
  have q := com_iff (a := a) (b := b) (r := r) (s := s) (f := f)
  rw [h] at q
  constructor
  · rintro ⟨⟨h1, h2⟩, h3⟩
    obtain ⟨c', e, k⟩ := q.mp ⟨h1, h3⟩
    cases e
    exact ⟨k, h2⟩
  · rintro ⟨h1, h2⟩
    obtain ⟨h3, h4⟩ := q.mpr ⟨_, rfl, h1⟩
    exact ⟨⟨h3, h2⟩, h4⟩
theorem both_none {a b : Txt} {r s wide : List Txt} (h : com (a :: r) (b :: s) = none) : (factsOf wide (a :: r)).filter (fun f => cov (b :: s) f) = [] := by
  rw [List.filter_eq_nil_iff]
  intro f hf h2
  have q := com_iff.mp ⟨(mem_factsOf.mp hf).1, h2⟩
  obtain ⟨c, e, _⟩ := q
  rw [h] at e; cases e
theorem com_parts {a b : Txt} {r s : List Txt} {c : List Txt} (h : com (a :: r) (b :: s) = some c) : ∃ ps, c = a :: ps ∧ ps.length = r.length ∧ ∀ x ∈ ps, x = [] ∨ x ∈ r ∨ x ∈ s := by
  rw [com_cons] at h
  split at h
  · rename_i hc
    cases h
    rw [Bool.and_eq_true, Bool.and_eq_true, decide_eq_true_eq] at hc
    refine ⟨_, rfl, by rw [List.length_map, List.length_zip]; omega, fun x hx => ?_⟩
    obtain ⟨⟨u, v⟩, h1, rfl⟩ := List.mem_map.mp hx
    have := List.of_mem_zip h1
    unfold pick
    split
    · exact .inr (.inr this.2)
    · exact .inr (.inl this.1)
  · cases h
theorem facts_some {w : Txt} {ps wide : List Txt} (z : Txt) (hz : z ∈ wide) (h : ∀ x ∈ ps, x = [] ∨ x ∈ wide) : factsOf wide (w :: ps) ≠ [] := by
  intro e
  have : w :: ps.map (fun x => if x = [] then z else x) ∈ factsOf wide (w :: ps) := by
    rw [mem_factsOf]
    refine ⟨?_, fun x hx => ?_⟩
    · rw [cov_cons, decide_eq_true (by rw [List.length_map]), decide_eq_true rfl, Bool.true_and, Bool.true_and, List.all_eq_true]
      rintro ⟨u, v⟩ hx
      rw [List.zip_map_right] at hx
      obtain ⟨⟨u', v'⟩, h1, h2⟩ := List.mem_map.mp hx
      have e2 : u' = v' := by
        obtain ⟨i, hi, e⟩ := List.mem_iff_getElem.mp h1
        rw [List.getElem_zip] at e
        cases e; rfl
      cases h2
      subst e2
      simp only [cov1, id, Prod.map_fst, Prod.map_snd, Bool.or_eq_true, decide_eq_true_eq]
      by_cases c : u' = []
      · exact .inl c
      · exact .inr (by rw [if_neg c])
    · obtain ⟨y, hy, rfl⟩ := List.mem_map.mp (show x ∈ ps.map (fun x => if x = [] then z else x) from hx)
      by_cases c : y = []
      · rw [if_pos c]; exact hz
      · rw [if_neg c]; exact (h y hy).resolve_left c
  rw [e] at this; cases this
/-! ### data to be compared -/
theorem depth_TSs (xs : List (List Txt)) : D.depth (.lst (xs.map TS)) ≤ 2 := by
  show D.depths (xs.map TS) + 1 ≤ 2
  have : D.depths (xs.map TS) ≤ 1 := tup_depth oF (fun p => by
    show D.depths (p.map D.str) + 1 ≤ 1
    have := tup_depth oS (n := 0) (fun _ => Nat.le_refl 0) p
    have : D.depths (p.map D.str) ≤ 0 := this
    omega) xs
  omega
theorem small_strs (xs : List Txt) : smalls (xs.map D.str) := smalls_of fun x hx => by
  obtain ⟨_, _, rfl⟩ := List.mem_map.mp hx
  trivial
theorem small_TS {p : List Txt} (h : p.length ≤ 8000000) : small (TS p) := by
  show small (.tup _)
  rw [small]
  exact ⟨by rw [List.length_map]; exact h, small_strs p⟩
theorem small_TSs {xs : List (List Txt)} (h : xs.length ≤ 8000000) (h2 : ∀ p ∈ xs, p.length ≤ 8000000) : small (.lst (xs.map TS)) := by
  rw [small]
  refine ⟨by rw [List.length_map]; exact h, smalls_of fun x hx => ?_⟩
  obtain ⟨p, hp, rfl⟩ := List.mem_map.mp hx
  exact small_TS (h2 p hp)
theorem small_lst {xs : List Txt} (h : xs.length ≤ 8000000) : small (.lst (xs.map D.str)) := by
  rw [small]
  exact ⟨by rw [List.length_map]; exact h, small_strs xs⟩
theorem growAll_len {names : List Txt} (hn : names.length ≤ 200) : ∀ {ps : List Txt} {rows : List (List Txt)}, ps.length ≤ 3 → rows.length ≤ 200 ^ (3 - ps.length) → (growAll names ps rows).length ≤ 8000000
  | [], rows, _, h => pow_top (m := 0) h
  | p :: ps, rows, h1, h2 => by
    rw [growAll]
    rw [List.length_cons] at h1 h2
    exact growAll_len hn (by omega) (pow_next h1 hn h2 (grow_len names p rows))
theorem asc_len {α : Type} [DecidableEq α] (o : OE α) (xs : List α) : (o.asc xs).length ≤ xs.length := by
  have go : ∀ (xs r : List α), (xs.foldl (fun r a => o.ins a r) r).length ≤ r.length + xs.length := by
    intro xs
    induction xs with
    | nil => intro r; simp
    | cons x xs ih =>
      intro r
      have h1 := ih (o.ins x r)
      have h2 : ∀ r : List α, (o.ins x r).length ≤ r.length + 1 := by
        intro r
        induction r with
        | nil => simp [OE.ins]
        | cons y r ih2 =>
          unfold OE.ins
          split
          · simp
          · split
            · simp
            · simp only [List.length_cons]; omega
      have h3 := h2 r
      rw [List.foldl_cons, List.length_cons]; omega
  simpa [OE.asc] using go xs []
theorem factsOf_len {names : List Txt} {w : Txt} {ps : List Txt} (hn : names.length ≤ 200) (hp : ps.length ≤ 3) : (factsOf names (w :: ps)).length ≤ 8000000 :=
  Nat.le_trans (asc_len oF _) (growAll_len hn hp (Nat.one_le_pow _ _ (by decide)))
theorem factsOf_mem_len {names : List Txt} {w : Txt} {ps f : List Txt} (h : f ∈ factsOf names (w :: ps)) : ∃ xs, f = w :: xs ∧ xs.length = ps.length := by
  have h1 := (mem_factsOf.mp h).1
  cases f with
  | nil => cases h1
  | cons a xs =>
    rw [cov_cons, Bool.and_eq_true, Bool.and_eq_true, decide_eq_true_eq, decide_eq_true_eq] at h1
    exact ⟨xs, by rw [h1.1.2], h1.1.1.symm⟩
end Lw

/-! the program text of law noticesheard_k00_patterns_and_facts as Iv terms, checked against the row (printed by gen.py) -/
namespace W
open PySem Iv L2 Fn
abbrev prog : PySem.Program := PySem.Challenge.pw_noticesheard_k00_patterns_and_facts
def globs : List (Str × D) := [("ANY", .str []), ("LONGEST", .int 8), ("CAPITALS", .str [65, 66, 67, 68, 69, 70, 71, 72, 73, 74, 75, 76, 77, 78, 79, 80, 81, 82, 83, 84, 85, 86, 87, 88, 89, 90]), ("LETTERS", .str [97, 98, 99, 100, 101, 102, 103, 104, 105, 106, 107, 108, 109, 110, 111, 112, 113, 114, 115, 116, 117, 118, 119, 120, 121, 122]), ("DIGITS", .str [48, 49, 50, 51, 52, 53, 54, 55, 56, 57])]
def blts : List Str := ["range", "len", "list", "isinstance", "tuple", "int", "str", "bool", "all", "zip"]
/-- law -/
def b1 : Sms := .cons (.set 4 (.call 2 (.cons (.var 0) (.nil)))) (.cons (.set 5 (.call 3 (.cons (.var 4) (.nil)))) (.cons (.set 6 (.call 4 (.cons (.var 4) (.cons (.bin .add (.cst (.int 1)) (.call 5 (.cons (.var 4) (.cons (.cst (.int 7)) (.nil))))) (.nil))))) (.cons (.set 7 (.call 6 (.cons (.var 4) (.cons (.var 5) (.cons (.var 6) (.nil)))))) (.cons (.set 8 (.call 6 (.cons (.var 4) (.cons (.var 5) (.cons (.var 6) (.nil)))))) (.cons (.ite (.cmp .eq (.call 5 (.cons (.var 4) (.cons (.cst (.int 2)) (.nil)))) (.cst (.int 1))) (.cons (.set 8 (.call 7 (.cons (.var 4) (.cons (.var 7) (.nil))))) (.nil)) (.nil)) (.cons (.set 9 (.bin .add (.comp (.range (.cons (.cst (.int 4)) (.nil))) (.nm 2) .no (.call 8 (.cons (.var 4) (.cons (.var 5) (.cons (.var 6) (.nil))))) [2]) (.sl (.call 9 (.cons (.var 7) (.cons (.var 6) (.nil)))) .no (.yes (.cst (.int 5)))))) (.cons (.forr (.seq (.var 9)) (.nm 1) (.cons (.ite (.not (.call 10 (.cons (.call 11 (.cons (.var 1) (.cons (.var 7) (.nil)))) (.cons (.call 12 (.cons (.var 1) (.cons (.var 7) (.nil)))) (.nil))))) (.cons (.ret (.cst (.bl false))) (.nil)) (.nil)) (.cons (.ite (.not (.call 10 (.cons (.call 11 (.cons (.var 1) (.cons (.var 8) (.nil)))) (.cons (.call 12 (.cons (.var 1) (.cons (.var 8) (.nil)))) (.nil))))) (.cons (.ret (.cst (.bl false))) (.nil)) (.nil)) (.nil)))) (.cons (.ite (.not (.call 10 (.cons (.call 13 (.cons (.var 7) (.cons (.var 8) (.nil)))) (.cons (.call 14 (.cons (.var 7) (.cons (.var 8) (.nil)))) (.nil))))) (.cons (.ret (.cst (.bl false))) (.nil)) (.nil)) (.cons (.ite (.not (.call 10 (.cons (.call 13 (.cons (.var 8) (.cons (.var 7) (.nil)))) (.cons (.call 14 (.cons (.var 8) (.cons (.var 7) (.nil)))) (.nil))))) (.cons (.ret (.cst (.bl false))) (.nil)) (.nil)) (.cons (.set 10 (.call 15 (.cons (.comp (.seq (.bin .add (.sl (.var 7) (.yes (.cst (.int 1))) .no) (.sl (.var 8) (.yes (.cst (.int 1))) .no))) (.nm 3) (.yes (.cmp .ne (.var 3) (.cst (.str [])))) (.var 3) [3]) (.nil)))) (.cons (.ite (.or (.cons (.not (.call 10 (.cons (.call 16 (.cons (.lst (.cons (.var 7) (.cons (.var 8) (.nil)))) (.nil))) (.cons (.var 10) (.nil))))) (.cons (.not (.call 10 (.cons (.call 16 (.cons (.lst (.nil)) (.nil))) (.cons (.lst (.nil)) (.nil))))) (.nil)))) (.cons (.ret (.cst (.bl false))) (.nil)) (.nil)) (.cons (.set 11 (.sl (.var 6) .no (.yes (.bin .add (.cst (.int 1)) (.call 5 (.cons (.var 4) (.cons (.blt .len (.cons (.var 6) (.nil))) (.nil)))))))) (.cons (.set 12 (.call 15 (.cons (.bin .add (.var 10) (.lst (.cons (.cst (.str [122, 122, 57])) (.nil)))) (.nil)))) (.cons (.ite (.not (.call 10 (.cons (.call 17 (.cons (.var 7) (.cons (.blt .list (.cons (.var 11) (.nil))) (.nil)))) (.cons (.call 9 (.cons (.var 7) (.cons (.var 11) (.nil)))) (.nil))))) (.cons (.ret (.cst (.bl false))) (.nil)) (.nil)) (.cons (.set 13 (.comp (.seq (.call 9 (.cons (.var 7) (.cons (.var 12) (.nil))))) (.nm 1) (.yes (.call 12 (.cons (.var 1) (.cons (.var 8) (.nil))))) (.var 1) [1])) (.cons (.set 14 (.call 18 (.cons (.var 7) (.cons (.var 8) (.nil))))) (.cons (.ite (.cmp .isn (.var 14) (.cst (.non))) (.cons (.ite (.cmp .gt (.blt .len (.cons (.var 13) (.nil))) (.cst (.int 0))) (.cons (.ret (.cst (.bl false))) (.nil)) (.nil)) (.nil)) (.cons (.ite (.or (.cons (.cmp .eq (.blt .len (.cons (.var 13) (.nil))) (.cst (.int 0))) (.cons (.not (.isi .tuple (.var 14))) (.cons (.not (.call 10 (.cons (.call 9 (.cons (.var 14) (.cons (.var 12) (.nil)))) (.cons (.var 13) (.nil))))) (.nil))))) (.cons (.ret (.cst (.bl false))) (.nil)) (.nil)) (.nil))) (.cons (.tg (.tp [15, 16]) (.ix (.var 5) (.call 5 (.cons (.var 4) (.cons (.blt .len (.cons (.var 5) (.nil))) (.nil)))))) (.cons (.ite (.not (.call 10 (.cons (.call 19 (.cons (.var 15) (.cons (.var 16) (.nil)))) (.cons (.blt .tuple (.cons (.bin .add (.lst (.cons (.var 15) (.nil))) (.comp (.range (.cons (.var 16) (.nil))) (.nm 2) .no (.cst (.str [])) [2])) (.nil))) (.nil))))) (.cons (.ret (.cst (.bl false))) (.nil)) (.nil)) (.cons (.ret (.call 20 (.cons (.var 4) (.cons (.var 7) (.nil))))) (.nil)))))))))))))))))))))
def f1 : FnD := ⟨"law", ["script"], ["script", "fact", "k", "part", "source", "relations", "names", "one", "two", "facts", "named", "some", "wide", "both", "common", "word", "count"], b1⟩
def fns : List (Nat × FnD) := [(1, f1), (2, f2), (3, f3), (4, f4), (5, f5), (6, f6), (7, f7), (8, f8), (9, f9), (10, f10), (11, f11), (12, f12), (13, f13), (14, f14), (15, f15), (16, f16), (17, f17), (18, f18), (19, f19), (20, f20), (21, f21), (22, f22), (23, f23), (24, f24), (25, f25)]
def places : List (Nat × Nat) := [(1, 33), (2, 20), (3, 25), (4, 24), (5, 21), (6, 29), (7, 31), (8, 26), (9, 30), (10, 22), (11, 13), (12, 27), (13, 14), (14, 28), (15, 23), (16, 17), (17, 18), (18, 15), (19, 16), (20, 32), (21, 9), (22, 12), (23, 8), (24, 6), (25, 5)]
def top (i : Nat) : Stmt := prog.main.body.getD ((places.lookup i).getD 0) (.Pass ⟨0, 0, 0, 0⟩)
theorem ok1 : okD fns globs blts f1 (top 1) = true := by decide +kernel
theorem bd1 : BindP (top 1) f1 := fun _ _ _ _ _ _ us hl => match us, hl with | [_], _ => rfl
theorem ok2 : okD fns globs blts f2 (top 2) = true := by decide +kernel
theorem bd2 : BindP (top 2) f2 := fun _ _ _ _ _ _ us hl => match us, hl with | [_], _ => rfl
theorem ok3 : okD fns globs blts f3 (top 3) = true := by decide +kernel
theorem bd3 : BindP (top 3) f3 := fun _ _ _ _ _ _ us hl => match us, hl with | [_], _ => rfl
theorem ok4 : okD fns globs blts f4 (top 4) = true := by decide +kernel
theorem bd4 : BindP (top 4) f4 := fun _ _ _ _ _ _ us hl => match us, hl with | [_, _], _ => rfl
theorem ok5 : okD fns globs blts f5 (top 5) = true := by decide +kernel
theorem bd5 : BindP (top 5) f5 := fun _ _ _ _ _ _ us hl => match us, hl with | [_, _], _ => rfl
theorem ok6 : okD fns globs blts f6 (top 6) = true := by decide +kernel
theorem bd6 : BindP (top 6) f6 := fun _ _ _ _ _ _ us hl => match us, hl with | [_, _, _], _ => rfl
theorem ok7 : okD fns globs blts f7 (top 7) = true := by decide +kernel
theorem bd7 : BindP (top 7) f7 := fun _ _ _ _ _ _ us hl => match us, hl with | [_, _], _ => rfl
theorem ok8 : okD fns globs blts f8 (top 8) = true := by decide +kernel
theorem bd8 : BindP (top 8) f8 := fun _ _ _ _ _ _ us hl => match us, hl with | [_, _, _], _ => rfl
theorem ok9 : okD fns globs blts f9 (top 9) = true := by decide +kernel
theorem bd9 : BindP (top 9) f9 := fun _ _ _ _ _ _ us hl => match us, hl with | [_, _], _ => rfl
theorem ok10 : okD fns globs blts f10 (top 10) = true := by decide +kernel
theorem bd10 : BindP (top 10) f10 := fun _ _ _ _ _ _ us hl => match us, hl with | [_, _], _ => rfl
theorem ok11 : okD fns globs blts f11 (top 11) = true := by decide +kernel
theorem bd11 : BindP (top 11) f11 := fun _ _ _ _ _ _ us hl => match us, hl with | [_, _], _ => rfl
theorem ok12 : okD fns globs blts f12 (top 12) = true := by decide +kernel
theorem bd12 : BindP (top 12) f12 := fun _ _ _ _ _ _ us hl => match us, hl with | [_, _], _ => rfl
theorem ok13 : okD fns globs blts f13 (top 13) = true := by decide +kernel
theorem bd13 : BindP (top 13) f13 := fun _ _ _ _ _ _ us hl => match us, hl with | [_, _], _ => rfl
theorem ok14 : okD fns globs blts f14 (top 14) = true := by decide +kernel
theorem bd14 : BindP (top 14) f14 := fun _ _ _ _ _ _ us hl => match us, hl with | [_, _], _ => rfl
theorem ok15 : okD fns globs blts f15 (top 15) = true := by decide +kernel
theorem bd15 : BindP (top 15) f15 := fun _ _ _ _ _ _ us hl => match us, hl with | [_], _ => rfl
theorem ok16 : okD fns globs blts f16 (top 16) = true := by decide +kernel
theorem bd16 : BindP (top 16) f16 := fun _ _ _ _ _ _ us hl => match us, hl with | [_], _ => rfl
theorem ok17 : okD fns globs blts f17 (top 17) = true := by decide +kernel
theorem bd17 : BindP (top 17) f17 := fun _ _ _ _ _ _ us hl => match us, hl with | [_, _], _ => rfl
theorem ok18 : okD fns globs blts f18 (top 18) = true := by decide +kernel
theorem bd18 : BindP (top 18) f18 := fun _ _ _ _ _ _ us hl => match us, hl with | [_, _], _ => rfl
theorem ok19 : okD fns globs blts f19 (top 19) = true := by decide +kernel
theorem bd19 : BindP (top 19) f19 := fun _ _ _ _ _ _ us hl => match us, hl with | [_, _], _ => rfl
theorem ok20 : okD fns globs blts f20 (top 20) = true := by decide +kernel
theorem bd20 : BindP (top 20) f20 := fun _ _ _ _ _ _ us hl => match us, hl with | [_, _], _ => rfl
theorem ok21 : okD fns globs blts f21 (top 21) = true := by decide +kernel
theorem bd21 : BindP (top 21) f21 := fun _ _ _ _ _ _ us hl => match us, hl with | [_], _ => rfl
theorem ok22 : okD fns globs blts f22 (top 22) = true := by decide +kernel
theorem bd22 : BindP (top 22) f22 := fun _ _ _ _ _ _ us hl => match us, hl with | [_], _ => rfl
theorem ok23 : okD fns globs blts f23 (top 23) = true := by decide +kernel
theorem bd23 : BindP (top 23) f23 := fun _ _ _ _ _ _ us hl => match us, hl with | [_, _], _ => rfl
theorem ok24 : okD fns globs blts f24 (top 24) = true := by decide +kernel
theorem bd24 : BindP (top 24) f24 := fun _ _ _ _ _ _ us hl => match us, hl with | [_], _ => rfl
theorem ok25 : okD fns globs blts f25 (top 25) = true := by decide +kernel
theorem bd25 : BindP (top 25) f25 := fun _ _ _ _ _ _ us hl => match us, hl with | [_], _ => rfl
theorem text : TextOk top fns globs blts := ⟨(List.forall_mem_cons.mpr ⟨ok1, (List.forall_mem_cons.mpr ⟨ok2, (List.forall_mem_cons.mpr ⟨ok3, (List.forall_mem_cons.mpr ⟨ok4, (List.forall_mem_cons.mpr ⟨ok5, (List.forall_mem_cons.mpr ⟨ok6, (List.forall_mem_cons.mpr ⟨ok7, (List.forall_mem_cons.mpr ⟨ok8, (List.forall_mem_cons.mpr ⟨ok9, (List.forall_mem_cons.mpr ⟨ok10, (List.forall_mem_cons.mpr ⟨ok11, (List.forall_mem_cons.mpr ⟨ok12, (List.forall_mem_cons.mpr ⟨ok13, (List.forall_mem_cons.mpr ⟨ok14, (List.forall_mem_cons.mpr ⟨ok15, (List.forall_mem_cons.mpr ⟨ok16, (List.forall_mem_cons.mpr ⟨ok17, (List.forall_mem_cons.mpr ⟨ok18, (List.forall_mem_cons.mpr ⟨ok19, (List.forall_mem_cons.mpr ⟨ok20, (List.forall_mem_cons.mpr ⟨ok21, (List.forall_mem_cons.mpr ⟨ok22, (List.forall_mem_cons.mpr ⟨ok23, (List.forall_mem_cons.mpr ⟨ok24, (List.forall_mem_cons.mpr ⟨ok25, (fun _ h => by cases h)⟩)⟩)⟩)⟩)⟩)⟩)⟩)⟩)⟩)⟩)⟩)⟩)⟩)⟩)⟩)⟩)⟩)⟩)⟩)⟩)⟩)⟩)⟩)⟩)⟩), (List.forall_mem_cons.mpr ⟨bd1, (List.forall_mem_cons.mpr ⟨bd2, (List.forall_mem_cons.mpr ⟨bd3, (List.forall_mem_cons.mpr ⟨bd4, (List.forall_mem_cons.mpr ⟨bd5, (List.forall_mem_cons.mpr ⟨bd6, (List.forall_mem_cons.mpr ⟨bd7, (List.forall_mem_cons.mpr ⟨bd8, (List.forall_mem_cons.mpr ⟨bd9, (List.forall_mem_cons.mpr ⟨bd10, (List.forall_mem_cons.mpr ⟨bd11, (List.forall_mem_cons.mpr ⟨bd12, (List.forall_mem_cons.mpr ⟨bd13, (List.forall_mem_cons.mpr ⟨bd14, (List.forall_mem_cons.mpr ⟨bd15, (List.forall_mem_cons.mpr ⟨bd16, (List.forall_mem_cons.mpr ⟨bd17, (List.forall_mem_cons.mpr ⟨bd18, (List.forall_mem_cons.mpr ⟨bd19, (List.forall_mem_cons.mpr ⟨bd20, (List.forall_mem_cons.mpr ⟨bd21, (List.forall_mem_cons.mpr ⟨bd22, (List.forall_mem_cons.mpr ⟨bd23, (List.forall_mem_cons.mpr ⟨bd24, (List.forall_mem_cons.mpr ⟨bd25, (fun _ h => by cases h)⟩)⟩)⟩)⟩)⟩)⟩)⟩)⟩)⟩)⟩)⟩)⟩)⟩)⟩)⟩)⟩)⟩)⟩)⟩)⟩)⟩)⟩)⟩)⟩)⟩)⟩
/-! the head -/
abbrev R : PySem.W.OpenRow := PySem.W.OpenLaw.row PySem.Challenge.rw_noticesheard_k00_patterns_and_facts
def loose0 : List Str := ["LONGEST", "LETTERS", "CAPITALS", "DIGITS", "is_name", "is_word", "merged", "ascending", "ANY", "is_pattern", "fact_fits", "pattern_covers", "common_pattern", "whole_pattern", "pattern_names", "facts_like", "_law_source", "_law_draw", "_law_same", "_law_ascending", "_law_names", "_law_relations", "_law_atom", "_law_fits", "_law_covers", "_law_pattern", "_law_all_facts", "_law_opened", "_law_forms"]
def loose : List Str := loose0
abbrev hk : PySem.W.Hook := He.hookX 4 (faOf fns blts) (ddsOf top fns) [] [] (exB globs)
def ob (s : PySem.W.SharedT) : He.AlX := He.obsX 4 (faOf fns blts) (ddsOf top fns) [] [] (exB globs) (HandSHeadRun.getT s)
theorem ob_eq (s : PySem.W.SharedT) : ob s = hk.obs s.abs := He.obsX_eq (HandSHeadRun.getT_eq s)
theorem run (w : World) : HandSHeadRun.RunEq R (PySem.W.view R.prog [33]) hk ob 4000 loose w := by
  intro os
  kernel_rfl
end W

namespace W
open PySem L2 Iv Fn Lw
theorem law_of {fns : List (Nat × FnD)} {k i : Nat} (p : ∀ ns : List Int, ns.length ≤ 63 → (callI fns k i [.lst (ns.map D.int)] []).post (fun d _ => d = .bl true) NoX) : LawV fns k i := fun ns hl => by
  have q := p ns hl
  cases e : callI fns k i [.lst (ns.map D.int)] [] with
  | ok d h' =>
    rw [e] at q
    have q : d = .bl true := q
    exact ⟨h', by rw [q]⟩
  | ex => rw [e] at q; exact q.elim
  | bad => rw [e] at q; exact q.elim
theorem same_bl {n : Nat} {b : Bool} {h : IH} {K : D → IH → Prop} {Y : Nat → List D → IH → Prop} (q : K (.bl true) h) : (callI fns (n + 0 + 1) 10 [.bl b, .bl b] h).post K Y := same_ok rfl 0 (.bl b) rfl (Nat.le_refl 0) trivial q
theorem same_strs {n : Nat} {xs : List Txt} {h : IH} {K : D → IH → Prop} {Y : Nat → List D → IH → Prop} (hl : xs.length ≤ 8000000) (q : K (.bl true) h) : (callI fns (n + 2 + 1) 10 [.lst (xs.map D.str), .lst (xs.map D.str)] h).post K Y :=
  same_ok rfl 2 _ (by show D.dats (xs.map oS.e) = true; exact oS.dats) (by
    show D.depths (xs.map D.str) + 1 ≤ 2
    have : D.depths (xs.map D.str) ≤ 0 := tup_depth oS (n := 0) (fun _ => Nat.le_refl 0) xs
    omega) (small_lst hl) q
theorem same_facts {n : Nat} {xs : List (List Txt)} {h : IH} {K : D → IH → Prop} {Y : Nat → List D → IH → Prop} (hl : xs.length ≤ 8000000) (h2 : ∀ p ∈ xs, p.length ≤ 8000000) (q : K (.bl true) h) : (callI fns (n + 2 + 1) 10 [.lst (xs.map TS), .lst (xs.map TS)] h).post K Y :=
  same_ok rfl 2 _ (by show D.dats (xs.map oF.e) = true; exact oF.dats) (depth_TSs xs) (small_TSs hl h2) q
theorem same_fact {n : Nat} {p : List Txt} {h : IH} {K : D → IH → Prop} {Y : Nat → List D → IH → Prop} (hl : p.length ≤ 8000000) (q : K (.bl true) h) : (callI fns (n + 2 + 1) 10 [TS p, TS p] h).post K Y :=
  same_ok rfl 2 _ (oF.dat p) (by
    show D.depths (p.map D.str) + 1 ≤ 2
    have : D.depths (p.map D.str) ≤ 0 := tup_depth oS (n := 0) (fun _ => Nat.le_refl 0) p
    omega) (small_TS hl) q
theorem law_true : LawV fns 61 1 := by
  refine law_of fun ns hl => ?_
  refine call_def (F := f1) rfl rfl ?_
  show (evSs (callI fns 60) b1 [.val (.lst (ns.map D.int)), .no, .no, .no, .no, .no, .no, .no, .no, .no, .no, .no, .no, .no, .no, .no, .no] []).post _ NoX
  unfold b1
  repeat walk_at "iv"
  refine source_ok (n := 59) rfl fun h1 s1 _ => ?_
  repeat walk_at "iv"
  refine relations_ok (n := 58) rfl rfl s1 fun rs h2 s2 o2 r1 r2 r3 => ?_
  repeat walk_at "iv"
  refine draw_ok (n := 59) rfl (by decide) s2 fun d3 h3 a3 b3 s3 o3 => ?_
  repeat walk_at "iv"
  refine names_ok (n := 58) rfl rfl (by omega) (by omega) s3 fun names h4 s4 o4 n1 n2 => ?_
  have n3 : 1 ≤ names.length ∧ names.length ≤ 7 := by omega
  have nne : names ≠ [] := by intro e; rw [e] at n3; simp at n3
  have rne : rs ≠ [] := by intro e; rw [e] at r1; simp at r1
  have rok : ∀ p ∈ rs, wordB p.1 = true ∧ (p.2 = 1 ∨ p.2 = 2) := fun p hp => pool_ok p (r3 p hp)
  repeat walk_at "iv"
  refine pattern_ok (n := 58) rfl rfl rne (by omega) nne (by omega) (fun p hp => by have := (rok p hp).2; omega) s4 fun p1 ps1 h5 s5 o5 m1 l1 x1 => ?_
  repeat walk_at "iv"
  refine pattern_ok (n := 58) rfl rfl rne (by omega) nne (by omega) (fun p hp => by have := (rok p hp).2; omega) s5 fun p2 ps2 h6 s6 o6 m2 l2 x2 => ?_
  obtain ⟨a, ka⟩ := p1
  have w1 := rok _ m1
  have w2 := rok _ m2
  have l1' : ps1.length = 1 ∨ ps1.length = 2 := by rw [l1]; exact w1.2
  repeat walk_at "iv"
  refine draw_ok (n := 59) rfl (by decide) s6 fun d7 h7 a7 b7 s7 o7 => ?_
  repeat walk_at "iv"
  refine two_cut (fun x h8 => Src 0 h8 ∧ ∃ (b : Txt) (s : List Txt), s.length ≤ 2 ∧ x = ((.nx, [.val (.lst (ns.map D.int)), .no, .no, .no, .val (.ref 0), .val (.lst (rs.map relD)), .val (.lst (names.map D.str)), .val (TS (a :: ps1)), .val (TS (b :: s)), .no, .no, .no, .no, .no, .no, .no, .no]) : RS)) ⟨fun c => ?_, fun c => ?_⟩ ?_
  · repeat walk_at "iv"
    refine opened_ok (n := 58) rfl rfl (by omega) s7 fun qs h8 s8 o8 l8 x8 => ?_
    repeat walk_at "iv"
    exact ⟨s8, a, qs, by omega, rfl⟩
  · repeat walk_at "iv"
    exact ⟨s7, p2.1, ps2, by have := w2.2; omega, rfl⟩
  rintro x h8 ⟨s8, b, s, ls, rfl⟩
  repeat walk_at "iv"
  refine o_rg1 ⟨by decide, by decide⟩ ?_
  refine w_comp (fun pre acc h9 => Src 0 h9 ∧ acc.length = pre.length ∧ ∀ x ∈ acc, ∃ f : List Txt, (∃ b s, f = b :: s ∧ s.length ≤ 2) ∧ x = TS f) ⟨s8, rfl, fun _ h => by cases h⟩ ?_ ?_
  · rintro pre d post acc h9 e ⟨s9, la, hm⟩
    refine ⟨_, rfl, ?_⟩
    repeat walk_at "iv"
    refine atom_ok (n := 58) rfl rfl rne (by omega) nne (by omega) (fun p hp => (rok p hp).2) s9 fun p ps h10 s10 o10 mp lp xp => ?_
    refine ⟨s10, by simp [la], fun x hx => ?_⟩
    rcases List.mem_append.mp hx with hx | hx
    · exact hm x hx
    · exact ⟨p.1 :: ps, ⟨_, _, rfl, by have := (rok p mp).2; omega⟩, List.mem_singleton.mp hx⟩
  rintro acc h9 ⟨s9, la, hm⟩
  have la : acc.length = 4 := by rw [la]; rfl
  obtain ⟨fs, rfl, hfs⟩ := maps_of hm
  repeat walk_at "iv"
  refine all_facts_ok (n := 58) rfl rfl (by omega) (by omega) ?_
  repeat walk_at "iv"
  rw [show (5 : Int) = ((5 : Nat) : Int) from rfl, cut_to, ← List.map_take]
  refine o_addL (by simp only [List.length_map, List.length_take] at *; omega) ?_
  rw [← List.map_append]
  repeat walk_at "iv"
  have hfs2 : ∀ f ∈ fs ++ (factsOf names (a :: ps1)).take 5, ∃ b s, f = b :: s ∧ s.length ≤ 2 := fun f hf => by
    rcases List.mem_append.mp hf with hf | hf
    · exact hfs f hf
    · obtain ⟨xs, e, lx⟩ := factsOf_mem_len (List.mem_of_mem_take hf)
      exact ⟨_, xs, e, by omega⟩
  -- for fact in facts
  refine f_forR TS (fun rest env h10 => h10 = h9 ∧ (∀ f ∈ rest, ∃ b s, f = b :: s ∧ s.length ≤ 2) ∧ ∃ s1, env = [.val (.lst (ns.map D.int)), s1, .no, .no, .val (.ref 0), .val (.lst (rs.map relD)), .val (.lst (names.map D.str)), .val (TS (a :: ps1)), .val (TS (b :: s)), .val (.lst ((fs ++ (factsOf names (a :: ps1)).take 5).map TS)), .no, .no, .no, .no, .no, .no, .no])
    ?_ ?_ ⟨rfl, hfs2, _, rfl⟩
  · rintro f rest env h10 ⟨rfl, hf, s1, rfl⟩
    obtain ⟨u, v, rfl, lv⟩ := hf f List.mem_cons_self
    refine ⟨_, rfl, ?_⟩
    repeat walk_at "iv"
    refine fits_ok (n := 59) rfl ?_
    repeat walk_at "iv"
    refine lawfits_ok (n := 59) rfl (by omega) ?_
    repeat walk_at "iv"
    refine same_bl (n := 59) ?_
    repeat walk_at "iv"
    refine fits_ok (n := 59) rfl ?_
    repeat walk_at "iv"
    refine lawfits_ok (n := 59) rfl (by omega) ?_
    repeat walk_at "iv"
    refine same_bl (n := 59) ?_
    repeat walk_at "iv"
    exact ⟨rfl, fun f hf2 => hf f (List.mem_cons_of_mem _ hf2), _, rfl⟩
  rintro env h10 ⟨rfl, _, s1, rfl⟩
  repeat walk_at "iv"
  refine covers_ok (n := 59) rfl ?_
  repeat walk_at "iv"
  refine lawcovers_ok (n := 59) rfl (by omega) ?_
  repeat walk_at "iv"
  refine same_bl (n := 59) ?_
  repeat walk_at "iv"
  refine covers_ok (n := 59) rfl ?_
  repeat walk_at "iv"
  refine lawcovers_ok (n := 59) rfl (by omega) ?_
  repeat walk_at "iv"
  refine same_bl (n := 59) ?_
  repeat walk_at "iv"
  -- named
  rw [List.map_cons, List.map_cons, cut1, cut1]
  refine o_addT (by simp; omega) ?_
  rw [← List.map_append]
  repeat walk_at "iv"
  refine w_compZ D.str D.str (fun x => !decide (x = [])) ?_ ?_
  · refine fun x hx => ⟨_, rfl, ?_, fun _ => ?_⟩
    · repeat walk_at "iv"
      refine ⟨rfl, ?_⟩
      rw [Bool.eq_iff_iff]; simp
    · repeat walk_at "iv"
      exact ⟨rfl, rfl⟩
  repeat walk_at "iv"
  have lf : ((ps1 ++ s).filter fun x => !decide (x = [])).length ≤ 4 := Nat.le_trans (List.length_filter_le _ _) (by rw [List.length_append]; omega)
  refine lawasc_ok (n := 59) oS rfl (by omega) ?_
  generalize hnamed : oS.asc ((ps1 ++ s).filter fun x => !decide (x = [])) = named
  have lnamed : named.length ≤ 4 := by rw [← hnamed]; exact Nat.le_trans (asc_len oS _) lf
  repeat walk_at "iv"
  have enames : namesOf [a :: ps1, b :: s] = (ps1 ++ s).filter fun x => !decide (x = []) := by
    simp [namesOf, List.filter_append]
  refine pattern_names_ok (n := 57) (ps := [a :: ps1, b :: s]) rfl rfl rfl (by rw [enames]; omega) ?_
  rw [enames, hnamed]
  repeat walk_at "iv"
  refine same_strs (n := 57) (xs := named) (by omega) ?_
  repeat walk_at "iv"
  refine pattern_names_ok (n := 57) (ps := []) rfl rfl rfl (by decide) ?_
  repeat walk_at "iv"
  refine same_strs (n := 57) (xs := []) (by decide) ?_
  repeat walk_at "iv"
  -- some
  refine draw_ok (n := 59) rfl (by rw [List.length_map]; omega) s9 fun d11 h11 a11 b11 s11 o11 => ?_
  rw [List.length_map] at b11
  obtain ⟨k, rfl⟩ : ∃ k : Nat, d11 = (k : Int) := ⟨d11.toNat, by omega⟩
  repeat walk_at "iv"
  rw [show (1 + (k : Int)) = ((k + 1 : Nat) : Int) by omega, cut_to, ← List.map_take]
  generalize hsome : names.take (k + 1) = some'
  have lsome : some'.length ≤ 7 := by rw [← hsome, List.length_take]; omega
  -- wide
  refine o_addL (by simp; omega) ?_
  repeat walk_at "iv"
  have ez : named.map oS.e ++ [D.str [122, 122, 57]] = (named ++ [[122, 122, 57]]).map oS.e := by rw [List.map_append]; rfl
  rw [ez]
  refine lawasc_ok (n := 59) oS rfl (by simp; omega) ?_
  generalize hwide : oS.asc (named ++ [[122, 122, 57]]) = wide
  have lwide : wide.length ≤ 5 := by rw [← hwide]; exact Nat.le_trans (asc_len oS _) (by simp; omega)
  have mwide : ∀ x, x ∈ wide ↔ x ∈ named ∨ x = [122, 122, 57] := fun x => by rw [← hwide, oS.mem_asc]; simp
  repeat walk_at "iv"
  refine facts_like_ok (n := 57) rfl rfl rfl (by omega) (by omega) ?_
  repeat walk_at "iv"
  refine all_facts_ok (n := 58) rfl rfl (by omega) (by omega) ?_
  repeat walk_at "iv"
  refine same_facts (n := 57) (factsOf_len (by omega) (by omega)) (fun p hp => by obtain ⟨xs, e, lx⟩ := factsOf_mem_len hp; rw [e, List.length_cons]; omega) ?_
  repeat walk_at "iv"
  -- both
  refine all_facts_ok (n := 58) rfl rfl (by omega) (by omega) ?_
  repeat walk_at "iv"
  refine w_compZ TS TS (fun f => cov (b :: s) f) ?_ ?_
  · refine fun f hf => ⟨_, rfl, ?_, fun _ => ?_⟩
    · obtain ⟨xs, rfl, lx⟩ := factsOf_mem_len hf
      repeat walk_at "iv"
      refine lawfits_ok (n := 59) rfl (by omega) ?_
      repeat walk_at "iv"
      exact ⟨rfl, rfl⟩
    · repeat walk_at "iv"
      exact ⟨rfl, rfl⟩
  repeat walk_at "iv"
  refine common_ok (n := 59) rfl (by omega) ?_
  repeat walk_at "iv"
  -- the end
  refine two_cut (fun x h12 => h12 = h11 ∧ ∃ (s1 : Sl) (both common : D), x = ((.nx, [.val (.lst (ns.map D.int)), s1, .no, .no, .val (.ref 0), .val (.lst (rs.map relD)), .val (.lst (names.map D.str)), .val (TS (a :: ps1)), .val (TS (b :: s)), .val (.lst ((fs ++ (factsOf names (a :: ps1)).take 5).map TS)), .val (.lst (named.map D.str)), .val (.lst (some'.map D.str)), .val (.lst (wide.map D.str)), .val both, .val common, .no, .no]) : RS)) ?_ ?_
  · cases hc : com (a :: ps1) (b :: s) with
    | none =>
      rw [both_none hc]
      show Two _ true _
      repeat walk_at "iv"
      refine ⟨fun c => absurd c (by simp), fun _ => ?_⟩
      repeat walk_at "iv"
      exact ⟨rfl, _, _, _, rfl⟩
    | some c =>
      rw [both_of hc]
      obtain ⟨cs, rfl, lc, hcs⟩ := com_parts hc
      have ne : factsOf wide (a :: cs) ≠ [] := facts_some [122, 122, 57] ((mwide _).mpr (.inr rfl)) fun x hx => by
        rcases hcs x hx with e | e | e
        · exact .inl e
        · by_cases c : x = []
          · exact .inl c
          · exact .inr ((mwide x).mpr (.inl (by rw [← hnamed, oS.mem_asc, List.mem_filter, List.mem_append]; exact ⟨.inl e, by simp [c]⟩)))
        · by_cases c : x = []
          · exact .inl c
          · exact .inr ((mwide x).mpr (.inl (by rw [← hnamed, oS.mem_asc, List.mem_filter, List.mem_append]; exact ⟨.inr e, by simp [c]⟩)))
      have np := List.length_pos_iff.mpr ne
      show Two _ false _
      repeat walk_at "iv"
      refine ⟨fun c => absurd c (by simp; omega), fun _ => ?_⟩
      repeat walk_at "iv"
      refine all_facts_ok (n := 58) rfl rfl (by omega) (by omega) ?_
      repeat walk_at "iv"
      refine same_facts (n := 57) (factsOf_len (by omega) (by omega)) (fun p hp => by obtain ⟨xs, e, lx⟩ := factsOf_mem_len hp; rw [e, List.length_cons]; omega) ?_
      repeat walk_at "iv"
      exact ⟨rfl, _, _, _, rfl⟩
  rintro x h12 ⟨rfl, s1, both, common, rfl⟩
  repeat walk_at "iv"
  refine draw_ok (n := 59) rfl (by rw [List.length_map]; omega) s11 fun d13 h13 a13 b13 s13 o13 => ?_
  rw [List.length_map] at b13
  refine o_pickM a13 (by omega) fun p hp => ?_
  obtain ⟨w, m⟩ := p
  have wm := rok _ hp
  have lm : m ≤ 2 := by have := wm.2; omega
  refine ⟨_, rfl, ?_⟩
  repeat walk_at "iv"
  refine whole_ok (n := 59) rfl (by omega) ?_
  repeat walk_at "iv"
  refine o_rg1 ⟨by omega, by omega⟩ ?_
  rw [Int.toNat_natCast]
  show (cLoop _ _ _ _ ((List.range m).map _) [] h13).post _ NoX
  refine w_compA (C := callI fns 60) _ (fun _ => D.str []) ?_ ?_
  · refine fun d hd => ⟨_, rfl, ?_⟩
    repeat walk_at "iv"
    exact ⟨rfl, rfl⟩
  refine o_addL (by simp; omega) ?_
  repeat walk_at "iv"
  have er : [D.str w] ++ ((List.range m).map fun _ => D.str []) = (w :: List.replicate m []).map D.str := by
    rw [List.map_cons, List.map_replicate, List.singleton_append]
    congr 1
    refine List.eq_replicate_iff.mpr ⟨by simp, fun b hb => ?_⟩
    obtain ⟨_, _, rfl⟩ := List.mem_map.mp hb; rfl
  rw [er]
  refine same_fact (n := 57) (p := w :: List.replicate m []) (by simp; omega) ?_
  repeat walk_at "iv"
  refine forms_ok (n := 57) rfl rfl rfl rfl rfl ?_ s13 fun h14 s14 o14 => ?_
  · rw [patB_cons, w1.1, Bool.and_eq_true, Bool.and_eq_true, Bool.or_eq_true, decide_eq_true_eq, decide_eq_true_eq, List.all_eq_true]
    refine ⟨⟨l1', rfl⟩, fun x hx => ?_⟩
    rcases x1 x hx with e | e
    · rw [e]; rfl
    · rw [n2 x e, Bool.or_true]
  repeat walk_at "iv"
  rfl
end W

open PySem PySem.W PySem.Calls PyProof.Rows
theorem PySem.Challenge.cw_noticesheard_k00_patterns_and_facts_holds : PySem.Challenge.rw_noticesheard_k00_patterns_and_facts.Holds := by
  w_on; o_law
  refine HandSHeadRun.head_any (r := W.R) (q := view W.R.prog [33]) (H := W.hk) (ob := W.ob) (M := 4000) (loose := W.loose) (d := HandSHeadRun.topDef W.R.prog 33) (kwd := []) W.ob_eq
    (by kernel_rfl) (fun s => by kernel_rfl) W.run (by kernel_rfl) (by kernel_rfl) (by kernel_rfl) (by rfl) (by first | assumption | decide +kernel) (by decide +kernel) ⟨rfl, rfl, rfl, rfl, rfl, by decide +kernel⟩ ?hw ?hc
  case hw => w_witness2
  case hc => exact Iv.law_end (k := 60) (i := 1) (F := W.f1) rfl (by kernel_rfl) ⟨rfl, by decide, by decide⟩ (fun w h Y => Y) W.text rfl rfl (by kernel_rfl) W.law_true
