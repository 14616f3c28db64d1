import PyProof.Rows.All
import Wide.All
import OpenK.AllK
import Wide.FinOn
import HandS.ForMost
import HandS.Exc
import HandS.WordsExc
import HandS.Star
import HandS.IsInst
import HandS.TupLe
import HandS.Deep
import HandS.Zip
import HandS.ClsMeth
import HandS.Property
import HandS.DictComp
import HandS.DictTup
import HandS.TryMany
import HandS.TryOnly
import HandS.Strs
import HandS.Rev
import HandS.RevRange
import HandS.ExcIs
import HandS.ExcField
import KE.DataEq
import HandS.TupAny
import HandS.Text
import HandS.TupLen
import HandS.OwnIter
import HandS.Defaults
import HandS.Head0
import HandS.Head1
import HandS.Head2
import HandS.HeadEnd
import HandS.HeadHook1
import HandS.HeadHook2
import HandS.HeadHook3
import HandS.HeadHook4
import HandS.HeadNt
import PySem.Challenge.RW_noticesheard_k07_whole_pieces_part_a_sto
import KE.BitLaws
set_option Elab.async false
set_option linter.all false
set_option maxRecDepth 100000
set_option maxHeartbeats 0
/-! Iv, part A: pure values, the pure state, what it is to represent them on the abstract heap. -/
namespace Iv
open PySem L2

/-- pure values: trees, and references to mutable cells -/
inductive D where
  | non | bl (b : Bool) | int (i : Int) | str (x : List Nat) | tup (xs : List D) | lst (xs : List D) | ref (r : Nat) | ins (c : Nat) (fs : List D) | dct (t : Bool) (ks vs : List D)

/-- mutable cells; dead: a cell that was frozen -/
inductive Cell where
  | lst (xs : List D) | ins (c : Nat) (fs : List D) | dct (t : Bool) (ks vs : List D) | dead
def Cell.toD : Cell → D
  | .lst xs => .lst xs | .ins c fs => .ins c fs | .dct t ks vs => .dct t ks vs | .dead => .non
/-- what may be our own: lists, dicts -/
def Cell.own : Cell → Bool
  | .lst _ => true | .dct _ _ _ => true
  | _ => false
theorem Cell.own_nd {c : Cell} (h : c.own = true) : c ≠ .dead := fun e => by rw [e] at h; cases h
def keyD : Key → D
  | .inl i => .int i
  | .inr s => .str s.cps.toList
def keyT (l : List Key) : D := .tup (l.map keyD)
/-- a dict of the abstract heap: its keys, its values -/
def DicO (t : Bool) (ks : List D) (us : List V) (u : HO) : Prop :=
  ks.length = us.length ∧ ks.length ≤ sizeLine ∧ ks.Nodup ∧ match t with
  | false => ∃ kk : List Key, ks = kk.map keyD ∧ u = .dK (kk.zip us)
  | true => ∃ kk : List (List Key), ks = kk.map keyT ∧ u = .dT (kk.zip us)
abbrev IH := List Cell

inductive R (α : Type) where
  | ok (a : α) (h : IH)
  | ex (c : Nat) (fs : List D) (h : IH)
  | bad

def R.post {α : Type} (r : R α) (K : α → IH → Prop) (X : Nat → List D → IH → Prop) : Prop :=
  match r with
  | .ok a h => K a h
  | .ex c fs h => X c fs h
  | .bad => False
theorem R.post.mono {α : Type} {r : R α} {K K' : α → IH → Prop} {X X' : Nat → List D → IH → Prop} (p : r.post K X) (hk : ∀ a h, K a h → K' a h) (hx : ∀ c fs h, X c fs h → X' c fs h) : r.post K' X' := by
  cases r with
  | ok a h => exact hk _ _ p
  | ex c fs h => exact hx _ _ _ p
  | bad => exact p

abbrev M (α : Type) := IH → R α
def ret {α : Type} (a : α) : M α := fun h => .ok a h
def bnd {α β : Type} (m : M α) (f : α → M β) : M β := fun h =>
  match m h with
  | .ok a h' => f a h'
  | .ex c fs h' => .ex c fs h'
  | .bad => .bad
def lft {α : Type} (o : Option α) : M α := fun h =>
  match o with
  | some a => .ok a h
  | none => .bad
theorem post_bnd {α β : Type} {m : M α} {f : α → M β} {h : IH} {K : β → IH → Prop} {X : Nat → List D → IH → Prop} :
    ((bnd m f) h).post K X ↔ (m h).post (fun a h' => (f a h').post K X) X := by
  unfold bnd
  cases m h <;> exact Iff.rfl
theorem post_lft {α : Type} {o : Option α} {h : IH} {K : α → IH → Prop} {X : Nat → List D → IH → Prop} (p : ((lft o) h).post K X) : ∃ a, o = some a ∧ K a h := by
  cases o with
  | none => exact p.elim
  | some a => exact ⟨a, rfl, p⟩

/-- what is fixed through a law: the program, the written part, the classes and errors by their numbers -/
structure GC where
  P : Program
  w : World
  K : PySem.W.Frag
  mg : Str → Option Value
  base : Heap
  cls : Nat → Option (Addr × List Str)
  exc : Nat → Option (Value × List Str)
  sub : Nat → Nat → Bool
  fa : Nat → Addr
  nm : Nat → Str

/-- F: what is frozen (never written again); rho: where the cells stand -/
structure Wd where
  F : Hp
  rho : List Addr

mutual
inductive Rep (G : GC) (W : Wd) : D → V → Prop
  | non : Rep G W .non .non
  | bl (b : Bool) : Rep G W (.bl b) (.bl b)
  | int (i : Int) : Rep G W (.int i) (.int i)
  | str (x : List Nat) : x.length ≤ sizeLine → Rep G W (.str x) (.str ⟨x.toArray⟩)
  | tup {a : Addr} {ds : List D} {vs : List V} : W.F a = some (.tup vs) → ds.length ≤ sizeLine → Reps G W ds vs → Rep G W (.tup ds) (.ref a)
  | lst {a : Addr} {ds : List D} {vs : List V} : SqL G.K W.F a vs → ds.length ≤ sizeLine → Reps G W ds vs → Rep G W (.lst ds) (.ref a)
  | ref {r : Nat} {a : Addr} : W.rho[r]? = some a → Rep G W (.ref r) (.ref a)
  | ins {c : Nat} {a C dx : Addr} {ns : List Str} {ds : List D} {vs : List V} : G.cls c = some (C, ns) → W.F a = some (.ins C dx (ns.zip vs)) → vs.length ≤ ns.length → Reps G W ds vs → Rep G W (.ins c ds) (.ref a)
  | dct {t : Bool} {a : Addr} {o : Obj} {u : HO} {ks vs : List D} {us : List V} : W.F a = some (.frz o u) → DicO t ks us u → Reps G W vs us → Rep G W (.dct t ks vs) (.ref a)
inductive Reps (G : GC) (W : Wd) : List D → List V → Prop
  | nil : Reps G W [] []
  | cons {d : D} {v : V} {ds : List D} {vs : List V} : Rep G W d v → Reps G W ds vs → Reps G W (d :: ds) (v :: vs)
end
variable {G : GC}

theorem Reps.length {W : Wd} : ∀ {ds : List D} {vs : List V}, Reps G W ds vs → ds.length = vs.length
  | _, _, .nil => rfl
  | _, _, .cons _ t => by rw [List.length_cons, List.length_cons, Reps.length t]
theorem Reps.get {W : Wd} : ∀ {ds : List D} {vs : List V} {i : Nat} {d : D}, Reps G W ds vs → ds[i]? = some d → ∃ v, vs[i]? = some v ∧ Rep G W d v
  | _, _, _, _, .nil, e => by simp at e
  | _, _, 0, _, .cons r _, e => by simp at e; subst e; exact ⟨_, rfl, r⟩
  | _, _, i + 1, d, .cons _ t, e => by
    obtain ⟨v, h1, h2⟩ := Reps.get (i := i) (d := d) t (by simpa using e)
    exact ⟨v, by simpa using h1, h2⟩
theorem Reps.append {W : Wd} : ∀ {ds es : List D} {vs us : List V}, Reps G W ds vs → Reps G W es us → Reps G W (ds ++ es) (vs ++ us)
  | _, _, _, _, .nil, s => s
  | _, _, _, _, .cons r t, s => .cons r (Reps.append t s)
theorem Reps.take {W : Wd} : ∀ {ds : List D} {vs : List V} (n : Nat), Reps G W ds vs → Reps G W (ds.take n) (vs.take n)
  | _, _, 0, _ => .nil
  | _, _, _ + 1, .nil => .nil
  | _, _, n + 1, .cons r t => .cons r (Reps.take n t)
theorem Reps.drop {W : Wd} : ∀ {ds : List D} {vs : List V} (n : Nat), Reps G W ds vs → Reps G W (ds.drop n) (vs.drop n)
  | _, _, 0, r => r
  | _, _, _ + 1, .nil => .nil
  | _, _, n + 1, .cons _ t => Reps.drop n t
theorem Reps.set {W : Wd} {d : D} {v : V} (r : Rep G W d v) : ∀ {ds : List D} {vs : List V} (i : Nat), Reps G W ds vs → Reps G W (ds.set i d) (vs.set i v)
  | _, _, _, .nil => .nil
  | _, _, 0, .cons _ t => .cons r t
  | _, _, i + 1, .cons q t => .cons q (Reps.set r i t)
theorem Reps.snoc {W : Wd} {ds : List D} {vs : List V} {d : D} {v : V} (h : Reps G W ds vs) (r : Rep G W d v) : Reps G W (ds ++ [d]) (vs ++ [v]) := h.append (.cons r .nil)
theorem Reps.dropLast {W : Wd} {ds : List D} {vs : List V} (h : Reps G W ds vs) : Reps G W ds.dropLast vs.dropLast := by
  rw [List.dropLast_eq_take, List.dropLast_eq_take, h.length]
  exact h.take _

/-- a later world: more is frozen, more cells -/
structure Le (W W' : Wd) : Prop where
  f : ∀ a o, W.F a = some o → W'.F a = some o
  r : ∃ more, W'.rho = W.rho ++ more
theorem Le.refl (W : Wd) : Le W W := ⟨fun _ _ h => h, [], by simp⟩
theorem Le.trans {W W1 W2 : Wd} (a : Le W W1) (b : Le W1 W2) : Le W W2 :=
  ⟨fun x o h => b.f x o (a.f x o h), let ⟨m, e⟩ := a.r; let ⟨n, e'⟩ := b.r; ⟨m ++ n, by rw [e', e, List.append_assoc]⟩⟩
theorem Le.at {W W' : Wd} (l : Le W W') {r : Nat} {a : Addr} (h : W.rho[r]? = some a) : W'.rho[r]? = some a := by
  obtain ⟨m, e⟩ := l.r
  rw [e, List.getElem?_append_left (List.getElem?_eq_some_iff.mp h).1]
  exact h
theorem rd_le {F F' : Hp} {a : Addr} {u : HO} (l : ∀ a o, F a = some o → F' a = some o) (h : Rd F a u) : Rd F' a u := by
  rcases h with h | ⟨o, h⟩
  · exact .inl (l _ _ h)
  · exact .inr ⟨o, l _ _ h⟩
theorem sqT_le {K : PySem.W.Frag} {F F' : Hp} {a : Addr} {vs : List V} (l : ∀ a o, F a = some o → F' a = some o) (h : SqT K F a vs) : SqT K F' a vs := by
  rcases h with h | h
  · exact .inl (rd_le l h)
  · exact .inr h
theorem sqL_le {K : PySem.W.Frag} {F F' : Hp} {a : Addr} {vs : List V} (l : ∀ a o, F a = some o → F' a = some o) (h : SqL K F a vs) : SqL K F' a vs := by
  rcases h with h | h
  · exact .inl (rd_le l h)
  · exact .inr h
mutual
theorem Rep.mono {W W' : Wd} (l : Le W W') : ∀ {d : D} {v : V}, Rep G W d v → Rep G W' d v
  | _, _, .non => .non
  | _, _, .bl b => .bl b
  | _, _, .int i => .int i
  | _, _, .str x h => .str x h
  | _, _, .tup h z r => .tup (l.f _ _ h) z (Reps.mono l r)
  | _, _, .lst h z r => .lst (sqL_le l.f h) z (Reps.mono l r)
  | _, _, .ref h => .ref (l.at h)
  | _, _, .ins h1 h2 h3 r => .ins h1 (l.f _ _ h2) h3 (Reps.mono l r)
  | _, _, .dct h1 h2 r => .dct (l.f _ _ h1) h2 (Reps.mono l r)
theorem Reps.mono {W W' : Wd} (l : Le W W') : ∀ {ds : List D} {vs : List V}, Reps G W ds vs → Reps G W' ds vs
  | _, _, .nil => .nil
  | _, _, .cons r t => .cons (Rep.mono l r) (Reps.mono l t)
end

/-- o is what the cell says -/
def CellO (G : GC) (W : Wd) (o : HO) : Cell → Prop
  | .lst xs => ∃ vs, o = .lst vs ∧ Reps G W xs vs ∧ xs.length ≤ sizeLine
  | .ins c fs => ∃ C dx ns us, G.cls c = some (C, ns) ∧ o = .ins C dx (ns.zip us) ∧ us.length ≤ ns.length ∧ Reps G W fs us
  | .dct t ks vs => ∃ us, DicO t ks us o ∧ Reps G W vs us
  | .dead => True
/-- a cell at a -/
def CellR (G : GC) (W : Wd) (H : Hp) (a : Addr) (c : Cell) : Prop := ∃ o, H a = some o ∧ CellO G W o c
theorem CellR.there {W : Wd} {H : Hp} {a : Addr} {c : Cell} (h : CellR G W H a c) : ∃ o, H a = some o := ⟨h.choose, h.choose_spec.1⟩
theorem CellO.mono {W W' : Wd} (l : Le W W') {o : HO} {c : Cell} (h : CellO G W o c) : CellO G W' o c := by
  cases c with
  | lst xs => obtain ⟨vs, e, r, z⟩ := h; exact ⟨vs, e, r.mono l, z⟩
  | ins c fs => obtain ⟨C, dx, ns, us, h1, h2, h3, r⟩ := h; exact ⟨C, dx, ns, us, h1, h2, h3, r.mono l⟩
  | dct t ks vs => obtain ⟨us, e, r⟩ := h; exact ⟨us, e, r.mono l⟩
  | dead => trivial
theorem CellR.lst {W : Wd} {H : Hp} {a : Addr} {xs : List D} (h : CellR G W H a (.lst xs)) : ∃ vs, H a = some (.lst vs) ∧ Reps G W xs vs ∧ xs.length ≤ sizeLine := by
  obtain ⟨o, e, vs, rfl, r, z⟩ := h
  exact ⟨vs, e, r, z⟩
theorem CellR.mkL {W : Wd} {H : Hp} {a : Addr} {xs : List D} {vs : List V} (e : H a = some (.lst vs)) (r : Reps G W xs vs) (z : xs.length ≤ sizeLine) : CellR G W H a (.lst xs) := ⟨_, e, vs, rfl, r, z⟩

/-- the heap is held -/
structure Hr (G : GC) (W : Wd) (h : IH) (H : Hp) : Prop where
  sub : ∀ a o, W.F a = some o → H a = some o
  len : W.rho.length = h.length
  nd : W.rho.Nodup
  cell : ∀ (i : Nat) (a : Addr) (c : Cell), W.rho[i]? = some a → h[i]? = some c → CellR G W H a c
  nf : ∀ (i : Nat) (a : Addr), W.rho[i]? = some a → h[i]? ≠ some .dead → W.F a = none
theorem Hr.dom {W : Wd} {h : IH} {H : Hp} (x : Hr G W h H) {a : Addr} (ha : a ∈ W.rho) : ∃ o, H a = some o := by
  obtain ⟨i, e⟩ := List.mem_iff_getElem?.mp ha
  have hi : i < h.length := by rw [← x.len]; exact (List.getElem?_eq_some_iff.mp e).1
  exact CellR.there (x.cell i a _ e (List.getElem?_eq_getElem hi))

/-- from (W, H) to (W', H'): cells may change, all else stays; what is newly frozen and the new cells are new -/
structure Fr (W : Wd) (H : Hp) (W' : Wd) (H' : Hp) : Prop where
  f : ∀ a o, W.F a = some o → W'.F a = some o
  r : ∃ more, W'.rho = W.rho ++ more ∧ ∀ a ∈ more, H a = none
  pres : ∀ a o, H a = some o → a ∉ W.rho → H' a = some o
  newF : ∀ a o, W'.F a = some o → W.F a = some o ∨ H a = none ∨ a ∈ W.rho
  dom : ∀ a, H' a = none → H a = none
theorem Fr.le {W W' : Wd} {H H' : Hp} (x : Fr W H W' H') : Le W W' := ⟨x.f, let ⟨m, e, _⟩ := x.r; ⟨m, e⟩⟩
theorem Fr.refl (W : Wd) (H : Hp) : Fr W H W H := ⟨fun _ _ h => h, ⟨[], by simp⟩, fun _ _ h _ => h, fun _ _ h => .inl h, fun _ h => h⟩
theorem Fr.trans {W W1 W2 : Wd} {H H1 H2 : Hp} (x : Fr W H W1 H1) (y : Fr W1 H1 W2 H2) : Fr W H W2 H2 := by
  obtain ⟨m, em, hm⟩ := x.r
  obtain ⟨n, en, hn⟩ := y.r
  refine ⟨fun a o h => y.f a o (x.f a o h), ⟨m ++ n, by rw [en, em, List.append_assoc], fun a ha => ?_⟩, fun a o h na => ?_, fun a o h => ?_, fun a h => x.dom a (y.dom a h)⟩
  · rcases List.mem_append.mp ha with ha | ha
    · exact hm a ha
    · exact x.dom a (hn a ha)
  · refine y.pres a o (x.pres a o h na) fun z => ?_
    rw [em] at z
    rcases List.mem_append.mp z with z | z
    · exact na z
    · rw [hm a z] at h; cases h
  · rcases y.newF a o h with h | h | h
    · exact x.newF a o h
    · exact .inr (.inl (x.dom a h))
    · rw [em] at h
      rcases List.mem_append.mp h with h | h
      · exact .inr (.inr h)
      · exact .inr (.inl (hm a h))
theorem Fr.notin {W W' : Wd} {H H' : Hp} (x : Fr W H W' H') {a : Addr} {o : HO} (h : H a = some o) (n : a ∉ W.rho) : a ∉ W'.rho := by
  obtain ⟨m, em, hm⟩ := x.r
  rw [em]
  intro z
  rcases List.mem_append.mp z with z | z
  · exact n z
  · rw [hm a z] at h; cases h
theorem Fr.nof {W W' : Wd} {H H' : Hp} (x : Fr W H W' H') {a : Addr} {o : HO} (h : H a = some o) (n : W.F a = none) (nr : a ∉ W.rho) : W'.F a = none := by
  cases q : W'.F a with
  | none => rfl
  | some u =>
    rcases x.newF a u q with z | z | z
    · rw [n] at z; cases z
    · rw [z] at h; cases h
    · exact absurd z nr

/-- a new object that is frozen at once -/
theorem Hr.fnone {W : Wd} {h : IH} {H : Hp} (x : Hr G W h H) {p : Addr} (hp : H p = none) : W.F p = none := by
  cases q : W.F p with
  | none => rfl
  | some u => rw [x.sub p u q] at hp; cases hp
theorem Hr.notcell {W : Wd} {h : IH} {H : Hp} (x : Hr G W h H) {p : Addr} (hp : H p = none) : p ∉ W.rho := fun z => by
  obtain ⟨o, e⟩ := x.dom z
  rw [e] at hp; cases hp
abbrev Wd.fz (W : Wd) (p : Addr) (o : HO) : Wd := ⟨upd W.F p o, W.rho⟩
theorem le_fz {W : Wd} {p : Addr} {o : HO} (hp : W.F p = none) : Le W (W.fz p o) :=
  ⟨fun a u h => by
    have e : a ≠ p := fun z => by rw [z, hp] at h; cases h
    show upd W.F p o a = some u
    rw [upd_ne e]; exact h, [], by simp⟩
theorem fr_new {W : Wd} {h : IH} {H : Hp} {p : Addr} {o : HO} (x : Hr G W h H) (hp : H p = none) : Fr W H (W.fz p o) (upd H p o) := by
  refine ⟨(le_fz (x.fnone hp)).f, ⟨[], by simp⟩, fun a u h _ => ?_, fun a u h => ?_, fun a h => ?_⟩
  · rw [upd_ne (ne_of_none h hp)]; exact h
  · by_cases e : a = p
    · exact .inr (.inl (e ▸ hp))
    · have h : upd W.F p o a = some u := h
      rw [upd_ne e] at h; exact .inl h
  · by_cases e : a = p
    · exact e ▸ hp
    · rw [upd_ne e] at h; exact h
/-- a new object that is not frozen -/
theorem fr_own {W : Wd} {H : Hp} {p : Addr} {o : HO} (hp : H p = none) : Fr W H W (upd H p o) := by
  refine ⟨fun _ _ h => h, ⟨[], by simp⟩, fun a u h _ => ?_, fun a u h => .inl h, fun a h => ?_⟩
  · rw [upd_ne (ne_of_none h hp)]; exact h
  · by_cases e : a = p
    · exact e ▸ hp
    · rw [upd_ne e] at h; exact h
theorem CellR.step {W W' : Wd} {H H' : Hp} {a : Addr} {c : Cell} (l : Le W W') (k : ∀ o, H a = some o → H' a = some o) (x : CellR G W H a c) : CellR G W' H' a c := by
  obtain ⟨o, e, z⟩ := x
  exact ⟨o, k _ e, z.mono l⟩
theorem Hr.own {W : Wd} {h : IH} {H : Hp} {p : Addr} {o : HO} (x : Hr G W h H) (hp : H p = none) : Hr G W h (upd H p o) := by
  refine ⟨fun a u q => ?_, x.len, x.nd, fun i a c h1 h2 => CellR.step (Le.refl W) (fun u q => ?_) (x.cell i a c h1 h2), x.nf⟩
  · have := x.sub a u q
    rw [upd_ne (ne_of_none this hp)]; exact this
  · rw [upd_ne (ne_of_none q hp)]; exact q
/-- what stands is frozen -/
theorem Hr.freeze {W : Wd} {h : IH} {H : Hp} {p : Addr} {o : HO} (x : Hr G W h H) (hp : H p = some o) (hn : p ∉ W.rho) (hf : W.F p = none) : Hr G (W.fz p o) h H := by
  refine ⟨fun a u q => ?_, x.len, x.nd, fun i a c h1 h2 => CellR.step (le_fz hf) (fun u q => q) (x.cell i a c h1 h2), fun i a ha nd => ?_⟩
  · by_cases e : a = p
    · subst e
      have q : upd W.F a o a = some u := q
      rw [upd_same] at q; cases q; exact hp
    · have q : upd W.F p o a = some u := q
      rw [upd_ne e] at q; exact x.sub a u q
  · show upd W.F p o a = none
    rw [upd_ne (fun e : a = p => hn (by rw [← e]; exact List.mem_of_getElem? ha))]; exact x.nf i a ha nd
theorem Hr.new {W : Wd} {h : IH} {H : Hp} {p : Addr} {o : HO} (x : Hr G W h H) (hp : H p = none) : Hr G (W.fz p o) h (upd H p o) :=
  (x.own hp).freeze upd_same (x.notcell hp) (x.fnone hp)
/-- a list of our own is frozen: from the time when it did not stand yet -/
theorem Fr.freeze {W W' : Wd} {H H' : Hp} {p : Addr} {o : HO} (x : Fr W H W' H') (hp : H p = none) (hf : W'.F p = none) : Fr W H (W'.fz p o) H' := by
  refine ⟨fun a u h => (le_fz hf).f a u (x.f a u h), x.r, x.pres, fun a u h => ?_, x.dom⟩
  by_cases e : a = p
  · exact .inr (.inl (e ▸ hp))
  · have h : upd W'.F p o a = some u := h
    rw [upd_ne e] at h; exact x.newF a u h

/-- a thing of our own that stands now -/
def Own1 (G : GC) (W : Wd) (H : Hp) (p : Addr) (c : Cell) : Prop := CellR G W H p c ∧ p ∉ W.rho
/-- an operand: as frozen, or a thing of our own that stands now -/
def RepS (G : GC) (W : Wd) (H : Hp) (d : D) (v : V) : Prop :=
  Rep G W d v ∨ ∃ (p : Addr) (c : Cell), c.own = true ∧ d = c.toD ∧ v = .ref p ∧ Own1 G W H p c
/-- an operand that is asked now: a cell too -/
def RepN (G : GC) (W : Wd) (H : Hp) (d : D) (v : V) : Prop :=
  Rep G W d v ∨ ∃ (p : Addr) (c : Cell), c ≠ .dead ∧ d = c.toD ∧ v = .ref p ∧ CellR G W H p c
theorem RepS.now {W : Wd} {H : Hp} {d : D} {v : V} (x : RepS G W H d v) : RepN G W H d v := by
  rcases x with x | ⟨p, c, h1, h2, h3, h4, _⟩
  · exact .inl x
  · exact .inr ⟨p, c, Cell.own_nd h1, h2, h3, h4⟩
theorem RepS.step {W W' : Wd} {H H' : Hp} {d : D} {v : V} (x : RepS G W H d v) (f : Fr W H W' H') : RepS G W' H' d v := by
  rcases x with x | ⟨p, c, h1, h2, h3, ⟨o, h4, h5⟩, h6⟩
  · exact .inl (x.mono f.le)
  · exact .inr ⟨p, c, h1, h2, h3, ⟨o, f.pres _ _ h4 h6, h5.mono f.le⟩, f.notin h4 h6⟩
/-- a cell's thing in the place of its reference -/
def drf (h : IH) (d : D) : D := match d with
  | .ref r => match h[r]? with
    | some (.lst xs) => .lst xs
    | some (.dct t ks vs) => .dct t ks vs
    | _ => d
  | d => d
theorem RepS.drf {W : Wd} {h : IH} {H : Hp} {d : D} {v : V} (hr : Hr G W h H) (x : RepS G W H d v) : RepN G W H (Iv.drf h d) v := by
  cases d with
  | ref r =>
    rcases x with x | ⟨p, c, h1, h2, _⟩
    · cases x with
      | ref e =>
        rename_i a
        show RepN G W H (match h[r]? with
          | some (.lst xs) => .lst xs
          | some (.dct t ks vs) => .dct t ks vs
          | _ => .ref r) _
        split
        · rename_i xs q
          exact .inr ⟨a, .lst xs, by simp, rfl, rfl, hr.cell _ _ _ e q⟩
        · rename_i t ks vs q
          exact .inr ⟨a, .dct t ks vs, by simp, rfl, rfl, hr.cell _ _ _ e q⟩
        · exact .inl (.ref e)
    · cases c <;> cases h2
  | _ => exact x.now
theorem RepN.lst {W : Wd} {h : IH} {H : Hp} {xs : List D} {v : V} (hr : Hr G W h H) (x : RepN G W H (.lst xs) v) : ∃ p vs, v = .ref p ∧ SqL G.K H p vs ∧ xs.length ≤ sizeLine ∧ Reps G W xs vs := by
  rcases x with x | ⟨p, c, h1, h2, h3, h4⟩
  · cases x with
    | lst h z r => exact ⟨_, _, rfl, sqL_le hr.sub h, z, r⟩
  · cases c <;> cases h2
    obtain ⟨vs, e, r, z⟩ := h4.lst
    exact ⟨p, vs, h3, .inl (.inl e), z, r⟩
theorem RepN.tup {W : Wd} {h : IH} {H : Hp} {xs : List D} {v : V} (hr : Hr G W h H) (x : RepN G W H (.tup xs) v) : ∃ p vs, v = .ref p ∧ H p = some (.tup vs) ∧ xs.length ≤ sizeLine ∧ Reps G W xs vs := by
  rcases x with x | ⟨p, c, h1, h2, h3, h4⟩
  · cases x with
    | tup h z r => exact ⟨_, _, rfl, hr.sub _ _ h, z, r⟩
  · cases c <;> cases h2
theorem RepN.int {W : Wd} {H : Hp} {i : Int} {v : V} (x : RepN G W H (.int i) v) : v = .int i := by
  rcases x with x | ⟨p, c, h1, h2, h3, h4⟩
  · cases x; rfl
  · cases c <;> cases h2
theorem RepN.bl {W : Wd} {H : Hp} {i : Bool} {v : V} (x : RepN G W H (.bl i) v) : v = .bl i := by
  rcases x with x | ⟨p, c, h1, h2, h3, h4⟩
  · cases x; rfl
  · cases c <;> cases h2
theorem RepN.non {W : Wd} {H : Hp} {v : V} (x : RepN G W H .non v) : v = .non := by
  rcases x with x | ⟨p, c, h1, h2, h3, h4⟩
  · cases x; rfl
  · cases c <;> first | exact absurd rfl h1 | cases h2
theorem RepN.str {W : Wd} {H : Hp} {z : List Nat} {v : V} (x : RepN G W H (.str z) v) : v = .str ⟨z.toArray⟩ ∧ z.length ≤ sizeLine := by
  rcases x with x | ⟨p, c, h1, h2, h3, h4⟩
  · cases x with
    | str _ h => exact ⟨rfl, h⟩
  · cases c <;> cases h2
theorem RepN.ref {W : Wd} {H : Hp} {r : Nat} {v : V} (x : RepN G W H (.ref r) v) : ∃ a, v = .ref a ∧ W.rho[r]? = some a := by
  rcases x with x | ⟨p, c, h1, h2, h3, h4⟩
  · cases x with
    | ref h => exact ⟨_, rfl, h⟩
  · cases c <;> cases h2
theorem RepN.ins {W : Wd} {h : IH} {H : Hp} {c : Nat} {fs : List D} {v : V} (hr : Hr G W h H) (x : RepN G W H (.ins c fs) v) : ∃ p C dx ns us, v = .ref p ∧ G.cls c = some (C, ns) ∧ H p = some (.ins C dx (ns.zip us)) ∧ us.length ≤ ns.length ∧ Reps G W fs us := by
  rcases x with x | ⟨p, c, h1, h2, h3, h4⟩
  · cases x with
    | ins h1 h2 h3 r => exact ⟨_, _, _, _, _, rfl, h1, hr.sub _ _ h2, h3, r⟩
  · cases c <;> cases h2
    obtain ⟨o, e, C, dx, ns, us, a1, rfl, a3, a4⟩ := h4
    exact ⟨p, C, dx, ns, us, h3, a1, e, a3, a4⟩
theorem RepN.dct {W : Wd} {h : IH} {H : Hp} {t : Bool} {ks vs : List D} {v : V} (hr : Hr G W h H) (x : RepN G W H (.dct t ks vs) v) : ∃ p us u, v = .ref p ∧ Rd H p u ∧ DicO t ks us u ∧ Reps G W vs us := by
  rcases x with x | ⟨p, c, h1, h2, h3, h4⟩
  · cases x with
    | dct h1 h2 r => exact ⟨_, _, _, rfl, .inr ⟨_, hr.sub _ _ h1⟩, h2, r⟩
  · cases c <;> cases h2
    obtain ⟨o, e, us, a1, a2⟩ := h4
    exact ⟨p, us, o, h3, .inl e, a1, a2⟩
/-- an instance: frozen, or a cell -/
def insAt (h : IH) (d : D) : Option (Nat × List D) := match d with
  | .ins c fs => some (c, fs)
  | .ref r => match h[r]? with
    | some (.ins c fs) => some (c, fs)
    | _ => none
  | _ => none
theorem insAt_ok {W : Wd} {h : IH} {H : Hp} {d : D} {v : V} {c : Nat} {fs : List D} (hr : Hr G W h H) (x : RepS G W H d v) (e : insAt h d = some (c, fs)) :
    ∃ p C dx ns us, v = .ref p ∧ G.cls c = some (C, ns) ∧ H p = some (.ins C dx (ns.zip us)) ∧ us.length ≤ ns.length ∧ Reps G W fs us := by
  cases d <;> simp only [insAt, reduceCtorEq] at e
  · rename_i r
    split at e
    · rename_i c' fs' q
      cases e
      rcases x with x | ⟨p, cc, h1, h2, _⟩
      · cases x with
        | ref e =>
          obtain ⟨o, e2, C, dx, ns, us, a1, rfl, a3, a4⟩ := hr.cell _ _ _ e q
          exact ⟨_, C, dx, ns, us, rfl, a1, e2, a3, a4⟩
      · cases cc <;> cases h2
    · cases e
  · cases e
    exact x.now.ins hr

/-! ### the slots -/
inductive Sl where
  | no | val (d : D) | ow (c : Cell)
abbrev Sl.own (xs : List D) : Sl := .ow (.lst xs)
def SlR (G : GC) (W : Wd) (H0 H : Hp) (s : Sl) (v : Option V) : Prop :=
  match s with
  | .no => True
  | .val d => ∃ u, v = some u ∧ Rep G W d u
  | .ow c => ∃ p : Addr, v = some (.ref p) ∧ CellR G W H p c ∧ p ∉ W.rho ∧ W.F p = none ∧ H0 p = none ∧ c.own = true
abbrev Env := List Sl
structure Er (G : GC) (W : Wd) (H0 H : Hp) (env : Env) (σ : St) : Prop where
  len : σ.length = env.length
  at_ : ∀ (i : Nat) (s : Sl) (v : Option V), env[i]? = some s → σ[i]? = some v → SlR G W H0 H s v
  dist : ∀ (i j : Nat) (xs ys : Cell) (p : Addr), env[i]? = some (.ow xs) → env[j]? = some (.ow ys) → σ[i]? = some (some (.ref p)) → σ[j]? = some (some (.ref p)) → i = j
theorem Er.step {W W' : Wd} {H0 H H' : Hp} {env : Env} {σ : St} (x : Er G W H0 H env σ) (f : Fr W H W' H') : Er G W' H0 H' env σ := by
  refine ⟨x.len, fun i s v h1 h2 => ?_, x.dist⟩
  have q := x.at_ i s v h1 h2
  cases s with
  | no => trivial
  | val d => obtain ⟨u, e, r⟩ := q; exact ⟨u, e, r.mono f.le⟩
  | ow c =>
    obtain ⟨p, e, ⟨o, h, z⟩, n, nf, h0, nd⟩ := q
    exact ⟨p, e, ⟨o, f.pres _ _ h n, z.mono f.le⟩, f.notin h n, f.nof h nf n, h0, nd⟩
theorem Er.val {W : Wd} {H0 H : Hp} {env : Env} {σ : St} (x : Er G W H0 H env σ) {i : Nat} {d : D} (h : env[i]? = some (.val d)) : ∃ v, σ[i]? = some (some v) ∧ Rep G W d v := by
  have hi : i < σ.length := by rw [x.len]; exact (List.getElem?_eq_some_iff.mp h).1
  obtain ⟨u, e, r⟩ := x.at_ i _ _ h (List.getElem?_eq_getElem hi)
  exact ⟨u, by rw [List.getElem?_eq_getElem hi, e], r⟩
theorem Er.ow {W : Wd} {H0 H : Hp} {env : Env} {σ : St} (x : Er G W H0 H env σ) {i : Nat} {c : Cell} (h : env[i]? = some (.ow c)) : ∃ p, σ[i]? = some (some (.ref p)) ∧ CellR G W H p c ∧ p ∉ W.rho ∧ W.F p = none ∧ H0 p = none ∧ c.own = true := by
  have hi : i < σ.length := by rw [x.len]; exact (List.getElem?_eq_some_iff.mp h).1
  obtain ⟨p, e, r⟩ := x.at_ i _ _ h (List.getElem?_eq_getElem hi)
  exact ⟨p, by rw [List.getElem?_eq_getElem hi, e], r⟩
end Iv

/-! Iv, part B: the readings of pure evaluation, and a rule for each construct. -/
namespace Iv
open PySem L2
variable {G : GC} {X : Cx} {H0 : Hp} {E : EK}

/-! ### what an evaluation gives -/
/-- what may fly out, at the slots as they stand -/
abbrev EK := St → XK
abbrev RRel := Wd → Hp → Wd → Hp → D → V → Prop
def rrE (G : GC) : RRel := fun _ _ W' _ d v => Rep G W' d v
def rrO (G : GC) : RRel := fun _ _ W' H' d v => RepS G W' H' d v
/-- a thing of our own: new since H, not yet frozen -/
def OwnF (G : GC) (H : Hp) (W' : Wd) (H' : Hp) (c : Cell) (v : V) : Prop := ∃ p : Addr, v = .ref p ∧ CellR G W' H' p c ∧ p ∉ W'.rho ∧ W'.F p = none ∧ H p = none
/-- a list, a dict is new and not yet frozen -/
def rrF (G : GC) : RRel := fun W H W' H' d v => match d with
  | .lst xs => OwnF G H W' H' (.lst xs) v
  | .dct t ks vs => OwnF G H W' H' (.dct t ks vs) v
  | d => Rep G W' d v
/-- a relation that may be told from an earlier time -/
def Up (RR : RRel) : Prop := ∀ W H W1 H1 W' H' d v, Fr W H W1 H1 → RR W1 H1 W' H' d v → RR W H W' H' d v
theorem upE : Up (rrE G) := fun _ _ _ _ _ _ _ _ _ h => h
theorem upO : Up (rrO G) := fun _ _ _ _ _ _ _ _ _ h => h
theorem OwnF.up {H H1 H' : Hp} {W W1 W' : Wd} {c : Cell} {v : V} (f : Fr W H W1 H1) (h : OwnF G H1 W' H' c v) : OwnF G H W' H' c v := by
  obtain ⟨p, h1, h2, h3, h4, h5⟩ := h
  exact ⟨p, h1, h2, h3, h4, f.dom _ h5⟩
theorem upF : Up (rrF G) := fun W H W1 H1 W' H' d v f h => by
  cases d with
  | lst xs => exact OwnF.up f h
  | dct t ks vs => exact OwnF.up f h
  | _ => exact h
def XRep (G : GC) (W : Wd) (H : Hp) (c : Nat) (fs : List D) (cls : Value) (dd : Option Addr) : Prop :=
  ∃ ns : List Str, G.exc c = some (cls, ns) ∧ ((ns = [] ∧ fs = [] ∧ dd = none) ∨ ∃ (d : Addr) (vs : List V), dd = some d ∧ H d = some (.xd (ns.zip vs)) ∧ ns.length = vs.length ∧ Reps G W fs vs)
/-- the exception's way out -/
def KX (G : GC) (E : XK) (W : Wd) (H : Hp) : Nat → List D → IH → Prop := fun c fs h' =>
  ∀ W' H' cls dd, Fr W H W' H' → Hr G W' h' H' → XRep G W' H' c fs cls dd → E cls dd H'
theorem KX.step {E : XK} {W W1 : Wd} {H H1 : Hp} (f : Fr W H W1 H1) {c : Nat} {fs : List D} {h : IH} (x : KX G E W H c fs h) : KX G E W1 H1 c fs h := fun W' H' cls dd f' => x W' H' cls dd (f.trans f')
/-- a value's way on -/
def KQ (G : GC) (RR : RRel) (W : Wd) (H : Hp) (Q : VK) : D → IH → Prop := fun d h' =>
  ∀ W' H' v, Fr W H W' H' → Hr G W' h' H' → RR W H W' H' d v → Q v H'
theorem KQ.step {RR : RRel} (up : Up RR) {W W1 : Wd} {H H1 : Hp} {Q : VK} (f : Fr W H W1 H1) {d : D} {h : IH} (x : KQ G RR W H Q d h) : KQ G RR W1 H1 Q d h :=
  fun W' H' v f' hr r => x W' H' v (f.trans f') hr (up _ _ _ _ _ _ _ _ f r)
def tR (G : GC) (RR : RRel) (E : EK) (ev : Env → M D) : TE := fun σ H Q =>
  ∃ (W : Wd) (h : IH) (env : Env) (H0 : Hp), Hr G W h H ∧ Er G W H0 H env σ ∧ (ev env h).post (KQ G RR W H Q) (KX G (E σ) W H)
/-- a list of arguments -/
def KA (G : GC) (W : Wd) (H : Hp) (Q : List V → Hp → Prop) : List D → IH → Prop := fun ds h' =>
  ∀ W' H' vs, Fr W H W' H' → Hr G W' h' H' → Reps G W' ds vs → Q vs H'
def tAr (G : GC) (E : EK) (ev : Env → M (List D)) : TA := fun σ H Q =>
  ∃ (W : Wd) (h : IH) (env : Env) (H0 : Hp), Hr G W h H ∧ Er G W H0 H env σ ∧ (ev env h).post (KA G W H Q) (KX G (E σ) W H)
/-- a truth value -/
def KB (G : GC) (W : Wd) (H : Hp) (Q : Bool → Hp → Prop) : Bool → IH → Prop := fun b h' =>
  ∀ W' H', Fr W H W' H' → Hr G W' h' H' → Q b H'
def tTr (G : GC) (E : EK) (ev : Env → M Bool) : TT := fun σ H Q =>
  ∃ (W : Wd) (h : IH) (env : Env) (H0 : Hp), Hr G W h H ∧ Er G W H0 H env σ ∧ (ev env h).post (KB G W H Q) (KX G (E σ) W H)
theorem KB.step {W W1 : Wd} {H H1 : Hp} {Q : Bool → Hp → Prop} (f : Fr W H W1 H1) {b : Bool} {h : IH} (x : KB G W H Q b h) : KB G W1 H1 Q b h := fun W' H' f' => x W' H' (f.trans f')
theorem KA.step {W W1 : Wd} {H H1 : Hp} {Q : List V → Hp → Prop} (f : Fr W H W1 H1) {b : List D} {h : IH} (x : KA G W H Q b h) : KA G W1 H1 Q b h := fun W' H' vs f' => x W' H' vs (f.trans f')

/-! ### weakening -/
theorem pe_imp {e : Expr} {t t' : TE} (h : PE X e t) (i : ∀ σ H Q, t' σ H Q → t σ H Q) : PE X e t' := ⟨fun pins s σ H Q I q => h.run pins s σ H Q I (i σ H Q q)⟩
theorem pt_imp {e : Expr} {t t' : TT} (h : PT X e t) (i : ∀ σ H Q, t' σ H Q → t σ H Q) : PT X e t' := ⟨fun pins s σ H Q I q => h.run pins s σ H Q I (i σ H Q q)⟩
theorem pw_imp {e : Expr} {t t' : TT} (h : PW X e t) (i : ∀ σ H Q, t' σ H Q → t σ H Q) : PW X e t' := ⟨fun wh pins s σ H Q I q => h.run wh pins s σ H Q I (i σ H Q q)⟩
theorem pa_imp {es : List Expr} {t t' : TA} (h : PA X es t) (i : ∀ σ H Q, t' σ H Q → t σ H Q) : PA X es t' := ⟨fun pos pins s σ H Q I q => h.run pos pins s σ H Q I (i σ H Q q)⟩
theorem ps_imp {st : Stmt} {t t' : TS} (h : PS X st t) (i : ∀ D σ H, t' D σ H → t D σ H) : PS X st t' := ⟨fun pins s σ H D I q => h.run pins s σ H D I (i D σ H q)⟩
theorem pss_imp {st : List Stmt} {t t' : TS} (h : PSs X st t) (i : ∀ D σ H, t' D σ H → t D σ H) : PSs X st t' := ⟨fun pins s σ H D I q => h.run pins s σ H D I (i D σ H q)⟩

theorem tR_rel {RR RR' : RRel} {ev : Env → M D} (hi : ∀ W H W' H' d v, RR W H W' H' d v → RR' W H W' H' d v) {σ : St} {H : Hp} {Q : VK} (t : tR G RR' E ev σ H Q) : tR G RR E ev σ H Q := by
  obtain ⟨W, h, env, H0, hr, er, p⟩ := t
  exact ⟨W, h, env, H0, hr, er, p.mono (fun d h' k W' H' v f hr' r => k W' H' v f hr' (hi _ _ _ _ _ _ r)) fun _ _ _ k => k⟩
/-- a value may be an operand -/
theorem pe_E2O {e : Expr} {ev : Env → M D} (h : PE X e (tR G (rrE G) E ev)) : PE X e (tR G (rrO G) E ev) := pe_imp h fun _ _ _ => tR_rel fun _ _ _ _ _ _ r => .inl r
/-- a dict that stands may be pinned for good -/
theorem pe_pin {e : Expr} {t : TE} (h : PE X e t) : PE X e (fun σ H Q => t σ H fun v H1 => Q v H1 ∨ ∃ p u, v = .ref p ∧ H1 p = some u ∧ Mut (some u) ∧ ∀ o, Q v (upd H1 p (.frz o u))) :=
  ⟨fun pins s σ H Q I q => wpAny_mono (h.run pins s σ H _ I q) (fun w s' ⟨v, H', I', r, z⟩ => by
    rcases z with z | ⟨p, u, rfl, e, mu, z⟩
    · exact ⟨v, H', I', r, z⟩
    · obtain ⟨od, I2⟩ := I'.lock e mu
      exact ⟨.ref p, _, I2, r, z od⟩) fun _ _ x => x⟩
theorem dicO_mut {t : Bool} {ks : List D} {us : List V} {u : HO} (h : DicO t ks us u) : Mut (some u) := by
  obtain ⟨_, _, _, h⟩ := h
  cases t with
  | false => obtain ⟨kk, _, rfl⟩ := h; trivial
  | true => obtain ⟨kk, _, rfl⟩ := h; trivial
/-- what a new thing of our own is when it is frozen -/
theorem pin_fr {W W' : Wd} {H H' : Hp} {h' : IH} {p : Addr} {o u : HO} (f : Fr W H W' H') (hr' : Hr G W' h' H') (h1 : H' p = some u) (h3 : p ∉ W'.rho) (h4 : W'.F p = none) (h5 : H p = none) :
    Fr W H (W'.fz p o) (upd H' p o) ∧ Hr G (W'.fz p o) h' (upd H' p o) := by
  refine ⟨⟨fun a w q => (le_fz h4).f a w (f.f a w q), f.r, fun a w q n => ?_, fun a w q => ?_, fun a q => ?_⟩, ⟨fun a w q => ?_, hr'.len, hr'.nd, fun i a c q1 q2 => ?_, fun i a q1 q2 => ?_⟩⟩
  · rw [upd_ne (ne_of_none q h5)]; exact f.pres a w q n
  · by_cases e : a = p
    · exact .inr (.inl (e ▸ h5))
    · have q : upd W'.F p o a = some w := q
      rw [upd_ne e] at q; exact f.newF a w q
  · by_cases e : a = p
    · exact e ▸ h5
    · rw [upd_ne e] at q; exact f.dom a q
  · by_cases e : a = p
    · subst e
      have q : upd W'.F a o a = some w := q
      rw [upd_same] at q; cases q; exact upd_same
    · have q : upd W'.F p o a = some w := q
      rw [upd_ne e] at q
      rw [upd_ne e]; exact hr'.sub a w q
  · have ne : a ≠ p := fun e => h3 (by rw [← e]; exact List.mem_of_getElem? q1)
    exact CellR.step (le_fz h4) (fun w q => by rw [upd_ne ne]; exact q) (hr'.cell i a c q1 q2)
  · have ne : a ≠ p := fun e => h3 (by rw [← e]; exact List.mem_of_getElem? q1)
    show upd W'.F p o a = none
    rw [upd_ne ne]; exact hr'.nf i a q1 q2
/-- a new list, dict may be frozen -/
theorem pe_F2E {e : Expr} {ev : Env → M D} (h : PE X e (tR G (rrF G) E ev)) : PE X e (tR G (rrE G) E ev) := pe_imp (pe_pin h) fun σ H Q t => by
  obtain ⟨W, hh, env, H0, hr, er, p⟩ := t
  refine ⟨W, hh, env, H0, hr, er, p.mono (fun d h' k W' H' v f hr' r => ?_) fun _ _ _ k => k⟩
  cases d with
  | lst xs =>
    obtain ⟨q, h1, h2, h3, h4, h5⟩ := r
    obtain ⟨vs, e1, e2, e3⟩ := h2.lst
    subst h1
    exact .inl (k (W'.fz q (.lst vs)) H' _ (f.freeze h5 h4) (hr'.freeze e1 h3 h4) (.lst (.inl (.inl upd_same)) e3 (e2.mono (le_fz h4))))
  | dct t ks vs =>
    obtain ⟨q, h1, ⟨u, e1, us, e2, e3⟩, h3, h4, h5⟩ := r
    subst h1
    refine .inr ⟨q, u, rfl, e1, dicO_mut e2, fun o => ?_⟩
    obtain ⟨n1, n2⟩ := pin_fr (o := .frz o u) f hr' e1 h3 h4 h5
    exact k (W'.fz q (.frz o u)) _ _ n1 n2 (.dct upd_same e2 (e3.mono (le_fz h4)))
  | _ => exact .inl (k W' H' v f hr' r)

/-! ### names, constants -/
def eVar (i : Nat) (env : Env) : M D := match env[i]? with
  | some (.val d) => ret d
  | _ => fun _ => .bad
def ePeek (i : Nat) (env : Env) : M D := match env[i]? with
  | some (.val d) => ret d
  | some (.ow c) => ret c.toD
  | _ => fun _ => .bad
theorem eVar_some {i : Nat} {env : Env} {h : IH} {K : D → IH → Prop} {Y : Nat → List D → IH → Prop} (p : (eVar i env h).post K Y) : ∃ d, env[i]? = some (.val d) ∧ K d h := by
  unfold eVar at p
  cases e : env[i]? with
  | none => rw [e] at p; exact p.elim
  | some s =>
    rw [e] at p
    cases s with
    | val d => exact ⟨d, rfl, p⟩
    | no => exact p.elim
    | ow xs => exact p.elim
theorem pev_var {i : Nat} {x : Str} {pos : Pos} (hN : X.N[i]? = some x) (hv : Vis X.env.scope x) (hd : (x == ("__debug__" : Str)) = false) (hcd : (x == ("__classdict__" : Str)) = false) :
    PE X (.Name x pos) (tR G (rrE G) E (eVar i)) := pe_imp (pe_var (pos := pos) hN hv hd hcd) fun σ H Q ⟨W, h, env, H0, hr, er, p⟩ => by
  obtain ⟨d, e, k⟩ := eVar_some p
  obtain ⟨v, e1, r⟩ := er.val e
  exact ⟨v, e1, k W H v (Fr.refl W H) hr r⟩
theorem pev_peek {i : Nat} {x : Str} {pos : Pos} (hN : X.N[i]? = some x) (hv : Vis X.env.scope x) (hd : (x == ("__debug__" : Str)) = false) (hcd : (x == ("__classdict__" : Str)) = false) :
    PE X (.Name x pos) (tR G (rrO G) E (ePeek i)) := pe_imp (pe_var (pos := pos) hN hv hd hcd) fun σ H Q ⟨W, h, env, H0, hr, er, p⟩ => by
  unfold ePeek at p
  cases e : env[i]? with
  | none => rw [e] at p; exact p.elim
  | some s =>
   rw [e] at p
   cases s with
   | no => exact p.elim
   | val d =>
    obtain ⟨v, e1, r⟩ := er.val e
    exact ⟨v, e1, p W H v (Fr.refl W H) hr (.inl r)⟩
   | ow c =>
    obtain ⟨q, e1, h1, h2, h3, h4, h5⟩ := er.ow e
    exact ⟨.ref q, e1, p W H _ (Fr.refl W H) hr (.inr ⟨q, c, h5, rfl, rfl, h1, h2⟩)⟩
theorem pev_cst {e : Expr} {v : V} {d : D} (h : PE X e (tC v)) (r : ∀ W, Rep G W d v) : PE X e (tR G (rrE G) E fun _ => ret d) := pe_imp h fun σ H Q ⟨W, h, env, H0, hr, er, p⟩ =>
  p W H v (Fr.refl W H) hr (r W)

/-! ### operations on two values -/
/-- f gives what op tells, and leaves the cells as they are -/
def OpSem (G : GC) (RR : RRel) (r : R2) (op : IH → D → D → Option D) : Prop :=
  ∀ (W : Wd) (h : IH) (H : Hp) (x y : D) (v u : V) (d : D) (Q : VK), Hr G W h H → RepN G W H x v → RepN G W H y u → op h x y = some d →
    (∀ W' H' z, Fr W H W' H' → Hr G W' h H' → RR W H W' H' d z → Q z H') → r v u H Q
def liftH (op : IH → D → D → Option D) (x y : D) : M D := fun h => lft (op h (drf h x) (drf h y)) h
/-- a function of a thing as it stands now -/
def lftN {α : Type} (g : D → Option α) (x : D) : M α := fun h => lft (g (drf h x)) h
def eOp (op : IH → D → D → Option D) (fa fb : Env → M D) (env : Env) : M D := bnd (fa env) fun x => bnd (fb env) fun y => liftH op x y
theorem two_of {RR : RRel} (up : Up RR) {r : R2} {op : IH → D → D → Option D} (sem : OpSem G RR r op) {fa fb : Env → M D} {σ : St} {H : Hp} {Q : VK}
    (t : tR G RR E (eOp op fa fb) σ H Q) : tOp r (tR G (rrO G) E fa) (tR G (rrO G) E fb) σ H Q := by
  obtain ⟨W, h, env, H0, hr, er, p⟩ := t
  refine ⟨W, h, env, H0, hr, er, ?_⟩
  refine (post_bnd.mp p).mono (fun x h1 p1 W1 H1 v f1 hr1 r1 => ?_) fun _ _ _ k => k
  refine ⟨W1, h1, env, H0, hr1, er.step f1, ?_⟩
  refine (post_bnd.mp p1).mono (fun y h2 p2 W2 H2 u f2 hr2 r2 => ?_) fun _ _ _ k => k.step f1
  obtain ⟨d, e, k⟩ := post_lft p2
  exact sem W2 h2 H2 _ _ v u d Q hr2 (RepS.drf hr2 (RepS.step r1 f2)) (RepS.drf hr2 r2) e fun W' H' z f3 hr3 r3 => k W' H' z (f1.trans (f2.trans f3)) hr3 (up _ _ _ _ _ _ _ _ (f1.trans f2) r3)
theorem pev_op {RR : RRel} (up : Up RR) {op : Operator} {r : R2} {f : IH → D → D → Option D} {a b : Expr} {fa fb : Env → M D} {pos : Pos} (ho : OpR X (binaryOp op) r) (sem : OpSem G RR r f)
    (ha : PE X a (tR G (rrO G) E fa)) (hb : PE X b (tR G (rrO G) E fb)) : PE X (.BinOp a op b pos) (tR G RR E (eOp f fa fb)) := pe_imp (pe_op ho ha hb) fun _ _ _ => two_of up sem
theorem pev_cmp {op : CmpOp} {r : R2} {f : IH → D → D → Option D} {a b : Expr} {fa fb : Env → M D} {pos : Pos} (ho : OpR X (compareOp op) r) (sem : OpSem G (rrE G) r f)
    (ha : PE X a (tR G (rrO G) E fa)) (hb : PE X b (tR G (rrO G) E fb)) (hm : behindInMarks op b = false) : PE X (.Compare a [op] [b] pos) (tR G (rrE G) E (eOp f fa fb)) :=
  pe_imp (pe_cmpR ho ha hb hm) fun _ _ _ => two_of upE sem
theorem pev_ix {r : R2} {f : IH → D → D → Option D} {a b : Expr} {fa fb : Env → M D} {pos : Pos} (ho : IxR X r) (sem : OpSem G (rrE G) r f)
    (ha : PE X a (tR G (rrO G) E fa)) (hb : PE X b (tR G (rrO G) E fb)) (hs : PlainIx b) : PE X (.Subscript a b pos) (tR G (rrE G) E (eOp f fa fb)) :=
  pe_imp (pe_ix ho ha hb hs) fun _ _ _ => two_of upE sem

/-! ### tests -/
def asB (d : D) : Option Bool := match d with
  | .bl b => some b
  | _ => none
theorem asB_some {d : D} {b : Bool} (h : asB d = some b) : d = .bl b := by
  cases d <;> simp [asB] at h
  rw [h]
def toB (ev : Env → M D) (env : Env) : M Bool := bnd (ev env) fun d => lft (asB d)
/-- what is wanted of a test, as what is wanted of its value -/
theorem test_of {ev : Env → M D} {σ : St} {H : Hp} {Q : Bool → Hp → Prop} (t : tTr G E (toB ev) σ H Q) : tR G (rrE G) E ev σ H (fun x H1 => ∃ c, x = .bl c ∧ Q c H1) := by
  obtain ⟨W, h, env, H0, hr, er, p⟩ := t
  refine ⟨W, h, env, H0, hr, er, (post_bnd.mp p).mono (fun d h1 p1 W1 H1 v f1 hr1 r1 => ?_) fun _ _ _ k => k⟩
  obtain ⟨b, e, k⟩ := post_lft p1
  have e := asB_some e
  subst e
  cases r1
  exact ⟨b, rfl, k W1 H1 f1 hr1⟩
theorem ptv_val {e : Expr} {ev : Env → M D} (h : PE X e (tR G (rrE G) E ev)) (he : ∀ whole, isTrue e X.env whole = (do let v ← whole; standAt e.pos; holding [v] (truthy v))) :
    PT X e (tTr G E (toB ev)) := pt_imp (pt_val h he) fun _ _ _ => test_of
theorem ptv_cmp {op : CmpOp} {r : R2} {f : IH → D → D → Option D} {a b : Expr} {fa fb : Env → M D} {pos : Pos} (ho : OpR X (compareOp op) r) (sem : OpSem G (rrE G) r f)
    (ha : PE X a (tR G (rrO G) E fa)) (hb : PE X b (tR G (rrO G) E fb)) (hm : behindInMarks op b = false) : PT X (.Compare a [op] [b] pos) (tTr G E (toB (eOp f fa fb))) :=
  pt_imp (pt_cmpR ho ha hb hm) fun _ _ _ t => two_of upE sem (test_of t)

/-! ### and, or, not, if else -/
def eAnd (ta : Env → M Bool) (fb : Env → M D) (env : Env) : M D := bnd (ta env) fun c => if c = true then fb env else ret (.bl false)
def eOr (ta : Env → M Bool) (fb : Env → M D) (env : Env) : M D := bnd (ta env) fun c => if c = true then ret (.bl true) else fb env
def eNot (ta : Env → M Bool) (env : Env) : M D := bnd (ta env) fun c => ret (.bl (!c))
def eIf (ta : Env → M Bool) (fa fb : Env → M D) (env : Env) : M D := bnd (ta env) fun c => if c = true then fa env else fb env
theorem ptv_and {a b : Expr} {rest : List Expr} {fa fb : Env → M D} {pos : Pos} (ha : PT X a (tTr G E (toB fa))) (hb : PW X (.BoolOp .And (b :: rest) pos) (tTr G E (toB fb))) :
    PW X (.BoolOp .And (a :: b :: rest) pos) (tTr G E (toB (eAnd (toB fa) fb))) := pw_imp (pw_and ha hb) fun σ H Q ⟨W, h, env, H0, hr, er, p⟩ => by
  refine ⟨W, h, env, H0, hr, er, (post_bnd.mp (post_bnd.mp p)).mono (fun c h1 p1 W1 H1 f1 hr1 => ?_) fun _ _ _ k => k⟩
  cases c with
  | true =>
    rw [if_pos rfl]
    rw [if_pos rfl] at p1
    exact ⟨W1, h1, env, H0, hr1, er.step f1, post_bnd.mpr (p1.mono (fun d h2 p2 => p2.mono (fun b h3 k => k.step f1) fun _ _ _ k => k.step f1) fun _ _ _ k => k.step f1)⟩
  | false =>
    rw [if_neg Bool.false_ne_true]
    rw [if_neg Bool.false_ne_true] at p1
    exact p1 W1 H1 f1 hr1
theorem ptv_or {a b : Expr} {rest : List Expr} {fa fb : Env → M D} {pos : Pos} (ha : PT X a (tTr G E (toB fa))) (hb : PW X (.BoolOp .Or (b :: rest) pos) (tTr G E (toB fb))) :
    PW X (.BoolOp .Or (a :: b :: rest) pos) (tTr G E (toB (eOr (toB fa) fb))) := pw_imp (pw_or ha hb) fun σ H Q ⟨W, h, env, H0, hr, er, p⟩ => by
  refine ⟨W, h, env, H0, hr, er, (post_bnd.mp (post_bnd.mp p)).mono (fun c h1 p1 W1 H1 f1 hr1 => ?_) fun _ _ _ k => k⟩
  cases c with
  | true =>
    rw [if_pos rfl]
    rw [if_pos rfl] at p1
    exact p1 W1 H1 f1 hr1
  | false =>
    rw [if_neg Bool.false_ne_true]
    rw [if_neg Bool.false_ne_true] at p1
    exact ⟨W1, h1, env, H0, hr1, er.step f1, post_bnd.mpr (p1.mono (fun d h2 p2 => p2.mono (fun b h3 k => k.step f1) fun _ _ _ k => k.step f1) fun _ _ _ k => k.step f1)⟩
theorem ptv_and1 {a : Expr} {fa : Env → M D} {pos : Pos} (ha : PT X a (tTr G E (toB fa))) : PW X (.BoolOp .And [a] pos) (tTr G E (toB fa)) := pw_and1 ha
theorem ptv_or1 {a : Expr} {fa : Env → M D} {pos : Pos} (ha : PT X a (tTr G E (toB fa))) : PW X (.BoolOp .Or [a] pos) (tTr G E (toB fa)) := pw_or1 ha
theorem ptv_not {a : Expr} {fa : Env → M D} {pos : Pos} (ha : PT X a (tTr G E (toB fa))) : PT X (.UnaryOp .Not a pos) (tTr G E (toB (eNot (toB fa)))) := pt_imp (pt_not ha) fun σ H Q ⟨W, h, env, H0, hr, er, p⟩ => by
  exact ⟨W, h, env, H0, hr, er, (post_bnd.mp (post_bnd.mp p)).mono (fun c h1 p1 W1 H1 f1 hr1 => p1 W1 H1 f1 hr1) fun _ _ _ k => k⟩
theorem bool_of {ev : Env → M D} {W : Wd} {h : IH} {H : Hp} {env : Env} {σ : St} {Q : Bool → Hp → Prop} (hr : Hr G W h H) (er : Er G W H0 H env σ)
    (p : (toB ev env h).post (KB G W H Q) (KX G (E σ) W H)) : tR G (rrE G) E ev σ H (fun x H1 => ∃ c, x = .bl c ∧ Q c H1) := test_of ⟨W, h, env, H0, hr, er, p⟩
theorem pev_and {a b : Expr} {rest : List Expr} {fa fb : Env → M D} {pos : Pos} (ha : PE X a (tR G (rrE G) E fa)) (hb : PE X (.BoolOp .And (b :: rest) pos) (tR G (rrE G) E fb)) :
    PE X (.BoolOp .And (a :: b :: rest) pos) (tR G (rrE G) E (eAnd (toB fa) fb)) := pe_imp (pe_and ha hb) fun σ H Q ⟨W, h, env, H0, hr, er, p⟩ => by
  refine bool_of (Q := fun c H1 => if c = true then tR G (rrE G) E fb σ H1 Q else Q (.bl false) H1) hr er ((post_bnd.mp p).mono (fun c h1 p1 W1 H1 f1 hr1 => ?_) fun _ _ _ k => k)
  cases c with
  | true =>
    rw [if_pos rfl]
    rw [if_pos rfl] at p1
    exact ⟨W1, h1, env, H0, hr1, er.step f1, p1.mono (fun d h2 k => k.step upE f1) fun _ _ _ k => k.step f1⟩
  | false =>
    rw [if_neg Bool.false_ne_true]
    rw [if_neg Bool.false_ne_true] at p1
    exact p1 W1 H1 _ f1 hr1 (.bl false)
theorem pev_or {a b : Expr} {rest : List Expr} {fa fb : Env → M D} {pos : Pos} (ha : PE X a (tR G (rrE G) E fa)) (hb : PE X (.BoolOp .Or (b :: rest) pos) (tR G (rrE G) E fb)) :
    PE X (.BoolOp .Or (a :: b :: rest) pos) (tR G (rrE G) E (eOr (toB fa) fb)) := pe_imp (pe_or ha hb) fun σ H Q ⟨W, h, env, H0, hr, er, p⟩ => by
  refine bool_of (Q := fun c H1 => if c = true then Q (.bl true) H1 else tR G (rrE G) E fb σ H1 Q) hr er ((post_bnd.mp p).mono (fun c h1 p1 W1 H1 f1 hr1 => ?_) fun _ _ _ k => k)
  cases c with
  | true =>
    rw [if_pos rfl]
    rw [if_pos rfl] at p1
    exact p1 W1 H1 _ f1 hr1 (.bl true)
  | false =>
    rw [if_neg Bool.false_ne_true]
    rw [if_neg Bool.false_ne_true] at p1
    exact ⟨W1, h1, env, H0, hr1, er.step f1, p1.mono (fun d h2 k => k.step upE f1) fun _ _ _ k => k.step f1⟩
theorem pev_not {a : Expr} {fa : Env → M D} {pos : Pos} (ha : PE X a (tR G (rrE G) E fa)) : PE X (.UnaryOp .Not a pos) (tR G (rrE G) E (eNot (toB fa))) := pe_imp (pe_not ha) fun σ H Q ⟨W, h, env, H0, hr, er, p⟩ => by
  exact bool_of (Q := fun c H1 => Q (.bl (!c)) H1) hr er ((post_bnd.mp p).mono (fun c h1 p1 W1 H1 f1 hr1 => p1 W1 H1 _ f1 hr1 (.bl _)) fun _ _ _ k => k)
theorem pev_if {RR : RRel} (up : Up RR) {c a b : Expr} {fc fa fb : Env → M D} {pos : Pos} (hc : PT X c (tTr G E (toB fc))) (ha : PE X a (tR G RR E fa)) (hb : PE X b (tR G RR E fb)) :
    PE X (.IfExp c a b pos) (tR G RR E (eIf (toB fc) fa fb)) := pe_imp (pe_ifExp hc ha hb) fun σ H Q ⟨W, h, env, H0, hr, er, p⟩ => by
  refine ⟨W, h, env, H0, hr, er, (post_bnd.mp p).mono (fun c h1 p1 W1 H1 f1 hr1 => ?_) fun _ _ _ k => k⟩
  cases c with
  | true =>
    rw [if_pos rfl]
    rw [if_pos rfl] at p1
    exact ⟨W1, h1, env, H0, hr1, er.step f1, p1.mono (fun d h2 k => k.step up f1) fun _ _ _ k => k.step f1⟩
  | false =>
    rw [if_neg Bool.false_ne_true]
    rw [if_neg Bool.false_ne_true] at p1
    exact ⟨W1, h1, env, H0, hr1, er.step f1, p1.mono (fun d h2 k => k.step up f1) fun _ _ _ k => k.step f1⟩

/-! ### a op b op c -/
def eChain (f g : IH → D → D → Option D) (fa fb fc : Env → M D) (env : Env) : M D :=
  bnd (fa env) fun x => bnd (fb env) fun y => bnd (liftH f x y) fun z => bnd (lft (asB z)) fun k => if k = true then bnd (fc env) fun u => liftH g y u else ret (.bl false)
theorem chain_of {r r' : R2} {f g : IH → D → D → Option D} (sem : OpSem G (rrE G) r f) (sem' : OpSem G (rrE G) r' g) {fa fb fc : Env → M D} {σ : St} {H : Hp} {Q : VK}
    (t : tR G (rrE G) E (eChain f g fa fb fc) σ H Q) : tChain r r' (tR G (rrO G) E fa) (tR G (rrO G) E fb) (tR G (rrO G) E fc) σ H Q := by
  obtain ⟨W, h, env, H0, hr, er, p⟩ := t
  refine ⟨W, h, env, H0, hr, er, (post_bnd.mp p).mono (fun x h1 p1 W1 H1 v f1 hr1 r1 => ?_) fun _ _ _ k => k⟩
  refine ⟨W1, h1, env, H0, hr1, er.step f1, (post_bnd.mp p1).mono (fun y h2 p2 W2 H2 u f2 hr2 r2 => ?_) fun _ _ _ k => k.step f1⟩
  obtain ⟨z, e, k0⟩ := post_lft (post_bnd.mp p2)
  obtain ⟨c, ec, k⟩ := post_lft (post_bnd.mp k0)
  have ec := asB_some ec
  subst ec
  refine sem W2 h2 H2 _ _ v u _ _ hr2 (RepS.drf hr2 (RepS.step r1 f2)) (RepS.drf hr2 r2) e fun W3 H3 z' f3 hr3 r3 => ?_
  cases r3
  refine ⟨c, rfl, ?_⟩
  cases c with
  | false =>
    rw [if_neg Bool.false_ne_true]
    rw [if_neg Bool.false_ne_true] at k
    exact k W3 H3 _ (f1.trans (f2.trans f3)) hr3 (.bl false)
  | true =>
    rw [if_pos rfl]
    rw [if_pos rfl] at k
    refine ⟨W3, h2, env, H0, hr3, ((er.step f1).step f2).step f3, (post_bnd.mp k).mono (fun w h4 p4 W4 H4 z4 f4 hr4 r4 => ?_) fun _ _ _ k => k.step (f1.trans (f2.trans f3))⟩
    obtain ⟨d, e4, k4⟩ := post_lft p4
    exact sem' W4 h4 H4 _ _ u z4 d Q hr4 (RepS.drf hr4 ((RepS.step r2 f3).step f4)) (RepS.drf hr4 r4) e4 fun W' H' zz f5 hr5 r5 => k4 W' H' zz (f1.trans (f2.trans (f3.trans (f4.trans f5)))) hr5 r5
theorem pev_chain {op op' : CmpOp} {r r' : R2} {f g : IH → D → D → Option D} {a b c : Expr} {fa fb fc : Env → M D} {pos : Pos} (ho : OpR X (compareOp op) r) (ho' : OpR X (compareOp op') r')
    (sem : OpSem G (rrE G) r f) (sem' : OpSem G (rrE G) r' g) (ha : PE X a (tR G (rrO G) E fa)) (hb : PE X b (tR G (rrO G) E fb)) (hc : PE X c (tR G (rrO G) E fc)) (hm : lastMarks [op, op'] [b, c] = false) :
    PE X (.Compare a [op, op'] [b, c] pos) (tR G (rrE G) E (eChain f g fa fb fc)) := pe_imp (pe_chain ho ho' ha hb hc hm) fun _ _ _ => chain_of sem sem'
theorem ptv_chain {op op' : CmpOp} {r r' : R2} {f g : IH → D → D → Option D} {a b c : Expr} {fa fb fc : Env → M D} {pos : Pos} (ho : OpR X (compareOp op) r) (ho' : OpR X (compareOp op') r')
    (sem : OpSem G (rrE G) r f) (sem' : OpSem G (rrE G) r' g) (ha : PE X a (tR G (rrO G) E fa)) (hb : PE X b (tR G (rrO G) E fb)) (hc : PE X c (tR G (rrO G) E fc)) (hm : lastMarks [op, op'] [b, c] = false) :
    PT X (.Compare a [op, op'] [b, c] pos) (tTr G E (toB (eChain f g fa fb fc))) := pt_imp (pt_chain ho ho' ha hb hc hm) fun _ _ _ t => chain_of sem sem' (test_of t)

/-! ### argument lists, displays -/
def aNil (_ : Env) : M (List D) := ret []
def aCons (f : Env → M D) (g : Env → M (List D)) (env : Env) : M (List D) := bnd (f env) fun x => bnd (g env) fun xs => ret (x :: xs)
def seqOf (d : D) : Option (List D) := match d with
  | .tup xs => some xs
  | .lst xs => some xs
  | _ => none
def aStar (f : Env → M D) (g : Env → M (List D)) (env : Env) : M (List D) := bnd (f env) fun x => bnd (lftN seqOf x) fun xs => bnd (g env) fun ys => ret (xs ++ ys)
theorem pav_nil : PA X [] (tAr G E aNil) := pa_imp pa_nil fun σ H Q ⟨W, h, env, H0, hr, er, p⟩ => p W H [] (Fr.refl W H) hr .nil
theorem starEach_cons {e : Expr} {es : List Expr} {env : PySem.Env} (h : ∀ a p, e ≠ .Starred a p) : starEach (e :: es) env = (false, eval e env) :: starEach es env := by
  cases e <;> first
    | rfl
    | exact absurd rfl (h _ _)
theorem pav_cons {e : Expr} {es : List Expr} {f : Env → M D} {g : Env → M (List D)} (he : PE X e (tR G (rrE G) E f)) (hs : PA X es (tAr G E g)) (hn : ∀ a p, e ≠ .Starred a p) : PA X (e :: es) (tAr G E (aCons f g)) :=
  pa_imp (pa_cons he hs (starEach_cons hn)) fun σ H Q ⟨W, h, env, H0, hr, er, p⟩ => by
    refine ⟨W, h, env, H0, hr, er, (post_bnd.mp p).mono (fun x h1 p1 W1 H1 v f1 hr1 r1 => ?_) fun _ _ _ k => k⟩
    refine ⟨W1, h1, env, H0, hr1, er.step f1, (post_bnd.mp p1).mono (fun xs h2 p2 W2 H2 us f2 hr2 r2 => ?_) fun _ _ _ k => k.step f1⟩
    exact p2 W2 H2 (v :: us) (f1.trans f2) hr2 (.cons (Rep.mono f2.le r1) r2)
theorem pav_star {e : Expr} {es : List Expr} {f : Env → M D} {g : Env → M (List D)} {p : Pos} (hK : X.K = G.K) (he : PE X e (tR G (rrO G) E f)) (hs : PA X es (tAr G E g)) : PA X (.Starred e p :: es) (tAr G E (aStar f g)) :=
  pa_imp (StX.pa_star he hs rfl) fun σ H Q ⟨W, h, env, H0, hr, er, p⟩ => by
    refine ⟨W, h, env, H0, hr, er, (post_bnd.mp p).mono (fun x h1 p1 W1 H1 v f1 hr1 r1 => ?_) fun _ _ _ k => k⟩
    obtain ⟨xs, e, k⟩ := post_lft (post_bnd.mp p1)
    have go : ∀ vs, Reps G W1 xs vs → tAr G E g σ H1 (fun ys H2 => Q (vs ++ ys) H2) := fun vs rv => by
      refine ⟨W1, h1, env, H0, hr1, er.step f1, (post_bnd.mp k).mono (fun ys h2 p2 W2 H2 us f2 hr2 r2 => ?_) fun _ _ _ k => k.step f1⟩
      exact p2 W2 H2 (vs ++ us) (f1.trans f2) hr2 ((rv.mono f2.le).append r2)
    have rn := RepS.drf hr1 r1
    generalize drf h1 x = y at e rn
    cases y <;> simp only [seqOf, Option.some.injEq, reduceCtorEq] at e
    · subst e
      obtain ⟨q, vs, e1, e2, _, e4⟩ := RepN.tup hr1 rn
      exact ⟨q, vs, e1, .inl (.inl (.inl e2)), go vs e4⟩
    · subst e
      obtain ⟨q, vs, e1, e2, _, e4⟩ := RepN.lst hr1 rn
      exact ⟨q, vs, e1, .inr (by rw [hK]; exact e2), go vs e4⟩
def fits (n : Nat) : Option Unit := if n ≤ 16777216 then some () else none
theorem fits_le {n : Nat} {u : Unit} (h : fits n = some u) : n ≤ sizeLine := by
  unfold fits at h
  split at h
  · rw [sizeLine_eq]; assumption
  · cases h
def eTup (g : Env → M (List D)) (env : Env) : M D := bnd (g env) fun xs => bnd (lft (fits xs.length)) fun _ => ret (.tup xs)
def eLst (g : Env → M (List D)) (env : Env) : M D := bnd (g env) fun xs => bnd (lft (fits xs.length)) fun _ => ret (.lst xs)
/-- a new tuple -/
theorem new_tup {W : Wd} {h : IH} {H : Hp} {xs : List D} {vs : List V} {p : Addr} (hr : Hr G W h H) (hz : xs.length ≤ sizeLine) (r : Reps G W xs vs) (hp : H p = none) :
    Fr W H (W.fz p (.tup vs)) (upd H p (.tup vs)) ∧ Hr G (W.fz p (.tup vs)) h (upd H p (.tup vs)) ∧ Rep G (W.fz p (.tup vs)) (.tup xs) (.ref p) :=
  ⟨fr_new hr hp, hr.new hp, .tup upd_same hz (r.mono (le_fz (hr.fnone hp)))⟩
/-- a new list -/
theorem new_lst {W : Wd} {h : IH} {H : Hp} {xs : List D} {vs : List V} {p : Addr} (hr : Hr G W h H) (hz : xs.length ≤ sizeLine) (r : Reps G W xs vs) (hp : H p = none) :
    Fr W H W (upd H p (.lst vs)) ∧ Hr G W h (upd H p (.lst vs)) ∧ rrF G W H W (upd H p (.lst vs)) (.lst xs) (.ref p) :=
  ⟨fr_own hp, hr.own hp, p, rfl, CellR.mkL upd_same r hz, hr.notcell hp, hr.fnone hp, hp⟩
theorem pev_tup {es : List Expr} {g : Env → M (List D)} {k : Nat} {pos : Pos} (h : PA X es (tAr G E g)) : PE X (.Tuple es k pos) (tR G (rrE G) E (eTup g)) := pe_imp (pe_tup h) fun σ H Q ⟨W, hh, env, H0, hr, er, p⟩ => by
  refine ⟨W, hh, env, H0, hr, er, (post_bnd.mp p).mono (fun xs h1 p1 W1 H1 vs f1 hr1 r1 => ?_) fun _ _ _ k => k⟩
  obtain ⟨u, e, k⟩ := post_lft (post_bnd.mp p1)
  have hz := fits_le e
  refine ⟨by rw [← r1.length]; exact hz, fun q hq => ?_⟩
  obtain ⟨n1, n2, n3⟩ := new_tup hr1 hz r1 hq
  exact k _ _ _ (f1.trans n1) n2 n3
theorem pev_lst {es : List Expr} {g : Env → M (List D)} {pos : Pos} (h : PA X es (tAr G E g)) : PE X (.List es pos) (tR G (rrF G) E (eLst g)) := pe_imp (pe_lst h) fun σ H Q ⟨W, hh, env, H0, hr, er, p⟩ => by
  refine ⟨W, hh, env, H0, hr, er, (post_bnd.mp p).mono (fun xs h1 p1 W1 H1 vs f1 hr1 r1 => ?_) fun _ _ _ k => k⟩
  obtain ⟨u, e, k⟩ := post_lft (post_bnd.mp p1)
  have hz := fits_le e
  refine ⟨by rw [← r1.length]; exact hz, fun q hq => ?_⟩
  obtain ⟨n1, n2, n3⟩ := new_lst hr1 hz r1 hq
  exact k _ _ _ (f1.trans n1) n2 (upF _ _ _ _ _ _ _ _ f1 n3)
end Iv

/-! Iv, part C: operations on pure values, and that the model's operations give the same. -/
namespace Iv
open PySem L2
variable {G : GC} {X : Cx}

/-! ### data as the library has it -/
mutual
def D.py : D → PyData
  | .non => .none | .bl b => .bool b | .int i => .int i | .str x => .str ⟨x.toArray⟩
  | .tup xs => .tuple (D.pys xs) | .lst xs => .list (D.pys xs) | .ref _ => .none | .ins _ _ => .none | .dct _ _ _ => .none
def D.pys : List D → List PyData
  | [] => []
  | x :: xs => D.py x :: D.pys xs
end
mutual
/-- data: no reference, no instance -/
def D.dat : D → Bool
  | .tup xs => D.dats xs | .lst xs => D.dats xs | .ref _ => false | .ins _ _ => false | .dct _ _ _ => false
  | .non => true | .bl _ => true | .int _ => true | .str _ => true
def D.dats : List D → Bool
  | [] => true
  | x :: xs => D.dat x && D.dats xs
end
mutual
def D.depth : D → Nat
  | .tup xs => D.depths xs + 1 | .lst xs => D.depths xs + 1
  | .non => 0 | .bl _ => 0 | .int _ => 0 | .str _ => 0 | .ref _ => 0 | .ins _ _ => 0 | .dct _ _ _ => 0
def D.depths : List D → Nat
  | [] => 0
  | x :: xs => max (D.depth x) (D.depths xs)
end
mutual
/-- == of data -/
def D.eqv : D → D → Bool
  | .non, .non => true
  | .bl a, .bl b => a == b
  | .bl a, .int j => (if a then 1 else 0) == j
  | .int i, .bl b => i == (if b then 1 else 0)
  | .int i, .int j => i == j
  | .str x, .str y => x == y
  | .lst xs, .lst ys => D.eqvs xs ys
  | .tup xs, .tup ys => D.eqvs xs ys
  | _, _ => false
def D.eqvs : List D → List D → Bool
  | [], [] => true
  | x :: xs, y :: ys => D.eqv x y && D.eqvs xs ys
  | _, _ => false
end
theorem str_beq (x y : List Nat) : ((⟨x.toArray⟩ : Str) == ⟨y.toArray⟩) = (x == y) := by
  rw [Bool.eq_iff_iff]
  simp
mutual
theorem eqv_py : ∀ x y : D, x.dat = true → y.dat = true → PyData.eqv x.py y.py = D.eqv x y
  | .non, y, _, hy => by cases y <;> first | rfl | exact absurd hy Bool.false_ne_true
  | .bl a, y, _, hy => by cases y <;> first | rfl | exact absurd hy Bool.false_ne_true
  | .int a, y, _, hy => by cases y <;> first | rfl | exact absurd hy Bool.false_ne_true
  | .str a, y, _, hy => by
    cases y <;> first
      | rfl
      | exact absurd hy Bool.false_ne_true
      | (simp only [D.py, PyData.eqv, D.eqv]; exact str_beq _ _)
  | .tup xs, y, hx, hy => by
    cases y <;> first
      | rfl
      | exact absurd hy Bool.false_ne_true
      | (simp only [D.py, PyData.eqv, D.eqv]; exact eqvs_py xs _ (by simpa [D.dat] using hx) (by simpa [D.dat] using hy))
  | .lst xs, y, hx, hy => by
    cases y <;> first
      | rfl
      | exact absurd hy Bool.false_ne_true
      | (simp only [D.py, PyData.eqv, D.eqv]; exact eqvs_py xs _ (by simpa [D.dat] using hx) (by simpa [D.dat] using hy))
  | .ref _, _, hx, _ => absurd hx Bool.false_ne_true
  | .ins _ _, _, hx, _ => absurd hx Bool.false_ne_true
  | .dct _ _ _, _, hx, _ => absurd hx Bool.false_ne_true
theorem eqvs_py : ∀ xs ys : List D, D.dats xs = true → D.dats ys = true → PyData.eqvAll (D.pys xs) (D.pys ys) = D.eqvs xs ys
  | [], [], _, _ => rfl
  | [], _ :: _, _, _ => rfl
  | _ :: _, [], _, _ => rfl
  | x :: xs, y :: ys, hx, hy => by
    simp only [D.dats, Bool.and_eq_true] at hx hy
    simp only [D.pys, PyData.eqvAll, D.eqvs]
    rw [eqv_py x y hx.1 hy.1, eqvs_py xs ys hx.2 hy.2]
end
mutual
theorem plain_py : ∀ x : D, x.py.plain = true
  | .non => rfl
  | .bl _ => rfl
  | .int _ => rfl
  | .str _ => rfl
  | .ref _ => rfl
  | .ins _ _ => rfl
  | .dct _ _ _ => rfl
  | .tup xs => by simp only [D.py, PyData.plain]; exact plains_py xs
  | .lst xs => by simp only [D.py, PyData.plain]; exact plains_py xs
theorem plains_py : ∀ xs : List D, PyData.plainAll (D.pys xs) = true
  | [] => rfl
  | x :: xs => by simp only [D.pys, PyData.plainAll, plain_py x, plains_py xs]; rfl
end
mutual
theorem depth_py : ∀ x : D, x.py.depth = x.depth
  | .non => rfl
  | .bl _ => rfl
  | .int _ => rfl
  | .str _ => rfl
  | .ref _ => rfl
  | .ins _ _ => rfl
  | .dct _ _ _ => rfl
  | .tup xs => by simp only [D.py, PyData.depth, D.depth, depths_py xs]
  | .lst xs => by simp only [D.py, PyData.depth, D.depth, depths_py xs]
theorem depths_py : ∀ xs : List D, PyData.depthAll (D.pys xs) = D.depths xs
  | [] => rfl
  | x :: xs => by simp only [D.pys, PyData.depthAll, D.depths, depth_py x, depths_py xs]
end
theorem pys_length : ∀ xs : List D, (D.pys xs).length = xs.length
  | [] => rfl
  | x :: xs => by simp [D.pys, pys_length xs]
theorem pys_map : ∀ xs : List D, D.pys xs = xs.map D.py
  | [] => rfl
  | x :: xs => by simp [D.pys, pys_map xs]
mutual
theorem Rep.dp {W : Wd} {H : Hp} (sub : ∀ a o, W.F a = some o → H a = some o) : ∀ {d : D} {v : V}, Rep G W d v → d.dat = true → Dp G.K H v d.py
  | _, _, .non, _ => .non
  | _, _, .bl b, _ => .bl b
  | _, _, .int i, _ => .int i
  | _, _, .str x _, _ => .str _
  | _, _, .tup h _ r, k => by rw [D.py]; exact .tup (.inl (.inl (sub _ _ h))) (Reps.dp sub r (by simpa [D.dat] using k))
  | _, _, .lst h _ r, k => by rw [D.py]; exact .lst (sqL_le sub h) (Reps.dp sub r (by simpa [D.dat] using k))
  | _, _, .ref _, k => absurd k Bool.false_ne_true
  | _, _, .ins _ _ _ _, k => absurd k Bool.false_ne_true
  | _, _, .dct _ _ _, k => absurd k Bool.false_ne_true
theorem Reps.dp {W : Wd} {H : Hp} (sub : ∀ a o, W.F a = some o → H a = some o) : ∀ {ds : List D} {vs : List V}, Reps G W ds vs → D.dats ds = true → DpAll G.K H vs (D.pys ds)
  | _, _, .nil, _ => .nil
  | _, _, .cons r t, k => by
    simp only [D.dats, Bool.and_eq_true] at k
    exact .cons (Rep.dp sub r k.1) (Reps.dp sub t k.2)
end
theorem RepN.dp {W : Wd} {h : IH} {H : Hp} {d : D} {v : V} (hr : Hr G W h H) (x : RepN G W H d v) (k : d.dat = true) : Dp G.K H v d.py := by
  rcases x with x | ⟨p, c, h1, h2, h3, h4⟩
  · exact x.dp hr.sub k
  · subst h2 h3
    cases c with
    | lst xs =>
      obtain ⟨vs, e, r, _⟩ := h4.lst
      show Dp G.K H (.ref p) (D.lst xs).py
      rw [D.py]
      have k : (D.lst xs).dat = true := k
      exact .lst (.inl (.inl e)) (r.dp hr.sub (by simpa [D.dat] using k))
    | ins c fs => exact absurd k Bool.false_ne_true
    | dct t ks vs => exact absurd k Bool.false_ne_true
    | dead => exact absurd rfl h1

/-! ### ==, != -/
abbrev rDat (K : PySem.W.Frag) (g : PyData → PyData → V) (P : PyData → PyData → Prop) : R2 := fun x y H Q => ∃ d e, Dp K H x d ∧ Dp K H y e ∧ P d e ∧ Q (g d e) H
def PEq (d e : PyData) : Prop := d.plain = true ∧ e.plain = true ∧ min d.depth e.depth ≤ 64
theorem op_eqP (hu : X.A.units + 70 < cLine) : OpR X (compareOp .Eq) (rDat X.K (fun d e => .bl (PyData.eqv d e)) PEq) := by
  intro pins s σ H x y v u Q I rx ry h
  obtain ⟨d, e, hd, he, ⟨p1, p2, p3⟩, q⟩ := h
  obtain ⟨as, r1⟩ := Dp.reads I d x v hd rx
  obtain ⟨bs, r2⟩ := Dp.reads I e y u he ry
  exact SeqAt.eq_plain r1 r2 p1 p2 (by omega) ⟨.bl _, H, I, rfl, q⟩
theorem op_neP (hu : X.A.units + 70 < cLine) : OpR X (compareOp .NotEq) (rDat X.K (fun d e => .bl (!PyData.eqv d e)) PEq) := by
  intro pins s σ H x y v u Q I rx ry h
  obtain ⟨d, e, hd, he, ⟨p1, p2, p3⟩, q⟩ := h
  obtain ⟨as, r1⟩ := Dp.reads I d x v hd rx
  obtain ⟨bs, r2⟩ := Dp.reads I e y u he ry
  exact SeqAt.ne_plain r1 r2 p1 p2 (by omega) ⟨.bl _, H, I, rfl, q⟩
def eqOk (x y : D) : Bool := x.dat && y.dat && decide (min x.depth y.depth ≤ 64)
theorem eqOk_of {x y : D} (h : eqOk x y = true) : x.dat = true ∧ y.dat = true ∧ PEq x.py y.py := by
  simp only [eqOk, Bool.and_eq_true, decide_eq_true_eq] at h
  exact ⟨h.1.1, h.1.2, plain_py x, plain_py y, by rw [depth_py, depth_py]; exact h.2⟩
def opEq (_ : IH) (x y : D) : Option D := if eqOk x y = true then some (.bl (D.eqv x y)) else none
def opNe (_ : IH) (x y : D) : Option D := if eqOk x y = true then some (.bl (!D.eqv x y)) else none
theorem sem_eq : OpSem G (rrE G) (rDat G.K (fun d e => .bl (PyData.eqv d e)) PEq) opEq := by
  intro W h H x y v u d Q hr rx ry e k
  unfold opEq at e
  split at e
  · rename_i c
    cases e
    obtain ⟨h1, h2, h3⟩ := eqOk_of c
    refine ⟨_, _, rx.dp hr h1, ry.dp hr h2, h3, ?_⟩
    show Q (.bl (PyData.eqv x.py y.py)) H
    rw [eqv_py x y h1 h2]
    exact k W H _ (Fr.refl W H) hr (.bl _)
  · cases e
theorem sem_ne : OpSem G (rrE G) (rDat G.K (fun d e => .bl (!PyData.eqv d e)) PEq) opNe := by
  intro W h H x y v u d Q hr rx ry e k
  unfold opNe at e
  split at e
  · rename_i c
    cases e
    obtain ⟨h1, h2, h3⟩ := eqOk_of c
    refine ⟨_, _, rx.dp hr h1, ry.dp hr h2, h3, ?_⟩
    show Q (.bl (!PyData.eqv x.py y.py)) H
    rw [eqv_py x y h1 h2]
    exact k W H _ (Fr.refl W H) hr (.bl _)
  · cases e

/-! ### <, <= and their turns -/
mutual
/-- x op y: none where two places that differ can't be put in order -/
def ordP (op : CmpOp) : PyData → PyData → Option Bool
  | .int i, .int j => match op with
    | .Lt => some (decide (i < j)) | .LtE => some (decide (i ≤ j)) | .Gt => some (decide (j < i)) | .GtE => some (decide (j ≤ i)) | _ => none
  | .str x, .str y => match op with
    | .Lt => some (decide (x.cps.toList < y.cps.toList)) | .LtE => some (!decide (y.cps.toList < x.cps.toList))
    | .Gt => some (decide (y.cps.toList < x.cps.toList)) | .GtE => some (!decide (x.cps.toList < y.cps.toList)) | _ => none
  | .tuple xs, .tuple ys => ordPs op xs ys
  | _, _ => none
def ordPs (op : CmpOp) : List PyData → List PyData → Option Bool
  | [], [] => some (match op with | .LtE => true | .GtE => true | _ => false)
  | [], _ :: _ => some (match op with | .LtE => true | .Lt => true | _ => false)
  | _ :: _, [] => some (match op with | .GtE => true | .Gt => true | _ => false)
  | x :: xs, y :: ys =>
    if PyData.eqv x y = true then ordPs op xs ys
    else match ordP op x y, ordPs op xs ys with
      | some r, some _ => some r
      | _, _ => none
end
def isOrd : CmpOp → Bool
  | .Lt => true | .LtE => true | .Gt => true | .GtE => true | _ => false
/-- the lengths alone -/
def ordLen (op : CmpOp) (n m : Nat) : Bool := match op with
  | .Lt => decide (n < m) | .LtE => decide (n ≤ m) | .Gt => decide (m < n) | .GtE => decide (m ≤ n) | _ => false
def eAt (xs ys : List PyData) (j : Nat) : Bool := match xs[j]?, ys[j]? with
  | some x, some y => PyData.eqv x y
  | _, _ => false
def rAt (op : CmpOp) (xs ys : List PyData) (j : Nat) : Bool := match xs[j]?, ys[j]? with
  | some x, some y => (ordP op x y).getD false
  | _, _ => false
theorem lexAt_shift {e r : Nat → Bool} {z : Bool} : ∀ (k i : Nat), Ob.lexAt e r z (i + 1) k = Ob.lexAt (fun j => e (j + 1)) (fun j => r (j + 1)) z i k
  | 0, _ => rfl
  | k + 1, i => by rw [Ob.lexAt_succ, Ob.lexAt_succ, lexAt_shift k (i + 1)]
theorem ordPs_lex (op : CmpOp) (ho : isOrd op = true) : ∀ (xs ys : List PyData) (b : Bool), ordPs op xs ys = some b →
    Ob.lexAt (eAt xs ys) (rAt op xs ys) (ordLen op xs.length ys.length) 0 (min xs.length ys.length) = b
  | [], [], b, h => by
    cases op <;> simp [isOrd] at ho <;> simp [ordPs] at h <;> subst h <;> rfl
  | [], y :: ys, b, h => by
    cases op <;> simp [isOrd] at ho <;> simp [ordPs] at h <;> subst h <;> simp [Ob.lexAt_zero, ordLen]
  | x :: xs, [], b, h => by
    cases op <;> simp [isOrd] at ho <;> simp [ordPs] at h <;> subst h <;> simp [Ob.lexAt_zero, ordLen]
  | x :: xs, y :: ys, b, h => by
    have e1 : min (x :: xs).length (y :: ys).length = min xs.length ys.length + 1 := by simp only [List.length_cons]; omega
    have e2 : ordLen op (x :: xs).length (y :: ys).length = ordLen op xs.length ys.length := by
      cases op <;> simp [ordLen]
    have e3 : (fun j => eAt (x :: xs) (y :: ys) (j + 1)) = eAt xs ys := by funext j; simp [eAt]
    have e4 : (fun j => rAt op (x :: xs) (y :: ys) (j + 1)) = rAt op xs ys := by funext j; simp [rAt]
    rw [e1, e2, Ob.lexAt_succ, lexAt_shift, e3, e4]
    have e5 : eAt (x :: xs) (y :: ys) 0 = PyData.eqv x y := rfl
    have e6 : rAt op (x :: xs) (y :: ys) 0 = (ordP op x y).getD false := rfl
    rw [e5, e6]
    rw [ordPs] at h
    by_cases c : PyData.eqv x y = true
    · rw [if_pos c] at h ⊢
      exact ordPs_lex op ho xs ys b h
    · rw [if_neg c] at h ⊢
      cases q : ordP op x y with
      | none => rw [q] at h; cases h
      | some r =>
        cases q2 : ordPs op xs ys with
        | none => rw [q, q2] at h; cases h
        | some t => rw [q, q2] at h; cases h; rfl
theorem ordPs_at (op : CmpOp) : ∀ (xs ys : List PyData) (b : Bool), ordPs op xs ys = some b → ∀ (j : Nat) (x y : PyData), xs[j]? = some x → ys[j]? = some y → PyData.eqv x y = false → ∃ r, ordP op x y = some r ∧ rAt op xs ys j = r
  | [], _, _, _, j, x, y, h1, _, _ => by simp at h1
  | _ :: _, [], _, _, j, x, y, _, h2, _ => by simp at h2
  | x' :: xs, y' :: ys, b, h, j, x, y, h1, h2, c => by
    rw [ordPs] at h
    cases j with
    | zero =>
      simp only [List.getElem?_cons_zero, Option.some.injEq] at h1 h2
      subst h1 h2
      rw [if_neg (by rw [c]; exact Bool.false_ne_true)] at h
      cases q : ordP op x' y' with
      | none => rw [q] at h; cases h
      | some r => exact ⟨r, rfl, by show (ordP op x' y').getD false = r; rw [q]; rfl⟩
    | succ j =>
      simp only [List.getElem?_cons_succ] at h1 h2
      have go : ∃ t, ordPs op xs ys = some t := by
        by_cases c' : PyData.eqv x' y' = true
        · rw [if_pos c'] at h; exact ⟨b, h⟩
        · rw [if_neg c'] at h
          cases q2 : ordPs op xs ys with
          | none =>
            rw [q2] at h
            cases q : ordP op x' y' <;> rw [q] at h <;> cases h
          | some t => exact ⟨t, rfl⟩
      obtain ⟨t, ht⟩ := go
      obtain ⟨r, e1, e2⟩ := ordPs_at op xs ys t ht j x y h1 h2 c
      exact ⟨r, e1, by rw [← e2]; simp [rAt]⟩
theorem readsAll_at {h : Heap} : ∀ {vs : List Value} {xs : List PyData} {as : List Addr}, ReadsAll h vs xs as → ∀ (j : Nat) (h1 : j < vs.length), ∃ x as', xs[j]? = some x ∧ Reads h vs[j] x as' ∧ x.depth ≤ PyData.depthAll xs ∧ (PyData.plainAll xs = true → x.plain = true)
  | _, _, _, .cons r rs, 0, _ => ⟨_, _, rfl, r, by simp only [PyData.depthAll]; exact Nat.le_max_left _ _, fun p => by simp only [PyData.plainAll, Bool.and_eq_true] at p; exact p.1⟩
  | _, _, _, .cons r rs, j + 1, h1 => by
    obtain ⟨x, as', e, q, dd, pp⟩ := readsAll_at rs j (Nat.lt_of_succ_lt_succ h1)
    exact ⟨x, as', by simpa using e, by simpa using q, by simp only [PyData.depthAll]; exact Nat.le_trans dd (Nat.le_max_right _ _), fun p => by simp only [PyData.plainAll, Bool.and_eq_true] at p; exact pp p.2⟩
theorem rcOp_reads (op : CmpOp) (ho : isOrd op = true) : ∀ (n : Nat) (d e : PyData), d.depth ≤ n → ∀ (A : Around) (s : Shared) (v u : Value) (as bs : List Addr) (b : Bool), Reads s.heap v d as → Reads s.heap u e bs → d.plain = true → e.plain = true →
    A.units + n < cLine → ordP op d e = some b → Ob.RcOp op A s v u b := by
  intro n
  induction n with
  | zero =>
    intro d e hn A s v u as bs b r1 r2 p1 p2 hu h
    cases d <;> cases e <;> simp only [ordP, reduceCtorEq] at h
    · cases r1; cases r2
      cases op <;> simp only [isOrd, Bool.false_eq_true] at ho <;> simp only [Option.some.injEq] at h <;> subst h
      · exact Ob.RcOp.lt_int _ _ _ _
      · exact Ob.RcOp.le_int _ _ _ _
      · exact Ob.RcOp.gt_int _ _ _ _
      · exact Ob.RcOp.ge_int _ _ _ _
    · cases r1; cases r2
      cases op <;> simp only [isOrd, Bool.false_eq_true] at ho <;> simp only [Option.some.injEq] at h <;> subst h <;> intro prog w E Q q
      · exact PyProof.Rows.lt_str q
      · exact PySem.P.le_str (by simpa using q)
      · exact PySem.P.gt_str q
      · exact PySem.P.ge_str (by simpa using q)
    · simp only [PyData.depth] at hn; omega
  | succ n ih =>
    intro d e hn A s v u as bs b r1 r2 p1 p2 hu h
    cases d <;> cases e <;> simp only [ordP, reduceCtorEq] at h
    · cases r1; cases r2
      cases op <;> simp only [isOrd, Bool.false_eq_true] at ho <;> simp only [Option.some.injEq] at h <;> subst h
      · exact Ob.RcOp.lt_int _ _ _ _
      · exact Ob.RcOp.le_int _ _ _ _
      · exact Ob.RcOp.gt_int _ _ _ _
      · exact Ob.RcOp.ge_int _ _ _ _
    · cases r1; cases r2
      cases op <;> simp only [isOrd, Bool.false_eq_true] at ho <;> simp only [Option.some.injEq] at h <;> subst h <;> intro prog w E Q q
      · exact PyProof.Rows.lt_str q
      · exact PySem.P.le_str (by simpa using q)
      · exact PySem.P.gt_str q
      · exact PySem.P.ge_str (by simpa using q)
    · rename_i xs ys
      simp only [PyData.depth] at hn
      simp only [PyData.plain] at p1 p2
      cases r1 with
      | @tuple l o vs n1 _ as1 h1 h2 h3 h4 =>
      cases r2 with
      | @tuple l' o' vs' n2 _ bs1 k1 k2 k3 k4 =>
      have hl : s.heap.IsTuple l vs := ⟨_, h1, h2, _, h3⟩
      have hl' : s.heap.IsTuple l' vs' := ⟨_, k1, k2, _, k3⟩
      have z1 : vs.size = xs.length := by simpa using SeqAt.ReadsAll.length _ _ _ h4
      have z2 : vs'.size = ys.length := by simpa using SeqAt.ReadsAll.length _ _ _ k4
      have he : ∀ j (j1 : j < vs.size) (j2 : j < vs'.size), SeqAt.EqAt A.in1 s vs[j] vs'[j] (eAt xs ys j) := fun j j1 j2 => by
        obtain ⟨x, as', ex, rx, dx, px⟩ := readsAll_at h4 j (by simpa using j1)
        obtain ⟨y, bs', ey, ry, dy, py⟩ := readsAll_at k4 j (by simpa using j2)
        have e0 : eAt xs ys j = PyData.eqv x y := by simp [eAt, ex, ey]
        rw [e0]
        have := SeqAt.eqAt_plain x y A.in1 s vs[j] vs'[j] as' bs' (by simpa using rx) (by simpa using ry) (px p1) (py p2) (by
          show A.units + 1 + _ < _
          have := Nat.min_le_left x.depth y.depth
          omega)
        exact this
      have hr : ∀ j (j1 : j < vs.size) (j2 : j < vs'.size), eAt xs ys j = false → Ob.RcOp op A.in1 s vs[j] vs'[j] (rAt op xs ys j) := fun j j1 j2 c => by
        obtain ⟨x, as', ex, rx, dx, px⟩ := readsAll_at h4 j (by simpa using j1)
        obtain ⟨y, bs', ey, ry, dy, py⟩ := readsAll_at k4 j (by simpa using j2)
        have e0 : eAt xs ys j = PyData.eqv x y := by simp [eAt, ex, ey]
        rw [e0] at c
        obtain ⟨r, o1, o2⟩ := ordPs_at op xs ys b h j x y ex ey c
        rw [o2]
        exact ih x y (by omega) A.in1 s _ _ as' bs' r (by simpa using rx) (by simpa using ry) (px p1) (py p2) (by show A.units + 1 + n < _; omega) o1
      have hz : A.units < cLine := by omega
      have lex := ordPs_lex op ho xs ys b h
      rw [← z1, ← z2] at lex
      cases op <;> simp only [isOrd, Bool.false_eq_true] at ho
      · have := Ob.RcOp.tuples_lt hl hl' hz he hr
        simp only [ordLen] at lex
        rw [lex] at this; exact this
      · have := Ob.RcOp.tuples_le hl hl' hz he hr
        simp only [ordLen] at lex
        rw [lex] at this; exact this
      · have := Ob.RcOp.tuples_gt hl hl' hz he hr
        simp only [ordLen] at lex
        rw [lex] at this; exact this
      · have := Ob.RcOp.tuples_ge hl hl' hz he hr
        simp only [ordLen] at lex
        rw [lex] at this; exact this

def POrd (op : CmpOp) (d e : PyData) : Prop := d.plain = true ∧ e.plain = true ∧ d.depth ≤ 64 ∧ (ordP op d e).isSome = true
theorem op_ord (op : CmpOp) (ho : isOrd op = true) (hu : X.A.units + 70 < cLine) : OpR X (compareOp op) (rDat X.K (fun d e => .bl ((ordP op d e).getD false)) (POrd op)) := by
  intro pins s σ H x y v u Q I rx ry h
  obtain ⟨d, e, hd, he, ⟨p1, p2, p3, p4⟩, q⟩ := h
  obtain ⟨as, r1⟩ := Dp.reads I d x v hd rx
  obtain ⟨bs, r2⟩ := Dp.reads I e y u he ry
  obtain ⟨b, hb⟩ := Option.isSome_iff_exists.mp p4
  have q : Q (.bl ((ordP op d e).getD false)) H := q
  rw [hb] at q
  have z := rcOp_reads op ho 64 d e p3 X.A s v u as bs b r1 r2 p1 p2 (by omega) hb X.prog X.w X.xe (EP X pins σ Q) ⟨.bl b, H, I, rfl, q⟩
  have e : compareOp op v u = richCompare op v u := by cases op <;> simp only [isOrd, Bool.false_eq_true] at ho <;> rfl
  rw [e]; exact z
def ordOk (x y : D) : Bool := x.dat && y.dat && decide (x.depth ≤ 64)
def opOrd (op : CmpOp) (_ : IH) (x y : D) : Option D := if ordOk x y = true then (ordP op x.py y.py).map D.bl else none
theorem sem_ord (op : CmpOp) : OpSem G (rrE G) (rDat G.K (fun d e => .bl ((ordP op d e).getD false)) (POrd op)) (opOrd op) := by
  intro W h H x y v u d Q hr rx ry e k
  unfold opOrd at e
  split at e
  · rename_i c
    simp only [ordOk, Bool.and_eq_true, decide_eq_true_eq] at c
    obtain ⟨b, hb, e⟩ := Option.map_eq_some_iff.mp e
    subst e
    refine ⟨_, _, rx.dp hr c.1.1, ry.dp hr c.1.2, ⟨plain_py x, plain_py y, by rw [depth_py]; exact c.2, by rw [hb]; rfl⟩, ?_⟩
    show Q (.bl ((ordP op x.py y.py).getD false)) H
    rw [hb]
    exact k W H _ (Fr.refl W H) hr (.bl _)
  · cases e

/-! ### arithmetic -/
def opII (g : Int → Int → Option Int) (_ : IH) (x y : D) : Option D := match x, y with
  | .int i, .int j => (g i j).map D.int
  | _, _ => none
theorem opII_some {g : Int → Int → Option Int} {h : IH} {x y d : D} (e : opII g h x y = some d) : ∃ i j z, x = .int i ∧ y = .int j ∧ g i j = some z ∧ d = .int z := by
  cases x <;> cases y <;> simp only [opII, reduceCtorEq] at e
  obtain ⟨z, h1, h2⟩ := Option.map_eq_some_iff.mp e
  exact ⟨_, _, z, rfl, rfl, h1, h2.symm⟩
theorem sem_rI {C : Int → Int → Prop} {f : Int → Int → Int} {g : Int → Int → Option Int} (hg : ∀ i j z, g i j = some z → C i j ∧ z = f i j) : OpSem G (rrE G) (rI C fun i j => .int (f i j)) (opII g) := by
  intro W h H x y v u d Q hr rx ry e k
  obtain ⟨i, j, z, rfl, rfl, e1, rfl⟩ := opII_some e
  obtain ⟨c, rfl⟩ := hg i j z e1
  exact ⟨i, j, rx.int, ry.int, c, k W H _ (Fr.refl W H) hr (.int _)⟩
def opSub := opII fun i j => some (i - j)
def opMul := opII fun i j => if (-(2 ^ 64) < i ∧ i < 2 ^ 64) ∨ (-(2 ^ 64) < j ∧ j < 2 ^ 64) then some (i * j) else none
def opFdiv := opII fun i j => if 0 < j ∧ j < 1073741824 then some (i / j) else none
def opMod := opII fun i j => if 0 < j then some (i % j) else none
def opPow := opII fun i j => if 0 ≤ j ∧ j ≤ 1000000 ∧ i.natAbs < 2 ^ 64 then some (i ^ j.toNat) else none
def opAnd := opII fun i j => some (Builtin.bitAnd i j)
theorem sem_sub : OpSem G (rrE G) (rI0 fun i j => .int (i - j)) opSub := by
  intro W h H x y v u d Q hr rx ry e k
  obtain ⟨i, j, z, rfl, rfl, e1, rfl⟩ := opII_some e
  cases e1
  exact ⟨i, j, rx.int, ry.int, k W H _ (Fr.refl W H) hr (.int _)⟩
theorem sem_and : OpSem G (rrE G) (rI0 fun i j => .int (Builtin.bitAnd i j)) opAnd := by
  intro W h H x y v u d Q hr rx ry e k
  obtain ⟨i, j, z, rfl, rfl, e1, rfl⟩ := opII_some e
  cases e1
  exact ⟨i, j, rx.int, ry.int, k W H _ (Fr.refl W H) hr (.int _)⟩
theorem sem_mul : OpSem G (rrE G) (rI CMul fun i j => .int (i * j)) opMul := sem_rI fun i j z e => by
  split at e
  · cases e; exact ⟨by assumption, rfl⟩
  · cases e
theorem sem_fdiv : OpSem G (rrE G) (rI CDiv fun i j => .int (i / j)) opFdiv := sem_rI fun i j z e => by
  split at e
  · cases e; exact ⟨by assumption, rfl⟩
  · cases e
theorem sem_mod : OpSem G (rrE G) (rI (fun _ j => 0 < j) fun i j => .int (i % j)) opMod := sem_rI fun i j z e => by
  split at e
  · cases e; exact ⟨by assumption, rfl⟩
  · cases e
theorem sem_pow : OpSem G (rrE G) (rI CPow fun i j => .int (i ^ j.toNat)) opPow := sem_rI fun i j z e => by
  split at e
  · cases e; exact ⟨by assumption, rfl⟩
  · cases e

/-! ### + -/
def rCatL (K : PySem.W.Frag) : R2 := fun x y H Q => ∃ l b xs zs, x = .ref l ∧ y = .ref b ∧ SqL K H l xs ∧ SqL K H b zs ∧ xs.length + zs.length ≤ sizeLine ∧ ∀ p, H p = none → Q (.ref p) (upd H p (.lst (xs ++ zs)))
theorem op_catL : OpR X (binaryOp .Add) (rCatL X.K) := by
  intro pins s σ H x y v u Q I rx ry h
  obtain ⟨l, b, xs, zs, rfl, rfl, hH, hB, hz, q⟩ := h
  cases rx
  cases ry
  obtain ⟨its, r, pl, _⟩ := I.list hH
  obtain ⟨its2, r2, pl2, _⟩ := I.list hB
  obtain ⟨⟨cls, dd, data, sl⟩, n, ho, hc, _, hd⟩ := id pl
  obtain ⟨⟨cls2, dd2, data2, sl2⟩, n2, ho2, hc2, _, hd2⟩ := id pl2
  simp only at hc hd hc2 hd2
  subst hc hd hc2 hd2
  have hl := r.length
  have hl2 := r2.length
  have e : its.toArray ++ its2.toArray = (its ++ its2).toArray := by simp
  refine PySem.concat_meets ⟨_, ho, rfl⟩ ⟨_, ho2, rfl⟩ PySem.noFill_list_add PySem.seq_list_add PySem.F.slot_list_add PySem.F.entry_list_add (PySem.F.args_list_add_2 _ _) (PyProof.Rows.list_addW l b its.toArray its2.toArray n n2 dd dd2 sl sl2 (by simp only [List.size_toArray]; omega)) ⟨ho, ho2, ?_⟩
  rw [e]
  exact ⟨.ref _, _, I.lnew (t' := s.toks) (r.append r2) (by rw [List.length_append]; omega), rfl, q _ I.fresh⟩
def rAdd (K : PySem.W.Frag) : R2 := fun x y H Q => (rI0 (fun i j => .int (i + j)) x y H Q) ∨ (∃ i j, x = .str i ∧ y = .str j ∧ i.length + j.length ≤ sizeLine ∧ Q (.str (i ++ j)) H) ∨ rCatL K x y H Q ∨ rCatA K x y H Q
theorem op_addA : OpR X (binaryOp .Add) (rAdd X.K) := op_add.or (op_add_str.or (op_catL.or op_catA))
def opAdd (_ : IH) (x y : D) : Option D := match x, y with
  | .int i, .int j => some (.int (i + j))
  | .str a, .str b => if a.length + b.length ≤ 16777216 then some (.str (a ++ b)) else none
  | .lst a, .lst b => if a.length + b.length ≤ 16777216 then some (.lst (a ++ b)) else none
  | .tup a, .tup b => if a.length + b.length ≤ 16777216 then some (.tup (a ++ b)) else none
  | _, _ => none
theorem str_app (a b : List Nat) : (⟨a.toArray⟩ : Str) ++ (⟨b.toArray⟩ : Str) = ⟨(a ++ b).toArray⟩ := by
  show (⟨a.toArray ++ b.toArray⟩ : Str) = _
  simp
theorem sem_add : OpSem G (rrF G) (rAdd G.K) opAdd := by
  intro W h H x y v u d Q hr rx ry e k
  have hs := sizeLine_eq
  cases x <;> cases y <;> simp only [opAdd, reduceCtorEq] at e
  · cases e
    exact .inl ⟨_, _, rx.int, ry.int, k W H _ (Fr.refl W H) hr (.int _)⟩
  · split at e
    · cases e
      rename_i c
      obtain ⟨e1, _⟩ := rx.str
      obtain ⟨e2, _⟩ := ry.str
      refine .inr (.inl ⟨_, _, e1, e2, by simp only [Str.length, List.size_toArray]; omega, ?_⟩)
      rw [str_app]
      exact k W H _ (Fr.refl W H) hr (.str _ (by rw [List.length_append]; omega))
    · cases e
  · split at e
    · cases e
      rename_i xs ys c
      obtain ⟨p, vs, e1, s1, _, r1⟩ := RepN.tup hr rx
      obtain ⟨p2, us, e2, s2, _, r2⟩ := RepN.tup hr ry
      subst e1 e2
      have l1 := r1.length
      have l2 := r2.length
      refine .inr (.inr (.inr ⟨p, p2, vs, us, rfl, rfl, .inl (.inl s1), .inl (.inl s2), by omega, fun z => ?_, fun _ z => ?_, fun _ _ q hq => ?_⟩))
      · subst z
        cases r1
        rcases ry with ry | ⟨_, c, _, z, _⟩
        · exact k W H _ (Fr.refl W H) hr ry
        · cases c <;> cases z
      · subst z
        cases r2
        rw [List.append_nil] at k
        rcases rx with rx | ⟨_, c, _, z, _⟩
        · exact k W H _ (Fr.refl W H) hr rx
        · cases c <;> cases z
      · obtain ⟨n1, n2, n3⟩ := new_tup hr (xs := xs ++ ys) (by rw [List.length_append]; omega) (r1.append r2) hq
        exact k _ _ _ n1 n2 n3
    · cases e
  · split at e
    · cases e
      rename_i xs ys c
      obtain ⟨p, vs, e1, s1, _, r1⟩ := RepN.lst hr rx
      obtain ⟨p2, us, e2, s2, _, r2⟩ := RepN.lst hr ry
      subst e1 e2
      have l1 := r1.length
      have l2 := r2.length
      refine .inr (.inr (.inl ⟨p, p2, vs, us, rfl, rfl, s1, s2, by omega, fun q hq => ?_⟩))
      obtain ⟨n1, n2, n3⟩ := new_lst hr (xs := xs ++ ys) (by rw [List.length_append]; omega) (r1.append r2) hq
      exact k _ _ _ n1 n2 n3
    · cases e

/-! ### in, not in -/
def PIn (d e : PyData) : Prop := d.plain = true ∧ e.plain = true ∧ d.depth ≤ 64 ∧ ∃ xs, e = .list xs ∨ e = .tuple xs
def itemsP (e : PyData) : List PyData := match e with
  | .list xs => xs
  | .tuple xs => xs
  | _ => []
theorem op_inP (hu : X.A.units + 70 < cLine) : OpR X (compareOp .In) (rDat X.K (fun d e => .bl ((itemsP e).any fun z => PyData.eqv z d)) PIn) := by
  intro pins s σ H x y v u Q I rx ry h
  obtain ⟨d, e, hd, he, ⟨p1, p2, p3, xs, pe⟩, q⟩ := h
  obtain ⟨as, r1⟩ := Dp.reads I d x v hd rx
  obtain ⟨bs, r2⟩ := Dp.reads I e y u he ry
  rcases pe with rfl | rfl
  · exact SeqAt.in_list_data r2 r1 (by simpa only [PyData.plain] using p2) p1 (by have := Nat.min_le_right (PyData.depthAll xs) d.depth; omega) ⟨.bl _, H, I, rfl, q⟩
  · exact SeqAt.in_tuple_data r2 r1 (by simpa only [PyData.plain] using p2) p1 (by have := Nat.min_le_right (PyData.depthAll xs) d.depth; omega) ⟨.bl _, H, I, rfl, q⟩
theorem op_ninP (hu : X.A.units + 70 < cLine) : OpR X (compareOp .NotIn) (rDat X.K (fun d e => .bl (!(itemsP e).any fun z => PyData.eqv z d)) PIn) := by
  intro pins s σ H x y v u Q I rx ry h
  obtain ⟨d, e, hd, he, ⟨p1, p2, p3, xs, pe⟩, q⟩ := h
  obtain ⟨as, r1⟩ := Dp.reads I d x v hd rx
  obtain ⟨bs, r2⟩ := Dp.reads I e y u he ry
  rcases pe with rfl | rfl
  · exact SeqAt.notIn_list_data r2 r1 (by simpa only [PyData.plain] using p2) p1 (by have := Nat.min_le_right (PyData.depthAll xs) d.depth; omega) ⟨.bl _, H, I, rfl, q⟩
  · exact SeqAt.notIn_tuple_data r2 r1 (by simpa only [PyData.plain] using p2) p1 (by have := Nat.min_le_right (PyData.depthAll xs) d.depth; omega) ⟨.bl _, H, I, rfl, q⟩
def rSign (neg : Bool) : R2 := fun x y H Q => ∃ (c : Nat) (z : Str), x = .str ⟨#[c]⟩ ∧ y = .str z ∧ Q (.bl (if neg then !decide (c ∈ z.cps.toList) else decide (c ∈ z.cps.toList))) H
theorem op_inA (hu : X.A.units + 70 < cLine) : OpR X (compareOp .In) (fun x y H Q => rDat X.K (fun d e => .bl ((itemsP e).any fun z => PyData.eqv z d)) PIn x y H Q ∨ rSign false x y H Q) := (op_inP hu).or op_in_sign
theorem op_ninA (hu : X.A.units + 70 < cLine) : OpR X (compareOp .NotIn) (fun x y H Q => rDat X.K (fun d e => .bl (!(itemsP e).any fun z => PyData.eqv z d)) PIn x y H Q ∨ rSign true x y H Q) := (op_ninP hu).or op_notIn_sign
def memD (d : D) (xs : List D) : Bool := xs.any fun z => D.eqv z d
/-! dicts: keys, what stands at a key -/
mutual
def D.beq : D → D → Bool
  | .non, .non => true | .bl a, .bl b => a == b | .int a, .int b => a == b | .str a, .str b => a == b
  | .tup a, .tup b => D.beqs a b | .lst a, .lst b => D.beqs a b | .ref a, .ref b => a == b | .ins a x, .ins b y => a == b && D.beqs x y
  | .dct t x y, .dct u z w => t == u && D.beqs x z && D.beqs y w
  | _, _ => false
def D.beqs : List D → List D → Bool
  | [], [] => true
  | x :: xs, y :: ys => D.beq x y && D.beqs xs ys
  | _, _ => false
end
mutual
theorem D.beq_eq : ∀ {x y : D}, D.beq x y = true → x = y
  | .non, y, h => by cases y <;> first | rfl | exact Bool.noConfusion (show false = true from h)
  | .bl a, y, h => by cases y <;> first | exact Bool.noConfusion (show false = true from h) | (rw [D.beq] at h; rw [beq_iff_eq.mp h])
  | .int a, y, h => by cases y <;> first | exact Bool.noConfusion (show false = true from h) | (rw [D.beq] at h; rw [beq_iff_eq.mp h])
  | .str a, y, h => by cases y <;> first | exact Bool.noConfusion (show false = true from h) | (rw [D.beq] at h; rw [beq_iff_eq.mp h])
  | .tup a, y, h => by cases y <;> first | exact Bool.noConfusion (show false = true from h) | (rw [D.beq] at h; rw [D.beqs_eq h])
  | .lst a, y, h => by cases y <;> first | exact Bool.noConfusion (show false = true from h) | (rw [D.beq] at h; rw [D.beqs_eq h])
  | .ref a, y, h => by cases y <;> first | exact Bool.noConfusion (show false = true from h) | (rw [D.beq] at h; rw [beq_iff_eq.mp h])
  | .ins a x, y, h => by
    cases y <;> first
      | exact Bool.noConfusion (show false = true from h)
      | (rw [D.beq, Bool.and_eq_true] at h; rw [beq_iff_eq.mp h.1, D.beqs_eq h.2])
  | .dct t x z, y, h => by
    cases y <;> first
      | exact Bool.noConfusion (show false = true from h)
      | (rw [D.beq, Bool.and_eq_true, Bool.and_eq_true] at h; rw [beq_iff_eq.mp h.1.1, D.beqs_eq h.1.2, D.beqs_eq h.2])
theorem D.beqs_eq : ∀ {x y : List D}, D.beqs x y = true → x = y
  | [], [], _ => rfl
  | [], _ :: _, h => Bool.noConfusion (show false = true from h)
  | _ :: _, [], h => Bool.noConfusion (show false = true from h)
  | x :: xs, y :: ys, h => by
    rw [D.beqs, Bool.and_eq_true] at h
    rw [D.beq_eq h.1, D.beqs_eq h.2]
end
mutual
theorem D.beq_refl : ∀ x : D, D.beq x x = true
  | .non => rfl
  | .bl _ => by simp [D.beq]
  | .int _ => by simp [D.beq]
  | .str _ => by simp [D.beq]
  | .ref _ => by simp [D.beq]
  | .tup a => by rw [D.beq]; exact D.beqs_refl a
  | .lst a => by rw [D.beq]; exact D.beqs_refl a
  | .ins c a => by rw [D.beq, D.beqs_refl a]; simp
  | .dct t a b => by rw [D.beq, D.beqs_refl a, D.beqs_refl b]; simp
theorem D.beqs_refl : ∀ x : List D, D.beqs x x = true
  | [] => rfl
  | x :: xs => by rw [D.beqs, D.beq_refl x, D.beqs_refl xs]; rfl
end
instance : DecidableEq D := fun x y => if h : D.beq x y = true then isTrue (D.beq_eq h) else isFalse fun e => h (by rw [e]; exact D.beq_refl y)
/-- what stands at a key -/
def lookD : List D → List D → D → Option D
  | k :: ks, v :: vs, y => if k = y then some v else lookD ks vs y
  | _, _, _ => none
/-- the values behind a store at a key; the keys -/
def putDV : List D → List D → D → D → List D
  | k :: ks, v :: vs, y, z => if k = y then z :: vs else v :: putDV ks vs y z
  | _, vs, _, z => vs ++ [z]
def putDK : List D → D → List D
  | k :: ks, y => if k = y then k :: ks else k :: putDK ks y
  | [], y => [y]
def keyB : D → Bool
  | .int _ => true | .str _ => true
  | _ => false
/-- a key of the kind t -/
def keyOk (t : Bool) (y : D) : Bool := match t, y with
  | false, y => keyB y
  | true, .tup xs => xs.all keyB
  | _, _ => false
theorem keyB_of {y : D} (h : keyB y = true) : ∃ k, y = keyD k := by
  cases y <;> first | exact Bool.noConfusion (show false = true from h) | skip
  · exact ⟨.inl _, rfl⟩
  · rename_i x
    exact ⟨.inr ⟨x.toArray⟩, by simp [keyD]⟩
theorem keyBs_of : ∀ {xs : List D}, xs.all keyB = true → ∃ kk : List Key, xs = kk.map keyD
  | [], _ => ⟨[], rfl⟩
  | x :: xs, h => by
    simp only [List.all_cons, Bool.and_eq_true] at h
    obtain ⟨k, rfl⟩ := keyB_of h.1
    obtain ⟨kk, rfl⟩ := keyBs_of h.2
    exact ⟨k :: kk, rfl⟩
theorem Rep.key {W : Wd} {H : Hp} {k : Key} {v : V} (x : RepN G W H (keyD k) v) : v = kV k := by
  cases k with
  | inl i => exact x.int
  | inr s => exact x.str.1
theorem Reps.keys {W : Wd} : ∀ {kk : List Key} {vs : List V}, Reps G W (kk.map keyD) vs → vs = kk.map kV
  | [], _, .nil => rfl
  | k :: kk, _, .cons r t => by rw [List.map_cons, Rep.key (H := fun _ => none) (.inl r), Reps.keys t]
theorem keyD_inj {a b : Key} (h : keyD a = keyD b) : a = b := by
  cases a <;> cases b <;> simp [keyD] at h
  · rw [h]
  · rename_i x y
    obtain ⟨x⟩ := x; obtain ⟨y⟩ := y
    simp at h
    rw [h]
theorem keyDs_inj : ∀ {a b : List Key}, a.map keyD = b.map keyD → a = b
  | [], [], _ => rfl
  | [], _ :: _, h => by cases h
  | _ :: _, [], h => by cases h
  | x :: xs, y :: ys, h => by
    simp only [List.map_cons, List.cons.injEq] at h
    rw [keyD_inj h.1, keyDs_inj h.2]
theorem keyT_inj {a b : List Key} (h : keyT a = keyT b) : a = b := keyDs_inj (by simpa [keyT] using h)
theorem look_val {κ : Type} [DecidableEq κ] {f : κ → D} (inj : ∀ {a b}, f a = f b → a = b) {W : Wd} (k : κ) : ∀ {kk : List κ} {vs : List D} {us : List V}, kk.length = us.length → Reps G W vs us →
    (lookD (kk.map f) vs (f k) = none ∧ valV (kk.zip us) k = none) ∨ ∃ d v, lookD (kk.map f) vs (f k) = some d ∧ valV (kk.zip us) k = some v ∧ Rep G W d v
  | [], _, _, _, _ => .inl ⟨by cases ‹List D› <;> rfl, rfl⟩
  | _ :: _, _, [], h, _ => by simp at h
  | x :: kk, _, _ :: us, h, .cons r t => by
    rw [List.map_cons, List.zip_cons_cons]
    by_cases e : x = k
    · subst e
      exact .inr ⟨_, _, by simp [lookD], valV_pos rfl, r⟩
    · have e2 : ¬ f x = f k := fun z => e (inj z)
      rw [valV_neg e]
      simp only [lookD, if_neg e2]
      exact look_val inj k (by simpa using h) t
theorem put_val {κ : Type} [DecidableEq κ] {f : κ → D} (inj : ∀ {a b}, f a = f b → a = b) {W : Wd} (k : κ) {d : D} {v : V} (rd : Rep G W d v) : ∀ {kk : List κ} {vs : List D} {us : List V}, (kk.map f).Nodup → kk.length = us.length → Reps G W vs us →
    ∃ (kk' : List κ) (us' : List V), putDK (kk.map f) (f k) = kk'.map f ∧ putK (kk.zip us) k v = kk'.zip us' ∧ kk'.length = us'.length ∧ Reps G W (putDV (kk.map f) vs (f k) d) us' ∧ kk'.length ≤ kk.length + 1 := by
  intro kk vs us nd hl r
  by_cases c : k ∈ kk
  · -- there
    have h1 : (kk.zip us).any (fun kv => decide (kv.1 = k)) = true := by
      obtain ⟨j, hj, e⟩ := List.mem_iff_getElem.mp c
      rw [List.any_eq_true]
      exact ⟨(kk[j], us[j]'(by omega)), by rw [List.mem_iff_getElem]; exact ⟨j, by simp; omega, by simp⟩, by simp [e]⟩
    have key : ∀ {kk : List κ} {vs : List D} {us : List V}, (kk.map f).Nodup → k ∈ kk → kk.length = us.length → Reps G W vs us →
        putDK (kk.map f) (f k) = kk.map f ∧ ∃ us', ((kk.zip us).map fun kv => if kv.1 = k then (kv.1, v) else kv) = kk.zip us' ∧ kk.length = us'.length ∧ Reps G W (putDV (kk.map f) vs (f k) d) us' := by
      intro kk
      induction kk with
      | nil => intro _ _ _ h; cases h
      | cons x kk ih =>
        intro vs us nd hm hl r
        cases us with
        | nil => simp at hl
        | cons u us =>
          cases r with
          | cons r t =>
            rename_i d0 vs
            rw [List.map_cons, List.nodup_cons] at nd
            by_cases e : x = k
            · subst e
              refine ⟨by simp [putDK], v :: us, ?_, by simpa using hl, by simp only [List.map_cons, putDV, if_true]; exact .cons rd t⟩
              rw [List.zip_cons_cons, List.map_cons, if_pos rfl, List.zip_cons_cons]
              congr 1
              refine (List.map_congr_left fun q hq => ?_).trans (List.map_id _)
              have : q.1 ∈ kk := (List.of_mem_zip hq).1
              rw [if_neg fun z => nd.1 (List.mem_map.mpr ⟨q.1, this, by rw [z]⟩)]
              rfl
            · have e2 : ¬ f x = f k := fun z => e (inj z)
              have hm : k ∈ kk := by
                rcases List.mem_cons.mp hm with z | z
                · exact absurd z.symm e
                · exact z
              obtain ⟨i1, us', i2, i3, i4⟩ := ih nd.2 hm (by simpa using hl) t
              refine ⟨by simp only [List.map_cons, putDK, if_neg e2, i1], u :: us', ?_, by simp [i3], by simp only [List.map_cons, putDV, if_neg e2]; exact .cons r i4⟩
              rw [List.zip_cons_cons, List.map_cons, if_neg e, List.zip_cons_cons, i2]
    obtain ⟨i1, us', i2, i3, i4⟩ := key nd c hl r
    refine ⟨kk, us', i1, ?_, i3, i4, by omega⟩
    unfold putK
    rw [if_pos h1]; exact i2
  · have hn : valV (kk.zip us) k = none := by
      rcases look_val inj k hl r with ⟨_, h⟩ | ⟨d, v, h, _, _⟩
      · exact h
      · exfalso
        have : ∀ {ks vs : List D} {y d : D}, lookD ks vs y = some d → y ∈ ks := by
          intro ks
          induction ks with
          | nil => intro vs y d h; cases vs <;> cases h
          | cons k ks ih =>
            intro vs y d h
            cases vs with
            | nil => cases h
            | cons v vs =>
              simp only [lookD] at h
              split at h
              · rename_i e; rw [e]; exact List.mem_cons_self
              · exact List.mem_cons_of_mem _ (ih h)
        obtain ⟨x, hx, e⟩ := List.mem_map.mp (this h)
        exact c (inj e ▸ hx)
    refine ⟨kk ++ [k], us ++ [v], ?_, ?_, by simp [hl], ?_, by simp⟩
    · have : ∀ {ks : List D} {y : D}, y ∉ ks → putDK ks y = ks ++ [y] := by
        intro ks
        induction ks with
        | nil => intro y _; rfl
        | cons k ks ih =>
          intro y h
          rw [putDK, if_neg fun e => h (by rw [e]; exact List.mem_cons_self), ih fun z => h (List.mem_cons_of_mem _ z)]
          rfl
      rw [this fun z => by obtain ⟨x, hx, e⟩ := List.mem_map.mp z; exact c (inj e ▸ hx)]
      simp
    · rw [putK_new v hn, List.zip_append hl]; rfl
    · have : ∀ {ks vs : List D} {y z : D}, y ∉ ks → ks.length = vs.length → putDV ks vs y z = vs ++ [z] := by
        intro ks
        induction ks with
        | nil => intro vs y z _ _; rw [putDV]; intro _ _ _ _ h; cases h
        | cons k ks ih =>
          intro vs y z h hl
          cases vs with
          | nil => simp at hl
          | cons v vs =>
            rw [putDV, if_neg fun e => h (by rw [e]; exact List.mem_cons_self), ih (fun z => h (List.mem_cons_of_mem _ z)) (by simpa using hl)]
            rfl
      rw [this (fun z => by obtain ⟨x, hx, e⟩ := List.mem_map.mp z; exact c (inj e ▸ hx)) (by rw [List.length_map, r.length, hl])]
      exact r.snoc rd
def inOk (d : D) (xs : List D) : Bool := d.dat && D.dats xs && decide (d.depth ≤ 64)
def inB (x y : D) : Option Bool := match x, y with
  | .str [c], .str z => some (decide (c ∈ z))
  | d, .lst xs => if inOk d xs = true then some (memD d xs) else none
  | d, .tup xs => if inOk d xs = true then some (memD d xs) else none
  | _, _ => none
def inA (x y : D) : Option Bool := match y with
  | .dct t ks vs => if keyOk t x = true then some (lookD ks vs x).isSome else none
  | y => inB x y
def opIn (_ : IH) (x y : D) : Option D := (inA x y).map D.bl
def opNin (_ : IH) (x y : D) : Option D := (inA x y).map fun b => D.bl (!b)
theorem mem_py {d : D} (hd : d.dat = true) : ∀ {xs : List D}, D.dats xs = true → (D.pys xs).any (fun z => PyData.eqv z d.py) = memD d xs
  | [], _ => rfl
  | x :: xs, h => by
    simp only [D.dats, Bool.and_eq_true] at h
    have ih := mem_py hd h.2
    unfold memD at ih ⊢
    simp only [D.pys, List.any_cons, eqv_py x d h.1 hd, ih]
theorem inB_cases {x y : D} {b : Bool} (h : inB x y = some b) : (∃ c z, x = .str [c] ∧ y = .str z ∧ b = decide (c ∈ z)) ∨ ∃ xs, (y = .lst xs ∨ y = .tup xs) ∧ x.dat = true ∧ D.dats xs = true ∧ x.depth ≤ 64 ∧ b = memD x xs := by
  unfold inB at h
  split at h
  · cases h; exact .inl ⟨_, _, rfl, rfl, rfl⟩
  · split at h
    · cases h
      rename_i c
      simp only [inOk, Bool.and_eq_true, decide_eq_true_eq] at c
      exact .inr ⟨_, .inl rfl, c.1.1, c.1.2, c.2, rfl⟩
    · cases h
  · split at h
    · cases h
      rename_i c
      simp only [inOk, Bool.and_eq_true, decide_eq_true_eq] at c
      exact .inr ⟨_, .inr rfl, c.1.1, c.1.2, c.2, rfl⟩
    · cases h
  · cases h
theorem sem_in0 {W : Wd} {h : IH} {H : Hp} {x y : D} {v u : V} {b : Bool} {Q : VK} (hr : Hr G W h H) (rx : RepN G W H x v) (ry : RepN G W H y u) (e : inB x y = some b) (g : Bool → Bool)
    (k : Q (.bl (g b)) H) : rDat G.K (fun d e => .bl (g ((itemsP e).any fun z => PyData.eqv z d))) PIn v u H Q ∨ ∃ (c : Nat) (z : Str), v = .str ⟨#[c]⟩ ∧ u = .str z ∧ Q (.bl (g (decide (c ∈ z.cps.toList)))) H := by
  rcases inB_cases e with ⟨c, z, rfl, rfl, rfl⟩ | ⟨xs, hy, h1, h2, h3, rfl⟩
  · obtain ⟨e1, _⟩ := rx.str
    obtain ⟨e2, _⟩ := ry.str
    exact .inr ⟨c, _, e1, e2, by simpa using k⟩
  · have hyd : y.dat = true := by rcases hy with rfl | rfl <;> simpa [D.dat] using h2
    refine .inl ⟨_, _, rx.dp hr h1, ry.dp hr hyd, ⟨plain_py x, plain_py y, by rw [depth_py]; exact h3, D.pys xs, ?_⟩, ?_⟩
    · rcases hy with rfl | rfl
      · exact .inl (by rw [D.py])
      · exact .inr (by rw [D.py])
    · show Q (.bl (g ((itemsP y.py).any fun z => PyData.eqv z x.py))) H
      have e3 : itemsP y.py = D.pys xs := by rcases hy with rfl | rfl <;> rw [D.py] <;> rfl
      rw [e3, mem_py h1 h2]
      exact k
def rDIn (g : Bool → Bool) : R2 := fun x y H Q => ∃ a o, y = .ref a ∧ DGet H a x o ∧ Q (.bl (g o.isSome)) H
theorem op_dIn (hu : X.A.units + 70 < cLine) : OpR X (compareOp .In) (rDIn fun b => b) := by
  intro pins s σ H x y v u Q I rx ry h
  obtain ⟨a, o, rfl, g, q⟩ := h
  obtain rfl : u = Value.ref a := ry
  exact d_in (by omega) I g rx fun s' I' => ⟨.bl _, H, I', rfl, q⟩
theorem op_dNin (hu : X.A.units + 70 < cLine) : OpR X (compareOp .NotIn) (rDIn fun b => !b) := by
  intro pins s σ H x y v u Q I rx ry h
  obtain ⟨a, o, rfl, g, q⟩ := h
  obtain rfl : u = Value.ref a := ry
  exact d_notIn (by omega) I g rx fun s' I' => ⟨.bl _, H, I', rfl, q⟩
/-- what stands at a key, as the abstract heap has it -/
theorem dct_get {W : Wd} {h : IH} {H : Hp} {t : Bool} {ks vs : List D} {y : D} {p : Addr} {us : List V} {u : HO} {v : V} (hr : Hr G W h H) (e : Rd H p u) (dO : DicO t ks us u) (r : Reps G W vs us) (ry : RepN G W H y v) (ok : keyOk t y = true) :
    (lookD ks vs y = none ∧ DGet H p v none) ∨ ∃ d w, lookD ks vs y = some d ∧ DGet H p v (some w) ∧ Rep G W d w := by
  obtain ⟨hl, _, _, hk⟩ := dO
  cases t with
  | false =>
    obtain ⟨kk, rfl, rfl⟩ := hk
    obtain ⟨k, rfl⟩ := keyB_of ok
    have := Rep.key ry
    subst this
    rw [List.length_map] at hl
    rcases look_val keyD_inj k hl r with ⟨h1, h2⟩ | ⟨d, w, h1, h2, h3⟩
    · exact .inl ⟨h1, .inl ⟨_, k, e, rfl, h2.symm⟩⟩
    · exact .inr ⟨d, w, h1, .inl ⟨_, k, e, rfl, h2.symm⟩, h3⟩
  | true =>
    obtain ⟨kk, rfl, rfl⟩ := hk
    cases y <;> first | exact Bool.noConfusion (show false = true from ok) | skip
    rename_i xs
    obtain ⟨k, rfl⟩ := keyBs_of (show xs.all keyB = true from ok)
    obtain ⟨b, ws, rfl, e2, _, r2⟩ := RepN.tup hr ry
    have := r2.keys
    subst this
    rw [List.length_map] at hl
    rcases look_val keyT_inj k hl r with ⟨h1, h2⟩ | ⟨d, w, h1, h2, h3⟩
    · exact .inl ⟨h1, .inr ⟨_, k, b, e, rfl, e2, h2.symm⟩⟩
    · exact .inr ⟨d, w, h1, .inr ⟨_, k, b, e, rfl, e2, h2.symm⟩, h3⟩
theorem inA_cases {x y : D} {b : Bool} (h : inA x y = some b) : inB x y = some b ∨ ∃ t ks vs, y = .dct t ks vs ∧ keyOk t x = true ∧ b = (lookD ks vs x).isSome := by
  unfold inA at h
  split at h
  · split at h
    · cases h
      exact .inr ⟨_, _, _, rfl, by assumption, rfl⟩
    · cases h
  · exact .inl h
theorem sem_inD {W : Wd} {h : IH} {H : Hp} {x y : D} {v u : V} {b : Bool} {Q : VK} (hr : Hr G W h H) (rx : RepN G W H x v) (ry : RepN G W H y u) (e : inA x y = some b) (g : Bool → Bool)
    (k : Q (.bl (g b)) H) : (rDat G.K (fun d e => .bl (g ((itemsP e).any fun z => PyData.eqv z d))) PIn v u H Q ∨ ∃ (c : Nat) (z : Str), v = .str ⟨#[c]⟩ ∧ u = .str z ∧ Q (.bl (g (decide (c ∈ z.cps.toList)))) H) ∨ rDIn g v u H Q := by
  rcases inA_cases e with e | ⟨t, ks, vs, rfl, ok, rfl⟩
  · exact .inl (sem_in0 hr rx ry e g k)
  · obtain ⟨p, us, o, rfl, e1, e2, e3⟩ := RepN.dct hr ry
    refine .inr ?_
    rcases dct_get hr e1 e2 e3 rx ok with ⟨h1, h2⟩ | ⟨d, w, h1, h2, _⟩
    · rw [h1] at k; exact ⟨p, none, rfl, h2, k⟩
    · rw [h1] at k; exact ⟨p, some w, rfl, h2, k⟩
theorem sem_in : OpSem G (rrE G) (fun x y H Q => (rDat G.K (fun d e => .bl ((itemsP e).any fun z => PyData.eqv z d)) PIn x y H Q ∨ rSign false x y H Q) ∨ rDIn (fun b => b) x y H Q) opIn := by
  intro W h H x y v u d Q hr rx ry e k
  obtain ⟨b, hb, rfl⟩ := Option.map_eq_some_iff.mp e
  exact sem_inD hr rx ry hb (fun b => b) (k W H _ (Fr.refl W H) hr (.bl b))
theorem sem_nin : OpSem G (rrE G) (fun x y H Q => (rDat G.K (fun d e => .bl (!(itemsP e).any fun z => PyData.eqv z d)) PIn x y H Q ∨ rSign true x y H Q) ∨ rDIn (fun b => !b) x y H Q) opNin := by
  intro W h H x y v u d Q hr rx ry e k
  obtain ⟨b, hb, rfl⟩ := Option.map_eq_some_iff.mp e
  exact sem_inD hr rx ry hb (fun b => !b) (k W H _ (Fr.refl W H) hr (.bl (!b)))
theorem op_inAD (hu : X.A.units + 70 < cLine) : OpR X (compareOp .In) (fun x y H Q => (rDat X.K (fun d e => .bl ((itemsP e).any fun z => PyData.eqv z d)) PIn x y H Q ∨ rSign false x y H Q) ∨ rDIn (fun b => b) x y H Q) := (op_inA hu).or (op_dIn hu)
theorem op_ninAD (hu : X.A.units + 70 < cLine) : OpR X (compareOp .NotIn) (fun x y H Q => (rDat X.K (fun d e => .bl (!(itemsP e).any fun z => PyData.eqv z d)) PIn x y H Q ∨ rSign true x y H Q) ∨ rDIn (fun b => !b) x y H Q) := (op_ninA hu).or (op_dNin hu)

/-! ### is None -/
def opIsN (_ : IH) (x y : D) : Option D := match x, y with
  | .non, .non => some (.bl true)
  | _, .non => some (.bl false)
  | _, _ => none
def opIsnN (_ : IH) (x y : D) : Option D := match x, y with
  | .non, .non => some (.bl false)
  | _, .non => some (.bl true)
  | _, _ => none
theorem RepN.isN {W : Wd} {H : Hp} {d : D} {v : V} (x : RepN G W H d v) : decide (v = .non) = (match d with | .non => true | _ => false) := by
  rcases x with x | ⟨p, c, h1, rfl, rfl, _⟩
  · cases x <;> simp
  · cases c <;> simp [Cell.toD] at h1 ⊢
theorem sem_isN : OpSem G (rrE G) (fun x y H Q => y = .non ∧ Q (.bl (decide (x = .non))) H) opIsN := by
  intro W h H x y v u d Q hr rx ry e k
  have i := rx.isN
  cases y <;> cases x <;> simp only [opIsN, reduceCtorEq] at e <;> cases e <;> exact ⟨ry.non, by rw [i]; exact k W H _ (Fr.refl W H) hr (.bl _)⟩
theorem sem_isnN : OpSem G (rrE G) (fun x y H Q => y = .non ∧ Q (.bl (!decide (x = .non))) H) opIsnN := by
  intro W h H x y v u d Q hr rx ry e k
  have i := rx.isN
  cases y <;> cases x <;> simp only [opIsnN, reduceCtorEq] at e <;> cases e <;> exact ⟨ry.non, by rw [i]; exact k W H _ (Fr.refl W H) hr (.bl _)⟩

/-! ### x[i] -/
def opIx (_ : IH) (x y : D) : Option D := match x, y with
  | .tup xs, .int i => atI xs i
  | .lst xs, .int i => atI xs i
  | .str z, .int i => (atI z i).map fun c => D.str [c]
  | .dct t ks vs, y => if keyOk t y = true then lookD ks vs y else none
  | _, _ => none
theorem atI_rep {W : Wd} {ds : List D} {vs : List V} {i : Int} {d : D} (r : Reps G W ds vs) (h : atI ds i = some d) : ∃ v, atI vs i = some v ∧ Rep G W d v := by
  unfold atI at h ⊢
  rw [← r.length]
  cases q : ixN ds.length i with
  | none => rw [q] at h; cases h
  | some j =>
    rw [q] at h
    obtain ⟨v, h1, h2⟩ := r.get (i := j) h
    exact ⟨v, h1, h2⟩
def rDGet : R2 := fun x y H Q => ∃ a v, x = .ref a ∧ DGet H a y (some v) ∧ Q v H
theorem ix_dct (hu : X.A.units + 70 < cLine) : IxR X rDGet := by
  intro value slice pins s σ H x y v u Q I rx ry h hs
  obtain ⟨a, z, rfl, g, q⟩ := h
  obtain rfl : v = Value.ref a := rx
  have hT := dict_typeIs I g
  unfold PyProof.Rows.subscriptTail
  refine wpAny_bind ?_
  rw [getitemInPython_of_ne hT.not_modules]
  refine wpAny_bind (wpAny_specialOf hT PySem.F.slot_dict_getitem.lookup ?_)
  have fin : wpAny (model X.prog X.w) X.A (subscripted slice false (.ref a) u) (fun r s₃ => wpAny (model X.prog X.w) X.A (letTemporaryGo value (.ref a) r >>= fun _ => pure r) (EP X pins σ Q) X.xe s₃) X.xe s := by
    rw [hs]
    exact wpAny_operating (d_getItem (by omega) I g ry fun w' s3 I3 rw' => wpAny_bind (wpAny_letTemporaryGo (wpAny_pure ⟨z, H, I3, rw', q⟩)))
  first
    | exact wpAny_pure (wpAny_bind fin)
    | exact wpAny_bind (wpAny_pure (wpAny_bind fin))
    | exact wpAny_bind fin
def rIxA (K : PySem.W.Frag) : R2 := fun x y H Q => rIx K x y H Q ∨ rDGet x y H Q
theorem ix_all (hu : X.A.units + 70 < cLine) : IxR X (rIxA X.K) := ix_seq.or (ix_dct hu)
theorem sem_ix : OpSem G (rrE G) (rIxA G.K) opIx := by
  intro W h H x y v u d Q hr rx ry e k
  by_cases c : ∃ t ks vs, x = .dct t ks vs
  · obtain ⟨t, ks, vs, rfl⟩ := c
    have e : (if keyOk t y = true then lookD ks vs y else none) = some d := by cases y <;> exact e
    split at e
    · rename_i ok
      obtain ⟨p, us, o, rfl, e1, e2, e3⟩ := RepN.dct hr rx
      rcases dct_get hr e1 e2 e3 ry ok with ⟨h1, _⟩ | ⟨d', w, h1, h2, h3⟩
      · rw [h1] at e; cases e
      · rw [h1] at e; cases e
        exact .inr ⟨p, w, rfl, h2, k W H _ (Fr.refl W H) hr h3⟩
    · cases e
  · refine .inl ?_
    cases y <;> cases x <;> first | exact absurd ⟨_, _, _, rfl⟩ c | skip <;> simp only [opIx, reduceCtorEq] at e
    · obtain ⟨c, e1, rfl⟩ := Option.map_eq_some_iff.mp e
      obtain ⟨e2, z⟩ := rx.str
      exact .inr (.inr ⟨_, _, c, e2, ry.int, by simpa [Str.length] using z, by simpa using e1, k W H _ (Fr.refl W H) hr (.str [c] (by rw [sizeLine_eq]; simp))⟩)
    · obtain ⟨p, vs, e1, s1, _, r1⟩ := RepN.tup hr rx
      obtain ⟨w, a1, a2⟩ := atI_rep r1 e
      exact .inr (.inl ⟨p, vs, _, w, e1, ry.int, .inl (.inl s1), a1, k W H _ (Fr.refl W H) hr a2⟩)
    · obtain ⟨p, vs, e1, s1, _, r1⟩ := RepN.lst hr rx
      obtain ⟨w, a1, a2⟩ := atI_rep r1 e
      exact .inl ⟨p, vs, _, w, e1, ry.int, s1, a1, k W H _ (Fr.refl W H) hr a2⟩
end Iv

/-! Iv, part D: slices, built-ins, isinstance, calls, what is walked, comprehensions. -/
namespace Iv
open PySem L2
variable {G : GC} {X : Cx} {H0 : Hp} {E : EK}

/-! ### slices -/
def cutD {α : Type} (xs : List α) (lo hi : Option Int) : List α := (xs.drop (HT.sIx xs.length 0 lo)).take (HT.sIx xs.length xs.length hi - HT.sIx xs.length 0 lo)
theorem Reps.cut {W : Wd} {ds : List D} {vs : List V} (r : Reps G W ds vs) (lo hi : Option Int) : Reps G W (cutD ds lo hi) (cutV vs lo hi) := by
  unfold cutD cutV
  rw [r.length]
  exact (r.drop _).take _
theorem cutD_length {α : Type} (xs : List α) (lo hi : Option Int) : (cutD xs lo hi).length ≤ xs.length := by
  unfold cutD
  rw [List.length_take, List.length_drop]
  omega
theorem cutD_whole {α : Type} {xs : List α} {lo hi : Option Int} (h : HT.sIx xs.length 0 lo = 0 ∧ HT.sIx xs.length xs.length hi = xs.length) : cutD xs lo hi = xs := by
  unfold cutD
  rw [h.1, h.2]
  simp
abbrev FO := Option (Env → M D)
def asI (d : D) : Option Int := match d with
  | .int i => some i
  | _ => none
def ePart (f : FO) (env : Env) : M (Option Int) := match f with
  | none => ret none
  | some f => bnd (f env) fun d => bnd (lft (asI d)) fun i => ret (some i)
def slD (x : D) (lo hi : Option Int) : Option D := match x with
  | .tup xs => some (.tup (cutD xs lo hi))
  | .lst xs => some (.lst (cutD xs lo hi))
  | .str z => some (.str (cutD z lo hi))
  | _ => none
def eSl (f : Env → M D) (lo hi : FO) (env : Env) : M D := bnd (f env) fun x => bnd (ePart lo env) fun l => bnd (ePart hi env) fun u => lftN (fun x => slD x l u) x
def KP (G : GC) (W : Wd) (H : Hp) (Q : Option Int → Hp → Prop) : Option Int → IH → Prop := fun o h' => ∀ W' H', Fr W H W' H' → Hr G W' h' H' → Q o H'
def tPr (G : GC) (E : EK) (ev : Env → M (Option Int)) : TO := fun σ H Q =>
  ∃ (W : Wd) (h : IH) (env : Env) (H0 : Hp), Hr G W h H ∧ Er G W H0 H env σ ∧ (ev env h).post (KP G W H Q) (KX G (E σ) W H)
theorem po_imp {e : Option Expr} {t t' : TO} (h : PO X e t) (i : ∀ σ H Q, t' σ H Q → t σ H Q) : PO X e t' := ⟨fun pins s σ H Q I q => h.run pins s σ H Q I (i σ H Q q)⟩
theorem pov_none : PO X none (tPr G E (ePart none)) := po_imp po_none fun σ H Q ⟨W, h, env, H0, hr, er, p⟩ => p W H (Fr.refl W H) hr
theorem pov_some {e : Expr} {f : Env → M D} (h : PE X e (tR G (rrE G) E f)) : PO X (some e) (tPr G E (ePart (some f))) := po_imp (po_some h) fun σ H Q ⟨W, hh, env, H0, hr, er, p⟩ => by
  refine ⟨W, hh, env, H0, hr, er, (post_bnd.mp p).mono (fun d h1 p1 W1 H1 v f1 hr1 r1 => ?_) fun _ _ _ k => k⟩
  obtain ⟨i, e, k⟩ := post_lft (post_bnd.mp p1)
  cases d <;> simp only [asI, Option.some.injEq, reduceCtorEq] at e
  subst e
  cases r1
  exact ⟨_, rfl, k W1 H1 f1 hr1⟩
def rSl (K : PySem.W.Frag) : V → Option Int → Option Int → Hp → VK → Prop := fun x lo hi H Q => rSlL K x lo hi H Q ∨ rSlA K x lo hi H Q ∨ rSlS x lo hi H Q
theorem sl_any : L2.SlR X (rSl X.K) := sl_list.or (sl_tupA.or sl_str)
theorem pev_sl {e : Expr} {lo hi : Option Expr} {f : Env → M D} {fl fh : FO} {p2 pos : Pos} (hK : X.K = G.K) (he : PE X e (tR G (rrO G) E f)) (hl : PO X lo (tPr G E (ePart fl))) (hh : PO X hi (tPr G E (ePart fh))) :
    PE X (.Subscript e (.Slice lo hi none p2) pos) (tR G (rrF G) E (eSl f fl fh)) := pe_imp (pe_slice sl_any he hl hh) fun σ H Q ⟨W, h, env, H0, hr, er, p⟩ => by
  refine ⟨W, h, env, H0, hr, er, (post_bnd.mp p).mono (fun x h1 p1 W1 H1 v f1 hr1 r1 => ?_) fun _ _ _ k => k⟩
  refine ⟨W1, h1, env, H0, hr1, er.step f1, (post_bnd.mp p1).mono (fun l h2 p2 W2 H2 f2 hr2 => ?_) fun _ _ _ k => k.step f1⟩
  refine ⟨W2, h2, env, H0, hr2, (er.step f1).step f2, (post_bnd.mp p2).mono (fun u h3 p3 W3 H3 f3 hr3 => ?_) fun _ _ _ k => k.step (f1.trans f2)⟩
  obtain ⟨d, e3, k⟩ := post_lft p3
  have r3 : RepN G W3 H3 (drf h3 x) v := RepS.drf hr3 ((RepS.step r1 f2).step f3)
  have f0 := f1.trans (f2.trans f3)
  rw [hK]
  generalize drf h3 x = x at e3 r3
  cases x <;> simp only [slD, reduceCtorEq] at e3
  · cases e3
    obtain ⟨e1, z⟩ := r3.str
    refine .inr (.inr ⟨_, e1, by simpa [Str.length] using z, ?_⟩)
    rename_i zz
    have e2 : cutS ⟨zz.toArray⟩ l u = ⟨(cutD zz l u).toArray⟩ := by
      unfold cutS cutD Str.length
      simp
    rw [e2]
    exact k W3 H3 _ f0 hr3 (.str _ (Nat.le_trans (cutD_length _ _ _) z))
  · cases e3
    rename_i xs
    obtain ⟨q, vs, e1, s1, z, r4⟩ := RepN.tup hr3 r3
    have s1 : SqT G.K H3 q vs := .inl (.inl s1)
    have hl := r4.length
    refine .inr (.inl ⟨q, vs, e1, s1, fun w => ?_, fun _ q2 hq => ?_⟩)
    · rw [← hl] at w
      have e4 := cutD_whole w
      rcases r3 with r3 | ⟨_, c, _, z, _⟩
      · rw [e4] at k
        rw [← e1]
        exact k W3 H3 v f0 hr3 r3
      · cases c <;> cases z
    · obtain ⟨n1, n2, n3⟩ := new_tup hr3 (xs := cutD xs l u) (Nat.le_trans (cutD_length _ _ _) z) (r4.cut l u) hq
      exact k _ _ _ (f0.trans n1) n2 n3
  · cases e3
    rename_i xs
    obtain ⟨q, vs, e1, s1, z, r4⟩ := RepN.lst hr3 r3
    refine .inl ⟨q, vs, e1, s1, fun q2 hq => ?_⟩
    obtain ⟨n1, n2, n3⟩ := new_lst hr3 (xs := cutD xs l u) (Nat.le_trans (cutD_length _ _ _) z) (r4.cut l u) hq
    exact k _ _ _ (f0.trans n1) n2 (upF _ _ _ _ _ _ _ _ f0 n3)

/-! ### operands in a row -/
inductive RepsS (G : GC) (W : Wd) (H : Hp) : List D → List V → Prop
  | nil : RepsS G W H [] []
  | cons {d : D} {v : V} {ds : List D} {vs : List V} : RepS G W H d v → RepsS G W H ds vs → RepsS G W H (d :: ds) (v :: vs)
inductive RepsN (G : GC) (W : Wd) (H : Hp) : List D → List V → Prop
  | nil : RepsN G W H [] []
  | cons {d : D} {v : V} {ds : List D} {vs : List V} : RepN G W H d v → RepsN G W H ds vs → RepsN G W H (d :: ds) (v :: vs)
theorem RepsS.now {W : Wd} {h : IH} {H : Hp} (hr : Hr G W h H) : ∀ {ds : List D} {vs : List V}, RepsS G W H ds vs → RepsN G W H (ds.map (drf h)) vs
  | _, _, .nil => .nil
  | _, _, .cons r t => .cons (RepS.drf hr r) (RepsS.now hr t)
theorem RepsS.step {W W' : Wd} {H H' : Hp} (f : Fr W H W' H') : ∀ {ds : List D} {vs : List V}, RepsS G W H ds vs → RepsS G W' H' ds vs
  | _, _, .nil => .nil
  | _, _, .cons r t => .cons (RepS.step r f) (RepsS.step f t)
def KO (G : GC) (W : Wd) (H : Hp) (Q : List V → Hp → Prop) : List D → IH → Prop := fun ds h' =>
  ∀ W' H' vs, Fr W H W' H' → Hr G W' h' H' → RepsS G W' H' ds vs → Q vs H'
def tOr (G : GC) (E : EK) (ev : Env → M (List D)) : TA := fun σ H Q =>
  ∃ (W : Wd) (h : IH) (env : Env) (H0 : Hp), Hr G W h H ∧ Er G W H0 H env σ ∧ (ev env h).post (KO G W H Q) (KX G (E σ) W H)
theorem pov_nil : PA X [] (tOr G E aNil) := pa_imp pa_nil fun σ H Q ⟨W, h, env, H0, hr, er, p⟩ => p W H [] (Fr.refl W H) hr .nil
theorem pov_cons {e : Expr} {es : List Expr} {f : Env → M D} {g : Env → M (List D)} (he : PE X e (tR G (rrO G) E f)) (hs : PA X es (tOr G E g)) (hn : ∀ a p, e ≠ .Starred a p) : PA X (e :: es) (tOr G E (aCons f g)) :=
  pa_imp (pa_cons he hs (starEach_cons hn)) fun σ H Q ⟨W, h, env, H0, hr, er, p⟩ => by
    refine ⟨W, h, env, H0, hr, er, (post_bnd.mp p).mono (fun x h1 p1 W1 H1 v f1 hr1 r1 => ?_) fun _ _ _ k => k⟩
    refine ⟨W1, h1, env, H0, hr1, er.step f1, (post_bnd.mp p1).mono (fun xs h2 p2 W2 H2 us f2 hr2 r2 => ?_) fun _ _ _ k => k.step f1⟩
    exact p2 W2 H2 (v :: us) (f1.trans f2) hr2 (.cons (RepS.step r1 f2) r2)

/-! ### built-ins of values -/
abbrev RC := List V → Hp → VK → Prop
def BltSem (G : GC) (RR : RRel) (r : RC) (op : List D → Option D) : Prop :=
  ∀ (W : Wd) (h : IH) (H : Hp) (xs : List D) (vs : List V) (d : D) (Q : VK), Hr G W h H → RepsN G W H xs vs → op xs = some d →
    (∀ W' H' z, Fr W H W' H' → Hr G W' h H' → RR W H W' H' d z → Q z H') → r vs H Q
def lftNs {α : Type} (op : List D → Option α) (xs : List D) : M α := fun h => lft (op (xs.map (drf h))) h
def eBlt (op : List D → Option D) (g : Env → M (List D)) (env : Env) : M D := bnd (g env) fun xs => lftNs op xs
theorem blt_of {RR : RRel} (up : Up RR) {r : RC} {op : List D → Option D} (sem : BltSem G RR r op) {g : Env → M (List D)} {σ : St} {H : Hp} {Q : VK} (t : tR G RR E (eBlt op g) σ H Q) :
    tCB r (tOr G E g) σ H Q := by
  obtain ⟨W, h, env, H0, hr, er, p⟩ := t
  refine ⟨W, h, env, H0, hr, er, (post_bnd.mp p).mono (fun xs h1 p1 W1 H1 vs f1 hr1 r1 => ?_) fun _ _ _ k => k⟩
  obtain ⟨d, e, k⟩ := post_lft p1
  exact sem W1 h1 H1 _ vs d Q hr1 (RepsS.now hr1 r1) e fun W' H' z f2 hr2 r2 => k W' H' z (f1.trans f2) hr2 (up _ _ _ _ _ _ _ _ f1 r2)
theorem noStar_any {es : List Expr} {env : PySem.Env} {pos : Pos} (h : ∀ e ∈ es, ∀ a p, e ≠ .Starred a p) : (backTo pos (starEach es env)).any (·.1) = false := by
  induction es with
  | nil => rfl
  | cons e es ih =>
    rw [starEach_cons fun a p => h e List.mem_cons_self a p]
    have := ih fun e he => h e (List.mem_cons_of_mem _ he)
    simpa [backTo] using this
theorem pev_bltB {RR : RRel} (up : Up RR) {id : String} {x : Str} {r : RC} {op : List D → Option D} {e : Expr} {es : List Expr} {g : Env → M (List D)} {p pos : Pos} (hc : CallR X (.builtin id) r) (sem : BltSem G RR r op) (hg : Gl X x) (hm : X.mg x = none)
    (hv : bootBuiltins x = some (.builtin id)) (ha : PA X (e :: es) (tOr G E g)) (hn : x ≠ "__name__") (hdb : (x == ("__debug__" : Str)) = false) (h : ∀ u ∈ e :: es, ∀ a p, u ≠ .Starred a p) :
    PE X (.Call (.Name x p) (e :: es) [] pos) (tR G RR E (eBlt op g)) :=
  pe_imp (pe_callB hc hg hm hv ha hn hdb (starEach_cons fun a p => h e List.mem_cons_self a p) (noStar_any fun u hu => h u (List.mem_cons_of_mem _ hu))) fun _ _ _ => blt_of up sem
theorem pev_bltT {RR : RRel} (up : Up RR) {T : String} {x : Str} {r : RC} {op : List D → Option D} {e : Expr} {es : List Expr} {g : Env → M (List D)} {p pos : Pos} (hc : CallR X (.type T) r) (sem : BltSem G RR r op) (hg : Gl X x) (hm : X.mg x = none)
    (hv : bootBuiltins x = some (.type T)) (ha : PA X (e :: es) (tOr G E g)) (hn : x ≠ "__name__") (hdb : (x == ("__debug__" : Str)) = false) (h : ∀ u ∈ e :: es, ∀ a p, u ≠ .Starred a p) :
    PE X (.Call (.Name x p) (e :: es) [] pos) (tR G RR E (eBlt op g)) :=
  pe_imp (pe_callTy hc hg hm hv ha hn hdb (starEach_cons fun a p => h e List.mem_cons_self a p) (noStar_any fun u hu => h u (List.mem_cons_of_mem _ hu))) fun _ _ _ => blt_of up sem
def bLen (xs : List D) : Option D := match xs with
  | [.tup ys] => some (.int ys.length)
  | [.lst ys] => some (.int ys.length)
  | [.str z] => some (.int z.length)
  | [.dct _ ks _] => some (.int ks.length)
  | _ => none
def rLenD : RC := fun xs H Q => ∃ p, xs = [.ref p] ∧ ((∃ kvs, Rd H p (.dK kvs) ∧ Q (.int ((kvs.length : Nat) : Int)) H) ∨ ∃ kvs, Rd H p (.dT kvs) ∧ Q (.int ((kvs.length : Nat) : Int)) H)
theorem cr_lenD : CallR X (.builtin "len") rLenD := by
  intro pins s σ H xs us Q I r h
  obtain ⟨p, rfl, h⟩ := h
  obtain ⟨u, rfl, rx⟩ := vals1 r
  obtain rfl : u = .ref p := rx
  rcases h with ⟨kvs, e, q⟩ | ⟨kvs, e, q⟩
  · exact d_len I e fun t s' I' => ⟨.int kvs.length, H, I', ⟨t, rfl⟩, q⟩
  · obtain ⟨z, hd, ys, rel, dd⟩ := dt_rd I.hok e
    have hl : kvs.length = ys.length := Paired.length rel
    refine PySem.call_len_dictH hd dd (by have := sizeLine_eq; omega) ⟨.int kvs.length, H, I.tok _, ⟨_, by rw [hl]⟩, q⟩
def rLen (K : PySem.W.Frag) : RC := fun xs H Q => ((∃ p ys, xs = [.ref p] ∧ (SqL K H p ys ∨ SqT K H p ys) ∧ Q (.int ys.length) H) ∨ ∃ z, xs = [.str z] ∧ z.length ≤ sizeLine ∧ Q (.int z.length) H) ∨ rLenD xs H Q
theorem cr_len : CallR X (.builtin "len") (rLen X.K) := (call_len_seq.or call_len_str).or cr_lenD
theorem RepsN.one {W : Wd} {H : Hp} {d : D} {vs : List V} (r : RepsN G W H [d] vs) : ∃ v, vs = [v] ∧ RepN G W H d v := by
  cases r with
  | cons a b => cases b; exact ⟨_, rfl, a⟩
theorem RepsN.two {W : Wd} {H : Hp} {d e : D} {vs : List V} (r : RepsN G W H [d, e] vs) : ∃ v u, vs = [v, u] ∧ RepN G W H d v ∧ RepN G W H e u := by
  cases r with
  | cons a b =>
    obtain ⟨u, rfl, b1⟩ := b.one
    exact ⟨_, _, rfl, a, b1⟩
theorem dicO_len {H : Hp} {p : Addr} {t : Bool} {ks : List D} {us : List V} {u : HO} (d : DicO t ks us u) (e : Rd H p u) : (∃ kvs, Rd H p (.dK kvs) ∧ kvs.length = ks.length) ∨ ∃ kvs, Rd H p (.dT kvs) ∧ kvs.length = ks.length := by
  obtain ⟨hl, _, _, hk⟩ := d
  cases t with
  | false =>
    obtain ⟨kk, rfl, rfl⟩ := hk
    exact .inl ⟨_, e, by rw [List.length_map] at hl ⊢; rw [List.length_zip, ← hl, Nat.min_self]⟩
  | true =>
    obtain ⟨kk, rfl, rfl⟩ := hk
    exact .inr ⟨_, e, by rw [List.length_map] at hl ⊢; rw [List.length_zip, ← hl, Nat.min_self]⟩
theorem blt_len : BltSem G (rrE G) (rLen G.K) bLen := by
  intro W h H xs vs d Q hr r e k
  unfold bLen at e
  split at e
  · cases e
    obtain ⟨v, rfl, r1⟩ := r.one
    obtain ⟨p, us, rfl, s, _, r2⟩ := RepN.tup hr r1
    exact .inl (.inl ⟨p, us, rfl, .inr (.inl (.inl s)), by rw [← r2.length]; exact k W H _ (Fr.refl W H) hr (.int _)⟩)
  · cases e
    obtain ⟨v, rfl, r1⟩ := r.one
    obtain ⟨p, us, rfl, s, _, r2⟩ := RepN.lst hr r1
    exact .inl (.inl ⟨p, us, rfl, .inl s, by rw [← r2.length]; exact k W H _ (Fr.refl W H) hr (.int _)⟩)
  · cases e
    obtain ⟨v, rfl, r1⟩ := r.one
    obtain ⟨rfl, z⟩ := r1.str
    exact .inl (.inr ⟨_, rfl, by simpa [Str.length] using z, by simpa [Str.length] using k W H _ (Fr.refl W H) hr (.int _)⟩)
  · cases e
    obtain ⟨v, rfl, r1⟩ := r.one
    obtain ⟨p, us, u, rfl, e1, dO, r2⟩ := RepN.dct hr r1
    refine .inr ⟨p, rfl, ?_⟩
    have kk := k W H _ (Fr.refl W H) hr (.int _)
    rcases dicO_len dO e1 with ⟨kvs, a1, a2⟩ | ⟨kvs, a1, a2⟩
    · exact .inl ⟨kvs, a1, by rw [a2]; exact kk⟩
    · exact .inr ⟨kvs, a1, by rw [a2]; exact kk⟩
  · cases e
def bInt (xs : List D) : Option D := match xs with
  | [.int i] => some (.int i)
  | [.bl b] => some (.int (if b then 1 else 0))
  | _ => none
theorem blt_int : BltSem G (rrE G) (fun xs H Q => (∃ i, xs = [.int i] ∧ Q (.int i) H) ∨ ∃ k, xs = [.bl k] ∧ Q (.int (if k then 1 else 0)) H) bInt := by
  intro W h H xs vs d Q hr r e k
  unfold bInt at e
  split at e
  · cases e
    obtain ⟨v, rfl, r1⟩ := r.one
    exact .inl ⟨_, by rw [r1.int], k W H _ (Fr.refl W H) hr (.int _)⟩
  · cases e
    obtain ⟨v, rfl, r1⟩ := r.one
    exact .inr ⟨_, by rw [r1.bl], k W H _ (Fr.refl W H) hr (.int _)⟩
  · cases e
def strI (i : Int) : List Nat := (Str.ofString (toString i)).cps.toList
def bStr (xs : List D) : Option D := match xs with
  | [.int i] => if i.natAbs.log2 < 1920 ∧ (strI i).length ≤ 16777216 then some (.str (strI i)) else none
  | _ => none
theorem blt_str : BltSem G (rrE G) (fun xs H Q => ∃ i : Int, xs = [.int i] ∧ i.natAbs.log2 < 1920 ∧ Q (.str (toString i)) H) bStr := by
  intro W h H xs vs d Q hr r e k
  unfold bStr at e
  split at e
  · split at e
    · rename_i i c
      cases e
      obtain ⟨v, rfl, r1⟩ := r.one
      refine ⟨_, by rw [r1.int], c.1, ?_⟩
      exact k W H _ (Fr.refl W H) hr (.str (strI i) (by rw [sizeLine_eq]; exact c.2))
    · cases e
  · cases e
def bList (xs : List D) : Option D := match xs with
  | [.tup ys] => some (.lst ys)
  | [.lst ys] => some (.lst ys)
  | _ => none
theorem blt_list : BltSem G (rrF G) (fun xs H Q => ∃ p ys, xs = [.ref p] ∧ (SqL G.K H p ys ∨ SqT G.K H p ys) ∧ ∀ l, H l = none → Q (.ref l) (upd H l (.lst ys))) bList := by
  intro W h H xs vs d Q hr r e k
  unfold bList at e
  split at e
  · cases e
    obtain ⟨v, rfl, r1⟩ := r.one
    obtain ⟨p, us, rfl, s, z, r2⟩ := RepN.tup hr r1
    have s : SqT G.K H p us := .inl (.inl s)
    refine ⟨p, us, rfl, .inr s, fun l hl => ?_⟩
    obtain ⟨n1, n2, n3⟩ := new_lst hr z r2 hl
    exact k _ _ _ n1 n2 n3
  · cases e
    obtain ⟨v, rfl, r1⟩ := r.one
    obtain ⟨p, us, rfl, s, z, r2⟩ := RepN.lst hr r1
    refine ⟨p, us, rfl, .inl s, fun l hl => ?_⟩
    obtain ⟨n1, n2, n3⟩ := new_lst hr z r2 hl
    exact k _ _ _ n1 n2 n3
  · cases e
def bTuple (xs : List D) : Option D := match xs with
  | [.tup ys] => some (.tup ys)
  | [.lst ys] => some (.tup ys)
  | _ => none
theorem blt_tuple : BltSem G (rrE G) (fun xs H Q => ∃ p ys, xs = [.ref p] ∧ ((SqL G.K H p ys ∧ ∀ l, H l = none → Q (.ref l) (upd H l (.tup ys))) ∨ (SqT G.K H p ys ∧ Q (.ref p) H))) bTuple := by
  intro W h H xs vs d Q hr r e k
  unfold bTuple at e
  split at e
  · cases e
    obtain ⟨v, rfl, r1⟩ := r.one
    obtain ⟨p, us, rfl, s, z, r2⟩ := RepN.tup hr r1
    have s : SqT G.K H p us := .inl (.inl s)
    refine ⟨p, us, rfl, .inr ⟨s, ?_⟩⟩
    rcases r1 with r1 | ⟨_, c, _, z, _⟩
    · exact k W H _ (Fr.refl W H) hr r1
    · cases c <;> cases z
  · cases e
    obtain ⟨v, rfl, r1⟩ := r.one
    obtain ⟨p, us, rfl, s, z, r2⟩ := RepN.lst hr r1
    refine ⟨p, us, rfl, .inl ⟨s, fun l hl => ?_⟩⟩
    obtain ⟨n1, n2, n3⟩ := new_tup hr z r2 hl
    exact k _ _ _ n1 n2 n3
  · cases e
def allB : List D → Option (List Bool)
  | [] => some []
  | .bl b :: r => (allB r).map (b :: ·)
  | _ :: _ => none
theorem allB_rep {W : Wd} : ∀ {ds : List D} {vs : List V} {bs : List Bool}, Reps G W ds vs → allB ds = some bs → vs = bs.map V.bl
  | _, _, bs, .nil, e => by simp only [allB, Option.some.injEq] at e; subst e; rfl
  | _, _, bs, .cons (d := d) r t, e => by
    cases d <;> simp only [allB, reduceCtorEq] at e
    obtain ⟨cs, e1, rfl⟩ := Option.map_eq_some_iff.mp e
    cases r
    rw [allB_rep t e1]
    rfl
def bAll (xs : List D) : Option D := match xs with
  | [.lst ys] => (allB ys).map fun bs => D.bl (bs.all id)
  | _ => none
def bAny (xs : List D) : Option D := match xs with
  | [.lst ys] => (allB ys).map fun bs => D.bl (bs.any id)
  | _ => none
theorem blt_all : BltSem G (rrE G) (rAll G.K) bAll := by
  intro W h H xs vs d Q hr r e k
  unfold bAll at e
  split at e
  · obtain ⟨bs, e1, rfl⟩ := Option.map_eq_some_iff.mp e
    obtain ⟨v, rfl, r1⟩ := r.one
    obtain ⟨p, us, rfl, s, z, r2⟩ := RepN.lst hr r1
    have e2 := allB_rep r2 e1
    subst e2
    exact ⟨p, bs, rfl, s, k W H _ (Fr.refl W H) hr (.bl _)⟩
  · cases e
theorem blt_any : BltSem G (rrE G) (rAny G.K) bAny := by
  intro W h H xs vs d Q hr r e k
  unfold bAny at e
  split at e
  · obtain ⟨bs, e1, rfl⟩ := Option.map_eq_some_iff.mp e
    obtain ⟨v, rfl, r1⟩ := r.one
    obtain ⟨p, us, rfl, s, z, r2⟩ := RepN.lst hr r1
    have e2 := allB_rep r2 e1
    subst e2
    exact ⟨p, bs, rfl, s, k W H _ (Fr.refl W H) hr (.bl _)⟩
  · cases e

/-! ### isinstance -/
inductive Ty where
  | int | bool | str | tuple | list | cls (c : Nat)
def Ty.nm : Ty → String
  | .int => "int" | .bool => "bool" | .str => "str" | .tuple => "tuple" | .list => "list" | .cls _ => ""
def tyN (d : D) : Option String := match d with
  | .non => some "NoneType" | .bl _ => some "bool" | .int _ => some "int" | .str _ => some "str" | .tup _ => some "tuple" | .lst _ => some "list"
  | _ => none
def isiD (sub : Nat → Nat → Bool) (d : D) (t : Ty) : Option Bool := match d, t with
  | .ins c _, .cls c' => some (sub c c')
  | .ins _ _, _ => some false
  | .non, _ => some false
  | .bl _, .bool => some true | .bl _, .int => some true | .bl _, _ => some false
  | .int _, .int => some true | .int _, _ => some false
  | .str _, .str => some true | .str _, _ => some false
  | .tup _, .tuple => some true | .tup _, _ => some false
  | .lst _, .list => some true | .lst _, _ => some false
  | _, _ => none
/-- a cell's thing in the place of its reference, an instance too -/
def drfA (h : IH) (d : D) : D := match d with
  | .ref r => match h[r]? with
    | some .dead => d
    | some c => c.toD
    | none => d
  | d => d
theorem RepS.drfA {W : Wd} {h : IH} {H : Hp} {d : D} {v : V} (hr : Hr G W h H) (x : RepS G W H d v) : RepN G W H (Iv.drfA h d) v := by
  cases d with
  | ref r =>
    rcases x with x | ⟨p, c, h1, h2, _⟩
    · cases x with
      | ref e =>
        rename_i a
        show RepN G W H (match h[r]? with
          | some .dead => .ref r
          | some c => c.toD
          | none => .ref r) _
        split
        · exact .inl (.ref e)
        · rename_i c nd q
          exact .inr ⟨a, c, fun z => nd z, rfl, rfl, hr.cell _ _ _ e q⟩
        · exact .inl (.ref e)
    · cases c <;> cases h2
  | _ => exact x.now
/-- what is asked of the classes -/
structure CK (G : GC) : Prop where
  cl : ∀ c C ns, G.cls c = some (C, ns) → Cls G.K C ∧ PySem.W.findIn G.K (.ref C) "__class__" = some (some (.builtin "object.__class__")) ∧ PySem.W.specialIn G.K (.builtin "object.__class__") "__get__" = some (some (.builtin "getset_descriptor.__get__")) ∧
    PySem.W.takesIn G.K (.builtin "object.__class__") = some true ∧ PySem.W.mroIn G.K C (.type "object") = some true
  isi : ∀ c C ns c' C' ns', G.cls c = some (C, ns) → G.cls c' = some (C', ns') → PySem.W.kitOne G.K (.ref C) (.ref C') = some (G.sub c c')
  isT : ∀ c C ns T, G.cls c = some (C, ns) → T ∈ ["int", "bool", "str", "tuple", "list"] → PySem.W.kitOne G.K (.ref C) (.type T) = some false
  isD : ∀ c C ns n, G.cls c = some (C, ns) → n ∈ ["NoneType", "bool", "int", "str", "tuple", "list"] → PySem.W.kitOne G.K (.type n) (.ref C) = some false
theorem tyX_of {W : Wd} {h : IH} {H : Hp} {d : D} {v : V} {n : String} (hr : Hr G W h H) (r : RepN G W H d v) (e : tyN d = some n) : TyX G.K H v (.type n) := by
  cases d <;> simp only [tyN, Option.some.injEq, reduceCtorEq] at e <;> subst e
  · rw [r.non]; exact .base .non
  · rw [r.bl]; exact .base (.bl _)
  · rw [r.int]; exact .base (.int _)
  · rw [r.str.1]; exact .base (.str _)
  · obtain ⟨p, vs, rfl, s, _⟩ := RepN.tup hr r
    exact .base (.tup s)
  · obtain ⟨p, vs, rfl, s, _⟩ := RepN.lst hr r
    rcases s with (s | ⟨o, s⟩) | ⟨o, its, n, h1, h2, _⟩
    · exact .base (.lst s)
    · exact .base (.frz s)
    · exact .kList h1 h2
theorem tyN_mem {d : D} {n : String} (e : tyN d = some n) : n ∈ ["NoneType", "bool", "int", "str", "tuple", "list"] := by
  cases d <;> simp only [tyN, Option.some.injEq, reduceCtorEq] at e <;> subst e <;> decide
theorem kit_isi {sub : Nat → Nat → Bool} {d : D} {t : Ty} {n : String} {b : Bool} (ht : ∀ c, t ≠ .cls c) (e : tyN d = some n) (i : isiD sub d t = some b) : kitB n t.nm = some b := by
  cases t <;> first | exact absurd rfl (ht _) | skip <;> cases d <;> simp only [tyN, Option.some.injEq, reduceCtorEq] at e <;> subst e <;> simp only [isiD, Option.some.injEq] at i <;> subst i <;> decide +kernel
/-- the answer of isinstance, by values -/
theorem isi_sem (ck : CK G) {t : Ty} {u : Value} {c : V} (ht : (∃ T, t.nm = T ∧ (∀ k, t ≠ .cls k) ∧ c = .ty T ∧ u = .type T) ∨ ∃ k C ns, t = .cls k ∧ G.cls k = some (C, ns) ∧ c = .ref C ∧ u = .ref C)
    {W : Wd} {h : IH} {H : Hp} {x : D} {v : V} {b : Bool} {Q : VK} (hr : Hr G W h H) (r : RepN G W H x v) (e : isiD G.sub x t = some b) (q : Q (.bl b) H) : rIsi G.K [v, c] H Q := by
  have hc : ClsV c u := by
    rcases ht with ⟨T, _, _, rfl, rfl⟩ | ⟨k, C, ns, _, _, rfl, rfl⟩
    · exact .ty _
    · exact .own _
  by_cases hi : ∃ k fs, x = .ins k fs
  · obtain ⟨k, fs, rfl⟩ := hi
    obtain ⟨p, C, dx, ns, us, rfl, h1, h2, h3, h4⟩ := RepN.ins hr r
    obtain ⟨c1, c2, c3, c4, c5⟩ := ck.cl k C ns h1
    refine ⟨_, c, .ref C, u, b, rfl, hc, .base (.ins h2 c1 c2 c3 c4 c5), ?_, q⟩
    rcases ht with ⟨T, e1, e2, rfl, rfl⟩ | ⟨k', C', ns', rfl, e2, rfl, rfl⟩
    · have : b = false := by
        cases t <;> first | exact absurd rfl (e2 _) | (simp only [isiD, Option.some.injEq] at e; exact e.symm)
      subst this
      refine ck.isT k C ns T h1 ?_
      rw [← e1]
      cases t <;> first | exact absurd rfl (e2 _) | decide
    · simp only [isiD, Option.some.injEq] at e
      subst e
      exact ck.isi _ _ _ _ _ _ h1 e2
  · have hty : ∃ n, tyN x = some n := by
      cases x <;> first | exact ⟨_, rfl⟩ | exact absurd ⟨_, _, rfl⟩ hi | (cases t <;> cases e)
    obtain ⟨n, hn⟩ := hty
    refine ⟨v, c, .type n, u, b, rfl, hc, tyX_of hr r hn, ?_, q⟩
    rcases ht with ⟨T, e1, e2, rfl, rfl⟩ | ⟨k', C', ns', rfl, e2, rfl, rfl⟩
    · rw [← e1]
      exact kit_ty (kit_isi e2 hn e)
    · have : b = false := by
        cases x <;> first | exact absurd ⟨_, _, rfl⟩ hi | (simp only [isiD, Option.some.injEq] at e; exact e.symm) | cases e
      subst this
      exact ck.isD _ _ _ n e2 (tyN_mem hn)
def eIsi (sub : Nat → Nat → Bool) (t : Ty) (f : Env → M D) (env : Env) : M D := bnd (f env) fun x => fun h => lft ((isiD sub (drfA h x) t).map D.bl) h
theorem pev_isi0 (ck : CK G) {t : Ty} {a ce : Expr} {f : Env → M D} {p pos : Pos} {c : V} {u : Value} (ht : (∃ T, t.nm = T ∧ (∀ k, t ≠ .cls k) ∧ c = .ty T ∧ u = .type T) ∨ ∃ k C ns, t = .cls k ∧ G.cls k = some (C, ns) ∧ c = .ref C ∧ u = .ref C)
    (h2 : PE X ce (tC c)) (hs : starEach [ce] X.env = [(false, eval ce X.env)]) (hK : X.K = G.K) (hg : Gl X "isinstance") (hm : X.mg "isinstance" = none)
    (ha : PE X a (tR G (rrO G) E f)) (hn : ∀ b q, a ≠ .Starred b q) : PE X (.Call (.Name "isinstance" p) [a, ce] [] pos) (tR G (rrE G) E (eIsi G.sub t f)) := by
  have hp : PA X [a, ce] (tCons (tR G (rrO G) E f) (tCons (tC c) tNil)) := pa_cons ha (pa_cons h2 pa_nil hs) (starEach_cons hn)
  refine pe_imp (pe_callB call_isi hg hm (by decide +kernel) hp (by decide +kernel) (by decide +kernel) (starEach_cons hn) (by rw [hs]; rfl)) fun σ H Q ⟨W, h, env, H0, hr, er, p⟩ => ?_
  refine ⟨W, h, env, H0, hr, er, (post_bnd.mp p).mono (fun x h1 p1 W1 H1 v f1 hr1 r1 => ?_) fun _ _ _ k => k⟩
  obtain ⟨d, e, k⟩ := post_lft p1
  obtain ⟨b, e1, rfl⟩ := Option.map_eq_some_iff.mp e
  rw [hK]
  exact isi_sem ck ht hr1 (RepS.drfA hr1 r1) e1 (k W1 H1 _ f1 hr1 (.bl b))
theorem pev_isi (ck : CK G) {t : Ty} {a : Expr} {f : Env → M D} {xT : Str} {p p2 pos : Pos} (ht : ∀ k, t ≠ .cls k) (hK : X.K = G.K) (hg : Gl X "isinstance") (hm : X.mg "isinstance" = none) (hgT : Gl X xT) (hmT : X.mg xT = none) (hvT : bootBuiltins xT = some (.type t.nm)) (hnT : xT ≠ "__name__") (hdT : (xT == ("__debug__" : Str)) = false)
    (ha : PE X a (tR G (rrO G) E f)) (hn : ∀ b q, a ≠ .Starred b q) : PE X (.Call (.Name "isinstance" p) [a, .Name xT p2] [] pos) (tR G (rrE G) E (eIsi G.sub t f)) :=
  pev_isi0 ck (.inl ⟨_, rfl, ht, rfl, rfl⟩) (pe_bltn hgT hmT hvT rfl hnT hdT) rfl hK hg hm ha hn
theorem pev_isiC (ck : CK G) {k : Nat} {C : Addr} {ns : List Str} {a : Expr} {f : Env → M D} {xT : Str} {p p2 pos : Pos} (hC : G.cls k = some (C, ns)) (hK : X.K = G.K) (hg : Gl X "isinstance") (hm : X.mg "isinstance" = none) (hgT : Gl X xT) (hmT : X.mg xT = some (.ref C)) (hdT : (xT == ("__debug__" : Str)) = false)
    (ha : PE X a (tR G (rrO G) E f)) (hn : ∀ b q, a ≠ .Starred b q) : PE X (.Call (.Name "isinstance" p) [a, .Name xT p2] [] pos) (tR G (rrE G) E (eIsi G.sub (.cls k) f)) :=
  pev_isi0 ck (.inr ⟨k, C, ns, rfl, hC, rfl, rfl⟩) (pe_glob hgT hmT rfl hdT) rfl hK hg hm ha hn
end Iv

/-! Iv, part E: targets, what is walked, comprehensions. -/
namespace Iv
open PySem L2
variable {G : GC} {X : Cx} {H0 : Hp} {E : EK}

/-! ### targets -/
inductive Tg where
  | nm (i : Nat) | tp (is : List Nat)
def Tg.slots : Tg → List Nat
  | .nm i => [i]
  | .tp is => is
def bindNs : List Nat → List D → Env → Option Env
  | [], [], env => some env
  | i :: is, d :: ds, env => if i < env.length then bindNs is ds (env.set i (.val d)) else none
  | _, _, _ => none
def bindT (t : Tg) (d : D) (env : Env) : Option Env := match t with
  | .nm i => if i < env.length then some (env.set i (.val d)) else none
  | .tp is => match d with
    | .tup ds => bindNs is ds env
    | _ => none
theorem Er.set {W : Wd} {H : Hp} {env : Env} {σ : St} {i : Nat} {d : D} {v : V} (x : Er G W H0 H env σ) (r : Rep G W d v) : Er G W H0 H (env.set i (.val d)) (σ.set i (some v)) := by
  have look : ∀ (j : Nat) (s : Sl), (env.set i (.val d))[j]? = some s → (j = i ∧ s = .val d) ∨ (j ≠ i ∧ env[j]? = some s) := fun j s h => by
    by_cases e : j = i
    · subst e
      have hj : j < env.length := by have := (List.getElem?_eq_some_iff.mp h).1; simpa using this
      rw [List.getElem?_set_self hj] at h; cases h
      exact .inl ⟨rfl, rfl⟩
    · rw [List.getElem?_set_ne (Ne.symm e)] at h; exact .inr ⟨e, h⟩
  refine ⟨by simp [x.len], fun j s w h1 h2 => ?_, fun j k xs ys p h1 h2 h3 h4 => ?_⟩
  · rcases look j s h1 with ⟨rfl, rfl⟩ | ⟨ne, h1⟩
    · have hj : j < σ.length := by have := (List.getElem?_eq_some_iff.mp h2).1; simpa using this
      rw [List.getElem?_set_self hj] at h2; cases h2
      exact ⟨v, rfl, r⟩
    · rw [List.getElem?_set_ne (Ne.symm ne)] at h2
      exact x.at_ j s w h1 h2
  · rcases look j _ h1 with ⟨_, c⟩ | ⟨n1, h1⟩
    · cases c
    · rcases look k _ h2 with ⟨_, c⟩ | ⟨n2, h2⟩
      · cases c
      · rw [List.getElem?_set_ne (Ne.symm n1)] at h3
        rw [List.getElem?_set_ne (Ne.symm n2)] at h4
        exact x.dist j k xs ys p h1 h2 h3 h4
theorem wipe_set {σ : St} {i : Nat} {o : Option V} : ∀ {vs : List Nat}, i ∈ vs → wipe (σ.set i o) vs = wipe σ vs
  | v :: vs, h => by
    show (wipe (σ.set i o) vs).set v none = (wipe σ vs).set v none
    by_cases hm : i ∈ vs
    · rw [wipe_set hm]
    · have e : i = v := by rcases List.mem_cons.mp h with e | e; exact e; exact absurd e hm
      subst e
      have out : ∀ {us : List Nat}, i ∉ us → wipe (σ.set i o) us = (wipe σ us).set i o := fun {us} => by
        induction us with
        | nil => intro _; rfl
        | cons u us ih =>
          intro hn
          have h1 : i ≠ u := fun e => hn (by rw [e]; exact List.mem_cons_self)
          have h2 : i ∉ us := fun e => hn (List.mem_cons_of_mem _ e)
          show (wipe (σ.set i o) us).set u none = ((wipe σ us).set u none).set i o
          rw [ih h2, List.set_comm _ _ h1]
      rw [out hm, List.set_set]
def gTr (G : GC) (t : Tg) : TG := fun v σ H Q => ∃ (W : Wd) (h : IH) (env env' : Env) (d : D) (H0 : Hp), Hr G W h H ∧ Er G W H0 H env σ ∧ Rep G W d v ∧ bindT t d env = some env' ∧
  ∀ σ', Er G W H0 H env' σ' → (∀ vs : List Nat, (∀ i ∈ t.slots, i ∈ vs) → wipe σ' vs = wipe σ vs) → Q σ' H
theorem pg_imp {e : Expr} {t t' : TG} (h : PG X e t) (i : ∀ v σ H Q, t' v σ H Q → t v σ H Q) : PG X e t' := ⟨fun pins s σ H v u Q I r q => h.run pins s σ H v u Q I r (i v σ H Q q)⟩
theorem pgv_name {i : Nat} {x : Str} {pos : Pos} (hN : X.N.Nodup) (hi : X.N[i]? = some x) (hx : Loc X.env.scope x) (hf : X.fn x = true ∨ X.env.scope.names.lookup x = some .local) : PG X (.Name x pos) (gTr G (.nm i)) :=
  pg_imp (pg_name hN hi hx hf) fun v σ H Q ⟨W, h, env, env', d, H0, hr, er, r, hb, q⟩ => by
    simp only [bindT] at hb
    split at hb
    · cases hb
      refine q _ (er.set r) fun vs hm => wipe_set (hm i (by simp [Tg.slots]))
    · cases hb
/-- names in a row -/
inductive Nms (X : Cx) : List Expr → List Nat → Prop
  | nil : Nms X [] []
  | cons {i : Nat} {x : Str} {pos : Pos} {es : List Expr} {is : List Nat} : X.N[i]? = some x → Loc X.env.scope x → (X.fn x = true ∨ X.env.scope.names.lookup x = some .local) → Nms X es is → Nms X (.Name x pos :: es) (i :: is)
def gNms : List Nat → TGs
  | [] => gNil
  | i :: is => gCons (gName i) (gNms is)
theorem pgs_nms (hN : X.N.Nodup) : ∀ {es : List Expr} {is : List Nat}, Nms X es is → PGs X es (gNms is)
  | _, _, .nil => pgs_nil
  | _, _, .cons hi hx hf t => pgs_cons (pg_name hN hi hx hf) (pgs_nms hN t) rfl
theorem nms_len {env : PySem.Env} : ∀ {es : List Expr} {is : List Nat}, Nms X es is → (assignEach es env).length = is.length
  | _, _, .nil => rfl
  | _, _, .cons _ _ _ t => by
    show (assignEach _ env).length + 1 = _ + 1
    rw [nms_len t]
theorem nms_plain {env : PySem.Env} : ∀ {es : List Expr} {is : List Nat}, Nms X es is → (assignEach es env).findIdx? (·.1) = none
  | _, _, .nil => rfl
  | _, _, .cons (x := x) (pos := pos) (es := es) _ _ _ t => by
    show ((false, assign (.Name x pos) env) :: assignEach es env).findIdx? (·.1) = none
    rw [List.findIdx?_cons]
    simp [nms_plain t]
theorem gNms_ok {W : Wd} {H : Hp} : ∀ {is : List Nat} {ds : List D} {vs : List V} {env env' : Env} {σ : St} {Q : St → Hp → Prop}, Er G W H0 H env σ → Reps G W ds vs → bindNs is ds env = some env' →
    (∀ σ', Er G W H0 H env' σ' → (∀ us : List Nat, (∀ i ∈ is, i ∈ us) → wipe σ' us = wipe σ us) → Q σ' H) → gNms is vs σ H Q
  | [], [], vs, env, env', σ, Q, er, r, hb, q => by
    cases r
    simp only [bindNs, Option.some.injEq] at hb
    subst hb
    exact ⟨rfl, q σ er fun _ _ => rfl⟩
  | [], d :: ds, vs, env, env', σ, Q, er, r, hb, q => by simp [bindNs] at hb
  | i :: is, [], vs, env, env', σ, Q, er, r, hb, q => by simp [bindNs] at hb
  | i :: is, d :: ds, vs, env, env', σ, Q, er, r, hb, q => by
    cases r with
    | cons r t =>
      rename_i v us
      simp only [bindNs] at hb
      split at hb
      · refine ⟨v, us, rfl, gNms_ok (er.set r) t hb fun σ' er' hw => q σ' er' fun ws hm => ?_⟩
        rw [hw ws fun j hj => hm j (List.mem_cons_of_mem _ hj), wipe_set (hm i List.mem_cons_self)]
      · cases hb
theorem pgv_tup {es : List Expr} {is : List Nat} {k : Nat} {pos : Pos} (hK : X.K = G.K) (hc : X.calm = true) (hN : X.N.Nodup) (h : Nms X es is) : PG X (.Tuple es k pos) (gTr G (.tp is)) :=
  pg_imp (pg_tup hc (pgs_nms hN h) (nms_len h) (nms_plain h)) fun v σ H Q ⟨W, hh, env, env', d, H0, hr, er, r, hb, q⟩ => by
    cases d <;> simp only [bindT, reduceCtorEq] at hb
    rename_i ds
    obtain ⟨a, vs, rfl, s, z, r⟩ := RepN.tup hr (.inl r)
    have hl : ∀ {is : List Nat} {ds : List D} {env env' : Env}, bindNs is ds env = some env' → ds.length = is.length := fun {is} => by
      induction is with
      | nil =>
        intro ds env env' h
        cases ds with
        | nil => rfl
        | cons d ds => simp [bindNs] at h
      | cons i is ih =>
        intro ds env env' h
        cases ds with
        | nil => simp [bindNs] at h
        | cons d ds =>
          simp only [bindNs] at h
          split at h
          · rw [List.length_cons, List.length_cons, ih h]
          · cases h
    exact ⟨a, vs, rfl, .inl (.inl s), by rw [← r.length]; exact hl hb, gNms_ok er r hb q⟩

/-! ### what is walked -/
/-- a cell that must stay as it is while it is walked -/
abbrev Gd := Option (Nat × Cell)
def gOk (g : Gd) (h : IH) : Prop := match g with
  | none => True
  | some g => h[g.1]? = some g.2
open Classical in
noncomputable def gdP {α β : Type} (g : Gd) (f : α → M β) : α → M β := match g with
  | none => f
  | some g => fun a h => if h[g.1]? = some g.2 then f a h else .bad
theorem gdP_post {α β : Type} {g : Gd} {f : α → M β} {a : α} {h : IH} {K : β → IH → Prop} {Y : Nat → List D → IH → Prop} (p : (gdP g f a h).post K Y) : gOk g h ∧ (f a h).post K Y := by
  cases g with
  | none => exact ⟨trivial, p⟩
  | some g =>
    unfold gdP at p
    by_cases c : h[g.1]? = some g.2
    · simp only [if_pos c] at p; exact ⟨c, p⟩
    · simp only [if_neg c] at p; exact p.elim
structure Walks (G : GC) (W : Wd) (g : Gd) (J : It) (ds : List D) : Prop where
  stop : ∀ W' h H, Le W W' → Hr G W' h H → gOk g h → J.stop ds.length H
  go : ∀ i W' h H, i < ds.length → Le W W' → Hr G W' h H → gOk g h → J.go i H
  yld : ∀ i W' h H x H' d, ds[i]? = some d → Le W W' → Hr G W' h H → gOk g h → J.yld i H x H' → ∃ W'', Fr W' H W'' H' ∧ Hr G W'' h H' ∧ Rep G W'' d x
def KI (G : GC) (W : Wd) (H : Hp) (R : It → Hp → Prop) : Gd × List D → IH → Prop := fun ds h' =>
  ∀ W' H' J, Fr W H W' H' → Hr G W' h' H' → ds.2.length ≤ sizeLine → Walks G W' ds.1 J ds.2 → R J H'
def tIr (G : GC) (E : EK) (ev : Env → M (Gd × List D)) : TI := fun σ H R =>
  ∃ (W : Wd) (h : IH) (env : Env) (H0 : Hp), Hr G W h H ∧ Er G W H0 H env σ ∧ (ev env h).post (KI G W H R) (KX G (E σ) W H)
theorem pi_imp {tg e : Expr} {t t' : TI} (h : PI X tg e t) (i : ∀ σ H R, t' σ H R → t σ H R) : PI X tg e t' := ⟨fun pins s σ H R I q => h.run pins s σ H R I (i σ H R q)⟩
theorem pi_seq0 {tg l : Expr} {tl : TE} (hl : PE X l tl) : PI X tg l (fun σ H R => tl σ H fun x H1 => (∃ a xs, x = .ref a ∧ SqL X.K H1 a xs ∧ R (Itl X.K a) H1) ∨ (∃ a xs, x = .ref a ∧ SqT X.K H1 a xs ∧ R (Itt X.K a) H1) ∨ ∃ z, x = .str z ∧ R (Its z) H1) := by
  refine ⟨fun pins s σ H R I h => ?_⟩
  refine thn (hl.run pins s σ H _ I h) fun v s1 ⟨x, H1, I1, r1, q1⟩ => ?_
  rcases q1 with ⟨a, xs, e, hq, q⟩ | ⟨a, xs, e, hq, q⟩ | ⟨z, e, q⟩
  · subst e
    cases r1
    obtain ⟨its, rv, p, hz⟩ := I1.list hq
    refine wpAny_pyIter_list p.isList ?_
    refine ⟨s1.heap.objs.size, [s1.heap.objs.size], _, _, H1, rfl, I1.kept (t' := s1.toks) fun b o e => Heap.get?_push_of_some _ e, turn_list a _, ⟨_, Heap.get?_push_size _ rfl, rfl, rfl⟩, fun b hb => ?_, q⟩
    have e : b = s1.heap.objs.size := by simpa using hb
    subst e
    exact I1.fpOk (Nat.le_refl _) (I1.hok.fresh (Nat.le_refl _))
  · subst e
    cases r1
    obtain ⟨its, rv, p, hz⟩ := I1.tuple hq
    refine wpAny_pyIter_tuple (show s1.heap.IsTuple a its.toArray from p) ?_
    refine ⟨s1.heap.objs.size, [s1.heap.objs.size], _, _, H1, rfl, I1.kept (t' := s1.toks) fun b o e => Heap.get?_push_of_some _ e, turn_tuple a _, ⟨_, Heap.get?_push_size _ rfl, rfl, rfl⟩, fun b hb => ?_, q⟩
    have e : b = s1.heap.objs.size := by simpa using hb
    subst e
    exact I1.fpOk (Nat.le_refl _) (I1.hok.fresh (Nat.le_refl _))
  · subst e
    obtain ⟨t, rfl⟩ := r1
    cases ha : z.cps.all (· < 128)
    · exact wpAny_pyIter_wide ha (pi_one (tk := s1.toks) I1 _ (turn_str _ z t "str_iterator" (.inr rfl)) ⟨_, Heap.get?_push_size _ rfl, rfl, rfl⟩ q)
    · exact wpAny_pyIter_ascii ha (pi_one (tk := s1.toks) I1 _ (turn_str _ z t "str_ascii_iterator" (.inl rfl)) ⟨_, Heap.get?_push_size _ rfl, rfl, rfl⟩ q)
def itemsD (d : D) : Option (List D) := match d with
  | .tup xs => some xs
  | .lst xs => some xs
  | .str z => some (z.map fun c => D.str [c])
  | _ => none
/-- the items of a thing, a cell's with its guard -/
def walkD (h : IH) (d : D) : Option (Gd × List D) := match d with
  | .ref r => match h[r]? with
    | some (.lst xs) => some (some (r, .lst xs), xs)
    | _ => none
  | d => (itemsD d).map fun xs => (none, xs)
def iSeq (f : Env → M D) (env : Env) : M (Gd × List D) := bnd (f env) fun x => fun h => lft (walkD h x) h
theorem walks_list {W : Wd} {a : Addr} {ds : List D} {vs : List V} (s : SqL G.K W.F a vs) (r : Reps G W ds vs) : Walks G W none (Itl G.K a) ds := by
  have at_ : ∀ W' h H, Le W W' → Hr G W' h H → SqL G.K H a vs := fun W' h H l hr => sqL_le hr.sub (sqL_le l.f s)
  refine ⟨fun W' h H l hr _ => ⟨vs, at_ W' h H l hr, by rw [r.length]; exact Nat.le_refl _⟩, fun i W' h H hi l hr _ => ?_, fun i W' h H x H' d hd l hr _ y => ?_⟩
  · obtain ⟨v, e, _⟩ := r.get (List.getElem?_eq_getElem hi)
    exact ⟨vs, v, at_ W' h H l hr, e⟩
  · obtain ⟨e, y⟩ := y
    subst e
    obtain ⟨v, e, rv⟩ := r.get hd
    have e2 := y vs (at_ W' h _ l hr)
    rw [e] at e2; cases e2
    exact ⟨W', Fr.refl W' _, hr, rv.mono l⟩
theorem walks_tup {W : Wd} {a : Addr} {ds : List D} {vs : List V} (s : SqT G.K W.F a vs) (r : Reps G W ds vs) : Walks G W none (Itt G.K a) ds := by
  have at_ : ∀ W' h H, Le W W' → Hr G W' h H → SqT G.K H a vs := fun W' h H l hr => sqT_le hr.sub (sqT_le l.f s)
  refine ⟨fun W' h H l hr _ => ⟨vs, at_ W' h H l hr, by rw [r.length]; exact Nat.le_refl _⟩, fun i W' h H hi l hr _ => ?_, fun i W' h H x H' d hd l hr _ y => ?_⟩
  · obtain ⟨v, e, _⟩ := r.get (List.getElem?_eq_getElem hi)
    exact ⟨vs, v, at_ W' h H l hr, e⟩
  · obtain ⟨e, y⟩ := y
    subst e
    obtain ⟨v, e, rv⟩ := r.get hd
    have e2 := y vs (at_ W' h _ l hr)
    rw [e] at e2; cases e2
    exact ⟨W', Fr.refl W' _, hr, rv.mono l⟩
theorem one_le : (1 : Nat) ≤ sizeLine := by rw [sizeLine_eq]; decide
theorem walks_str {W : Wd} {z : List Nat} : Walks G W none (Its ⟨z.toArray⟩) (z.map fun c => D.str [c]) := by
  refine ⟨fun W' h H l hr _ => by show z.toArray.size ≤ _; simp, fun i W' h H hi l hr _ => by show i < z.toArray.size; simpa using hi, fun i W' h H x H' d hd l hr _ y => ?_⟩
  obtain ⟨e, c, e1, e2⟩ := y
  subst e e2
  rw [List.getElem?_map] at hd
  obtain ⟨c', e3, e4⟩ := Option.map_eq_some_iff.mp hd
  subst e4
  have e1 : z.toArray[i]? = some c := e1
  have e5 : z[i]? = some c := by simpa using e1
  rw [e3] at e5; cases e5
  exact ⟨W', Fr.refl W' _, hr, .str [_] one_le⟩
theorem walks_cell {W : Wd} {a : Addr} {r : Nat} {xs : List D} (e : W.rho[r]? = some a) : Walks G W (some (r, .lst xs)) (Itl G.K a) xs := by
  have at_ : ∀ W' h H, Le W W' → Hr G W' h H → gOk (some (r, .lst xs)) h → ∃ vs, SqL G.K H a vs ∧ Reps G W' xs vs := fun W' h H l hr g => by
    obtain ⟨vs, e1, e2, _⟩ := (hr.cell r a _ (l.at e) g).lst
    exact ⟨vs, .inl (.inl e1), e2⟩
  refine ⟨fun W' h H l hr g => ?_, fun i W' h H hi l hr g => ?_, fun i W' h H x H' d hd l hr g y => ?_⟩
  · obtain ⟨vs, s, r⟩ := at_ W' h H l hr g
    exact ⟨vs, s, by rw [r.length]; exact Nat.le_refl _⟩
  · obtain ⟨vs, s, r⟩ := at_ W' h H l hr g
    obtain ⟨v, e, _⟩ := r.get (List.getElem?_eq_getElem hi)
    exact ⟨vs, v, s, e⟩
  · obtain ⟨vs, s, r⟩ := at_ W' h H l hr g
    obtain ⟨e, y⟩ := y
    subst e
    obtain ⟨v, e, rv⟩ := r.get hd
    have e2 := y vs s
    rw [e] at e2; cases e2
    exact ⟨W', Fr.refl W' _, hr, rv⟩
theorem pivv_seq {tg e : Expr} {f : Env → M D} (hK : X.K = G.K) (he : PE X e (tR G (rrE G) E f)) : PI X tg e (tIr G E (iSeq f)) := pi_imp (pi_seq0 he) fun σ H R ⟨W, h, env, H0, hr, er, p⟩ => by
  refine ⟨W, h, env, H0, hr, er, (post_bnd.mp p).mono (fun x h1 p1 W1 H1 v f1 hr1 r1 => ?_) fun _ _ _ k => k⟩
  obtain ⟨ds, e, k⟩ := post_lft p1
  cases x <;> simp only [walkD, itemsD, Option.map_some, Option.map_none, Option.some.injEq, reduceCtorEq] at e
  · subst e
    cases r1 with
    | str _ z => exact .inr (.inr ⟨_, rfl, k W1 H1 _ f1 hr1 (by simpa using z) walks_str⟩)
  · subst e
    cases r1 with
    | tup s z r => exact .inr (.inl ⟨_, _, rfl, .inl (.inl (hr1.sub _ _ s)), by rw [hK]; exact k W1 H1 _ f1 hr1 z (walks_tup (.inl (.inl s)) r)⟩)
  · subst e
    cases r1 with
    | lst s z r => exact .inl ⟨_, _, rfl, by rw [hK]; exact sqL_le hr1.sub s, by rw [hK]; exact k W1 H1 _ f1 hr1 z (walks_list s r)⟩
  · split at e
    · rename_i xs q
      cases e
      cases r1 with
      | ref ea =>
        obtain ⟨vs, e1, e2, e3⟩ := (hr1.cell _ _ _ ea q).lst
        exact .inl ⟨_, _, rfl, by rw [hK]; exact .inl (.inl e1), by rw [hK]; exact k W1 H1 _ f1 hr1 e3 (walks_cell ea)⟩
    · cases e

/-! ### ranges -/
def rng (lo c : Int) (n : Nat) : List D := (List.range n).map fun (m : Nat) => D.int (lo + (m : Int) * c)
def range1 (ds : List D) : Option (List D) := match ds with
  | [.int j] => if -(2 ^ 62) ≤ j ∧ j ≤ 16777216 then some (rng 0 1 j.toNat) else none
  | _ => none
def range2 (ds : List D) : Option (List D) := match ds with
  | [.int i, .int j] => if (-(2 ^ 62) ≤ i ∧ i < 2 ^ 62 ∧ -(2 ^ 62) ≤ j ∧ j < 2 ^ 62) ∧ (j - i).toNat ≤ 16777216 then some (rng i 1 (j - i).toNat) else none
  | _ => none
def range3 (ds : List D) : Option (List D) := match ds with
  | [.int i, .int j, .int c] => if (c ≠ 0 ∧ c.natAbs < 1073741824 ∧ Builtin.Range.small i j c = true) ∧ (0 ≤ Builtin.Range.rangeSize i j c ∧ Builtin.Range.rangeSize i j c ≤ 16777216) then some (rng i c (Builtin.Range.rangeSize i j c).toNat) else none
  | _ => none
def iArgs (op : List D → Option (List D)) (g : Env → M (List D)) (env : Env) : M (Gd × List D) := bnd (g env) fun ds => bnd (lftNs op ds) fun xs => ret (none, xs)
theorem walks_c {W : Wd} {lo c : Int} {n : Nat} : Walks G W none (Itc lo c n) (rng lo c n) := by
  have hl : (rng lo c n).length = n := by simp [rng]
  refine ⟨fun W' h H l hr _ => by show n ≤ _; rw [hl]; exact Nat.le_refl _, fun i W' h H hi l hr _ => by show i < n; rw [hl] at hi; exact hi, fun i W' h H x H' d hd l hr _ y => ?_⟩
  obtain ⟨e, e2⟩ := y
  subst e e2
  have hi : i < n := by have := (List.getElem?_eq_some_iff.mp hd).1; rwa [hl] at this
  have e3 : (rng lo c n)[i]? = some (D.int (lo + (i : Nat) * c)) := by simp [rng, hi]
  rw [e3] at hd; cases hd
  exact ⟨W', Fr.refl W' _, hr, .int _⟩
theorem walks_r {W : Wd} {lo : Int} {n : Nat} : Walks G W none (Itr lo n) (rng lo 1 n) := by
  have hl : (rng lo 1 n).length = n := by simp [rng]
  refine ⟨fun W' h H l hr _ => by show n ≤ _; rw [hl]; exact Nat.le_refl _, fun i W' h H hi l hr _ => by show i < n; rw [hl] at hi; exact hi, fun i W' h H x H' d hd l hr _ y => ?_⟩
  obtain ⟨e, e2⟩ := y
  subst e e2
  have hi : i < n := by have := (List.getElem?_eq_some_iff.mp hd).1; rwa [hl] at this
  have e3 : (rng lo 1 n)[i]? = some (D.int (lo + (i : Nat))) := by simp [rng, hi]
  rw [e3] at hd; cases hd
  exact ⟨W', Fr.refl W' _, hr, .int _⟩
theorem RepsN.three {W : Wd} {H : Hp} {d e f : D} {vs : List V} (r : RepsN G W H [d, e, f] vs) : ∃ v u w, vs = [v, u, w] ∧ RepN G W H d v ∧ RepN G W H e u ∧ RepN G W H f w := by
  cases r with
  | cons a b =>
    obtain ⟨u, w, rfl, b1, b2⟩ := b.two
    exact ⟨_, _, _, rfl, a, b1, b2⟩
theorem pivv_range1 {tg a : Expr} {p pos : Pos} {g : Env → M (List D)} (hg : Gl X "range") (hm : X.mg "range" = none) (ha : PA X [a] (tOr G E g)) (hn : ∀ b q, a ≠ .Starred b q) :
    PI X tg (.Call (.Name "range" p) [a] [] pos) (tIr G E (iArgs range1 g)) := pi_imp (pi_range1 hg hm ha (starEach_cons hn)) fun σ H R ⟨W, h, env, H0, hr, er, p⟩ => by
  refine ⟨W, h, env, H0, hr, er, (post_bnd.mp p).mono (fun xs h1 p1 W1 H1 vs f1 hr1 r1 => ?_) fun _ _ _ k => k⟩
  obtain ⟨ds, e, k⟩ := post_lft (post_bnd.mp p1)
  have r1 := RepsS.now hr1 r1
  generalize xs.map (drf h1) = xs at e r1
  unfold range1 at e
  split at e
  · rename_i j
    split at e
    · rename_i c
      cases e
      obtain ⟨v, rfl, r2⟩ := r1.one
      refine ⟨j, by rw [r2.int], c.1, by omega, ?_⟩
      exact k W1 H1 _ f1 hr1 (by rw [sizeLine_eq]; simp [rng]; omega) walks_r
    · cases e
  · cases e
theorem pivv_range2 {tg a b : Expr} {p pos : Pos} {g : Env → M (List D)} (hg : Gl X "range") (hm : X.mg "range" = none) (ha : PA X [a, b] (tOr G E g)) (hn : ∀ c q, a ≠ .Starred c q) (hn2 : ∀ c q, b ≠ .Starred c q) :
    PI X tg (.Call (.Name "range" p) [a, b] [] pos) (tIr G E (iArgs range2 g)) := pi_imp (pi_range2 hg hm ha (by rw [starEach_cons hn, starEach_cons hn2]; rfl) (starEach_cons hn2)) fun σ H R ⟨W, h, env, H0, hr, er, p⟩ => by
  refine ⟨W, h, env, H0, hr, er, (post_bnd.mp p).mono (fun xs h1 p1 W1 H1 vs f1 hr1 r1 => ?_) fun _ _ _ k => k⟩
  obtain ⟨ds, e, k⟩ := post_lft (post_bnd.mp p1)
  have r1 := RepsS.now hr1 r1
  generalize xs.map (drf h1) = xs at e r1
  unfold range2 at e
  split at e
  · rename_i i j
    split at e
    · rename_i c
      cases e
      obtain ⟨v, u, rfl, r2, r3⟩ := r1.two
      refine ⟨i, j, by rw [r2.int, r3.int], c.1, ?_⟩
      exact k W1 H1 _ f1 hr1 (by rw [sizeLine_eq]; simp [rng]; omega) walks_r
    · cases e
  · cases e
theorem pivv_range3 {tg a b c : Expr} {p pos : Pos} {g : Env → M (List D)} (hg : Gl X "range") (hm : X.mg "range" = none) (ha : PA X [a, b, c] (tOr G E g)) (hn : ∀ d q, a ≠ .Starred d q) (hn2 : ∀ d q, b ≠ .Starred d q) (hn3 : ∀ d q, c ≠ .Starred d q) :
    PI X tg (.Call (.Name "range" p) [a, b, c] [] pos) (tIr G E (iArgs range3 g)) := pi_imp (pi_range3 hg hm ha (starEach_cons hn) (noStar_any fun u hu => by
      rcases List.mem_cons.mp hu with e | hu
      · rw [e]; exact hn2
      · rcases List.mem_cons.mp hu with e | hu
        · rw [e]; exact hn3
        · cases hu)) fun σ H R ⟨W, h, env, H0, hr, er, p⟩ => by
  refine ⟨W, h, env, H0, hr, er, (post_bnd.mp p).mono (fun xs h1 p1 W1 H1 vs f1 hr1 r1 => ?_) fun _ _ _ k => k⟩
  obtain ⟨ds, e, k⟩ := post_lft (post_bnd.mp p1)
  have r1 := RepsS.now hr1 r1
  generalize xs.map (drf h1) = xs at e r1
  unfold range3 at e
  split at e
  · rename_i i j c
    split at e
    · rename_i q
      cases e
      obtain ⟨v, u, w, rfl, r2, r3, r4⟩ := r1.three
      refine ⟨i, j, c, (Builtin.Range.rangeSize i j c).toNat, by rw [r2.int, r3.int, r4.int], ⟨q.1.1, q.1.2.1, q.1.2.2, by omega⟩, ?_⟩
      exact k W1 H1 _ f1 hr1 (by rw [sizeLine_eq]; simp [rng]; omega) walks_c
    · cases e
  · cases e

/-! ### zip, enumerate, reversed -/
def zipD (ds : List D) : Option (List D) := match ds with
  | [.lst xs, .lst ys] => some ((xs.zip ys).map fun p => D.tup [p.1, p.2])
  | [.tup xs, .tup ys] => some ((xs.zip ys).map fun p => D.tup [p.1, p.2])
  | _ => none
theorem zip_at {xs ys : List D} {i : Nat} {d : D} (h : ((xs.zip ys).map fun p => D.tup [p.1, p.2])[i]? = some d) : ∃ x y, xs[i]? = some x ∧ ys[i]? = some y ∧ d = .tup [x, y] := by
  rw [List.getElem?_map] at h
  obtain ⟨⟨x, y⟩, h1, h2⟩ := Option.map_eq_some_iff.mp h
  have := List.getElem?_zip_eq_some.mp h1
  exact ⟨x, y, this.1, this.2, h2.symm⟩
theorem two_le : (2 : Nat) ≤ sizeLine := by rw [sizeLine_eq]; decide
theorem new_pair {W : Wd} {h : IH} {H : Hp} {x y : D} {v u : V} {T : Addr} (hr : Hr G W h H) (r1 : Rep G W x v) (r2 : Rep G W y u) (hT : H T = none) :
    ∃ W'', Fr W H W'' (upd H T (.tup [v, u])) ∧ Hr G W'' h (upd H T (.tup [v, u])) ∧ Rep G W'' (.tup [x, y]) (.ref T) :=
  let ⟨n1, n2, n3⟩ := new_tup hr (xs := [x, y]) two_le (.cons r1 (.cons r2 .nil)) hT
  ⟨_, n1, n2, n3⟩
theorem walks_zip {W : Wd} {a b : Addr} {xs ys : List D} {vs us : List V} (s : SqL G.K W.F a vs) (s2 : SqL G.K W.F b us) (r : Reps G W xs vs) (r2 : Reps G W ys us) : Walks G W none (Itz G.K a b) ((xs.zip ys).map fun p => D.tup [p.1, p.2]) := by
  have at1 : ∀ W' h H, Le W W' → Hr G W' h H → SqL G.K H a vs := fun W' h H l hr => sqL_le hr.sub (sqL_le l.f s)
  have at2 : ∀ W' h H, Le W W' → Hr G W' h H → SqL G.K H b us := fun W' h H l hr => sqL_le hr.sub (sqL_le l.f s2)
  refine ⟨fun W' h H l hr _ => ⟨vs, us, at1 W' h H l hr, at2 W' h H l hr, by rw [← r.length, ← r2.length]; simp; omega⟩, fun i W' h H hi l hr _ => ?_, fun i W' h H x H' d hd l hr _ y => ?_⟩
  · obtain ⟨x, y, e1, e2, _⟩ := zip_at (List.getElem?_eq_getElem hi)
    obtain ⟨v, q1, _⟩ := r.get e1
    obtain ⟨u, q2, _⟩ := r2.get e2
    exact ⟨vs, us, v, u, at1 W' h H l hr, at2 W' h H l hr, q1, q2⟩
  · obtain ⟨T, v, u, rfl, hT, rfl, y1, y2⟩ := y
    obtain ⟨x', y', e1, e2, rfl⟩ := zip_at hd
    obtain ⟨v', q1, p1⟩ := r.get e1
    obtain ⟨u', q2, p2⟩ := r2.get e2
    have z1 := y1 vs (at1 W' h _ l hr)
    have z2 := y2 us (at2 W' h _ l hr)
    rw [q1] at z1; rw [q2] at z2; cases z1; cases z2
    exact new_pair hr (p1.mono l) (p2.mono l) hT
theorem walks_zipT {W : Wd} {a b : Addr} {xs ys : List D} {vs us : List V} (s : SqT G.K W.F a vs) (s2 : SqT G.K W.F b us) (r : Reps G W xs vs) (r2 : Reps G W ys us) : Walks G W none (RZ.ItzT G.K a b) ((xs.zip ys).map fun p => D.tup [p.1, p.2]) := by
  have at1 : ∀ W' h H, Le W W' → Hr G W' h H → SqT G.K H a vs := fun W' h H l hr => sqT_le hr.sub (sqT_le l.f s)
  have at2 : ∀ W' h H, Le W W' → Hr G W' h H → SqT G.K H b us := fun W' h H l hr => sqT_le hr.sub (sqT_le l.f s2)
  refine ⟨fun W' h H l hr _ => ⟨vs, us, at1 W' h H l hr, at2 W' h H l hr, by rw [← r.length, ← r2.length]; simp; omega⟩, fun i W' h H hi l hr _ => ?_, fun i W' h H x H' d hd l hr _ y => ?_⟩
  · obtain ⟨x, y, e1, e2, _⟩ := zip_at (List.getElem?_eq_getElem hi)
    obtain ⟨v, q1, _⟩ := r.get e1
    obtain ⟨u, q2, _⟩ := r2.get e2
    exact ⟨vs, us, v, u, at1 W' h H l hr, at2 W' h H l hr, q1, q2⟩
  · obtain ⟨T, v, u, rfl, hT, rfl, y1, y2⟩ := y
    obtain ⟨x', y', e1, e2, rfl⟩ := zip_at hd
    obtain ⟨v', q1, p1⟩ := r.get e1
    obtain ⟨u', q2, p2⟩ := r2.get e2
    have z1 := y1 vs (at1 W' h _ l hr)
    have z2 := y2 us (at2 W' h _ l hr)
    rw [q1] at z1; rw [q2] at z2; cases z1; cases z2
    exact new_pair hr (p1.mono l) (p2.mono l) hT
theorem Reps.two {W : Wd} {d e : D} {vs : List V} (r : Reps G W [d, e] vs) : ∃ v u, vs = [v, u] ∧ Rep G W d v ∧ Rep G W e u := by
  cases r with
  | cons a b => cases b with
    | cons b c => cases c; exact ⟨_, _, rfl, a, b⟩
def iZip (g : Env → M (List D)) (env : Env) : M (Gd × List D) := bnd (g env) fun ds => bnd (lft (zipD ds)) fun xs => ret (none, xs)
theorem pivv_zip {e e2 : Expr} {p pos tpos : Pos} {elts : List Expr} {kk : Nat} {g : Env → M (List D)} (hK : X.K = G.K) (hg : Gl X "zip") (hm : X.mg "zip" = none) (ha : PA X [e, e2] (tAr G E g)) (hn : ∀ d q, e ≠ .Starred d q) (hn2 : ∀ d q, e2 ≠ .Starred d q) :
    PI X (.Tuple elts kk tpos) (.Call (.Name "zip" p) [e, e2] [] pos) (tIr G E (iZip g)) := pi_imp (RZ.pi_zipA hg hm ha (starEach_cons hn) (noStar_any fun u hu => by
      rcases List.mem_cons.mp hu with e | hu
      · rw [e]; exact hn2
      · cases hu)) fun σ H R ⟨W, h, env, H0, hr, er, p⟩ => by
  refine ⟨W, h, env, H0, hr, er, (post_bnd.mp p).mono (fun xs h1 p1 W1 H1 vs f1 hr1 r1 => ?_) fun _ _ _ k => k⟩
  obtain ⟨ds, e, k⟩ := post_lft (post_bnd.mp p1)
  unfold zipD at e
  split at e
  · cases e
    obtain ⟨v, u, rfl, r2, r3⟩ := r1.two
    cases r2 with
    | lst s z r =>
      cases r3 with
      | lst s2 z2 r' =>
        exact ⟨_, _, _, _, rfl, .inl ⟨by rw [hK]; exact sqL_le hr1.sub s, by rw [hK]; exact sqL_le hr1.sub s2, by rw [hK]; exact k W1 H1 _ f1 hr1 (by simp; omega) (walks_zip s s2 r r')⟩⟩
  · cases e
    obtain ⟨v, u, rfl, r2, r3⟩ := r1.two
    cases r2 with
    | tup s z r =>
      cases r3 with
      | tup s2 z2 r' =>
        exact ⟨_, _, _, _, rfl, .inr ⟨.inl (.inl (hr1.sub _ _ s)), .inl (.inl (hr1.sub _ _ s2)), by rw [hK]; exact k W1 H1 _ f1 hr1 (by simp; omega) (walks_zipT (.inl (.inl s)) (.inl (.inl s2)) r r')⟩⟩
  · cases e
end Iv

/-! Iv, part F: comprehensions. -/
namespace Iv
open PySem L2
variable {G : GC} {X : Cx} {H0 : Hp} {E : EK}

abbrev EN : XK := fun _ _ _ => False
abbrev EN1 : EK := fun _ => EN
def noex {α : Type} (m : M α) : M α := fun h => match m h with
  | .ok a h' => .ok a h'
  | .ex _ _ _ => .bad
  | .bad => .bad
theorem post_noex {α : Type} {m : M α} {h : IH} {K : α → IH → Prop} {Y : Nat → List D → IH → Prop} {W : Wd} {H : Hp} (p : ((noex m) h).post K Y) : (m h).post K (KX G EN W H) := by
  unfold noex at p
  cases q : m h with
  | ok a h' => rw [q] at p; exact p
  | ex c fs h' => rw [q] at p; exact p.elim
  | bad => rw [q] at p; exact p.elim
def wipeE (env : Env) : List Nat → Env
  | [] => env
  | v :: vs => (wipeE env vs).set v .no
theorem Er.setNo {W : Wd} {H : Hp} {env : Env} {σ : St} {i : Nat} (x : Er G W H0 H env σ) : Er G W H0 H (env.set i .no) (σ.set i none) := by
  have look : ∀ (j : Nat) (s : Sl), (env.set i .no)[j]? = some s → (j = i ∧ s = .no) ∨ (j ≠ i ∧ env[j]? = some s) := fun j s h => by
    by_cases e : j = i
    · subst e
      have hj : j < env.length := by have := (List.getElem?_eq_some_iff.mp h).1; simpa using this
      rw [List.getElem?_set_self hj] at h; cases h
      exact .inl ⟨rfl, rfl⟩
    · rw [List.getElem?_set_ne (Ne.symm e)] at h; exact .inr ⟨e, h⟩
  refine ⟨by simp [x.len], fun j s w h1 h2 => ?_, fun j k xs ys p h1 h2 h3 h4 => ?_⟩
  · rcases look j s h1 with ⟨rfl, rfl⟩ | ⟨ne, h1⟩
    · trivial
    · rw [List.getElem?_set_ne (Ne.symm ne)] at h2
      exact x.at_ j s w h1 h2
  · rcases look j _ h1 with ⟨_, c⟩ | ⟨n1, h1⟩
    · cases c
    · rcases look k _ h2 with ⟨_, c⟩ | ⟨n2, h2⟩
      · cases c
      · rw [List.getElem?_set_ne (Ne.symm n1)] at h3
        rw [List.getElem?_set_ne (Ne.symm n2)] at h4
        exact x.dist j k xs ys p h1 h2 h3 h4
theorem Er.wipe {W : Wd} {H : Hp} {env : Env} {σ : St} (x : Er G W H0 H env σ) : ∀ vs : List Nat, Er G W H0 H (wipeE env vs) (L2.wipe σ vs)
  | [] => x
  | _ :: vs => (x.wipe vs).setNo

theorem wipe_sub {σ : St} {vs : List Nat} : ∀ {us : List Nat}, (∀ u ∈ us, u ∈ vs) → L2.wipe (L2.wipe σ us) vs = L2.wipe σ vs
  | [], _ => rfl
  | u :: us, h => by
    show L2.wipe ((L2.wipe σ us).set u none) vs = _
    rw [wipe_set (h u List.mem_cons_self)]
    exact wipe_sub fun w hw => h w (List.mem_cons_of_mem _ hw)
theorem wipe_wipe {σ : St} {vs : List Nat} : L2.wipe (L2.wipe σ vs) vs = L2.wipe σ vs := wipe_sub fun _ h => h
/-- the lists of our own stand apart from what is new -/
def only (A : Addr) (o : HO) : Hp := upd (fun _ => none) A o
theorem Er.avoid {W : Wd} {H : Hp} {env : Env} {σ : St} {A : Addr} {o : HO} (x : Er G W H0 H env σ) (hA : H A = none) : Er G W (only A o) H env σ := by
  refine ⟨x.len, fun i s v h1 h2 => ?_, x.dist⟩
  have q := x.at_ i s v h1 h2
  cases s with
  | no => trivial
  | val d => exact q
  | ow c =>
    obtain ⟨p, e, ⟨u, h, z⟩, n, nf, h0, nd⟩ := q
    refine ⟨p, e, ⟨u, h, z⟩, n, nf, ?_, nd⟩
    show L2.upd (fun _ => none) A o p = none
    rw [upd_ne (ne_of_none h hA)]
theorem Er.upd {W : Wd} {H : Hp} {env : Env} {σ : St} {A : Addr} {o u : HO} (x : Er G W (only A o) H env σ) : Er G W (only A o) (L2.upd H A u) env σ := by
  refine ⟨x.len, fun i s v h1 h2 => ?_, x.dist⟩
  have q := x.at_ i s v h1 h2
  cases s with
  | no => trivial
  | val d => exact q
  | ow c =>
    obtain ⟨p, e, ⟨w, h, z⟩, n, nf, h0, nd⟩ := q
    have ne : p ≠ A := fun e => by
      have h0 : L2.upd (fun _ => none) A o p = none := h0
      rw [e, upd_same] at h0; cases h0
    exact ⟨p, e, ⟨w, by rw [upd_ne ne]; exact h, z⟩, n, nf, h0, nd⟩
theorem Fr.own_upd {W W' : Wd} {H H' : Hp} {p : Addr} {o : HO} (x : Fr W H W' H') (hp : H p = none) : Fr W H W' (upd H' p o) := by
  refine ⟨x.f, x.r, fun a u h n => ?_, x.newF, fun a h => ?_⟩
  · rw [upd_ne (ne_of_none h hp)]; exact x.pres a u h n
  · by_cases e : a = p
    · exact e ▸ hp
    · rw [upd_ne e] at h; exact x.dom a h
theorem Hr.own_upd {W : Wd} {h : IH} {H : Hp} {p : Addr} {o : HO} (x : Hr G W h H) (n : p ∉ W.rho) (hf : W.F p = none) : Hr G W h (upd H p o) := by
  refine ⟨fun a u q => ?_, x.len, x.nd, fun i a c h1 h2 => CellR.step (Le.refl W) (fun u q => ?_) (x.cell i a c h1 h2), x.nf⟩
  · have e : a ≠ p := fun e => by rw [e, hf] at q; cases q
    rw [upd_ne e]; exact x.sub a u q
  · have e : a ≠ p := fun e => n (e ▸ List.mem_of_getElem? h1)
    rw [upd_ne e]; exact q

/-! ### one clause -/
def cLoop (t : Tg) (ft : Env → M Bool) (fe : Env → M D) (env : Env) : List D → List D → M (List D)
  | [], acc => ret acc
  | d :: ds, acc => match bindT t d env with
    | none => fun _ => .bad
    | some env1 => bnd (noex (ft env1)) fun b => if b = true then bnd (noex (fe env1)) fun y => cLoop t ft fe env ds (acc ++ [y]) else cLoop t ft fe env ds acc
noncomputable def eComp (it : Env → M (Gd × List D)) (t : Tg) (ft : Env → M Bool) (fe : Env → M D) (own : List Nat) (env : Env) : M D :=
  bnd (it env) fun p => bnd (cLoop t (gdP p.1 ft) fe (wipeE env own) p.2 []) (gdP p.1 fun acc => ret (.lst acc))
theorem comp_of {it : Env → M (Gd × List D)} {t : Tg} {ft : Env → M Bool} {fe : Env → M D} {own : List Nat} (hs : ∀ i ∈ t.slots, i ∈ own) {σ : St} {H : Hp} {Q : VK} (tt : tR G (rrF G) E (eComp it t ft fe own) σ H Q) :
    tLc (tIr G E it) (gTr G t) (tTr G EN1 ft) (tR G (rrE G) EN1 fe) own σ H Q := by
  obtain ⟨W, h, env, H0, hr, er, p⟩ := tt
  refine ⟨W, h, env, H0, hr, er, (post_bnd.mp p).mono (fun gds h1 p1 W1 H1 J f1 hr1 hz wk => ?_) fun _ _ _ k => k⟩
  obtain ⟨gg, ds⟩ := gds
  have hz : ds.length ≤ sizeLine := hz
  intro A hA
  have hA0 : H A = none := f1.dom _ hA
  let Iv : Nat → Hp → Prop := fun i H' => ∃ (W2 : Wd) (h2 : IH) (acc : List D) (vs : List V), Fr W1 H1 W2 H' ∧ Hr G W2 h2 H' ∧ H' A = some (.lst vs) ∧ A ∉ W2.rho ∧ W2.F A = none ∧ Reps G W2 acc vs ∧ acc.length ≤ i ∧ i ≤ ds.length ∧
    ((bnd (cLoop t (gdP gg ft) fe (wipeE env own) (ds.drop i) acc) (gdP gg fun acc => ret (.lst acc))) h2).post (KQ G (rrF G) W H Q) (KX G (E σ) W H)
  refine ⟨fun i m H' => m = ds.length - i ∧ Iv i H', ⟨ds.length, rfl, W1, h1, [], [], fr_own hA, hr1.own hA, upd_same, hr1.notcell hA, hr1.fnone hA, .nil, Nat.le_refl _, Nat.zero_le _, p1⟩, ?_⟩
  rintro i m H' ⟨rfl, W2, h2, acc, vs, f2, hr2, hA2, nA, fA, rA, la, hi, q⟩
  by_cases hlt : i < ds.length
  · have g0 : gOk gg h2 := by
      rw [List.drop_eq_getElem_cons hlt, cLoop] at q
      cases hb : bindT t ds[i] (wipeE env own) with
      | none => rw [hb] at q; exact q.elim
      | some env1 =>
        rw [hb] at q
        exact (gdP_post (post_noex (G := G) (W := W) (H := H) (post_bnd.mp (post_bnd.mp q)))).1
    refine .inr ⟨wk.go i W2 h2 H' hlt f2.le hr2 g0, Iv (i + 1), fun H'' iv => ⟨ds.length - (i + 1), by omega, rfl, iv⟩, fun x H'' y => ?_⟩
    have hd : ds[i]? = some ds[i] := List.getElem?_eq_getElem hlt
    obtain ⟨W3, f3, hr3, r3⟩ := wk.yld i W2 h2 H' x H'' _ hd f2.le hr2 g0 y
    rw [List.drop_eq_getElem_cons hlt, cLoop] at q
    cases hb : bindT t ds[i] (wipeE env own) with
    | none => rw [hb] at q; exact q.elim
    | some env1 =>
      rw [hb] at q
      refine ⟨W3, h2, _, env1, _, H0, hr3, ((er.step (f1.trans f2)).step f3).wipe own, r3, hb, fun σ2 er2 hw => ⟨(hw own hs).trans wipe_wipe, ?_⟩⟩
      have q2 := post_bnd.mp (post_bnd.mp q)
      refine ⟨W3, h2, env1, H0, hr3, er2, R.post.mono (gdP_post (post_noex q2)).2 (fun b h3 p3 W4 H4 f4 hr4 => ?_) fun _ _ _ k => k⟩
      have A3 := f3.pres A _ hA2 nA
      have n3 := f3.notin hA2 nA
      have F3 := f3.nof hA2 fA nA
      have A4 := f4.pres A _ A3 n3
      have n4 := f4.notin A3 n3
      have F4 := f4.nof A3 F3 n3
      cases b with
      | false =>
        refine iteF ?_
        rw [if_neg Bool.false_ne_true] at p3
        exact ⟨W4, h3, acc, vs, f2.trans (f3.trans f4), hr4, A4, n4, F4, rA.mono (f3.trans f4).le, by omega, hlt, post_bnd.mpr p3⟩
      | true =>
        refine iteT ?_
        rw [if_pos rfl] at p3
        have p4 := post_bnd.mp p3
        refine ⟨W4, h3, env1, H0, hr4, er2.step f4, R.post.mono (post_noex p4) (fun d h4 p5 W5 H5 v f5 hr5 r5 => ?_) fun _ _ _ k => k⟩
        have A5 := f5.pres A _ A4 n4
        have n5 := f5.notin A4 n4
        have F5 := f5.nof A4 F4 n4
        have f6 := f2.trans (f3.trans (f4.trans f5))
        refine ⟨vs, A5, by rw [← rA.length]; omega, W5, h4, acc ++ [d], vs ++ [v], f6.own_upd hA, hr5.own_upd n5 F5, upd_same, n5, F5, (rA.mono (f3.trans (f4.trans f5)).le).snoc r5, by rw [List.length_append]; simp; omega, hlt, post_bnd.mpr p5⟩
  · have e : i = ds.length := by omega
    subst e
    rw [List.drop_of_length_le (Nat.le_refl _)] at q
    have q : (gdP gg (fun acc => ret (.lst acc)) acc h2).post (KQ G (rrF G) W H Q) (KX G (E σ) W H) := q
    obtain ⟨g0, q⟩ := gdP_post q
    exact .inl ⟨wk.stop W2 h2 H' f2.le hr2 g0, q W2 H' _ (f1.trans f2) hr2 ⟨A, rfl, CellR.mkL hA2 rA (by have : ds.length ≤ sizeLine := hz; omega), nA, fA, hA0⟩⟩
/-- the tests of a clause: none or one -/
def tsYes (_ : Env) : M Bool := ret true
theorem ptsv_nil : PTs X [] (tTr G E tsYes) := ⟨fun pins s σ H Q I ⟨W, h, env, H0, hr, er, p⟩ => pts_nil.run pins s σ H Q I (p W H (Fr.refl W H) hr)⟩
theorem ptsv_one {c : Expr} {f : Env → M D} (h : PT X c (tTr G E (toB f))) : PTs X [c] (tTr G E (toB f)) := pts_one h
section
variable {elt tg iter : Expr} {ifs : List Expr} {scope : Scope} {own : List (Str × Nat)} {pos : Pos} {it : Env → M (Gd × List D)} {t : Tg} {ft : Env → M Bool} {fe : Env → M D}
theorem folded_not {iter : Expr} {env : PySem.Env} (h : ∀ es k p, iter ≠ .Set es k p) (x : Value) : foldedSetIterable iter env x = pure x := by
  cases iter <;> first
    | rfl
    | exact absurd rfl (h _ _ _)
theorem pev_comp (hc : X.calm = true) (hN : X.N.Nodup) (hi : PI X tg iter (tIr G E it)) (ok : BlkOk X.N X.env.scope scope own) (hsl : ∀ i ∈ t.slots, i ∈ own.map (·.2))
    (hg : ∀ (s : Shared) (H : Hp) (C : Addr) (cl : List (Str × Addr)) (fp : List Addr), PG (X.blk s H scope (compEnvC scope cl C X.env) fp) tg (gTr G t))
    (ht : ∀ (s : Shared) (H : Hp) (C : Addr) (cl : List (Str × Addr)) (fp : List Addr), PTs (X.blk s H scope (compEnvC scope cl C X.env) fp) ifs (tTr G EN1 ft))
    (he : ∀ (s : Shared) (H : Hp) (C : Addr) (cl : List (Str × Addr)) (fp : List Addr), PE (X.blk s H scope (compEnvC scope cl C X.env) fp) elt (tR G (rrE G) EN1 fe)) (hs : ∀ es k p, iter ≠ .Set es k p) :
    PE X (.ListComp elt [⟨tg, iter, ifs, 0⟩] scope pos) (tR G (rrF G) E (eComp it t ft fe (own.map (·.2)))) :=
  pe_imp (pe_lc hc hN hi ok hg ht he (folded_not hs)) fun _ _ _ => comp_of hsl
end

/-! ### two clauses -/
def cIn (t : Tg) (ft : Env → M Bool) (fe : Env → M D) (env : Env) : List D → List D → M (List D)
  | [], acc => ret acc
  | d :: ds, acc => match bindT t d env with
    | none => fun _ => .bad
    | some env1 => bnd (noex (ft env1)) fun b => if b = true then bnd (noex (fe env1)) fun y => bnd (lft (fits (acc.length + 1))) fun _ => cIn t ft fe env ds (acc ++ [y]) else cIn t ft fe env ds acc
def cLoop2 (t1 : Tg) (ft1 : Env → M Bool) (it2 : Env → M (List D)) (t2 : Tg) (ft2 : Env → M Bool) (fe : Env → M D) (vs1 : List Nat) (env : Env) : List D → List D → M (List D)
  | [], acc => ret acc
  | d :: ds, acc => match bindT t1 d env with
    | none => fun _ => .bad
    | some env1 => bnd (noex (ft1 env1)) fun b => if b = true then bnd (noex (it2 env1)) fun es => bnd (cIn t2 ft2 fe (wipeE env1 vs1) es acc) fun acc' => cLoop2 t1 ft1 it2 t2 ft2 fe vs1 env ds acc'
        else cLoop2 t1 ft1 it2 t2 ft2 fe vs1 env ds acc
/-- only what needs no guard -/
def noG (it : Env → M (Gd × List D)) (env : Env) : M (List D) := bnd (it env) fun p => match p.1 with
  | none => ret p.2
  | some _ => fun _ => .bad
theorem noG_post {it : Env → M (Gd × List D)} {env : Env} {h : IH} {K : List D → IH → Prop} {Y : Nat → List D → IH → Prop} (p : (noG it env h).post K Y) : (it env h).post (fun q h' => q.1 = none ∧ K q.2 h') Y :=
  (post_bnd.mp p).mono (fun q h' k => by
    obtain ⟨g, ds⟩ := q
    cases g with
    | none => exact ⟨rfl, k⟩
    | some g => exact k.elim) fun _ _ _ k => k
def eComp2 (it : Env → M (Gd × List D)) (t1 : Tg) (ft1 : Env → M Bool) (it2 : Env → M (Gd × List D)) (t2 : Tg) (ft2 : Env → M Bool) (fe : Env → M D) (own vs1 : List Nat) (env : Env) : M D :=
  bnd (noG it env) fun ds => bnd (cLoop2 t1 ft1 (noG it2) t2 ft2 fe vs1 (wipeE env own) ds []) fun acc => ret (.lst acc)
theorem comp2_of {it it2 : Env → M (Gd × List D)} {t1 t2 : Tg} {ft1 ft2 : Env → M Bool} {fe : Env → M D} {own vs1 : List Nat} (hs : ∀ i ∈ t1.slots, i ∈ own) (hs2 : ∀ i ∈ t2.slots, i ∈ vs1) {σ : St} {H : Hp} {Q : VK}
    (tt : tR G (rrF G) E (eComp2 it t1 ft1 it2 t2 ft2 fe own vs1) σ H Q) :
    tLc2 (tIr G E it) (gTr G t1) (tTr G EN1 ft1) (tIr G EN1 it2) (gTr G t2) (tTr G EN1 ft2) (tR G (rrE G) EN1 fe) own vs1 σ H Q := by
  obtain ⟨W, h, env, H0, hr, er, p⟩ := tt
  refine ⟨W, h, env, H0, hr, er, (noG_post (post_bnd.mp p)).mono (fun gds h1 p0 W1 H1 J f1 hr1 hz wk => ?_) fun _ _ _ k => k⟩
  obtain ⟨gg, ds⟩ := gds
  obtain ⟨e0, p1⟩ := p0
  have e0 : gg = none := e0
  subst e0
  have p1 : ((bnd (cLoop2 t1 ft1 (noG it2) t2 ft2 fe vs1 (wipeE env own) ds []) fun acc => ret (.lst acc)) h1).post (KQ G (rrF G) W H Q) (KX G (E σ) W H) := p1
  intro A hA
  have hA0 : H A = none := f1.dom _ hA
  -- what holds of the list that is made, and what is wanted with it
  let Ac : Wd → IH → List D → Hp → Prop := fun W2 h2 acc H' => ∃ vs : List V, Fr W1 H1 W2 H' ∧ Hr G W2 h2 H' ∧ H' A = some (.lst vs) ∧ A ∉ W2.rho ∧ W2.F A = none ∧ Reps G W2 acc vs ∧ acc.length ≤ sizeLine
  have step : ∀ {W2 W3 : Wd} {h2 h3 : IH} {acc : List D} {H' H'' : Hp}, Ac W2 h2 acc H' → Fr W2 H' W3 H'' → Hr G W3 h3 H'' → Ac W3 h3 acc H'' := fun {W2 W3 h2 h3 acc H' H''} ⟨vs, f2, _, a2, n2, F2, r2, z2⟩ f3 hr3 =>
    ⟨vs, f2.trans f3, hr3, f3.pres A _ a2 n2, f3.notin a2 n2, f3.nof a2 F2 n2, r2.mono f3.le, z2⟩
  let Iv : Nat → Hp → Prop := fun i H' => ∃ (W2 : Wd) (h2 : IH) (acc : List D), Ac W2 h2 acc H' ∧ i ≤ ds.length ∧
    ((bnd (cLoop2 t1 ft1 (noG it2) t2 ft2 fe vs1 (wipeE env own) (ds.drop i) acc) fun acc => ret (.lst acc)) h2).post (KQ G (rrF G) W H Q) (KX G (E σ) W H)
  refine ⟨fun i m H' => m = ds.length - i ∧ Iv i H', ⟨ds.length, rfl, W1, h1, [], ⟨[], fr_own hA, hr1.own hA, upd_same, hr1.notcell hA, hr1.fnone hA, .nil, Nat.zero_le _⟩, Nat.zero_le _, p1⟩, ?_⟩
  rintro i m H' ⟨rfl, W2, h2, acc, ac, hi, q⟩
  obtain ⟨vs, f2, hr2, hA2, nA, fA, rA, la⟩ := id ac
  by_cases hlt : i < ds.length
  · refine .inr ⟨wk.go i W2 h2 H' hlt f2.le hr2 trivial, Iv (i + 1), fun H'' iv => ⟨ds.length - (i + 1), by omega, rfl, iv⟩, fun x H'' y => ?_⟩
    have hd : ds[i]? = some ds[i] := List.getElem?_eq_getElem hlt
    obtain ⟨W3, f3, hr3, r3⟩ := wk.yld i W2 h2 H' x H'' _ hd f2.le hr2 trivial y
    rw [List.drop_eq_getElem_cons hlt, cLoop2] at q
    cases hb : bindT t1 ds[i] (wipeE env own) with
    | none => rw [hb] at q; exact q.elim
    | some env1 =>
      rw [hb] at q
      refine ⟨W3, h2, _, env1, _, only A (.lst []), hr3, (((er.avoid hA0).step (f1.trans f2)).step f3).wipe own, r3, hb, fun σ2 er2 hw => ⟨(hw own hs).trans wipe_wipe, ?_⟩⟩
      have q2 := post_bnd.mp (post_bnd.mp q)
      refine ⟨W3, h2, env1, only A (.lst []), hr3, er2, R.post.mono (post_noex q2) (fun b h3 p3 W4 H4 f4 hr4 => ?_) fun _ _ _ k => k⟩
      have ac4 := step ac (f3.trans f4) hr4
      cases b with
      | false =>
        refine iteF ?_
        rw [if_neg Bool.false_ne_true] at p3
        exact ⟨W4, h3, acc, ac4, hlt, post_bnd.mpr p3⟩
      | true =>
        refine iteT ?_
        rw [if_pos rfl] at p3
        have p4 := post_bnd.mp p3
        refine ⟨W4, h3, env1, only A (.lst []), hr4, er2.step f4, R.post.mono (noG_post (post_noex p4)) (fun ges h4 p50 W5 H5 J1 f5 hr5 hz1 wk1 => ?_) fun _ _ _ k => k⟩
        obtain ⟨ge, es⟩ := ges
        obtain ⟨e0, p5⟩ := p50
        have e0 : ge = none := e0
        subst e0
        have ac5 := step ac4 f5 hr5
        exact ⟨fun j k H' => k = es.length - j ∧ ∃ (W6 : Wd) (h6 : IH) (acc : List D), Ac W6 h6 acc H' ∧ (Er G W6 (only A (.lst [])) H' env1 σ2 ∧ Le W5 W6) ∧ j ≤ es.length ∧
          ((bnd (cIn t2 ft2 fe (wipeE env1 vs1) (es.drop j) acc) fun acc' => cLoop2 t1 ft1 (noG it2) t2 ft2 fe vs1 (wipeE env own) (ds.drop (i + 1)) acc') h6).post (fun acc h' => ((ret (D.lst acc)) h').post (KQ G (rrF G) W H Q) (KX G (E σ) W H)) (KX G (E σ) W H),
          ⟨es.length, rfl, W5, h4, acc, ac5, ⟨(er2.step f4).step f5, Le.refl W5⟩, Nat.zero_le _, p5⟩, by
          rintro j k H6 ⟨rfl, W6, h6, acc6, ac6, ⟨er6, l6⟩, hj, q6⟩
          obtain ⟨vs6, g1, g2, g3, g4, g5, g6, g7⟩ := id ac6
          by_cases hlj : j < es.length
          · refine .inr ⟨wk1.go j W6 h6 H6 hlj l6 g2 trivial, _, fun H'' iv => ⟨es.length - (j + 1), by omega, rfl, iv⟩, fun x H'' y => ?_⟩
            have hd : es[j]? = some es[j] := List.getElem?_eq_getElem hlj
            obtain ⟨W7, f7, hr7, r7⟩ := wk1.yld j W6 h6 H6 x H'' _ hd l6 g2 trivial y
            rw [List.drop_eq_getElem_cons hlj, cIn] at q6
            cases hb2 : bindT t2 es[j] (wipeE env1 vs1) with
            | none => rw [hb2] at q6; exact q6.elim
            | some env2 =>
              rw [hb2] at q6
              have er7 : Er G W7 (only A (.lst [])) H'' env1 σ2 := er6.step f7
              refine ⟨W7, h6, _, env2, _, _, hr7, er7.wipe vs1, r7, hb2, fun σ3 er3 hw3 => ⟨(hw3 vs1 hs2).trans wipe_wipe, ?_⟩⟩
              have q7 := post_bnd.mp (post_bnd.mp q6)
              refine ⟨W7, h6, env2, _, hr7, er3, R.post.mono (post_noex q7) (fun b h8 p8 W8 H8 f8 hr8 => ?_) fun _ _ _ k => k⟩
              have ac8 := step ac6 (f7.trans f8) hr8
              cases b with
              | false =>
                refine iteF ?_
                rw [if_neg Bool.false_ne_true] at p8
                exact ⟨W8, h8, acc6, ac8, ⟨er7.step f8, (l6.trans f7.le).trans f8.le⟩, hlj, post_bnd.mpr p8⟩
              | true =>
                refine iteT ?_
                rw [if_pos rfl] at p8
                have p9 := post_bnd.mp p8
                refine ⟨W8, h8, env2, _, hr8, er3.step f8, R.post.mono (post_noex p9) (fun d h9 pA W9 H9 v f9 hr9 r9 => ?_) fun _ _ _ k => k⟩
                obtain ⟨vs9, k1, k2, k3, k4, k5, k6, k7⟩ := step ac8 f9 hr9
                obtain ⟨u, ef, pB⟩ := post_lft (post_bnd.mp pA)
                have hf := fits_le ef
                refine ⟨vs9, k3, by rw [← k6.length]; omega, W9, h9, acc6 ++ [d], ⟨vs9 ++ [v], k1.own_upd hA, k2.own_upd k4 k5, upd_same, k4, k5, k6.snoc r9, by rw [List.length_append]; simp; omega⟩, ⟨((er7.step f8).step f9).upd, (l6.trans f7.le).trans (f8.trans f9).le⟩, hlj, post_bnd.mpr pB⟩
          · have e : j = es.length := by omega
            subst e
            rw [List.drop_of_length_le (Nat.le_refl _)] at q6
            exact .inl ⟨wk1.stop W6 h6 H6 l6 g2 trivial, W6, h6, acc6, ac6, hlt, post_bnd.mpr q6⟩⟩
  · have e : i = ds.length := by omega
    subst e
    rw [List.drop_of_length_le (Nat.le_refl _)] at q
    exact .inl ⟨wk.stop W2 h2 H' f2.le hr2 trivial, q W2 H' _ (f1.trans f2) hr2 ⟨A, rfl, CellR.mkL hA2 rA la, nA, fA, hA0⟩⟩
section
variable {elt tg iter tg1 iter1 : Expr} {ifs ifs1 : List Expr} {scope : Scope} {own : List (Str × Nat)} {vs1 : List Nat} {pos : Pos} {it it2 : Env → M (Gd × List D)} {t1 t2 : Tg} {ft1 ft2 : Env → M Bool} {fe : Env → M D}
theorem pev_comp2 (hc : X.calm = true) (hN : X.N.Nodup) (hi : PI X tg iter (tIr G E it)) (ok : BlkOk X.N X.env.scope scope own) (hv : ∀ i ∈ vs1, i ∈ own.map (·.2)) (hsl : ∀ i ∈ t1.slots, i ∈ own.map (·.2)) (hsl2 : ∀ i ∈ t2.slots, i ∈ vs1)
    (hg : ∀ (s : Shared) (H : Hp) (C : Addr) (cl : List (Str × Addr)) (fp : List Addr), PG (X.blk s H scope (compEnvC scope cl C X.env) fp) tg (gTr G t1))
    (ht : ∀ (s : Shared) (H : Hp) (C : Addr) (cl : List (Str × Addr)) (fp : List Addr), PTs (X.blk s H scope (compEnvC scope cl C X.env) fp) ifs (tTr G EN1 ft1))
    (hi1 : ∀ (s : Shared) (H : Hp) (C : Addr) (cl : List (Str × Addr)) (fp : List Addr), PI (X.blk s H scope (compEnvC scope cl C X.env) fp) tg1 iter1 (tIr G EN1 it2))
    (hg1 : ∀ (s : Shared) (H : Hp) (C : Addr) (cl : List (Str × Addr)) (fp : List Addr), PG (X.blk s H scope (compEnvC scope cl C X.env) fp) tg1 (gTr G t2))
    (ht1 : ∀ (s : Shared) (H : Hp) (C : Addr) (cl : List (Str × Addr)) (fp : List Addr), PTs (X.blk s H scope (compEnvC scope cl C X.env) fp) ifs1 (tTr G EN1 ft2))
    (he : ∀ (s : Shared) (H : Hp) (C : Addr) (cl : List (Str × Addr)) (fp : List Addr), PE (X.blk s H scope (compEnvC scope cl C X.env) fp) elt (tR G (rrE G) EN1 fe)) (hs : ∀ es k p, iter ≠ .Set es k p) (hs1 : ∀ es k p, iter1 ≠ .Set es k p) :
    PE X (.ListComp elt [⟨tg, iter, ifs, 0⟩, ⟨tg1, iter1, ifs1, 0⟩] scope pos) (tR G (rrF G) E (eComp2 it t1 ft1 it2 t2 ft2 fe (own.map (·.2)) vs1)) :=
  pe_imp (pe_lc2 hc hN hi ok hv hg ht hi1 hg1 ht1 he (folded_not hs) fun _ => folded_not hs1) fun _ _ _ => comp2_of hsl hsl2
end
end Iv

/-! Iv, part G: statements. -/
namespace Iv
open PySem L2
variable {G : GC} {X : Cx} {W0 : Wd} {H0 : Hp} {E : EK}

inductive Fl where
  | nx | bk | ct | rt (d : D) | xc (c : Nat) (fs : List D)
abbrev RS := Fl × Env
def KF (G : GC) (E : EK) (D : Ends) (f : Fl) (σ : St) (W : Wd) (H : Hp) : Prop := match f with
  | .nx => D.nx σ H
  | .bk => D.bk σ H
  | .ct => D.ct σ H
  | .rt d => ∀ v, Rep G W d v → D.rt v H
  | .xc c fs => ∀ cls dd, XRep G W H c fs cls dd → E σ cls dd H
def KS (G : GC) (W0 : Wd) (H0 : Hp) (W : Wd) (E : EK) (D : Ends) : RS → IH → Prop := fun r h' =>
  ∀ W' H' σ', Le W W' → Fr W0 H0 W' H' → Hr G W' h' H' → Er G W' H0 H' r.2 σ' → KF G E D r.1 σ' W' H'
abbrev NoY : Nat → List D → IH → Prop := fun _ _ _ => False
def tSr (G : GC) (W0 : Wd) (H0 : Hp) (E : EK) (ev : Env → M RS) : TS := fun D σ H =>
  ∃ (W : Wd) (h : IH) (env : Env), Hr G W h H ∧ Er G W H0 H env σ ∧ Fr W0 H0 W H ∧ (ev env h).post (KS G W0 H0 W E D) NoY
/-- a small statement: what flies out does so at its slots -/
def tS0 (G : GC) (W0 : Wd) (H0 : Hp) (E : EK) (ev : Env → M RS) : TS := fun D σ H =>
  ∃ (W : Wd) (h : IH) (env : Env), Hr G W h H ∧ Er G W H0 H env σ ∧ Fr W0 H0 W H ∧ (ev env h).post (KS G W0 H0 W E D) (KX G (E σ) W H)
/-- what flies is told as a flow -/
def bndX {α : Type} (env : Env) (m : M α) (f : α → M RS) : M RS := fun h => match m h with
  | .ok a h' => f a h'
  | .ex c fs h' => .ok (.xc c fs, env) h'
  | .bad => .bad
theorem post_bndX {α : Type} {env : Env} {m : M α} {f : α → M RS} {h : IH} {K : RS → IH → Prop} {Y : Nat → List D → IH → Prop} : (bndX env m f h).post K Y ↔ (m h).post (fun a h' => (f a h').post K Y) (fun c fs h' => K (.xc c fs, env) h') := by
  unfold bndX
  cases m h <;> exact Iff.rfl
def catchX (ev : Env → M RS) (env : Env) : M RS := bndX env (ev env) ret
theorem KS.kx {W : Wd} {H : Hp} {env : Env} {σ : St} {DD : Ends} {c : Nat} {fs : List D} {h' : IH} (er : Er G W H0 H env σ) (fr : Fr W0 H0 W H) (k : KS G W0 H0 W E DD (.xc c fs, env) h') : KX G (E σ) W H c fs h' :=
  fun W' H' cls dd f hr x => k W' H' σ f.le (fr.trans f) hr (er.step f) cls dd x
theorem psv_leaf {st : Stmt} {ev : Env → M RS} (h : PS X st (tS0 G W0 H0 E ev)) : PS X st (tSr G W0 H0 E (catchX ev)) := ps_imp h fun D σ H ⟨W, h, env, hr, er, fr, p⟩ =>
  ⟨W, h, env, hr, er, fr, (post_bndX.mp p).mono (fun _ _ k => k) fun _ _ _ k => k.kx er fr⟩
theorem KS.step {D : Ends} {W W1 : Wd} {r : RS} {h : IH} (l : Le W W1) (k : KS G W0 H0 W E D r h) : KS G W0 H0 W1 E D r h := fun W' H' σ' l' => k W' H' σ' (l.trans l')

/-! ### a thing of our own comes to a slot -/
theorem set_look {env : Env} {i : Nat} {s0 : Sl} {j : Nat} {s : Sl} (h : (env.set i s0)[j]? = some s) : (j = i ∧ s = s0) ∨ (j ≠ i ∧ env[j]? = some s) := by
  by_cases e : j = i
  · subst e
    have hj : j < env.length := by have := (List.getElem?_eq_some_iff.mp h).1; simpa using this
    rw [List.getElem?_set_self hj] at h; cases h
    exact .inl ⟨rfl, rfl⟩
  · rw [List.getElem?_set_ne (Ne.symm e)] at h; exact .inr ⟨e, h⟩
theorem Er.setOwn {W W' : Wd} {H H' : Hp} {env : Env} {σ : St} {i : Nat} {c : Cell} {p : Addr} (x : Er G W H0 H env σ) (f : Fr W H W' H') (hp : H p = none) (h0 : H0 p = none)
    (h1 : CellR G W' H' p c) (n : p ∉ W'.rho) (nf : W'.F p = none) (nd : c.own = true) : Er G W' H0 H' (env.set i (.ow c)) (σ.set i (some (.ref p))) := by
  have y := x.step f
  have apart : ∀ (j : Nat) (ys : Cell), env[j]? = some (.ow ys) → σ[j]? ≠ some (some (.ref p)) := fun j ys h1 h2 => by
    obtain ⟨q, e, ⟨o, hq, _⟩, _⟩ := x.at_ j _ _ h1 h2
    cases e
    rw [hp] at hq; cases hq
  refine ⟨by simp [x.len], fun j s w h1 h2 => ?_, fun j k ys zs q h1 h2 h3 h4 => ?_⟩
  · rcases set_look h1 with ⟨rfl, rfl⟩ | ⟨ne, h1⟩
    · have hj : j < σ.length := by have := (List.getElem?_eq_some_iff.mp h2).1; simpa using this
      rw [List.getElem?_set_self hj] at h2; cases h2
      exact ⟨p, rfl, by assumption, n, nf, h0, nd⟩
    · rw [List.getElem?_set_ne (Ne.symm ne)] at h2
      exact y.at_ j s w h1 h2
  · rcases set_look h1 with ⟨ej, c⟩ | ⟨n1, h1'⟩
    · rcases set_look h2 with ⟨ek, _⟩ | ⟨n2, h2'⟩
      · rw [ej, ek]
      · subst ej
        have hj : j < σ.length := by have := (List.getElem?_eq_some_iff.mp h3).1; simpa using this
        rw [List.getElem?_set_self hj] at h3; cases h3
        rw [List.getElem?_set_ne (Ne.symm n2)] at h4
        exact absurd h4 (apart k _ h2')
    · rw [List.getElem?_set_ne (Ne.symm n1)] at h3
      rcases set_look h2 with ⟨ek, c⟩ | ⟨n2, h2⟩
      · subst ek
        have hk : k < σ.length := by have := (List.getElem?_eq_some_iff.mp h4).1; simpa using this
        rw [List.getElem?_set_self hk] at h4; cases h4
        exact absurd h3 (apart j _ h1')
      · rw [List.getElem?_set_ne (Ne.symm n2)] at h4
        exact y.dist j k ys zs q h1' h2 h3 h4

/-! ### name = value -/
def sSet (i : Nat) (f : Env → M D) (env : Env) : M RS := bnd (f env) fun d => ret (.nx, env.set i (.val d))
def sOwn (i : Nat) (f : Env → M D) (env : Env) : M RS := bnd (f env) fun d => match d with
  | .lst xs => ret (.nx, env.set i (.own xs))
  | .dct t ks vs => ret (.nx, env.set i (.ow (.dct t ks vs)))
  | _ => fun _ => .bad
theorem psv_set {i : Nat} {st : Stmt} {f : Env → M D} (h : PS X st (tAsg (tR G (rrE G) E f) (gName i))) : PS X st (tS0 G W0 H0 E (sSet i f)) := ps_imp h fun D σ H ⟨W, h, env, hr, er, fr, p⟩ => by
  refine ⟨W, h, env, H0, hr, er, (post_bnd.mp p).mono (fun d h1 p1 W1 H1 v f1 hr1 r1 => ?_) fun _ _ _ k => k⟩
  exact p1 W1 H1 _ f1.le (fr.trans f1) hr1 ((er.step f1).set r1)
theorem psv_own {i : Nat} {st : Stmt} {f : Env → M D} (h : PS X st (tAsg (tR G (rrF G) E f) (gName i))) : PS X st (tS0 G W0 H0 E (sOwn i f)) := ps_imp h fun D σ H ⟨W, h, env, hr, er, fr, p⟩ => by
  refine ⟨W, h, env, H0, hr, er, (post_bnd.mp p).mono (fun d h1 p1 W1 H1 v f1 hr1 r1 => ?_) fun _ _ _ k => k⟩
  cases d with
  | lst xs =>
    obtain ⟨q, rfl, a1, a2, a3, a4⟩ := r1
    exact p1 W1 H1 _ f1.le (fr.trans f1) hr1 (er.setOwn f1 a4 (fr.dom _ a4) a1 a2 a3 rfl)
  | dct t ks vs =>
    obtain ⟨q, rfl, a1, a2, a3, a4⟩ := r1
    exact p1 W1 H1 _ f1.le (fr.trans f1) hr1 (er.setOwn f1 a4 (fr.dom _ a4) a1 a2 a3 rfl)
  | _ => exact p1.elim
def isComp : Expr → Bool
  | .ListComp .. => true | .SetComp .. => true | .DictComp .. => true
  | _ => false
theorem swaps_no {e : Expr} (h : isComp e = false) (t : Option Expr) (l : Nat) (env : PySem.Env) : swapsWith e t l env = pure false := by
  cases e <;> first
    | rfl
    | exact absurd h (by simp [isComp])
theorem asg_name {i : Nat} {x : Str} {e : Expr} {te : TE} {py pos : Pos} (hN : X.N.Nodup) (hi : X.N[i]? = some x) (hx : Loc X.env.scope x) (hf : X.fn x = true ∨ X.env.scope.names.lookup x = some .local) (he : PE X e te) (hc : isComp e = false) :
    PS X (.Assign [.Name x py] e pos) (tAsg te (gName i)) := ps_set hN hi hx he (swaps_no hc _ _ _) hf

/-! ### target = value, other targets -/
def sTg (t : Tg) (f : Env → M D) (env : Env) : M RS := bnd (f env) fun d => bnd (lft (bindT t d env)) fun env' => ret (.nx, env')
def isTup : Expr → Bool
  | .Tuple .. => true
  | _ => false
theorem swapped_no {e : Expr} {es : List Expr} {k : Nat} {tp : Pos} (h : isTup e = false) (env : PySem.Env) : swappedStores [.Tuple es k tp] e env = pure none := by
  unfold swappedStores
  cases e <;> first
    | rfl
    | exact Bool.noConfusion (show true = false from h)
theorem swaps_other {e t : Expr} (h : ∀ x p, t ≠ .Name x p) (l : Nat) (env : PySem.Env) : swapsWithSole [t] e l env = pure false := by
  show swapsWith e (some t) l env = pure false
  cases e <;> first
    | rfl
    | (cases t <;> first
        | rfl
        | exact absurd rfl (h _ _))
theorem swapped_other {e t : Expr} (h : ∀ es k p, t ≠ .Tuple es k p) (h2 : ∀ es p, t ≠ .List es p) (env : PySem.Env) : swappedStores [t] e env = pure none := by
  unfold swappedStores
  cases t <;> first
    | rfl
    | exact absurd rfl (h _ _ _)
    | exact absurd rfl (h2 _ _)
theorem psv_tg {e : Expr} {es : List Expr} {k : Nat} {tp pos : Pos} {t : Tg} {f : Env → M D} (he : PE X e (tR G (rrE G) E f)) (hg : PG X (.Tuple es k tp) (gTr G t)) (hc : isTup e = false) :
    PS X (.Assign [.Tuple es k tp] e pos) (tS0 G W0 H0 E (sTg t f)) := ps_imp (ps_asg he hg (swaps_other (fun _ _ h => by cases h) _ _) (swapped_no hc _) rfl) fun D σ H ⟨W, h, env, hr, er, fr, p⟩ => by
  refine ⟨W, h, env, H0, hr, er, (post_bnd.mp p).mono (fun d h1 p1 W1 H1 v f1 hr1 r1 => ?_) fun _ _ _ k => k⟩
  obtain ⟨env', e1, k⟩ := post_lft (post_bnd.mp p1)
  exact ⟨W1, h1, env, env', d, H0, hr1, er.step f1, r1, e1, fun σ' er' _ => k W1 H1 σ' f1.le (fr.trans f1) hr1 er'⟩
/-- o[i] = value, o a cell -/
def setCell (h : IH) (o i v : D) : Option IH := match o, i with
  | .ref r, .int k => match h[r]? with
    | some (.lst xs) => (ixN xs.length k).map fun j => h.set r (.lst (xs.set j v))
    | _ => none
  | _, _ => none
def sIx (fo fi f : Env → M D) (env : Env) : M RS := bnd (f env) fun v => bnd (fo env) fun o => bnd (fi env) fun i => fun h => match setCell h o i v with
  | some h' => .ok (.nx, env) h'
  | none => .bad
theorem Hr.setCell {W : Wd} {h : IH} {H : Hp} {r : Nat} {a : Addr} {c c0 : Cell} {o : HO} (x : Hr G W h H) (ea : W.rho[r]? = some a) (e0 : h[r]? = some c0) (nd : c0 ≠ .dead) (hc : CellR G W (upd H a o) a c) : Hr G W (h.set r c) (upd H a o) := by
  have nf := x.nf r a ea (by rw [e0]; simpa using nd)
  refine ⟨fun b u q => ?_, by simp [x.len], x.nd, fun i b c' h1 h2 => ?_, fun i b q1 q2 => ?_⟩
  · have e : b ≠ a := fun e => by
      rw [e, nf] at q; cases q
    rw [upd_ne e]; exact x.sub b u q
  · by_cases e : i = r
    · subst e
      rw [ea] at h1; cases h1
      have hi : i < h.length := by have := (List.getElem?_eq_some_iff.mp h2).1; simpa using this
      rw [List.getElem?_set_self hi] at h2; cases h2
      exact hc
    · rw [List.getElem?_set_ne (Ne.symm e)] at h2
      refine CellR.step (Le.refl W) (fun u q => ?_) (x.cell i b c' h1 h2)
      have ne : b ≠ a := fun z => e (by
        subst z
        have hi := (List.getElem?_eq_some_iff.mp h1).1
        exact (List.getElem?_inj hi x.nd).mp (h1.trans ea.symm))
      rw [upd_ne ne]; exact q
  · by_cases e : i = r
    · subst e
      rw [ea] at q1; cases q1; exact nf
    · rw [List.getElem?_set_ne (Ne.symm e)] at q2
      exact x.nf i b q1 q2
theorem Fr.cell {W : Wd} {h : IH} {H : Hp} {r : Nat} {a : Addr} {o : HO} (x : Hr G W h H) (ea : W.rho[r]? = some a) : Fr W H W (upd H a o) := by
  have hm := List.mem_of_getElem? ea
  refine ⟨fun _ _ h => h, ⟨[], by simp⟩, fun b u q n => ?_, fun b u q => .inl q, fun b q => ?_⟩
  · rw [upd_ne (fun e : b = a => n (by rw [e]; exact hm))]; exact q
  · by_cases e : b = a
    · subst e; rw [upd_same] at q; cases q
    · rw [upd_ne e] at q; exact q
theorem isSlice_no {i : Expr} {o : Expr} {pos : Pos} (h : ∀ a b c p, i ≠ .Slice a b c p) : ∀ v, assign (.Subscript o i pos) X.env v = (do
      let ov ← holding [v] (eval o X.env)
      let iv ← holding [v, ov] (eval i X.env)
      standAt pos
      holding [v, ov, iv] (setItem ov iv v)
      release [v, ov, iv] []) := by
  intro v
  cases i <;> first
    | rfl
    | exact absurd rfl (h _ _ _ _)
theorem psv_ix {e o i : Expr} {tp pos : Pos} {f fo fi : Env → M D} (he : PE X e (tR G (rrE G) E f)) (ho : PE X o (tR G (rrE G) E fo)) (hi : PE X i (tR G (rrE G) E fi)) (hs : ∀ a b c p, i ≠ .Slice a b c p) :
    PS X (.Assign [.Subscript o i tp] e pos) (tS0 G W0 H0 E (sIx fo fi f)) := ps_imp (ps_asg he (pg_sub ho hi set_list (isSlice_no hs)) (swaps_other (fun _ _ h => by cases h) _ _) (swapped_other (fun _ _ _ h => by cases h) (fun _ _ h => by cases h) _) rfl) fun D σ H ⟨W, h, env, hr, er, fr, p⟩ => by
  refine ⟨W, h, env, H0, hr, er, (post_bnd.mp p).mono (fun d h1 p1 W1 H1 v f1 hr1 r1 => ?_) fun _ _ _ k => k⟩
  refine ⟨W1, h1, env, H0, hr1, er.step f1, (post_bnd.mp p1).mono (fun d2 h2 p2 W2 H2 v2 f2 hr2 r2 => ?_) fun _ _ _ k => k.step f1⟩
  refine ⟨W2, h2, env, H0, hr2, (er.step f1).step f2, (post_bnd.mp p2).mono (fun d3 h3 p3 W3 H3 v3 f3 hr3 r3 => ?_) fun _ _ _ k => k.step (f1.trans f2)⟩
  cases q : setCell h3 d2 d3 d with
  | none => simp only [q] at p3; exact p3.elim
  | some h4 =>
    simp only [q] at p3
    unfold setCell at q
    split at q
    · rename_i r k
      split at q
      · rename_i xs hx
        obtain ⟨j, e1, e2⟩ := Option.map_eq_some_iff.mp q
        subst e2
        cases r2 with
        | ref ea =>
          rename_i a
          cases r3
          have ea := f3.le.at ea
          obtain ⟨vs, c1, c2, c3⟩ := (hr3.cell _ a _ ea hx).lst
          refine ⟨a, vs, k, j, rfl, rfl, c1, by rw [← c2.length]; exact e1, ?_⟩
          have rv : Rep G W3 d v := Rep.mono (f2.trans f3).le r1
          have hr4 : Hr G W3 (h3.set r (.lst (xs.set j d))) (upd H3 a (.lst (vs.set j v))) := hr3.setCell ea hx (by simp) (CellR.mkL upd_same (Reps.set rv j c2) (by rw [List.length_set]; exact c3))
          have f4 : Fr W3 H3 W3 (upd H3 a (.lst (vs.set j v))) := Fr.cell hr3 ea
          exact p3 W3 _ σ (f1.trans (f2.trans f3)).le (fr.trans (f1.trans (f2.trans (f3.trans f4)))) hr4 ((((er.step f1).step f2).step f3).step f4)
      · cases q
    · cases q

/-! ### name += value -/
def sAug (op : IH → D → D → Option D) (i : Nat) (f : Env → M D) (env : Env) : M RS := match env[i]? with
  | some (.val x) => bnd (f env) fun y => bnd (liftH op x y) fun z => ret (.nx, env.set i (.val z))
  | _ => fun _ => .bad
def opAddI := opII fun i j => some (i + j)
def opSubI := opII fun i j => some (i - j)
def IpSem (G : GC) (r : TIp) (op : IH → D → D → Option D) : Prop := OpSem G (rrE G) r op
theorem sem_ipI {f : Int → Int → Int} : OpSem G (rrE G) (ipI f) (opII fun i j => some (f i j)) := by
  intro W h H x y v u d Q hr rx ry e k
  obtain ⟨i, j, z, rfl, rfl, e1, rfl⟩ := opII_some e
  cases e1
  exact ⟨i, j, rx.int, ry.int, k W H _ (Fr.refl W H) hr (.int _)⟩
theorem psv_aug {i : Nat} {x : Str} {e : Expr} {op : Operator} {r : TIp} {g : IH → D → D → Option D} {f : Env → M D} {py pos : Pos} (hN : X.N.Nodup) (hi : X.N[i]? = some x) (hx : Loc X.env.scope x) (hf : X.fn x = true ∨ X.env.scope.names.lookup x = some .local)
    (he : PE X e (tR G (rrO G) E f)) (ho : PIp X op r) (sem : OpSem G (rrE G) r g) : PS X (.AugAssign (.Name x py) op e pos) (tS0 G W0 H0 E (sAug g i f)) := ps_imp (ps_aug hN hi hx he ho hf) fun D σ H ⟨W, h, env, hr, er, fr, p⟩ => by
  unfold sAug at p
  cases e1 : env[i]? with
  | none => rw [e1] at p; exact p.elim
  | some s =>
    rw [e1] at p
    cases s with
    | no => exact p.elim
    | ow xs => exact p.elim
    | val x =>
      obtain ⟨v, q1, r1⟩ := er.val e1
      refine ⟨v, q1, W, h, env, H0, hr, er, (post_bnd.mp p).mono (fun y h1 p1 W1 H1 u f1 hr1 r2 => ?_) fun _ _ _ k => k⟩
      obtain ⟨z, e2, k⟩ := post_lft (post_bnd.mp p1)
      exact sem W1 h1 H1 _ _ v u z _ hr1 (RepS.drf hr1 (.inl (r1.mono f1.le))) (RepS.drf hr1 r2) e2 fun W2 H2 w f2 hr2 r3 => k W2 H2 _ (f1.trans f2).le (fr.trans (f1.trans f2)) hr2 (((er.step f1).step f2).set r3)

/-! ### xs.append(value), xs a list of our own -/
def sApp (i : Nat) (f : Env → M D) (env : Env) : M RS := match env[i]? with
  | some (.ow (.lst xs)) => bnd (f env) fun d => bnd (lft (fits (xs.length + 1))) fun _ => ret (.nx, env.set i (.own (xs ++ [d])))
  | _ => fun _ => .bad
/-- a thing of our own that stands in a slot is changed -/
theorem Er.updOwn {W : Wd} {H : Hp} {env : Env} {σ : St} {i : Nat} {c c' : Cell} {o : HO} {p : Addr} (x : Er G W H0 H env σ) (e : env[i]? = some (.ow c)) (eσ : σ[i]? = some (some (.ref p))) (z : CellO G W o c') (nd : c'.own = true) :
    Er G W H0 (L2.upd H p o) (env.set i (.ow c')) σ := by
  obtain ⟨q, e0, a1, a2, a3, a4, a5⟩ := x.at_ i _ _ e eσ
  cases e0
  refine ⟨by simp [x.len], fun j s w h1 h2 => ?_, fun j k as bs q h1 h2 h3 h4 => ?_⟩
  · rcases set_look h1 with ⟨rfl, rfl⟩ | ⟨ne, h1⟩
    · rw [eσ] at h2; cases h2
      exact ⟨_, rfl, ⟨o, upd_same, z⟩, a2, a3, a4, nd⟩
    · have y := x.at_ j s w h1 h2
      cases s with
      | no => trivial
      | val d => exact y
      | ow as =>
        obtain ⟨q, e1, ⟨u, b1, b1'⟩, b2, b3, b4, b5⟩ := y
        have nq : q ≠ _ := fun cc => ne (x.dist j i as c p h1 e (by rw [h2, e1, cc]) eσ)
        exact ⟨q, e1, ⟨u, by rw [upd_ne nq]; exact b1, b1'⟩, b2, b3, b4, b5⟩
  · rcases set_look h1 with ⟨ej, _⟩ | ⟨n1, g1⟩
    · rcases set_look h2 with ⟨ek, _⟩ | ⟨n2, g2⟩
      · rw [ej, ek]
      · subst ej
        exact x.dist j k c bs q e g2 h3 h4
    · rcases set_look h2 with ⟨ek, _⟩ | ⟨n2, g2⟩
      · subst ek
        exact x.dist j k as c q g1 e h3 h4
      · exact x.dist j k as bs q g1 g2 h3 h4
theorem Fr.ownUpd {W W' : Wd} {H H' : Hp} {p : Addr} {o : HO} (x : Fr W H W' H') (hp : H p = none) : Fr W H W' (upd H' p o) := x.own_upd hp
theorem psv_app {i : Nat} {x : Str} {e : Expr} {f : Env → M D} {py apos cpos pos : Pos} (hK : X.K = G.K) (hi : X.N[i]? = some x) (hx : Vis X.env.scope x) (hd : (x == ("__debug__" : Str)) = false) (hcd : (x == ("__classdict__" : Str)) = false)
    (he : PE X e (tR G (rrE G) E f)) (hn : ∀ a p, e ≠ .Starred a p) (hline : (apos.endLine == cpos.line) = true) :
    PS X (.Expr (.Call (.Attribute (.Name x py) "append" apos) [e] [] cpos) pos) (tS0 G W0 H0 E (sApp i f)) := by
  have hb := pe_bm (X := X) (apos := apos) (cpos := cpos) PySem.F.plainAttrs_list PySem.F.slot_list_append PySem.F.type_list_append mt_append (pe_var (pos := py) hi hx hd hcd) (pa_cons he pa_nil (starEach_cons hn)) rfl (by
    rw [starEach_cons hn]; rfl) hline (starEach_cons hn) rfl
  refine ps_imp (ps_expr hb (swaps_no rfl _ _ _)) fun D σ H ⟨W, h, env, hr, er, fr, p⟩ => ?_
  unfold sApp at p
  have hc : ∃ xs, env[i]? = some (.ow (.lst xs)) := by
    cases e1 : env[i]? with
    | none => rw [e1] at p; exact p.elim
    | some s =>
      rw [e1] at p
      cases s with
      | no => exact p.elim
      | val d => exact p.elim
      | ow c => cases c <;> first | exact ⟨_, rfl⟩ | exact p.elim
  · obtain ⟨xs, e1⟩ := hc
    rw [e1] at p
    obtain ⟨q, eσ, a1, a2, a3, a4, _⟩ := er.ow e1
    obtain ⟨vs, a1, a6, a5⟩ := a1.lst
    refine ⟨.ref q, eσ, .inl ⟨rfl, vs, .inl (.inl a1)⟩, W, h, env, H0, hr, er, (post_bnd.mp p).mono (fun d h1 p1 W1 H1 v f1 hr1 r1 => ?_) fun _ _ _ k => k⟩
    obtain ⟨u, ef, k⟩ := post_lft (post_bnd.mp p1)
    have hf := fits_le ef
    have b1 := f1.pres q _ a1 a2
    have b2 := f1.notin a1 a2
    have b3 := f1.nof a1 a3 a2
    refine ⟨q, vs, v, rfl, rfl, b1, by rw [← a6.length]; omega, ?_⟩
    refine k W1 _ σ f1.le ((fr.trans f1).own_upd a4) (hr1.own_upd b2 b3) ((er.step f1).updOwn e1 eσ ⟨_, rfl, (a6.mono f1.le).snoc r1, by rw [List.length_append]; simpa using hf⟩ rfl)

/-! ### d[key] = value, d a dict of our own -/
/-- the dict behind a store -/
def dputC (t : Bool) (ks vs : List D) (y z : D) : Option Cell := if keyOk t y = true ∧ ks.length < 16777216 then some (.dct t (putDK ks y) (putDV ks vs y z)) else none
theorem putDK_mem {ks : List D} {y x : D} (h : x ∈ putDK ks y) : x ∈ ks ∨ x = y := by
  induction ks with
  | nil => exact .inr (List.mem_singleton.mp h)
  | cons k ks ih =>
    rw [putDK] at h
    split at h
    · exact .inl h
    · rcases List.mem_cons.mp h with h | h
      · exact .inl (by rw [h]; exact List.mem_cons_self)
      · rcases ih h with h | h
        · exact .inl (List.mem_cons_of_mem _ h)
        · exact .inr h
theorem putDK_nodup {ks : List D} {y : D} (h : ks.Nodup) : (putDK ks y).Nodup := by
  induction ks with
  | nil => exact by simp [putDK]
  | cons k ks ih =>
    rw [putDK]
    split
    · exact h
    · rw [List.nodup_cons] at h ⊢
      refine ⟨fun z => ?_, ih h.2⟩
      rcases putDK_mem z with z | z
      · exact h.1 z
      · exact absurd z ‹¬ _›
theorem putDK_len {ks : List D} {y : D} : (putDK ks y).length ≤ ks.length + 1 := by
  induction ks with
  | nil => simp [putDK]
  | cons k ks ih =>
    rw [putDK]
    split
    · simp
    · simp only [List.length_cons]; omega
theorem dct_put {W : Wd} {h : IH} {H : Hp} {t : Bool} {ks vs : List D} {y z : D} {p : Addr} {us : List V} {u : HO} {v w : V} {c : Cell} (hr : Hr G W h H) (e : H p = some u) (dO : DicO t ks us u) (r : Reps G W vs us) (ry : RepN G W H y v) (rz : Rep G W z w) (ok : dputC t ks vs y z = some c) :
    ∃ o, DPut H p v w (upd H p o) ∧ CellO G W o c ∧ c.own = true := by
  have hs := sizeLine_eq
  unfold dputC at ok
  split at ok
  · rename_i q
    obtain ⟨q1, q2⟩ := q
    cases ok
    obtain ⟨hl, hz, hn, hk⟩ := dO
    cases t with
    | false =>
      obtain ⟨kk, rfl, rfl⟩ := hk
      obtain ⟨k, rfl⟩ := keyB_of q1
      have := Rep.key ry
      subst this
      rw [List.length_map] at hl
      obtain ⟨kk', us', i1, i2, i3, i4, i5⟩ := put_val keyD_inj k rz hn hl r
      have hzz : (kk.zip us).length < sizeLine := by rw [List.length_zip]; rw [List.length_map] at q2; omega
      refine ⟨.dK (kk'.zip us'), .inl ⟨_, k, e, rfl, hzz, by rw [i2]⟩, ⟨us', ⟨by rw [i1, List.length_map]; exact i3, ?_, putDK_nodup hn, kk', i1, rfl⟩, i4⟩, rfl⟩
      have := putDK_len (ks := kk.map keyD) (y := keyD k)
      omega
    | true =>
      obtain ⟨kk, rfl, rfl⟩ := hk
      cases y <;> first | exact Bool.noConfusion (show false = true from q1) | skip
      rename_i xs
      obtain ⟨k, rfl⟩ := keyBs_of (show xs.all keyB = true from q1)
      obtain ⟨b, ws, rfl, e2, _, r2⟩ := RepN.tup hr ry
      have := r2.keys
      subst this
      rw [List.length_map] at hl
      obtain ⟨kk', us', i1, i2, i3, i4, i5⟩ := put_val keyT_inj k rz hn hl r
      have hzz : (kk.zip us).length < sizeLine := by rw [List.length_zip]; rw [List.length_map] at q2; omega
      refine ⟨.dT (kk'.zip us'), .inr ⟨_, k, b, e, rfl, e2, hzz, by rw [i2]⟩, ⟨us', ⟨by rw [show D.tup (k.map keyD) = keyT k from rfl, i1, List.length_map]; exact i3, ?_, putDK_nodup hn, kk', i1, rfl⟩, i4⟩, rfl⟩
      have := putDK_len (ks := kk.map keyT) (y := keyT k)
      exact Nat.le_trans this (by omega)
  · cases ok
def sPutO (i : Nat) (fk f : Env → M D) (env : Env) : M RS := bnd (f env) fun z => match env[i]? with
  | some (.ow (.dct t ks vs)) => bnd (fk env) fun y => bnd (lft (dputC t ks vs y z)) fun c => ret (.nx, env.set i (.ow c))
  | _ => fun _ => .bad
theorem psv_putO {i : Nat} {x : Str} {e k : Expr} {fk f : Env → M D} {py tp pos : Pos} (hu : X.A.units + 70 < cLine) (hi : X.N[i]? = some x) (hx : Vis X.env.scope x) (hd : (x == ("__debug__" : Str)) = false) (hcd : (x == ("__classdict__" : Str)) = false)
    (hk : PE X k (tR G (rrE G) E fk)) (he : PE X e (tR G (rrE G) E f)) (hn : ∀ a b c p, k ≠ .Slice a b c p) (hs : swapsWith e (some (.Subscript (.Name x py) k tp)) pos.line X.env = pure false) :
    PS X (.Assign [.Subscript (.Name x py) k tp] e pos) (tS0 G W0 H0 E (sPutO i fk f)) := by
  refine ps_imp (ps_dput (by omega) (pe_var (pos := py) hi hx hd hcd) hk he hs) fun D σ H ⟨W, h, env, hr, er, fr, p⟩ => ?_
  refine ⟨W, h, env, H0, hr, er, (post_bnd.mp p).mono (fun z h1 p1 W1 H1 w f1 hr1 r1 => ?_) fun _ _ _ k => k⟩
  have hc : ∃ t ks vs, env[i]? = some (.ow (.dct t ks vs)) := by
    cases e1 : env[i]? with
    | none => rw [e1] at p1; exact p1.elim
    | some s =>
      rw [e1] at p1
      cases s with
      | no => exact p1.elim
      | val d => exact p1.elim
      | ow c => cases c <;> first | exact ⟨_, _, _, rfl⟩ | exact p1.elim
  · obtain ⟨t, ks, vs, e1⟩ := hc
    rw [e1] at p1
    obtain ⟨q, eσ, ⟨u, a1, us, a1', a1''⟩, a2, a3, a4, _⟩ := er.ow e1
    refine ⟨.ref q, eσ, W1, h1, env, H0, hr1, er.step f1, (post_bnd.mp p1).mono (fun y h2 p2 W2 H2 v f2 hr2 r2 => ?_) fun _ _ _ k => k.step f1⟩
    obtain ⟨c, ec, k⟩ := post_lft (post_bnd.mp p2)
    have f3 := f1.trans f2
    have b1 := f3.pres q _ a1 a2
    obtain ⟨o, o1, o2, o3⟩ := dct_put hr2 b1 a1' (a1''.mono f3.le) (.inl r2) (Rep.mono f2.le r1) ec
    exact ⟨q, _, rfl, o1, k W2 _ σ f3.le ((fr.trans f3).own_upd a4) (hr2.own_upd (f3.notin a1 a2) (f3.nof a1 a3 a2)) ((er.step f3).updOwn e1 eσ o2 o3)⟩

/-! ### a thing of our own is frozen -/
def sFrz (i : Nat) (env : Env) : M RS := match env[i]? with
  | some (.ow (.lst xs)) => ret (.nx, env.set i (.val (.lst xs)))
  | some (.ow (.dct t ks vs)) => ret (.nx, env.set i (.val (.dct t ks vs)))
  | some (.val _) => ret (.nx, env)
  | _ => fun _ => .bad
theorem Er.freeze {W : Wd} {H H' : Hp} {env : Env} {σ : St} {i : Nat} {c : Cell} {o : HO} {d : D} {p : Addr} (x : Er G W H0 H env σ) (e : env[i]? = some (.ow c)) (eσ : σ[i]? = some (some (.ref p))) (hH : ∀ a, a ≠ p → H' a = H a) (hf : W.F p = none)
    (r : Rep G (W.fz p o) d (.ref p)) : Er G (W.fz p o) H0 H' (env.set i (.val d)) σ := by
  have l := le_fz (W := W) (p := p) (o := o) hf
  refine ⟨by simp [x.len], fun j s w h1 h2 => ?_, fun j k as bs q h1 h2 h3 h4 => ?_⟩
  · rcases set_look h1 with ⟨rfl, rfl⟩ | ⟨ne, h1⟩
    · rw [eσ] at h2; cases h2
      exact ⟨.ref p, rfl, r⟩
    · have y := x.at_ j s w h1 h2
      cases s with
      | no => trivial
      | val d => obtain ⟨u, e1, r1⟩ := y; exact ⟨u, e1, r1.mono l⟩
      | ow as =>
        obtain ⟨q, e1, ⟨u, b1, b1'⟩, b2, b3, b4, b5⟩ := y
        have nq : q ≠ p := fun cc => ne (x.dist j i as c p h1 e (by rw [h2, e1, cc]) eσ)
        refine ⟨q, e1, ⟨u, by rw [hH q nq]; exact b1, b1'.mono l⟩, b2, ?_, b4, b5⟩
        show L2.upd W.F p _ q = none
        rw [upd_ne nq]; exact b3
  · rcases set_look h1 with ⟨_, c⟩ | ⟨_, h1⟩
    · cases c
    · rcases set_look h2 with ⟨_, c⟩ | ⟨_, h2⟩
      · cases c
      · exact x.dist j k as bs q h1 h2 h3 h4
theorem pss_pin {sts : List Stmt} {t : TS} (h : PSs X sts t) : PSs X sts (fun D σ H => t D σ H ∨ ∃ p u, H p = some u ∧ Mut (some u) ∧ ∀ o, t D σ (upd H p (.frz o u))) :=
  ⟨fun pins s σ H D I q => by
    rcases q with q | ⟨p, u, e, mu, q⟩
    · exact h.run pins s σ H D I q
    · obtain ⟨od, I2⟩ := I.lock e mu
      exact h.run pins s σ _ D I2 (q od)⟩
/-- a block that begins with a freezing -/
theorem pssv_frz {i : Nat} {sts : List Stmt} {g : Env → M RS} (h : PSs X sts (tSr G W0 H0 E g)) : PSs X sts (tSr G W0 H0 E fun env => bnd (sFrz i env) fun r => g r.2) := pss_imp (pss_pin h) fun D σ H ⟨W, h, env, hr, er, fr, p⟩ => by
  have p := post_bnd.mp p
  unfold sFrz at p
  cases e1 : env[i]? with
  | none => rw [e1] at p; exact p.elim
  | some s =>
    rw [e1] at p
    cases s with
    | no => exact p.elim
    | val d => exact .inl ⟨W, h, env, hr, er, fr, p⟩
    | ow c =>
      obtain ⟨q, eσ, a1, a2, a3, a4, _⟩ := er.ow e1
      cases c with
      | lst xs =>
        obtain ⟨vs, a1, a6, a5⟩ := a1.lst
        exact .inl ⟨W.fz q (.lst vs), h, _, hr.freeze a1 a2 a3, er.freeze e1 eσ (fun _ _ => rfl) a3 (.lst (.inl (.inl upd_same)) a5 (a6.mono (le_fz a3))), fr.freeze a4 a3, R.post.mono p (fun _ _ k => k.step (le_fz a3)) fun _ _ _ k => k⟩
      | dct t ks vs =>
        obtain ⟨u, a1, us, a5, a6⟩ := a1
        refine .inr ⟨q, u, a1, dicO_mut a5, fun o => ?_⟩
        obtain ⟨n1, n2⟩ := pin_fr (o := .frz o u) fr hr a1 a2 a3 a4
        exact ⟨W.fz q (.frz o u), h, _, n2, er.freeze e1 eσ (fun a na => upd_ne na) a3 (.dct upd_same a5 (a6.mono (le_fz a3))), n1, R.post.mono p (fun _ _ k => k.step (le_fz a3)) fun _ _ _ k => k⟩
      | ins c fs => exact p.elim
      | dead => exact p.elim

/-! ### small statements, blocks, if -/
def sRet (f : Env → M D) (env : Env) : M RS := bnd (f env) fun d => ret (.rt d, env)
def sDrop (f : Env → M D) (env : Env) : M RS := bnd (f env) fun _ => ret (.nx, env)
def sEnd (f : Fl) (env : Env) : M RS := ret (f, env)
def sIf (c : Env → M Bool) (a b : Env → M RS) (env : Env) : M RS := bndX env (c env) fun t => if t = true then a env else b env
def sSeq (a b : Env → M RS) (env : Env) : M RS := bnd (a env) fun r => match r.1 with
  | .nx => b r.2
  | f => ret (f, r.2)
theorem psv_ret {e : Expr} {f : Env → M D} {pos : Pos} (h : PE X e (tR G (rrE G) E f)) : PS X (.Return (some e) pos) (tS0 G W0 H0 E (sRet f)) := ps_imp (ps_ret h) fun D σ H ⟨W, h, env, hr, er, fr, p⟩ =>
  ⟨W, h, env, H0, hr, er, (post_bnd.mp p).mono (fun d h1 p1 W1 H1 v f1 hr1 r1 => p1 W1 H1 σ f1.le (fr.trans f1) hr1 (er.step f1) v r1) fun _ _ _ k => k⟩
theorem psv_retN {pos : Pos} : PS X (.Return none pos) (tSr G W0 H0 E (sEnd (.rt .non))) := ps_imp ps_retN fun D σ H ⟨W, h, env, hr, er, fr, p⟩ => p W H σ (Le.refl W) fr hr er .non .non
theorem psv_pass {pos : Pos} : PS X (.Pass pos) (tSr G W0 H0 E (sEnd .nx)) := ps_imp ps_pass fun D σ H ⟨W, h, env, hr, er, fr, p⟩ => p W H σ (Le.refl W) fr hr er
theorem psv_break {pos : Pos} : PS X (.Break pos) (tSr G W0 H0 E (sEnd .bk)) := ps_imp ps_break fun D σ H ⟨W, h, env, hr, er, fr, p⟩ => p W H σ (Le.refl W) fr hr er
theorem psv_cont {pos : Pos} : PS X (.Continue pos) (tSr G W0 H0 E (sEnd .ct)) := ps_imp ps_continue fun D σ H ⟨W, h, env, hr, er, fr, p⟩ => p W H σ (Le.refl W) fr hr er
theorem psv_expr {e : Expr} {f : Env → M D} {pos : Pos} (h : PE X e (tR G (rrE G) E f)) (hc : isComp e = false) : PS X (.Expr e pos) (tS0 G W0 H0 E (sDrop f)) := ps_imp (ps_expr h (swaps_no hc _ _ _)) fun D σ H ⟨W, h, env, hr, er, fr, p⟩ =>
  ⟨W, h, env, H0, hr, er, (post_bnd.mp p).mono (fun d h1 p1 W1 H1 v f1 hr1 r1 => p1 W1 H1 σ f1.le (fr.trans f1) hr1 (er.step f1)) fun _ _ _ k => k⟩
theorem psv_if {c : Expr} {a b : List Stmt} {fc : Env → M Bool} {fa fb : Env → M RS} {pos : Pos} (hc : PT X c (tTr G E fc)) (ha : PSs X a (tSr G W0 H0 E fa)) (hb : PSs X b (tSr G W0 H0 E fb)) :
    PS X (.If c a b pos) (tSr G W0 H0 E (sIf fc fa fb)) := ps_imp (ps_if hc ha hb) fun D σ H ⟨W, h, env, hr, er, fr, p⟩ => by
  refine ⟨W, h, env, H0, hr, er, (post_bndX.mp p).mono (fun t h1 p1 W1 H1 f1 hr1 => ?_) fun _ _ _ k => k.kx er fr⟩
  cases t with
  | true =>
    refine iteT ?_
    rw [if_pos rfl] at p1
    exact ⟨W1, h1, env, hr1, er.step f1, fr.trans f1, R.post.mono p1 (fun _ _ k => k.step f1.le) fun _ _ _ k => k⟩
  | false =>
    refine iteF ?_
    rw [if_neg Bool.false_ne_true] at p1
    exact ⟨W1, h1, env, hr1, er.step f1, fr.trans f1, R.post.mono p1 (fun _ _ k => k.step f1.le) fun _ _ _ k => k⟩
theorem pssv_nil : PSs X [] (tSr G W0 H0 E (sEnd .nx)) := pss_imp pss_nil fun D σ H ⟨W, h, env, hr, er, fr, p⟩ => p W H σ (Le.refl W) fr hr er
theorem pssv_cons {st : Stmt} {sts : List Stmt} {f g : Env → M RS} (h1 : PS X st (tSr G W0 H0 E f)) (h2 : PSs X sts (tSr G W0 H0 E g)) : PSs X (st :: sts) (tSr G W0 H0 E (sSeq f g)) :=
  pss_imp (pss_cons h1 h2) fun D σ H ⟨W, h, env, hr, er, fr, p⟩ => by
    refine ⟨W, h, env, hr, er, fr, (post_bnd.mp p).mono (fun r h1 p1 W1 H1 σ1 l1 f1 hr1 er1 => ?_) fun _ _ _ k => k⟩
    obtain ⟨fl, env1⟩ := r
    cases fl with
    | nx => exact ⟨W1, h1, env1, hr1, er1, f1, R.post.mono p1 (fun _ _ k => k.step l1) fun _ _ _ k => k⟩
    | bk => exact p1 W1 H1 σ1 l1 f1 hr1 er1
    | ct => exact p1 W1 H1 σ1 l1 f1 hr1 er1
    | rt d => exact p1 W1 H1 σ1 l1 f1 hr1 er1
    | xc c fs => exact p1 W1 H1 σ1 l1 f1 hr1 er1

/-! ### for -/
def forL (t : Tg) (b : Env → M RS) : List D → Env → M RS
  | [], env => ret (.nx, env)
  | d :: ds, env => match bindT t d env with
    | none => fun _ => .bad
    | some env1 => bnd (b env1) fun r => match r.1 with
      | .nx => forL t b ds r.2
      | .ct => forL t b ds r.2
      | .bk => ret (.nx, r.2)
      | .rt d => ret (.rt d, r.2)
      | .xc c fs => ret (.xc c fs, r.2)
noncomputable def sFor (it : Env → M (Gd × List D)) (t : Tg) (b : Env → M RS) (env : Env) : M RS := bndX env (it env) fun p => bnd (forL t (gdP p.1 b) p.2 env) (gdP p.1 ret)
theorem psv_for {tg iter : Expr} {body : List Stmt} {it : Env → M (Gd × List D)} {t : Tg} {b : Env → M RS} {pos : Pos} (hp : PassesOwn (model X.prog X.w) X.A X.env X.xe) (hc : X.calm = true) (hi : PI X tg iter (tIr G E it)) (hg : PG X tg (gTr G t))
    (hb : PSs X body (tSr G W0 H0 E b)) (hs : ∀ es k p, iter ≠ .Set es k p) : PS X (.For tg iter body [] pos) (tSr G W0 H0 E (sFor it t b)) :=
  ps_imp (ps_for hp hc hi hg hb (folded_not hs)) fun D σ H ⟨W, h, env, hr, er, fr, p⟩ => by
    refine ⟨W, h, env, H0, hr, er, (post_bndX.mp p).mono (fun gds h1 p1 W1 H1 J f1 hr1 hz wk => ?_) fun _ _ _ k => k.kx er fr⟩
    obtain ⟨gg, ds⟩ := gds
    let Iv : Nat → St → Hp → Prop := fun i σ' H' => ∃ (W2 : Wd) (h2 : IH) (env2 : Env), Le W1 W2 ∧ Hr G W2 h2 H' ∧ Er G W2 H0 H' env2 σ' ∧ Fr W0 H0 W2 H' ∧ i ≤ ds.length ∧ (bnd (forL t (gdP gg b) (ds.drop i) env2) (gdP gg ret) h2).post (KS G W0 H0 W E D) NoY
    refine ⟨fun i m σ' H' => m = ds.length - i ∧ Iv i σ' H', ⟨ds.length, rfl, W1, h1, env, Le.refl W1, hr1, er.step f1, fr.trans f1, Nat.zero_le _, p1⟩, ?_⟩
    rintro i m σ' H' ⟨rfl, W2, h2, env2, l2, hr2, er2, fr2, hi, q⟩
    by_cases hlt : i < ds.length
    · have g0 : gOk gg h2 := by
        rw [List.drop_eq_getElem_cons hlt, forL] at q
        cases hb : bindT t ds[i] env2 with
        | none => rw [hb] at q; exact q.elim
        | some env1 =>
          rw [hb] at q
          exact (gdP_post (post_bnd.mp (post_bnd.mp q))).1
      refine .inr ⟨wk.go i W2 h2 H' hlt l2 hr2 g0, Iv (i + 1), fun σ'' H'' iv => ⟨ds.length - (i + 1), by omega, rfl, iv⟩, fun x H'' y => ?_⟩
      have hd : ds[i]? = some ds[i] := List.getElem?_eq_getElem hlt
      obtain ⟨W3, f3, hr3, r3⟩ := wk.yld i W2 h2 H' x H'' _ hd l2 hr2 g0 y
      rw [List.drop_eq_getElem_cons hlt, forL] at q
      cases hb : bindT t ds[i] env2 with
      | none => rw [hb] at q; exact q.elim
      | some env1 =>
        rw [hb] at q
        refine ⟨W3, h2, _, env1, _, H0, hr3, er2.step f3, r3, hb, fun σ3 er3 _ => ?_⟩
        refine ⟨W3, h2, env1, hr3, er3, fr2.trans f3, (gdP_post (post_bnd.mp (post_bnd.mp q))).2.mono (fun r h4 p4 W4 H4 σ4 l4 f4 hr4 er4 => ?_) fun _ _ _ k => k⟩
        have l5 := (l2.trans f3.le).trans l4
        obtain ⟨fl, env4⟩ := r
        cases fl with
        | nx => exact ⟨W4, h4, env4, l5, hr4, er4, f4, hlt, post_bnd.mpr p4⟩
        | ct => exact ⟨W4, h4, env4, l5, hr4, er4, f4, hlt, post_bnd.mpr p4⟩
        | bk =>
          have p4 : (gdP gg ret ((Fl.nx, env4) : RS) h4).post (KS G W0 H0 W E D) NoY := p4
          have p4 := (gdP_post p4).2
          exact p4 W4 H4 σ4 (f1.le.trans l5) f4 hr4 er4
        | rt d =>
          have p4 : (gdP gg ret ((Fl.rt d, env4) : RS) h4).post (KS G W0 H0 W E D) NoY := p4
          have p4 := (gdP_post p4).2
          exact p4 W4 H4 σ4 (f1.le.trans l5) f4 hr4 er4
        | xc c fs =>
          have p4 : (gdP gg ret ((Fl.xc c fs, env4) : RS) h4).post (KS G W0 H0 W E D) NoY := p4
          have p4 := (gdP_post p4).2
          exact p4 W4 H4 σ4 (f1.le.trans l5) f4 hr4 er4
    · have e : i = ds.length := by omega
      subst e
      rw [List.drop_of_length_le (Nat.le_refl _)] at q
      have q : (gdP gg ret (.nx, env2) h2).post (KS G W0 H0 W E D) NoY := q
      obtain ⟨g0, q⟩ := gdP_post q
      exact .inl ⟨wk.stop W2 h2 H' l2 hr2 g0, q W2 H' σ' (f1.le.trans l2) fr2 hr2 er2⟩

/-! ### while -/
def whN (c : Env → M Bool) (b : Env → M RS) : Nat → Env → IH → Option (R RS)
  | 0, _, _ => none
  | n + 1, env, h => match c env h with
    | .bad => some .bad
    | .ex k fs h' => some (.ok (.xc k fs, env) h')
    | .ok false h' => some (.ok (.nx, env) h')
    | .ok true h' => match b env h' with
      | .bad => some .bad
      | .ex k fs h'' => some (.ex k fs h'')
      | .ok (.nx, env') h'' => whN c b n env' h''
      | .ok (.ct, env') h'' => whN c b n env' h''
      | .ok (.bk, env') h'' => some (.ok (.nx, env') h'')
      | .ok (.rt d, env') h'' => some (.ok (.rt d, env') h'')
      | .ok (.xc c fs, env') h'' => some (.ok (.xc c fs, env') h'')
theorem whN_more {c : Env → M Bool} {b : Env → M RS} : ∀ {n m : Nat} {env : Env} {h : IH} {r : R RS}, whN c b n env h = some r → n ≤ m → whN c b m env h = some r
  | 0, _, _, _, _, e, _ => by cases e
  | n + 1, 0, _, _, _, _, l => by omega
  | n + 1, m + 1, env, h, r, e, l => by
    have ih : ∀ {env : Env} {h : IH}, whN c b n env h = some r → whN c b m env h = some r := fun e => whN_more e (by omega)
    unfold whN at e ⊢
    cases q : c env h with
    | bad => rw [q] at e; exact e
    | ex k fs h' => rw [q] at e; exact e
    | ok t h' =>
      rw [q] at e
      cases t with
      | false => exact e
      | true =>
        dsimp only at e ⊢
        cases q2 : b env h' with
        | bad => rw [q2] at e; exact e
        | ex k fs h' => rw [q2] at e; exact e
        | ok r2 h' =>
          rw [q2] at e
          obtain ⟨fl, env'⟩ := r2
          cases fl with
          | nx => exact ih e
          | ct => exact ih e
          | bk => exact e
          | rt d => exact e
          | xc c fs => exact e
open Classical in
noncomputable def sWhile (c : Env → M Bool) (b : Env → M RS) (env : Env) : M RS := fun h =>
  if hx : ∃ (n : Nat) (r : R RS), whN c b n env h = some r then hx.choose_spec.choose else .bad
theorem sWhile_of {c : Env → M Bool} {b : Env → M RS} {env : Env} {h : IH} {n : Nat} {r : R RS} (e : whN c b n env h = some r) : sWhile c b env h = r := by
  unfold sWhile
  have hx : ∃ (n : Nat) (r : R RS), whN c b n env h = some r := ⟨n, r, e⟩
  rw [dif_pos hx]
  have q := hx.choose_spec.choose_spec
  have l1 := whN_more q (Nat.le_max_left hx.choose n)
  have l2 := whN_more e (Nat.le_max_right hx.choose n)
  rw [l1] at l2
  exact Option.some.inj l2
theorem sWhile_ok {c : Env → M Bool} {b : Env → M RS} {env : Env} {h : IH} {K : RS → IH → Prop} {Y : Nat → List D → IH → Prop} (p : (sWhile c b env h).post K Y) : ∃ (n : Nat) (r : R RS), whN c b n env h = some r ∧ r.post K Y := by
  by_cases hx : ∃ (n : Nat) (r : R RS), whN c b n env h = some r
  · obtain ⟨n, r, e⟩ := hx
    rw [sWhile_of e] at p
    exact ⟨n, r, e, p⟩
  · unfold sWhile at p
    rw [dif_neg hx] at p
    exact p.elim
theorem psv_while {c : Expr} {body : List Stmt} {fc : Env → M Bool} {b : Env → M RS} {pos : Pos} (hp : PassesOwn (model X.prog X.w) X.A X.env X.xe) (hc : PT X c (tTr G E fc)) (hb : PSs X body (tSr G W0 H0 E b)) :
    PS X (.While c body [] pos) (tSr G W0 H0 E (sWhile fc b)) := ps_imp (ps_while hp hc hb) fun D σ H ⟨W, h, env, hr, er, fr, p⟩ => by
  obtain ⟨n0, r0, e0, p0⟩ := sWhile_ok p
  refine ⟨fun m σ' H' => ∃ (W2 : Wd) (h2 : IH) (env2 : Env) (r : R RS), Le W W2 ∧ Hr G W2 h2 H' ∧ Er G W2 H0 H' env2 σ' ∧ Fr W0 H0 W2 H' ∧ whN fc b m env2 h2 = some r ∧ r.post (KS G W0 H0 W E D) NoY, ⟨n0, W, h, env, r0, Le.refl W, hr, er, fr, e0, p0⟩, ?_⟩
  rintro m σ' H' ⟨W2, h2, env2, r, l2, hr2, er2, fr2, e, q⟩
  cases m with
  | zero => cases e
  | succ m =>
    unfold whN at e
    refine ⟨W2, h2, env2, H0, hr2, er2, ?_⟩
    cases q1 : fc env2 h2 with
    | bad => rw [q1] at e; cases e; exact q.elim
    | ex k fs h' => rw [q1] at e; cases e; exact fun W' H' cls dd f hr x => q W' H' σ' (l2.trans f.le) (fr2.trans f) hr (er2.step f) cls dd x
    | ok t h' =>
      rw [q1] at e
      intro W3 H3 f3 hr3
      cases t with
      | false =>
        refine iteF ?_
        cases e
        exact q W3 H3 σ' (l2.trans f3.le) (fr2.trans f3) hr3 (er2.step f3)
      | true =>
        refine iteT ?_
        dsimp only at e
        refine ⟨fun σ'' H'' => ∃ (W2 : Wd) (h2 : IH) (env2 : Env) (r : R RS), Le W W2 ∧ Hr G W2 h2 H'' ∧ Er G W2 H0 H'' env2 σ'' ∧ Fr W0 H0 W2 H'' ∧ whN fc b m env2 h2 = some r ∧ r.post (KS G W0 H0 W E D) NoY, fun σ'' H'' y => ⟨m, Nat.lt_succ_self m, y⟩, W3, h', env2, hr3, er2.step f3, fr2.trans f3, ?_⟩
        cases q2 : b env2 h' with
        | bad => rw [q2] at e; cases e; exact q.elim
        | ex k fs h'' => rw [q2] at e; cases e; exact q
        | ok r2 h'' =>
          rw [q2] at e
          obtain ⟨fl, env'⟩ := r2
          intro W4 H4 σ4 l4 f4 hr4 er4
          have l5 := (l2.trans f3.le).trans l4
          cases fl with
          | nx => exact ⟨W4, h'', env', r, l5, hr4, er4, f4, e, q⟩
          | ct => exact ⟨W4, h'', env', r, l5, hr4, er4, f4, e, q⟩
          | bk => cases e; exact q W4 H4 σ4 l5 f4 hr4 er4
          | rt d => cases e; exact q W4 H4 σ4 l5 f4 hr4 er4
          | xc c fs => cases e; exact q W4 H4 σ4 l5 f4 hr4 er4
end Iv

/-! Iv, part M: calls of any shape; instances: made, read, stored, their methods. -/
namespace Iv
open PySem L2
variable {G : GC} {X : Cx} {W0 : Wd} {H0 : Hp} {E : EK}

/-! ### arguments of any shape -/
theorem evalArgs_two {M : Model} {A : Around} {EE : Value → Shared → Prop} {s : Shared} {f : Value} {a b : Bool × Sem Value} {rest : List (Bool × Sem Value)} {Q : Args → Shared → Prop}
    (h : wpAny M A (spliced (a :: b :: rest)) (fun vs s' => Q ⟨vs, []⟩ s') EE s) : wpAny M A (evalArgs f true (a :: b :: rest) []) Q EE s := by
  obtain ⟨ba, xa⟩ := a
  unfold evalArgs
  cases ba
  all_goals
  show wpAny M A (spliced (_ :: b :: rest) >>= _) Q EE s
  refine wpAny_bind (wpAny_mono h (fun vs s' h' => ?_) fun _ _ x => x)
  refine wpAny_holding ?_
  exact wpAny_bind (wpAny_pure (wpAny_bind (wpAny_pure (wpAny_pure h'))))
theorem evalArgs_no {M : Model} {A : Around} {EE : Value → Shared → Prop} {s : Shared} {f : Value} {Q : Args → Shared → Prop}
    (h : wpAny M A (spliced []) (fun vs s' => Q ⟨vs, []⟩ s') EE s) : wpAny M A (evalArgs f true [] []) Q EE s := by
  unfold evalArgs
  show wpAny M A (spliced [] >>= _) Q EE s
  refine wpAny_bind (wpAny_mono h (fun vs s' h' => ?_) fun _ _ x => x)
  refine wpAny_holding ?_
  exact wpAny_bind (wpAny_pure (wpAny_bind (wpAny_pure (wpAny_pure h'))))
/-- a call with these arguments -/
def CW (X : Cx) (es : List Expr) (t : TA) : Prop := ∀ (pos : Pos) (fv : Value) (first : List Value) (pins : List (Addr × Obj)) (s : Shared) (σ : St) (H : Hp) (Q : List V → Hp → Prop) (R : Value → Shared → Prop),
  PySem.W.keepIn X.K fv = true → Inv X pins σ H s → t σ H Q → (∀ us s' vs H', Inv X pins σ H' s' → Vals vs us → Q vs H' → wpAny (model X.prog X.w) X.A (call fv (first ++ us)) R X.xe s') →
    wpAny (model X.prog X.w) X.A (callWith pos fv first (backTo pos (starEach es X.env)) []) R X.xe s
def isLone : List Expr → Bool
  | [.Starred _ _] => true
  | _ => false
theorem cw_ev {es : List Expr} {pos : Pos} {fv : Value} {first : List Value} {s : Shared} {R : Value → Shared → Prop} (hk : PySem.W.keepIn X.K fv = true)
    (h : wpAny (model X.prog X.w) X.A (evalArgs fv true (backTo pos (starEach es X.env)) []) (fun a s₁ => X.K.In s₁.heap ∧ wpAny (model X.prog X.w) X.A (call fv (first ++ a.pos) a.kw) R X.xe s₁) X.xe s) :
    wpAny (model X.prog X.w) X.A (callWith pos fv first (backTo pos (starEach es X.env)) []) R X.xe s := by
  cases c : (backTo pos (starEach es X.env)).any (·.1) with
  | true => exact PySem.W.ks_call c (PySem.W.keeps_K hk) h
  | false => exact PySem.W.callWith_of (by rw [c]; rfl) (PySem.W.keeps_K hk) h
theorem cw_of {es : List Expr} {t : TA} (h : PA X es t) (hl : isLone es = false) : CW X es t := by
  intro pos fv first pins s σ H Q R hk I q k
  have h2 := h.run pos pins s σ H Q I q
  refine cw_ev hk ?_
  have fin : ∀ vs s', AP X pins σ Q vs s' → X.K.In s'.heap ∧ wpAny (model X.prog X.w) X.A (call fv (first ++ vs)) R X.xe s' := fun us s' ⟨vs, H', I', r, q'⟩ => ⟨I'.kIn, k us s' vs H' I' r q'⟩
  match es, hl with
  | [], _ => exact evalArgs_no (thn h2 fun vs s' z => fin vs s' z)
  | [e], hl =>
    have hs : ∀ a p, e ≠ .Starred a p := fun a p z => by rw [z] at hl; cases hl
    have he := starEach_cons (es := []) (env := X.env) hs
    rw [he] at h2 ⊢
    exact Calls.evalArgs_plain (thn h2 fun vs s' z => fin vs s' z)
  | e1 :: e2 :: rest, _ =>
    have two : ∃ a b r, backTo pos (starEach (e1 :: e2 :: rest) X.env) = a :: b :: r := by
      cases e1 <;> cases e2 <;> exact ⟨_, _, _, rfl⟩
    obtain ⟨a, b, r, e⟩ := two
    rw [e] at h2 ⊢
    exact evalArgs_two (thn h2 fun vs s' z => fin vs s' z)
theorem cw_lone {e : Expr} {p : Pos} {f : Env → M D} (hK : X.K = G.K) (he : PE X e (tR G (rrO G) E f)) : CW X [.Starred e p] (tAr G E (aStar f aNil)) := by
  intro pos fv first pins s σ H Q R hk I q k
  refine cw_ev hk ?_
  refine PySem.W.ks_lone (x := eval e X.env) ?_
  obtain ⟨W, h, env, H0, hr, er, pp⟩ := q
  refine thn (he.run pins s σ H (fun v H1 => ∃ a xs, v = .ref a ∧ (SqT X.K H1 a xs ∨ SqL X.K H1 a xs) ∧ Q xs H1) I ⟨W, h, env, H0, hr, er, (post_bnd.mp pp).mono (fun x h1 p1 W1 H1 v f1 hr1 r1 => ?_) fun _ _ _ k => k⟩) fun v s1 ⟨y, H1, I1, ry, a, xs, ey, hxs, q1⟩ => ?_
  · obtain ⟨xs, e, k⟩ := post_lft (post_bnd.mp p1)
    have rn := RepS.drf hr1 r1
    have k : KA G W H Q (xs ++ []) h1 := k
    rw [List.append_nil] at k
    generalize drf h1 x = y at e rn
    cases y <;> simp only [seqOf, Option.some.injEq, reduceCtorEq] at e
    · subst e
      obtain ⟨q, vs, e1, e2, _, e4⟩ := RepN.tup hr1 rn
      exact ⟨q, vs, e1, .inl (.inl (.inl e2)), k W1 H1 vs f1 hr1 e4⟩
    · subst e
      obtain ⟨q, vs, e1, e2, _, e4⟩ := RepN.lst hr1 rn
      exact ⟨q, vs, e1, .inr (by rw [hK]; exact e2), k W1 H1 vs f1 hr1 e4⟩
  · subst ey
    obtain rfl : v = Value.ref a := ry
    exact StX.star_any I1 hxs fun us s2 I2 rv => ⟨I2.kIn, k us s2 xs H1 I2 rv q1⟩

/-! ### calls of defs -/
def eCall (f : List D → M D) (g : Env → M (List D)) (env : Env) : M D := bnd (g env) f
/-- what a call lets out is taken, at the slots as they stand -/
abbrev PassX (X : Cx) (E : EK) : Prop := ∀ σ, PassesAt (L2.CX X.prog X.w) X σ (E σ)
theorem run_fnX {k : Nat} {f : Addr} {sp : Sp} {EE : XK} {pins : List (Addr × Obj)} {σ : St} {H : Hp} {s : Shared} {Q : VK} {us : List Value} {vs : List V} (F : FnR X.prog X.w X.K X.mg X.base (L2.CX X.prog X.w) k f sp) (hr : Room k X.A) (hx : PassesAt (L2.CX X.prog X.w) X σ EE) (I : Inv X pins σ H s) (r : Vals vs us) (h : sp vs H Q EE) :
    codeAny (model X.prog X.w) X.A (.call (.ref f) ⟨us, []⟩) (fun r s' => match r with | .ok (.ret v) => EP X pins σ Q v s' | .ok _ => False | .error e => X.xe e s') s := by
  refine codeAny_mono (F X.A X.stack s H us vs Q EE hr I.env0 r h) fun r s' hq => ?_
  cases r with
  | error e => exact hx pins H s e s' I hq
  | ok fl =>
    cases fl with
    | ret u => exact I.after hq
    | next => exact False.elim hq
    | brk => exact False.elim hq
    | cont => exact False.elim hq
theorem run_makeX {k : Nat} {f C : Addr} {sp : Sp} {EE : XK} {pins : List (Addr × Obj)} {σ : St} {H : Hp} {s : Shared} {Q : VK} {us : List Value} {vs : List V} (M : Mk X.K C f) (F : FnR X.prog X.w X.K X.mg X.base (L2.CX X.prog X.w) k f sp) (hr : Room (k + 1) X.A) (hx : PassesAt (L2.CX X.prog X.w) X σ EE) (I : Inv X pins σ H s) (r : Vals vs us)
    (h : ∀ x dx, H x = Option.none → H dx = Option.none → dx ≠ x → sp (V.ref x :: vs) (upd (upd H dx (.own x)) x (.ins C dx [])) (fun v H2 => v = .non ∧ Q (.ref x) H2) EE) :
    wpAny (model X.prog X.w) X.A (call (.ref C) us) (EP X pins σ Q) X.xe s := by
  have hq := h (s.heap.objs.size + 1) s.heap.objs.size (I.hok.fresh (Nat.le_succ _)) (I.hok.fresh (Nat.le_refl _)) (Nat.ne_of_lt (Nat.lt_succ_self _))
  have I2 := Inv.made (C := C) I
  have r2 : Vals (V.ref (s.heap.objs.size + 1) :: vs) (Value.ref (s.heap.objs.size + 1) :: us) := .cons rfl r
  refine wpAny_call (make_map (f := f) I.kIn M.makes M.init (beq_iff_eq.mp M.fn) (codeAny_mono (F _ X.stack _ _ (Value.ref (s.heap.objs.size + 1) :: us) _ _ EE (hr.make C us []) (I2.env0.make C us []) r2 hq) fun r s' hq' => ?_))
  cases r with
  | error e => exact hx pins _ _ e s' I2 hq'
  | ok fl =>
    cases fl with
    | ret u =>
      obtain ⟨v, H', I3, rv, ev, q3⟩ := I2.after hq'
      subst ev
      exact ⟨rv, ⟨V.ref (s.heap.objs.size + 1), H', I3, rfl, q3⟩⟩
    | next => exact False.elim hq'
    | brk => exact False.elim hq'
    | cont => exact False.elim hq'

/-- what a def promises, by the pure function that it is -/
def spR (G : GC) (f : List D → M D) : Sp := fun vs H Q E =>
  ∃ (W : Wd) (h : IH) (ds : List D), Hr G W h H ∧ Reps G W ds vs ∧ (f ds h).post (KQ G (rrE G) W H Q) (KX G E W H)
abbrev FnI (G : GC) (k : Nat) (f : Addr) (F : List D → M D) : Prop := FnR G.P G.w G.K G.mg G.base (L2.CX G.P G.w) k f (spR G F)
/-- where a body stands -/
structure Hd (G : GC) (X : Cx) : Prop where
  hP : X.prog = G.P
  hw : X.w = G.w
  hK : X.K = G.K
  hm : X.mg = G.mg
  hb : X.base = G.base
theorem Hd.fn (g : Hd G X) {k : Nat} {f : Addr} {F : List D → M D} (h : FnI G k f F) : FnR X.prog X.w X.K X.mg X.base (L2.CX X.prog X.w) k f (spR G F) := by
  rw [g.hP, g.hw, g.hK, g.hm, g.hb]; exact h
theorem pev_callC (g : Hd G X) {k : Nat} {f : Addr} {F : List D → M D} {x : Str} {es : List Expr} {ev : Env → M (List D)} {p pos : Pos} (hF : FnI G k f F) (hr : Room k X.A) (hx : PassX X E) (hg : Gl X x) (hm : X.mg x = some (.ref f)) (hk : PySem.W.keepIn X.K (.ref f) = true)
    (ha : CW X es (tAr G E ev)) (hdb : (x == ("__debug__" : Str)) = false) : PE X (.Call (.Name x p) es [] pos) (tR G (rrE G) E (eCall F ev)) := by
  refine ⟨fun pins s σ H Q I h => ?_⟩
  refine wpAny_Call_Name_kw (ld_glob I hg hm ?_ hdb)
  obtain ⟨W, hh, env, H0, hr0, er, pp⟩ := h
  refine ha pos _ [] pins s σ H (fun vs H1 => spR G F vs H1 Q (E σ)) _ hk I ⟨W, hh, env, H0, hr0, er, (post_bnd.mp pp).mono (fun ds h1 p1 W1 H1 vs f1 hr1 r1 => ?_) fun _ _ _ k => k⟩ fun us s' vs H' I' r q => ?_
  · exact ⟨W1, h1, ds, hr1, r1, R.post.mono p1 (fun d h2 k => k.step upE f1) fun _ _ _ k => k.step f1⟩
  · exact wpAny_call (run_fnX (g.fn hF) hr (hx σ) I' r q)

/-! ### o.m(..) -/
/-- the methods, the properties of the classes -/
structure ClsD where
  x : Str
  ns : List Nat
  ms : List (Nat × Nat)
  ps : List (Nat × Nat)
  ss : List (Nat × Nat)
  con : List (Nat × D)
  frz : Bool
  it : Option Nat
  init : Option Nat
def fIx : List Nat → Nat → Option Nat
  | [], _ => none
  | n :: ns, f => if n = f then some 0 else (fIx ns f).map (· + 1)
theorem fIx_get : ∀ {ns : List Nat} {f j : Nat}, fIx ns f = some j → ns[j]? = some f
  | n :: ns, f, j, h => by
    rw [fIx] at h
    split at h
    · cases h; rename_i e; subst e; rfl
    · obtain ⟨i, h1, rfl⟩ := Option.map_eq_some_iff.mp h
      have := fIx_get h1
      simpa using this
theorem fIx_none : ∀ {ns : List Nat} {f : Nat}, fIx ns f = none → f ∉ ns
  | [], _, _, h => by cases h
  | n :: ns, f, h, m => by
    rw [fIx] at h
    split at h
    · cases h
    · rename_i e
      rcases List.mem_cons.mp m with z | z
      · exact e z.symm
      · exact fIx_none (by simpa using h) z
theorem fIx_mem {ns : List Nat} {f : Nat} (h : f ∉ ns) : fIx ns f = none := by
  cases e : fIx ns f with
  | none => rfl
  | some j => exact absurd (List.mem_of_getElem? (fIx_get e)) h
/-- what is known of a class: its object, its names -/
structure ClOk (G : GC) (c : Nat) (K : ClsD) (C : Addr) : Prop where
  at_ : G.cls c = some (C, K.ns.map G.nm)
  cl : Cls G.K C
  glo : G.mg K.x = some (.ref C)
  kp : PySem.W.keepIn G.K (.ref C) = true
  nd : (K.ns.map G.nm).Nodup
  few : K.ns.length ≤ 900
  no : ∀ f ∈ K.ns, NoAttr G.K C (G.nm f)
  ms : ∀ m i, K.ms.lookup m = some i → Meth G.K C (G.nm m) (G.fa i) ∧ G.nm m ∉ K.ns.map G.nm
  ps : ∀ m i, K.ps.lookup m = some i → ∃ p, PropOf G.K C (G.nm m) p (G.fa i)
  con : ∀ m d, K.con.lookup m = some d → G.nm m ∉ K.ns.map G.nm ∧ ∃ v u, Con G.K C (G.nm m) v u ∧ ∀ W, Rep G W d v
abbrev CT := Nat → Option ClsD
def CtOk (G : GC) (ct : CT) : Prop := ∀ c K, ct c = some K → ∃ C, ClOk G c K C
theorem lookup_zip_none {us : List V} : ∀ {ns : List Str} {f : Str}, f ∉ ns → (ns.zip us).lookup f = none := by
  intro ns
  induction ns generalizing us with
  | nil => intro f _; rfl
  | cons n ns ih =>
    intro f h
    cases us with
    | nil => rfl
    | cons u us =>
      rw [List.zip_cons_cons, List.lookup_cons]
      have : (f == n) = false := by rw [beq_eq_false_iff_ne]; exact fun e => h (by rw [e]; exact List.mem_cons_self)
      rw [this]
      exact ih fun z => h (List.mem_cons_of_mem _ z)
theorem lookup_zip_some : ∀ {ns : List Str} {us : List V} {j : Nat} {f : Str} {v : V}, ns.Nodup → ns[j]? = some f → us[j]? = some v → (ns.zip us).lookup f = some v
  | [], _, _, _, _, _, h, _ => by simp at h
  | _ :: _, [], _, _, _, _, _, h => by simp at h
  | n :: ns, u :: us, 0, f, v, _, h1, h2 => by
    simp at h1 h2; subst h1 h2
    rw [List.zip_cons_cons, List.lookup_cons]; simp
  | n :: ns, u :: us, j + 1, f, v, nd, h1, h2 => by
    have h1 : ns[j]? = some f := by simpa using h1
    rw [List.nodup_cons] at nd
    rw [List.zip_cons_cons, List.lookup_cons]
    have : (f == n) = false := by rw [beq_eq_false_iff_ne]; exact fun e => nd.1 (by rw [← e]; exact List.mem_of_getElem? h1)
    rw [this]
    exact lookup_zip_some nd.2 h1 (by simpa using h2)
theorem putF_zip : ∀ {ns : List Str} {us : List V} {j : Nat} {f : Str} {v : V}, ns.Nodup → ns[j]? = some f → j ≤ us.length → us.length ≤ ns.length → putF f v (ns.zip us) = ns.zip (if j < us.length then us.set j v else us ++ [v])
  | [], _, _, _, _, _, h, _, _ => by simp at h
  | n :: ns, [], 0, f, v, _, h, _, _ => by simp at h; subst h; simp [putF]
  | n :: ns, [], j + 1, f, v, _, _, h, _ => by simp at h
  | n :: ns, u :: us, 0, f, v, _, h, _, _ => by simp at h; subst h; simp [putF]
  | n :: ns, u :: us, j + 1, f, v, nd, h, hl, hz => by
    have h1 : ns[j]? = some f := by simpa using h
    rw [List.nodup_cons] at nd
    have ne : ¬ n = f := fun e => nd.1 (by rw [e]; exact List.mem_of_getElem? h1)
    rw [List.zip_cons_cons]
    have ih := putF_zip (v := v) nd.2 h1 (us := us) (by simpa using hl) (by simpa using hz)
    simp only [putF]
    first
      | rw [if_neg ne, ih]
      | rw [if_neg (fun e => ne e.symm), ih]
      | simp only [ne, ih, if_false, beq_iff_eq]
    by_cases c : j < us.length <;> simp [c]
end Iv

/-! Iv, part N: instances: their fields, methods, how they are made. -/
namespace Iv
open PySem L2
variable {G : GC} {X : Cx} {W0 : Wd} {H0 : Hp} {E : EK}
abbrev CallH := Nat → List D → M D

/-! ### e.f -/
def attrD (C : CallH) (ct : CT) (a : Nat) (x : D) : M D := fun h => match insAt h x with
  | some (c, fs) => match ct c with
    | some K => match fIx K.ns a with
      | some j => (match fs[j]? with
        | some d => .ok d h
        | none => .bad)
      | none => match K.ps.lookup a with
        | some i => noex (C i [x]) h
        | none => match K.con.lookup a with
          | some d => .ok d h
          | none => .bad
    | none => .bad
  | none => .bad
def eAttr (C : CallH) (ct : CT) (a : Nat) (fe : Env → M D) (env : Env) : M D := bnd (fe env) (attrD C ct a)
theorem getpropR {k : Nat} {C p f a dx : Addr} {fs : List (Str × V)} {n : Str} {sp : Sp} {pins : List (Addr × Obj)} {σ : St} {H : Hp} {s : Shared} {Q : VK} {b : Bool} {E' : Value → Shared → Prop} (I : Inv X pins σ H s) (ea : H a = some (.ins C dx fs)) (c : Cls X.K C) (hp : PropOf X.K C n p f)
    (F : FnR X.prog X.w X.K X.mg X.base (L2.CX X.prog X.w) k f sp) (hr : Room (k + 1) X.A) (h : sp [.ref a] H Q EN) :
    wpAny (model X.prog X.w) X.A (getAttr (.ref a) n b) (EP X pins σ Q) E' s := by
  obtain ⟨mA, O, _, _, _, _⟩ := ins_get I.hok ea
  obtain ⟨od, J, _⟩ := O.look
  obtain ⟨rest, hrec⟩ := hp.rec_
  have I1 := I.tok (s.toks + 1)
  have hc : (PySem.W.clsIn X.K C).isSome = true := by
    obtain ⟨cd, hc, _⟩ := PySem.W.any_some c.hd
    rw [hc]
    rfl
  refine PySem.W.get_bind I.kIn J (PySem.W.plainGet_of (c.get n)).1 (PySem.W.findObj_data hc hp.at_ hp.get hp.tak) (PySem.W.plainGet_of (c.get n)).2 (wpAny_call (PySem.W.prop_get (s := { s with toks := s.toks + 1 }) I.kIn hrec ?_))
  refine codeAny_mono (F X.A.in1 X.stack { s with toks := s.toks + 1 } H [.ref a] [.ref a] Q EN hr.in1 I1.env0.in1 (.cons rfl .nil) h) fun r s' hq => ?_
  cases r with
  | error er =>
    obtain ⟨_, _, _, _, _, _, _, _, _, _, _, _, z⟩ := hq
    exact z.elim
  | ok fl =>
    cases fl with
    | ret u =>
      obtain ⟨v, H', I3, rv, q3⟩ := I1.after hq
      show wpAny _ _ (handedOut u) _ _ _
      rw [PySem.W.handedOut_of (handed_of rv)]
      exact wpAny_pure ⟨v, H', I3, rv, q3⟩
    | next => exact False.elim hq
    | brk => exact False.elim hq
    | cont => exact False.elim hq
theorem pev_attr (g : Hd G X) {C : CallH} {ct : CT} {k : Nat} (ok : CtOk G ct) (hF : ∀ i, FnI G k (G.fa i) (C i)) (hr : Room (k + 1) X.A) {a : Nat} {e : Expr} {fe : Env → M D} {pos : Pos} (he : PE X e (tR G (rrE G) E fe))
    (hab : attributeBase e (G.nm a) X.env (eval e X.env) = eval e X.env) : PE X (.Attribute e (G.nm a) pos) (tR G (rrE G) E (eAttr C ct a fe)) := by
  refine ⟨fun pins s σ H Q I ⟨W, h, env, H0, hr0, er, p⟩ => ?_⟩
  refine attr_of hab (thn (he.run pins s σ H (fun v H1 => (∃ b C dx fs w, v = .ref b ∧ H1 b = some (.ins C dx fs) ∧ Cls X.K C ∧ NoAttr X.K C (G.nm a) ∧ fs.lookup (G.nm a) = some w ∧ Q w H1) ∨
    (∃ b C dx fs w u, v = .ref b ∧ H1 b = some (.ins C dx fs) ∧ Cls X.K C ∧ Con X.K C (G.nm a) w u ∧ fs.lookup (G.nm a) = none ∧ Q w H1) ∨
    ∃ b D dx fs pp i, v = .ref b ∧ H1 b = some (.ins D dx fs) ∧ Cls X.K D ∧ PropOf X.K D (G.nm a) pp (G.fa i) ∧ spR G (C i) [.ref b] H1 Q EN) I ⟨W, h, env, H0, hr0, er, (post_bnd.mp p).mono (fun x h1 p1 W1 H1 v f1 hr1 r1 => ?_) fun _ _ _ k => k⟩) fun u s1 ⟨x, H1, I1, rx, q⟩ => ?_)
  · unfold attrD at p1
    cases e1 : insAt h1 x with
    | none => rw [e1] at p1; exact p1.elim
    | some cf =>
      obtain ⟨c, fs⟩ := cf
      rw [e1] at p1
      dsimp only at p1
      cases e2 : ct c with
      | none => rw [e2] at p1; exact p1.elim
      | some K =>
        rw [e2] at p1
        dsimp only at p1
        obtain ⟨CC, ko⟩ := ok c K e2
        obtain ⟨b, C', dx, ns, us, rfl, a1, a2, a3, a4⟩ := insAt_ok hr1 (.inl r1) e1
        rw [ko.at_] at a1
        cases a1
        cases e3 : fIx K.ns a with
        | some j =>
          rw [e3] at p1
          dsimp only at p1
          cases e4 : fs[j]? with
          | none => rw [e4] at p1; exact p1.elim
          | some d =>
            rw [e4] at p1
            obtain ⟨w, b1, b2⟩ := a4.get e4
            have hn : (K.ns.map G.nm)[j]? = some (G.nm a) := by rw [List.getElem?_map, fIx_get e3]; rfl
            exact .inl ⟨b, CC, dx, _, w, rfl, a2, by rw [g.hK]; exact ko.cl, by rw [g.hK]; exact ko.no a (List.mem_of_getElem? (fIx_get e3)), lookup_zip_some ko.nd hn b1, p1 W1 H1 w f1 hr1 b2⟩
        | none =>
          rw [e3] at p1
          dsimp only at p1
          cases e5 : K.ps.lookup a with
          | some i =>
            rw [e5] at p1
            obtain ⟨pp, po⟩ := ko.ps a i e5
            refine .inr (.inr ⟨b, CC, dx, _, pp, i, rfl, a2, by rw [g.hK]; exact ko.cl, by rw [g.hK]; exact po, W1, h1, [x], hr1, .cons r1 .nil, ?_⟩)
            exact (post_noex (W := W1) (H := H1) p1).mono (fun d h2 k => k.step upE f1) fun _ _ _ k => k
          | none =>
            rw [e5] at p1
            dsimp only at p1
            cases e6 : K.con.lookup a with
            | none => rw [e6] at p1; exact p1.elim
            | some d =>
              rw [e6] at p1
              obtain ⟨c1, w, u, c2, c3⟩ := ko.con a d e6
              exact .inr (.inl ⟨b, CC, dx, _, w, u, rfl, a2, by rw [g.hK]; exact ko.cl, by rw [g.hK]; exact c2, lookup_zip_none c1, p1 W1 H1 w f1 hr1 (c3 W1)⟩)
  · rcases q with ⟨b, C', dx, fs, w, rfl, e1, c, n, l, q⟩ | ⟨b, C', dx, fs, w, u', rfl, e1, c, n, l, q⟩ | ⟨b, C', dx, fs, pp, i, rfl, e1, c, po, q⟩
    · obtain rfl : u = Value.ref b := rx
      exact getattr_ok I1 e1 c n l fun w' s2 I2 rw' => ⟨w, H1, I2, rw', q⟩
    · obtain rfl : u = Value.ref b := rx
      exact getcon_ok I1 e1 c n l fun s2 I2 => ⟨w, H1, I2, n.rel, q⟩
    · obtain rfl : u = Value.ref b := rx
      exact getpropR I1 e1 c po (g.fn (hF i)) hr q

/-! ### o.m(..) -/
def methD (ct : CT) (m : Nat) (h : IH) (x : D) : Option Nat := match insAt h x with
  | some (c, _) => (ct c).bind fun K => K.ms.lookup m
  | none => none
def eMeth (C : CallH) (ct : CT) (m : Nat) (fe : Env → M D) (ga : Env → M (List D)) (env : Env) : M D := bnd (fe env) fun x => fun h => match methD ct m h x with
  | some i => bnd (ga env) (fun ds => C i (x :: ds)) h
  | none => .bad
theorem starEach_nil (env : PySem.Env) : starEach [] env = [] := rfl
theorem pev_meth (g : Hd G X) {C : CallH} {ct : CT} {k : Nat} (ok : CtOk G ct) (hF : ∀ i, FnI G k (G.fa i) (C i)) (hr : Room k X.A) (hx : PassX X E) {m : Nat} {o : Expr} {es : List Expr} {fe : Env → M D} {ga : Env → M (List D)} {apos pos : Pos} {pl : Sem Bool}
    (he : PE X o (tR G (rrE G) E fe)) (ha : CW X es (tAr G E ga))
    (ht : eval (.Call (.Attribute o (G.nm m) apos) es [] pos) X.env = (do
      let ov ← eval o X.env
      standAt apos.atName
      let (f, first) ← holding [ov] (getMethod ov (G.nm m) pl)
      callWith pos f first (backTo pos (starEach es X.env)) (backToKw pos (keywordEach [] X.env)))) : PE X (.Call (.Attribute o (G.nm m) apos) es [] pos) (tR G (rrE G) E (eMeth C ct m fe ga)) := by
  refine ⟨fun pins s σ H Q I ⟨W, h, env, H0, hr0, er, p⟩ => ?_⟩
  refine PySem.W.methodCall_KW (pl := pl) (thn (he.run pins s σ H (fun v H1 => ∃ b D dx fs i, v = .ref b ∧ H1 b = some (.ins D dx fs) ∧ Cls X.K D ∧ Meth X.K D (G.nm m) (G.fa i) ∧ fs.lookup (G.nm m) = none ∧ tAr G E ga σ H1 fun vs H2 => spR G (C i) (.ref b :: vs) H2 Q (E σ)) I
    ⟨W, h, env, H0, hr0, er, (post_bnd.mp p).mono (fun x h1 p1 W1 H1 v f1 hr1 r1 => ?_) fun _ _ _ k => k⟩) fun u s1 ⟨x, H1, I1, rx, b, D, dx, fs, i, ex, e1, c, me, l, q⟩ => ?_) ht
  · cases e1 : methD ct m h1 x with
    | none => rw [e1] at p1; exact p1.elim
    | some i =>
      rw [e1] at p1
      unfold methD at e1
      cases e2 : insAt h1 x with
      | none => rw [e2] at e1; cases e1
      | some cf =>
        obtain ⟨c, fs⟩ := cf
        rw [e2] at e1
        dsimp only at e1
        obtain ⟨K, e3, e4⟩ := Option.bind_eq_some_iff.mp e1
        obtain ⟨CC, ko⟩ := ok c K e3
        obtain ⟨b, C', dx, ns, us, rfl, a1, a2, a3, a4⟩ := insAt_ok hr1 (.inl r1) e2
        rw [ko.at_] at a1
        cases a1
        obtain ⟨m1, m2⟩ := ko.ms m i e4
        refine ⟨b, CC, dx, _, i, rfl, a2, by rw [g.hK]; exact ko.cl, by rw [g.hK]; exact m1, lookup_zip_none m2, W1, h1, env, H0, hr1, er.step f1, (post_bnd.mp p1).mono (fun ds h2 p2 W2 H2 vs f2 hr2 r2 => ?_) fun _ _ _ k => k.step f1⟩
        exact ⟨W2, h2, x :: ds, hr2, .cons (Rep.mono f2.le r1) r2, R.post.mono p2 (fun d h3 k => k.step upE (f1.trans f2)) fun _ _ _ k => k.step (f1.trans f2)⟩
  · subst ex
    obtain rfl : u = Value.ref b := rx
    refine getmeth_ok I1 e1 c me l ?_
    exact ha pos _ [.ref b] pins s1 σ H1 _ _ me.kp I1 q fun us s' vs H' I' r q' => wpAny_call (run_fnX (us := .ref b :: us) (vs := .ref b :: vs) (g.fn (hF i)) hr (hx σ) I' (.cons rfl r) q')

/-! ### C.m(..), m a staticmethod -/
structure SMet (K : PySem.W.Frag) (C : Addr) (m : Str) (f : Addr) : Prop where
  ga : PySem.W.specialIn K (.ref C) "__getattribute__" = some (some (.builtin "type.__getattribute__"))
  rd : PySem.W.readsIn K C (.type "type") = true
  at_ : ∃ p rest, PySem.W.findCls K (.ref C) (.type "type") m = some (.get (.builtin "staticmethod.__get__") (.ref p) .none (.ref C)) ∧ PySem.W.recIn K p "staticmethod" = some (.ref f :: rest)
  kp : PySem.W.keepIn K (.ref f) = true
theorem pev_scall (g : Hd G X) {F : List D → M D} {k : Nat} {f : Addr} (hF : FnI G k f F) (hr : Room k X.A) (hx : PassX X E) {C : Addr} {x m : Str} {es : List Expr} {ga : Env → M (List D)} {p apos pos : Pos} {pl : Sem Bool}
    (sm : SMet X.K C m f) (hg : Gl X x) (hm : X.mg x = some (.ref C)) (hdb : (x == ("__debug__" : Str)) = false) (ha : CW X es (tAr G E ga))
    (ht : eval (.Call (.Attribute (.Name x p) m apos) es [] pos) X.env = (do
      let ov ← eval (.Name x p) X.env
      standAt apos.atName
      let (f, first) ← holding [ov] (getMethod ov m pl)
      callWith pos f first (backTo pos (starEach es X.env)) (backToKw pos (keywordEach [] X.env)))) : PE X (.Call (.Attribute (.Name x p) m apos) es [] pos) (tR G (rrE G) E (eCall F ga)) := by
  refine ⟨fun pins s σ H Q I ⟨W, h, env, H0, hr0, er, pp⟩ => ?_⟩
  obtain ⟨pr, rest, sa1, sa2⟩ := sm.at_
  refine PySem.W.methodCall_KW (pl := pl) (thn ((pe_glob (v := V.ref C) (pos := p) hg hm rfl hdb).run pins s σ H (fun v H1 => v = .ref C ∧ H1 = H) I ⟨rfl, rfl⟩) fun u s1 ⟨x, H1, I1, rx, ex, eH⟩ => ?_) ht
  subst ex eH
  obtain rfl : u = Value.ref C := rx
  refine PySem.W.method_cls I1.kIn sm.ga (PySem.W.cls_bind I1.kIn sm.rd sa1 (wpAny_call (PySem.W.sm_get (s := { s1 with toks := s1.toks + 1 }) I1.kIn sa2 (PySem.W.handed_on rfl ?_))))
  have I2 := I1.tok (s1.toks + 1)
  refine ha pos _ [] pins _ σ H1 (fun vs H2 => spR G F vs H2 Q (E σ)) _ sm.kp I2 ⟨W, h, env, H0, hr0, er, (post_bnd.mp pp).mono (fun ds h1 p1 W1 H1 vs f1 hr1 r1 => ?_) fun _ _ _ k => k⟩ fun us s' vs H' I' r q => ?_
  · exact ⟨W1, h1, ds, hr1, r1, R.post.mono p1 (fun d h2 k => k.step upE f1) fun _ _ _ k => k.step f1⟩
  · exact wpAny_call (run_fnX (g.fn hF) hr (hx σ) I' r q)

/-! ### C(..) -/
def eMake (frz : Bool) (c : Nat) (F : List D → M D) (ga : Env → M (List D)) (env : Env) : M D := bnd (ga env) fun ds => fun h => match F (.ref h.length :: ds) (h ++ [.ins c []]) with
  | .ok .non h' => if frz = true then (match h'[h.length]? with
      | some (.ins c' fs) => if c' = c then .ok (.ins c fs) (h'.set h.length .dead) else .bad
      | _ => .bad) else .ok (.ref h.length) h'
  | .ok _ _ => .bad
  | .ex k fs h' => .ex k fs h'
  | .bad => .bad
theorem make_start {W1 : Wd} {H1 : Hp} {h1 : IH} {c : Nat} {C x dx : Addr} {ns : List Str} (hr1 : Hr G W1 h1 H1) (hc : G.cls c = some (C, ns)) (hx : H1 x = none) (hdx : H1 dx = none) (ne : dx ≠ x) :
    Fr W1 H1 ⟨W1.F, W1.rho ++ [x]⟩ (upd (upd H1 dx (.own x)) x (.ins C dx [])) ∧ Hr G ⟨W1.F, W1.rho ++ [x]⟩ (h1 ++ [.ins c []]) (upd (upd H1 dx (.own x)) x (.ins C dx [])) := by
  have l : Le W1 ⟨W1.F, W1.rho ++ [x]⟩ := ⟨fun _ _ h => h, [x], rfl⟩
  have nq : x ∉ W1.rho := hr1.notcell hx
  have up : ∀ a o, H1 a = some o → upd (upd H1 dx (.own x)) x (.ins C dx []) a = some o := fun a o h => by
    rw [upd_ne (ne_of_none h hx), upd_ne (ne_of_none h hdx)]; exact h
  refine ⟨⟨fun _ _ h => h, ⟨[x], rfl, fun a ha => by simp at ha; rw [ha]; exact hx⟩, fun a o h _ => up a o h, fun a o h => .inl h, fun a h => ?_⟩, ⟨fun a o h => up a o (hr1.sub a o h), by simp [hr1.len], ?_, fun i a c' h1' h2 => ?_, fun i a h1' h2 => ?_⟩⟩
  · by_cases e : a = x
    · exact e ▸ hx
    · rw [upd_ne e] at h
      by_cases e2 : a = dx
      · exact e2 ▸ hdx
      · rw [upd_ne e2] at h; exact h
  · show (W1.rho ++ [x]).Nodup
    rw [List.nodup_append]
    exact ⟨hr1.nd, by simp, fun a ha b hb => by simp at hb; subst hb; intro e; subst e; exact nq ha⟩
  · by_cases hi : i < W1.rho.length
    · have h1'' : W1.rho[i]? = some a := by rw [← h1']; exact (List.getElem?_append_left hi).symm
      rw [List.getElem?_append_left (by rw [← hr1.len]; exact hi)] at h2
      exact CellR.step l (fun o q' => up a o q') (hr1.cell i a c' h1'' h2)
    · have hi2 : i < (W1.rho ++ [x]).length := (List.getElem?_eq_some_iff.mp h1').1
      have e : i = W1.rho.length := by simp at hi2; omega
      subst e
      have h1' : (W1.rho ++ [x])[W1.rho.length]? = some a := h1'
      rw [List.getElem?_append_right (Nat.le_refl _)] at h1'
      simp at h1'
      subst h1'
      rw [hr1.len, List.getElem?_append_right (Nat.le_refl _)] at h2
      simp at h2
      subst h2
      exact ⟨_, upd_same, C, dx, ns, [], hc, by simp, by simp, .nil⟩
  · have h1' : (W1.rho ++ [x])[i]? = some a := h1'
    by_cases hi : i < W1.rho.length
    · rw [List.getElem?_append_left hi] at h1'
      rw [List.getElem?_append_left (by rw [← hr1.len]; exact hi)] at h2
      exact hr1.nf i a h1' h2
    · rw [List.getElem?_append_right (by omega)] at h1'
      have : a = x := by
        have := (List.getElem?_eq_some_iff.mp h1').2
        simpa using this.symm
      subst this
      exact hr1.fnone hx
/-- a cell is frozen -/
theorem Hr.kill {W : Wd} {h : IH} {H : Hp} {r : Nat} {x : Addr} {c : Cell} {o : HO} (hr : Hr G W h H) (ea : W.rho[r]? = some x) (e : h[r]? = some c) (nd : c ≠ .dead) (ho : H x = some o) : Hr G (W.fz x o) (h.set r .dead) H := by
  have nf := hr.nf r x ea (by rw [e]; simpa using nd)
  refine ⟨fun a w q => ?_, by simp [hr.len], hr.nd, fun i a c' q1 q2 => ?_, fun i a q1 q2 => ?_⟩
  · by_cases e : a = x
    · subst e
      have q : upd W.F a o a = some w := q
      rw [upd_same] at q; cases q; exact ho
    · have q : upd W.F x o a = some w := q
      rw [upd_ne e] at q; exact hr.sub a w q
  · by_cases e2 : i = r
    · subst e2
      have hi : i < h.length := by have := (List.getElem?_eq_some_iff.mp q2).1; simpa using this
      rw [List.getElem?_set_self hi] at q2; cases q2
      have q1 : W.rho[i]? = some a := q1
      rw [ea] at q1; cases q1
      exact ⟨o, ho, trivial⟩
    · rw [List.getElem?_set_ne (Ne.symm e2)] at q2
      exact CellR.step (le_fz nf) (fun w q => q) (hr.cell i a c' q1 q2)
  · by_cases e2 : i = r
    · subst e2
      have hi : i < h.length := (List.getElem?_eq_some_iff.mp e).1
      rw [List.getElem?_set_self hi] at q2; exact absurd rfl q2
    · rw [List.getElem?_set_ne (Ne.symm e2)] at q2
      have q1 : W.rho[i]? = some a := q1
      have ne : a ≠ x := fun z => e2 (by
        subst z
        have hi := (List.getElem?_eq_some_iff.mp q1).1
        exact (List.getElem?_inj hi hr.nd).mp (q1.trans ea.symm))
      show upd W.F x o a = none
      rw [upd_ne ne]; exact hr.nf i a q1 q2
theorem pev_make (g : Hd G X) {F : List D → M D} {k : Nat} {f : Addr} (hF : FnI G k f F) (hr : Room (k + 1) X.A) (hx : PassX X E) {frz : Bool} {c : Nat} {C : Addr} {ns : List Str} {x : Str} {es : List Expr} {ga : Env → M (List D)} {p pos : Pos}
    (hc : G.cls c = some (C, ns)) (M : Mk X.K C f) (hg : Gl X x) (hm : X.mg x = some (.ref C)) (hdb : (x == ("__debug__" : Str)) = false) (ha : CW X es (tAr G E ga)) : PE X (.Call (.Name x p) es [] pos) (tR G (rrE G) E (eMake frz c F ga)) := by
  refine ⟨fun pins s σ H Q I h => ?_⟩
  refine wpAny_Call_Name_kw (ld_glob I hg hm ?_ hdb)
  obtain ⟨W, hh, env, H0, hr0, er, pp⟩ := h
  refine ha pos _ [] pins s σ H (fun vs H1 => ∀ x dx, H1 x = none → H1 dx = none → dx ≠ x → spR G F (V.ref x :: vs) (upd (upd H1 dx (.own x)) x (.ins C dx [])) (fun v H2 => v = .non ∧ Q (.ref x) H2) (E σ)) _ M.kp I
    ⟨W, hh, env, H0, hr0, er, (post_bnd.mp pp).mono (fun ds h1 p1 W1 H1 vs f1 hr1 r1 x dx hx hdx ne => ?_) fun _ _ _ k => k⟩ fun us s' vs H' I' r q => run_makeX M (g.fn hF) hr (hx σ) I' r q
  obtain ⟨fs1, hs1⟩ := make_start hr1 hc hx hdx ne
  have e0 : (W1.rho ++ [x])[h1.length]? = some x := by rw [← hr1.len, List.getElem?_append_right (Nat.le_refl _)]; simp
  refine ⟨⟨W1.F, W1.rho ++ [x]⟩, h1 ++ [.ins c []], .ref h1.length :: ds, hs1, .cons (.ref e0) (r1.mono fs1.le), ?_⟩
  cases e : F (.ref h1.length :: ds) (h1 ++ [.ins c []]) with
  | bad => simp only [e] at p1; exact p1.elim
  | ex k fs h' => simp only [e] at p1; exact KX.step (f1.trans fs1) p1
  | ok d h' =>
    simp only [e] at p1
    intro W3 H3 v f3 hr3 r3
    cases d <;> first | exact p1.elim | skip
    cases r3
    refine ⟨rfl, ?_⟩
    have ea := f3.le.at e0
    have f4 := (f1.trans fs1).trans f3
    cases frz with
    | false =>
      simp only [Bool.false_eq_true, if_false] at p1
      exact p1 W3 H3 _ f4 hr3 (.ref ea)
    | true =>
      simp only [if_true] at p1
      cases e5 : h'[h1.length]? with
      | none => simp only [e5] at p1; exact p1.elim
      | some cc =>
        simp only [e5] at p1
        cases cc <;> first | exact p1.elim | skip
        rename_i c' fs
        by_cases ec : c' = c
        · subst ec
          simp only [if_true] at p1
          obtain ⟨o, ho, C', dx', ns', us, a1, rfl, a3, a4⟩ := hr3.cell _ _ _ ea e5
          have nf := hr3.nf _ _ ea (by rw [e5]; simp)
          have hx0 : H x = none := f1.dom _ hx
          exact p1 _ H3 _ (f4.freeze (o := .ins C' dx' (ns'.zip us)) hx0 nf) (hr3.kill ea e5 (by simp) ho) (.ins a1 upd_same a3 (a4.mono (le_fz nf)))
        · simp only [ec, if_false] at p1; exact p1.elim
end Iv

/-! Iv, part O: built-ins over own instances: len, list, in, comparisons. -/
namespace Iv
open PySem L2
variable {G : GC} {X : Cx} {H0 : Hp} {E : EK}

/-! ### a def called within a built-in -/
theorem run_fnA {k : Nat} {f : Addr} {sp : Sp} {A1 : Around} {pins : List (Addr × Obj)} {σ : St} {H : Hp} {s : Shared} {Q : VK} {us : List Value} {vs : List V} (F : FnR X.prog X.w X.K X.mg X.base (L2.CX X.prog X.w) k f sp) (sb : Sub X k A1) {EE : XK} (hx : PassesAt (L2.CX X.prog X.w) X σ EE)
    (I : Inv X pins σ H s) (r : Vals vs us) (h : sp vs H Q EE) : wpAny (model X.prog X.w) A1 (call (.ref f) us) (EP X pins σ Q) X.xe s := by
  have e0 : Env0 X.prog X.w X.K X.mg X.base A1 X.stack s H := by
    have e := I.env0
    exact ⟨by rw [sb.fr]; exact e.frames, e.mod, e.bs, e.bsz, e.funs, e.frf, e.hok, e.bare⟩
  refine wpAny_call (codeAny_mono (F A1 X.stack s H us vs Q EE sb.room e0 r h) fun r s' hq => ?_)
  cases r with
  | error e => exact hx pins H s e s' I hq
  | ok fl =>
    cases fl with
    | ret u => exact I.after hq
    | next => exact False.elim hq
    | brk => exact False.elim hq
    | cont => exact False.elim hq

theorem run_fnN {k : Nat} {f : Addr} {sp : Sp} {A1 : Around} {EE : Value → Shared → Prop} {pins : List (Addr × Obj)} {σ : St} {H : Hp} {s : Shared} {Q : VK} {us : List Value} {vs : List V} (F : FnR X.prog X.w X.K X.mg X.base (L2.CX X.prog X.w) k f sp) (sb : Sub X k A1)
    (I : Inv X pins σ H s) (r : Vals vs us) (h : sp vs H Q EN) : wpAny (model X.prog X.w) A1 (call (.ref f) us) (EP X pins σ Q) EE s := by
  have e0 : Env0 X.prog X.w X.K X.mg X.base A1 X.stack s H := by
    have e := I.env0
    exact ⟨by rw [sb.fr]; exact e.frames, e.mod, e.bs, e.bsz, e.funs, e.frf, e.hok, e.bare⟩
  refine wpAny_call (codeAny_mono (F A1 X.stack s H us vs Q EN sb.room e0 r h) fun r s' hq => ?_)
  cases r with
  | error e =>
    obtain ⟨_, _, _, _, _, _, _, _, _, _, _, _, z⟩ := hq
    exact z.elim
  | ok fl =>
    cases fl with
    | ret u => exact I.after hq
    | next => exact False.elim hq
    | brk => exact False.elim hq
    | cont => exact False.elim hq

/-! ### len(o) -/
theorem call_lenO {k : Nat} {C f : Addr} {sp : Sp} (me : Meth X.K C "__len__" f) (F : FnR X.prog X.w X.K X.mg X.base (L2.CX X.prog X.w) k f sp) {EE : Value → Shared → Prop} {pins : List (Addr × Obj)} {σ : St} {H : Hp} {s : Shared} {Q : Value → Shared → Prop} {a dx : Addr} {fs : List (Str × V)} {A1 : Around} (sb : Sub X (k + 1) A1)
    (I : Inv X pins σ H s) (e : H a = some (.ins C dx fs)) {R : Int → Hp → Prop} (h : sp [.ref a] H (fun v H' => ∃ n : Int, v = .int n ∧ (0 ≤ n ∧ n ≤ 16777216) ∧ R n H') EN) (q : ∀ n t s' H', Inv X pins σ H' s' → 0 ≤ n → n ≤ 16777216 → R n H' → Q (.int n t) s') : wpAny (model X.prog X.w) A1 (call (.builtin "len") [.ref a]) Q EE s := by
  obtain ⟨mA, O, _⟩ := ins_get I.hok e
  obtain ⟨od, J, _⟩ := O.look
  obtain ⟨m, hF⟩ := I.fr
  refine PySem.W.len_K hF I.ok.mod.kin J me.at_ me.fn (wpAny_mono (run_fnN (us := [.ref a]) (vs := [.ref a]) F sb.in1 I (.cons rfl .nil) h) (fun u s' ⟨v, H', I', rv, n, ev, hn, z⟩ => ?_) fun _ _ x => x)
  subst ev
  obtain ⟨t, rfl⟩ := rv
  exact ⟨⟨hn.1, by omega⟩, q _ _ _ _ (I'.tok _) hn.1 hn.2 z⟩

/-! ### list(o), o's __iter__ gives a tuple's iterator -/
def ItT (t it : Addr) (i : Nat) : HO := .ext fun h => h.IsTupleIter it t i
def ItTE (it : Addr) : HO := .ext fun h => ∃ o, h.get? it = some o
theorem itT_ok {P : Program} {w : World} {H : Hp} {h : Heap} {t it : Addr} {i : Nat} (e : h.IsTupleIter it t i) : ObjOk P w H h it (ItT t it i) := ⟨e, ⟨_, e.choose_spec.1⟩, fun h1 h2 q k => by
  obtain ⟨o, e, c⟩ := q
  exact ⟨o, k _ e, c⟩⟩
theorem itTE_ok {P : Program} {w : World} {H : Hp} {h : Heap} {it : Addr} {o : Obj} (e : h.get? it = some o) : ObjOk P w H h it (ItTE it) := ⟨⟨o, e⟩, ⟨_, e⟩, fun h1 h2 q k => by
  obtain ⟨o, e⟩ := q
  exact ⟨o, k _ e⟩⟩
theorem itT_get {pins : List (Addr × Obj)} {σ : St} {H : Hp} {s : Shared} {t it : Addr} {i : Nat} (I : Inv X pins σ H s) (e : H it = some (ItT t it i)) : s.heap.IsTupleIter it t i := (I.hok it _ e).1
/-- what an __iter__ promises -/
def spIt (K : PySem.W.Frag) (fld : Str) : Sp := fun vs H Q _ => ∃ a C dx fs t xs, vs = [.ref a] ∧ H a = some (.ins C dx fs) ∧ Cls K C ∧ NoAttr K C fld ∧ fs.lookup fld = some (.ref t) ∧ H t = some (.tup xs) ∧ ∀ it, H it = none → Q (.ref it) (upd H it (ItT t it 0))
open Builtin Builtin.ObjectAttr in
theorem call_iterT {Q : Value → Shared → Prop} {prog : Program} {w : World} {A : Around} {EE : Value → Shared → Prop} {s : Shared} {l : Addr} {items : Array Value} (hl : s.heap.IsTuple l items)
    (h : Q (.ref s.heap.objs.size) { s with heap := s.heap.push { cls := .type "tuple_iterator", data := .fields #[.ref l, .int 0 0] } }) : wpAny (model prog w) A (call (.builtin "iter") [.ref l]) Q EE s := by
  refine Calls.call_function_entry (by decide +kernel) (by decide +kernel) PySem.W.kdk_entry_iter (PySem.W.kdk_args_iter _) ?_
  unfold Builtin.«iter»
  refine wpAny_bind (m := someArgs "iter" 1 2 _) (wpAny_of_eq (a := [Value.ref l]) (by first | rfl | kernel_rfl!) ?_)
  show wpAny _ _ (pyIter (.ref l) >>= _) _ _ _
  refine wpAny_bind (wpAny_pyIter_tuple hl ?_)
  exact wpAny_pure ⟨_, rfl, h⟩
def rIterT (K : PySem.W.Frag) : List V → Hp → VK → Prop := fun xs H Q => ∃ (l : Addr) (zs : List V), xs = [.ref l] ∧ H l = some (.tup zs) ∧ ∀ it, H it = none → Q (.ref it) (upd H it (ItT l it 0))
theorem cr_iterT : CallR X (.builtin "iter") (rIterT X.K) := by
  intro pins s σ H xs us Q I r h
  obtain ⟨l, zs, rfl, hq, q⟩ := h
  obtain ⟨u, rfl, rx⟩ := vals1 r
  obtain rfl : u = .ref l := rx
  obtain ⟨its, rv, pl, hz⟩ := I.tuple (.inl (.inl hq))
  refine call_iterT (show s.heap.IsTuple l its.toArray from pl) ?_
  exact ⟨.ref s.heap.objs.size, _, I.laid (t' := s.toks) (fun b u e => Heap.get?_push_of_some _ e) (Nat.le_refl _) (itT_ok ⟨_, Heap.get?_push_size _ rfl, rfl, rfl⟩), rfl, q _ (I.hok.fresh (Nat.le_refl _))⟩
theorem next_endT {prog : Program} {w : World} {A : Around} {EE : Value → Shared → Prop} {s : Shared} {it t : Addr} {i : Nat} {items : Array Value} {Q : Option Value → Shared → Prop} (hh : A.handled = none)
    (hit : s.heap.IsTupleIter it t i) (ht : s.heap.IsTuple t items) (hx : items[i]? = none)
    (hQ : ∀ h', Heap.ExtBut it s.heap h' → (∃ o, h'.get? it = some o) → Q none { s with heap := h' }) : wpAny (model prog w) A (pyNext (.ref it)) Q EE s := by
  obtain ⟨o, ho, hc, hd⟩ := id hit
  obtain ⟨ol, hol, _, nl, hdl⟩ := ht
  unfold pyNext
  refine wpAny_bind (wpAny_attempt (wpAny_callSpecial?_slot (name := Str.ofString "__next__") hit.typeIs F.slot_tuple_iterator_next
    (wpAny_call_entry F.slot_tuple_iterator_next hit.typeIs F.entry_tuple_iterator_next ?_ (F.args_tuple_iterator_next_1 _))))
  show wpAny _ _ (field (.ref it) 0 >>= _) _ _ s
  refine wpAny_bind (wpAny_field ho hd (x := .ref t) rfl ?_)
  show wpAny _ _ (if (Value.ref t == Value.none) = true then _ else _) _ _ s
  rw [if_neg (show ¬ ((Value.ref t == Value.none) = true) from Bool.false_ne_true)]
  show wpAny _ _ (field (.ref it) 1 >>= _) _ _ s
  refine wpAny_bind (wpAny_field ho hd (x := .int i 0) rfl ?_)
  show wpAny _ _ (seqItems? (.ref t) >>= _) _ _ s
  refine wpAny_bind (wpAny_seqItems hol hdl ?_)
  simp only [Int.toNat_natCast, hx]
  refine wpAny_bind (wpAny_rule (wpAny_bind (wpAny_setField ho hd (by simp) ?_)))
  show wpAny _ _ (newExc (.type "StopIteration") [] >>= _) _ _ _
  refine wpAny_bind ?_
  simp only [newExc, newTuple]
  refine wpAny_bind (wpAny_newObj_type ?_ (by size_fits))
  refine wpAny_bind (m := firstArgMember _ _) (wpAny_of_eq (a := Value.none) (by first | rfl | (simp only [firstArgMember]; rfl)) ?_)
  refine wpAny_newObj_type ?_ (by size_fits)
  simp only [raiseNew]
  refine wpAny_bind (wpAny_handled ?_)
  first | rw [show A.in1.handled = none from hh] | rw [hh]
  refine wpAny_bind (wpAny_pure (wpAny_throw ?_))
  refine wpAny_bind (wpAny_isInstance (T := "StopIteration") (b := true) ⟨_, Heap.get?_push_size _ rfl, rfl⟩ isSubtype_stop ?_)
  have e1 := Heap.get?_update_self (Obj.mapFields (·.setIfInBounds 0 Value.none)) ho (Obj.isFreed_of_fields (Obj.data_mapFields hd _))
  exact wpAny_pure (hQ _ (((Heap.SameBut.update ..).extBut.push _).push _) ⟨_, Heap.get?_push_of_some _ (Heap.get?_push_of_some _ e1)⟩)
theorem tup_loop {pins : List (Addr × Obj)} {σ : St} {q it t : Addr} {xs : List V} {A1 : Around} {Rs : Result → Shared → Prop} (hh : A1.handled = none) (hqi : q ≠ it) (hqt : q ≠ t) (hit : it ≠ t) (hz : xs.length ≤ sizeLine) (H : Hp)
    (hdone : ∀ s, Inv X pins σ (upd (upd H q (.lst xs)) it (ItTE it)) s → Rs (.ok (.ret .none)) s) (ht : H t = some (.tup xs)) :
    ∀ (n i : Nat) (s : Shared), n = xs.length - i → i ≤ xs.length → Inv X pins σ (upd (upd H q (.lst (xs.take i))) it (ItT t it i)) s → codeAny (model X.prog X.w) A1 (.builtin "list.extend.loop" ⟨[.ref q, .ref it, .none], []⟩) Rs s := by
  intro n
  induction n with
  | zero =>
    intro i s hn hi I
    have e : i = xs.length := by omega
    subst e
    rw [List.take_length] at I
    have at_t : upd (upd H q (.lst xs)) it (ItT t it xs.length) t = some (.tup xs) := by rw [upd_ne hit.symm, upd_ne hqt.symm]; exact ht
    refine codeAny_builtin PySem.F.entry_extend_loop ?_
    rw [Around.under_plainId PySem.F.plain_extend_loop _]
    show wpAny _ A1.in1 (pyNext (.ref it) >>= _) _ _ s
    obtain ⟨its, rv, pl, hz'⟩ := I.tuple (.inl (.inl at_t))
    have hl := rv.length
    refine wpAny_bind (next_endT hh (itT_get I upd_same) (show s.heap.IsTuple t its.toArray from pl) (by simp; omega) fun h' eb ⟨o, eo⟩ => wpAny_pure (hdone _ ?_))
    have := I.write (x := it) (e := it) (t' := s.toks) (by rw [upd_same]; exact True.intro) (.inl rfl) (fun b o nb z => eb b o nb z) ⟨_, eo⟩ (itTE_ok eo)
    rw [upd_upd] at this
    exact this
  | succ n ih =>
    intro i s hn hi I
    have hlt : i < xs.length := by omega
    have at_t : upd (upd H q (.lst (xs.take i))) it (ItT t it i) t = some (.tup xs) := by rw [upd_ne hit.symm, upd_ne hqt.symm]; exact ht
    refine codeAny_builtin PySem.F.entry_extend_loop ?_
    rw [Around.under_plainId PySem.F.plain_extend_loop _]
    show wpAny _ A1.in1 (pyNext (.ref it) >>= _) _ _ s
    obtain ⟨its, rv, pl, hz'⟩ := I.tuple (.inl (.inl at_t))
    obtain ⟨u, eu, ru⟩ := rv.get (List.getElem?_eq_getElem hlt)
    refine wpAny_bind (wpAny_pyNext_tuple_item (itT_get I upd_same) (show s.heap.IsTuple t its.toArray from pl) (x := u) (by simpa using eu) fun h' st' sb => ?_)
    have I1 := I.write (x := it) (e := it) (t' := s.toks) (by rw [upd_same]; exact True.intro) (.inl rfl) (fun b o nb z => (sb.2 b nb).trans z) ⟨_, st'.choose_spec.1⟩ (itT_ok st')
    rw [upd_upd] at I1
    have at_q : upd (upd H q (.lst (xs.take i))) it (ItT t it (i + 1)) q = some (.lst (xs.take i)) := by rw [upd_ne hqi, upd_same]
    show wpAny _ A1.in1 (updateSeq q (·.push u) >>= _) _ _ _
    obtain ⟨z, its2, k, r2, hl, e⟩ := I1.lstM at_q
    refine wpAny_bind (wpAny_updateSeq e rfl (wpAny_pure ⟨plainId_quiet PySem.F.plain_extend_loop _, ?_⟩) (by rw [List.size_toArray]; omega) (by show (its2.toArray.push u).size ≤ sizeLine + 1; rw [Array.size_push, List.size_toArray]; omega))
    have I2 := I1.lset (f := (·.push u)) (its' := its2 ++ [u]) (t' := s.toks) (ys := xs.take i ++ [xs[i]]) at_q e (by simp) (r2.append (.cons ru .nil)) (by rw [List.length_append, List.length_singleton, List.length_take]; omega)
    refine ih (i + 1) _ (by omega) hlt ?_
    rw [← List.take_succ_eq_append_getElem hlt] at I2
    have hH : upd (upd (upd H q (.lst (xs.take i))) it (ItT t it (i + 1))) q (.lst (xs.take (i + 1))) = upd (upd H q (.lst (xs.take (i + 1)))) it (ItT t it (i + 1)) := by
      funext b
      by_cases hb : b = q
      · subst hb; rw [upd_same, upd_ne hqi, upd_same]
      · rw [upd_ne hb]
        by_cases hb2 : b = it
        · subst hb2; rw [upd_same, upd_same]
        · rw [upd_ne hb2, upd_ne hb2, upd_ne hb, upd_ne hb]
    rw [hH] at I2
    exact I2
/-- list(o) -/
theorem call_listO {k : Nat} {C f g : Addr} {fld : Str} {spL : Sp} (hr : Room (k + 3) X.A) (mi : Meth X.K C "__iter__" f) (Fi : FnR X.prog X.w X.K X.mg X.base (L2.CX X.prog X.w) k f (spIt X.K fld)) (ml : Meth X.K C "__len__" g) (Fl : FnR X.prog X.w X.K X.mg X.base (L2.CX X.prog X.w) k g spL)
    (c : Cls X.K C) (na : NoAttr X.K C fld) {pins : List (Addr × Obj)} {σ : St} {H : Hp} {s : Shared} {Q : VK} {a dx t : Addr} {fs : List (Str × V)} {xs : List V} (I : Inv X pins σ H s) (e : H a = some (.ins C dx fs)) (l : fs.lookup fld = some (.ref t)) (et : H t = some (.tup xs))
    (hl : ∀ p it, H p = none → H it = none → it ≠ p → spL [.ref a] (upd (upd H p (.lst [])) it (ItT t it 0)) (fun v H2 => ∃ n : Int, v = .int n ∧ (0 ≤ n ∧ n ≤ 16777216) ∧ (H2 p = some (.lst []) ∧ H2 it = some (ItT t it 0) ∧ H2 t = some (.tup xs)) ∧ Q (.ref p) (upd (upd H2 p (.lst xs)) it (ItTE it))) EN) : wpAny (model X.prog X.w) X.A (call (.type "list") [.ref a]) (EP X pins σ Q) X.xe s := by
  have sb : Sub X (k + 1) X.A.in1.in1 := Sub.in1 (Sub.in1 (⟨hr, rfl⟩ : Sub X (k + 3) X.A))
  refine callType_codes (Q₁ := fun obj s₁ => obj = .ref s.heap.objs.size ∧ s₁ = { s with heap := s.heap.push { cls := .type "list", data := .seq #[] } }) PySem.F.called_list (PySem.F.typeCall_list_1 _) PySem.F.entry_list_init
    (code_list_new _ ⟨rfl, rfl⟩) fun obj s₁ h₁ => ?_
  obtain ⟨rfl, rfl⟩ := h₁
  have hS : (s.heap.push { cls := .type "list", data := .seq #[] }).get? s.heap.objs.size = some { cls := .type "list", data := .seq #[] } := Heap.get?_push_size _ rfl
  refine ⟨⟨_, hS, rfl⟩, PySem.F.args_list_init_2 _ _, ?_⟩
  have fr : H s.heap.objs.size = none := I.hok.fresh (Nat.le_refl _)
  have hp := hl s.heap.objs.size
  have I1 : Inv X pins σ (upd H s.heap.objs.size (.lst [])) { s with heap := s.heap.push { cls := .type "list", data := .seq #[] } } := I.lnew (its := []) (t' := s.toks) .nil (Nat.zero_le _)
  generalize s.heap.objs.size = p at hS fr I1 hp ⊢
  show wpAny _ _ (do let old ← Builtin.List.listItems (.ref p); Builtin.List.listUpdate (.ref p) (fun _ => #[]); letGo old.toList.reverse; Builtin.List.listExtendWith (.ref p) (.ref a) .none) _ _ _
  refine wpAny_bind ?_
  unfold Builtin.List.listItems
  refine wpAny_bind (wpAny_seqItems hS rfl (wpAny_pure ?_))
  show wpAny _ _ (updateSeq p (fun _ => #[]) >>= fun _ => letGo (#[] : Array Value).toList.reverse >>= fun _ => Builtin.List.listExtendWith (.ref p) (.ref a) .none) _ _ _
  refine wpAny_bind (wpAny_updateSeq hS rfl ?_)
  have I2 := I1.lset (f := fun _ => #[]) (its := []) (its' := []) (ys := []) (t' := s.toks) upd_same hS rfl .nil (Nat.zero_le _)
  rw [upd_upd] at I2
  refine wpAny_bind (wpAny_letGo ?_)
  have ha2 : upd H p (.lst []) a = some (.ins C dx fs) := by rw [upd_ne (ne_of_none e fr)]; exact e
  have ht2 : upd H p (.lst []) t = some (.tup xs) := by rw [upd_ne (ne_of_none et fr)]; exact et
  have hne : p ≠ a := (ne_of_none e fr).symm
  have hpt : p ≠ t := (ne_of_none et fr).symm
  obtain ⟨mA, O, _⟩ := ins_get I2.hok ha2
  obtain ⟨od, J, _⟩ := O.look
  obtain ⟨m0, hF⟩ := I2.fr
  unfold Builtin.List.listExtendWith
  refine wpAny_bind (J.type.here ?_)
  have h1 : Builtin.List.listSameRef (.ref p) (.ref a) = false := by simp [Builtin.List.listSameRef, hne]
  have h2 : (Value.ref C == Value.type "list") = false := rfl
  have h3 : (Value.ref C == Value.type "tuple") = false := rfl
  simp only [h1, h2, h3, Bool.or_false, Bool.false_eq_true, if_false]
  refine wpAny_bind (PySem.W.owit_iter hF I2.ok.mod.kin J mi.at_ mi.fn (wpAny_mono (run_fnN (us := [.ref a]) (vs := [.ref a]) Fi (sb.mono (by omega)) I2 (.cons rfl .nil) (Q := fun v H' => ∃ it, v = .ref it ∧ upd H p (.lst []) it = none ∧ H' = upd (upd H p (.lst [])) it (ItT t it 0))
    ⟨a, C, dx, fs, t, xs, rfl, ha2, c, na, l, ht2, fun it hit => ⟨it, rfl, hit, rfl⟩⟩) (fun u s' ⟨v, H', I', rv, it, ev, nit, eH⟩ => ?_) fun _ _ x => x))
  subst ev eH
  obtain rfl : u = .ref it := rv
  have nit' : H it = none := by
    by_cases z : it = p
    · rw [z]; exact fr
    · rw [upd_ne z] at nit; exact nit
  have hitp : it ≠ p := fun z => by rw [z, upd_same] at nit; cases nit
  have hita : a ≠ it := ne_of_none e nit'
  have hitt : t ≠ it := ne_of_none et nit'
  unfold PySem.W.OwitIt
  have st := itT_get I' upd_same
  refine wpAny_specialOf st.typeIs F.slot_tuple_iterator_next.lookup ?_
  have ha3 : upd (upd H p (.lst [])) it (ItT t it 0) a = some (.ins C dx fs) := by rw [upd_ne hita]; exact ha2
  have ht3 : upd (upd H p (.lst [])) it (ItT t it 0) t = some (.tup xs) := by rw [upd_ne hitt]; exact ht2
  have hp3 : upd (upd H p (.lst [])) it (ItT t it 0) p = some (.lst []) := by rw [upd_ne hitp.symm, upd_same]
  obtain ⟨mA', O', _⟩ := ins_get I'.hok ha3
  obtain ⟨od', J', _⟩ := O'.look
  refine wpAny_bind (wpAny_holding ?_)
  unfold Builtin.List.listLengthHint
  refine wpAny_bind (wpAny_bind (J'.type.here ((PySem.W.looks_findIn I'.kIn ml.at_).here ?_)))
  refine PySem.W.KFB.if_not rfl ?_
  refine wpAny_ite ?_
  rw [if_pos (show (some (Value.ref g)).isSome = true from rfl)]
  refine wpAny_bind (wpAny_rule ?_)
  refine wpAny_bind (wpAny_attempt (call_lenO ml Fl (sb.mono (by omega)) I' ha3 (hp it fr nit' hitp) fun n tt s2 H2 I3 hn0 hn1 eH => ?_))
  obtain ⟨⟨eH1, eH2, eH3⟩, hq⟩ := eH
  have hzx : xs.length ≤ sizeLine := by
    obtain ⟨_, _, _, z⟩ := I.tuple (.inl (.inl et))
    exact z
  have hH0 : upd (upd H2 p (.lst [])) it (ItT t it 0) = H2 := by
    funext b
    by_cases hb : b = it
    · rw [hb, upd_same, eH2]
    · rw [upd_ne hb]
      by_cases hb2 : b = p
      · rw [hb2, upd_same, eH1]
      · rw [upd_ne hb2]
  have fin : ∀ s3, Inv X pins σ H2 s3 → codeAny (model X.prog X.w) X.A.in1 (.builtin "list.extend.loop" ⟨[.ref p, .ref it, .none], []⟩) (wants (fun r s₂ => r = .none ∧ EP X pins σ Q (.ref p) s₂) X.xe) s3 := fun s3 I3 =>
    tup_loop (A1 := X.A.in1) (xs := xs) (hr.hd) hitp.symm hpt (fun z => hitt z.symm) hzx H2 (fun s4 I4 => ⟨rfl, .ref p, _, I4, rfl, hq⟩) eH3 xs.length 0 s3 (by omega) (Nat.zero_le _) (by rw [List.take_zero, hH0]; exact I3)
  show wpAny _ _ (asInt? (.int n tt) >>= _) _ _ _
  refine wpAny_bind (wpAny_pure ?_)
  have nl : Builtin.List.listTooLong n.toNat = false := by
    unfold Builtin.List.listTooLong
    rw [decide_eq_false_iff_not, sizeLine_eq]
    omega
  dsimp only
  rw [nl]
  refine wpAny_ite ?_
  rw [if_neg Bool.false_ne_true]
  refine wpAny_pure ?_
  refine wpAny_ite_split (fun _ => ?_) (fun _ => wpAny_pure ⟨plainId_quiet PySem.F.plain_extend_loop _, fin _ I3⟩)
  refine wpAny_bind (wpAny_rule ?_)
  refine wpAny_bind ?_
  show wpAny _ _ (updateSeq p (·.push .none) >>= fun _ => updateSeq p (·.pop)) _ _ _
  obtain ⟨z, its, k2, r3, hl3, e3⟩ := I3.lstM eH1
  cases r3
  refine wpAny_bind (wpAny_updateSeq e3 rfl ?_)
  have I4 := I3.lset (f := (·.push Value.none)) (its' := [Value.none]) (ys := [.non]) (t' := s2.toks) eH1 e3 (by simp) (.cons rfl .nil) (by rw [List.length_singleton, sizeLine_eq]; decide)
  obtain ⟨z4, its4, k4, r4, hl4, e4⟩ := I4.lstM upd_same
  obtain ⟨u4, rfl, ru4⟩ := r4.one
  refine wpAny_updateSeq e4 rfl ?_ (by show 1 ≤ sizeLine; rw [sizeLine_eq]; decide) (by show 0 ≤ sizeLine + 1; exact Nat.zero_le _)
  refine wpAny_pure ⟨plainId_quiet PySem.F.plain_extend_loop _, fin _ ?_⟩
  have I5 := I4.lset (f := (·.pop)) (its := [u4]) (its' := []) (ys := []) (t' := s2.toks) upd_same e4 (by rfl) .nil (Nat.zero_le _)
  rw [upd_upd] at I5
  have hH : upd H2 p (.lst []) = H2 := by
    funext b
    by_cases hb : b = p
    · rw [hb, upd_same, eH1]
    · rw [upd_ne hb]
  rw [hH] at I5
  exact I5

/-! ### built-ins whose answer may need the program -/
def BltSemM (G : GC) (E : XK) (RR : RRel) (r : RC) (op : List D → M D) : Prop :=
  ∀ (W : Wd) (h : IH) (H : Hp) (xs : List D) (vs : List V) (Q : VK), Hr G W h H → RepsS G W H xs vs → (op xs h).post (KQ G RR W H Q) (KX G E W H) → r vs H Q
theorem BltSem.toM {E : XK} {RR : RRel} {r : RC} {op : List D → Option D} (s : BltSem G RR r op) : BltSemM G E RR r (lftNs op) := fun W h H xs vs Q hr rs p => by
  obtain ⟨d, e, k⟩ := post_lft p
  exact s W h H _ vs d Q hr (RepsS.now hr rs) e k
def eBltM (op : List D → M D) (g : Env → M (List D)) (env : Env) : M D := bnd (g env) op
theorem blt_ofM {RR : RRel} (up : Up RR) {r : RC} {op : List D → M D} (sem : ∀ EE : XK, BltSemM G EE RR r op) {g : Env → M (List D)} {σ : St} {H : Hp} {Q : VK} (t : tR G RR E (eBltM op g) σ H Q) :
    tCB r (tOr G E g) σ H Q := by
  obtain ⟨W, h, env, H0, hr, er, p⟩ := t
  refine ⟨W, h, env, H0, hr, er, (post_bnd.mp p).mono (fun xs h1 p1 W1 H1 vs f1 hr1 r1 => ?_) fun _ _ _ k => k⟩
  exact sem (E σ) W1 h1 H1 _ vs Q hr1 r1 (R.post.mono p1 (fun d h2 k => k.step up f1) fun _ _ _ k => k.step f1)
theorem pev_bltBM {RR : RRel} (up : Up RR) {id : String} {x : Str} {r : RC} {op : List D → M D} {e : Expr} {es : List Expr} {g : Env → M (List D)} {p pos : Pos} (hc : CallR X (.builtin id) r) (sem : ∀ EE : XK, BltSemM G EE RR r op) (hg : Gl X x) (hm : X.mg x = none)
    (hv : bootBuiltins x = some (.builtin id)) (ha : PA X (e :: es) (tOr G E g)) (hn : x ≠ "__name__") (hdb : (x == ("__debug__" : Str)) = false) (h : ∀ u ∈ e :: es, ∀ a p, u ≠ .Starred a p) :
    PE X (.Call (.Name x p) (e :: es) [] pos) (tR G RR E (eBltM op g)) :=
  pe_imp (pe_callB hc hg hm hv ha hn hdb (starEach_cons fun a p => h e List.mem_cons_self a p) (noStar_any fun u hu => h u (List.mem_cons_of_mem _ hu))) fun _ _ _ => blt_ofM up sem
theorem pev_bltTM {RR : RRel} (up : Up RR) {T : String} {x : Str} {r : RC} {op : List D → M D} {e : Expr} {es : List Expr} {g : Env → M (List D)} {p pos : Pos} (hc : CallR X (.type T) r) (sem : ∀ EE : XK, BltSemM G EE RR r op) (hg : Gl X x) (hm : X.mg x = none)
    (hv : bootBuiltins x = some (.type T)) (ha : PA X (e :: es) (tOr G E g)) (hn : x ≠ "__name__") (hdb : (x == ("__debug__" : Str)) = false) (h : ∀ u ∈ e :: es, ∀ a p, u ≠ .Starred a p) :
    PE X (.Call (.Name x p) (e :: es) [] pos) (tR G RR E (eBltM op g)) :=
  pe_imp (pe_callTy hc hg hm hv ha hn hdb (starEach_cons fun a p => h e List.mem_cons_self a p) (noStar_any fun u hu => h u (List.mem_cons_of_mem _ hu))) fun _ _ _ => blt_ofM up sem
/-- an iterator over the items of a field, as a class's __iter__ gives it -/
def ItOk (G : GC) (K : ClsD) (C : Addr) : Prop := ∀ f, K.it = some f → f ∈ K.ns ∧ ∃ g, Meth G.K C "__iter__" g ∧ FnR G.P G.w G.K G.mg G.base (L2.CX G.P G.w) 1 g (spIt G.K (G.nm f))
/-- len(x): a number, a small one -/
def lenChk (m : M D) : M D := fun h => match m h with
  | .ok (.int n) h' => if 0 ≤ n ∧ n ≤ 16777216 then .ok (.int n) h' else .bad
  | _ => .bad
def lenM (C : CallH) (ct : CT) (il : Nat) (xs : List D) : M D := fun h => match xs with
  | [x] => (match methD ct il h x with
    | some i => lenChk (C i [x]) h
    | none => lftNs bLen [x] h)
  | xs => lftNs bLen xs h
def iterD (ct : CT) (h : IH) (x : D) : Option (List D) := match insAt h x with
  | some (c, fs) => (ct c).bind fun K => K.it.bind fun f => (fIx K.ns f).bind fun j => match fs[j]? with
    | some (.tup xs) => some xs
    | _ => none
  | none => none
def listM (C : CallH) (ct : CT) (il : Nat) (ds : List D) : M D := fun h => match ds with
  | [x] => (match iterD ct h x with
    | some xs => (match methD ct il h x with
      | some i => bnd (lenChk (C i [x])) (fun _ => ret (.lst xs)) h
      | none => .bad)
    | none => lftNs bList [x] h)
  | ds => lftNs bList ds h
def rLenO (X : Cx) (K : PySem.W.Frag) : RC := fun vs H Q => ∃ a C dx fs f sp k, vs = [.ref a] ∧ H a = some (.ins C dx fs) ∧ Meth K C "__len__" f ∧ FnR X.prog X.w X.K X.mg X.base (L2.CX X.prog X.w) k f sp ∧ Room (k + 1) X.A ∧
  sp [.ref a] H (fun v H' => ∃ n : Int, v = .int n ∧ (0 ≤ n ∧ n ≤ 16777216) ∧ Q (.int n) H') EN
theorem cr_lenO : CallR X (.builtin "len") (rLenO X X.K) := by
  intro pins s σ H xs us Q I r h
  obtain ⟨a, C, dx, fs, f, sp, k, rfl, e, me, F, hr, q⟩ := h
  obtain ⟨u, rfl, rx⟩ := vals1 r
  obtain rfl : u = .ref a := rx
  exact call_lenO me F (⟨hr, rfl⟩ : Sub X (k + 1) X.A) I e q fun n t s' H' I' _ _ q => ⟨.int n, H', I', ⟨_, rfl⟩, q⟩
def rListO (X : Cx) (K : PySem.W.Frag) : RC := fun vs H Q => ∃ a C dx fs f g fld spL k t xs, vs = [.ref a] ∧ H a = some (.ins C dx fs) ∧ Meth K C "__iter__" f ∧ FnR X.prog X.w X.K X.mg X.base (L2.CX X.prog X.w) k f (spIt K fld) ∧
  Meth K C "__len__" g ∧ FnR X.prog X.w X.K X.mg X.base (L2.CX X.prog X.w) k g spL ∧ Room (k + 3) X.A ∧ Cls K C ∧ NoAttr K C fld ∧ fs.lookup fld = some (.ref t) ∧ H t = some (.tup xs) ∧
  ∀ p it, H p = none → H it = none → it ≠ p → spL [.ref a] (upd (upd H p (.lst [])) it (ItT t it 0)) (fun v H2 => ∃ n : Int, v = .int n ∧ (0 ≤ n ∧ n ≤ 16777216) ∧ (H2 p = some (.lst []) ∧ H2 it = some (ItT t it 0) ∧ H2 t = some (.tup xs)) ∧ Q (.ref p) (upd (upd H2 p (.lst xs)) it (ItTE it))) EN
theorem cr_listO : CallR X (.type "list") (rListO X X.K) := by
  intro pins s σ H xs us Q I r h
  obtain ⟨a, C, dx, fs, f, g, fld, spL, k, t, zs, rfl, e, mi, Fi, ml, Fl, hr, c, na, l, et, q⟩ := h
  obtain ⟨u, rfl, rx⟩ := vals1 r
  obtain rfl : u = .ref a := rx
  exact call_listO hr mi Fi ml Fl c na I e l et q
theorem lenChk_post {m : M D} {h : IH} {K : D → IH → Prop} {Y : Nat → List D → IH → Prop} {W : Wd} {H : Hp} (p : (lenChk m h).post K Y) : (m h).post (fun d h' => ∃ n : Int, d = .int n ∧ (0 ≤ n ∧ n ≤ 16777216) ∧ K (.int n) h') (KX G EN W H) := by
  unfold lenChk at p
  cases e : m h with
  | bad => rw [e] at p; exact p.elim
  | ex => rw [e] at p; exact p.elim
  | ok d h' =>
    rw [e] at p
    cases d <;> first | exact p.elim | skip
    rename_i n
    dsimp only at p
    by_cases c : 0 ≤ n ∧ n ≤ 16777216
    · rw [if_pos c] at p; exact ⟨n, rfl, c, p⟩
    · rw [if_neg c] at p; exact p.elim
/-- the method of an operand -/
theorem meth_at (g : Hd G X) {ct : CT} (ok : CtOk G ct) {W : Wd} {h : IH} {H : Hp} {x : D} {v : V} {m i : Nat} (hr : Hr G W h H) (r : RepS G W H x v) (e : methD ct m h x = some i) :
    ∃ b D dx fs, v = .ref b ∧ H b = some (.ins D dx fs) ∧ Cls X.K D ∧ Meth X.K D (G.nm m) (G.fa i) ∧ Rep G W x v := by
  unfold methD at e
  cases e2 : insAt h x with
  | none => rw [e2] at e; cases e
  | some cf =>
    obtain ⟨c, fs⟩ := cf
    rw [e2] at e
    dsimp only at e
    obtain ⟨K, e3, e4⟩ := Option.bind_eq_some_iff.mp e
    obtain ⟨CC, ko⟩ := ok c K e3
    obtain ⟨b, C', dx, ns, us, rfl, a1, a2, a3, a4⟩ := insAt_ok hr r e2
    rw [ko.at_] at a1
    cases a1
    obtain ⟨m1, m2⟩ := ko.ms m i e4
    refine ⟨b, CC, dx, _, rfl, a2, by rw [g.hK]; exact ko.cl, by rw [g.hK]; exact m1, ?_⟩
    rcases r with r | ⟨p, cc, h1, h2, h3, h4⟩
    · exact r
    · exfalso
      subst h2
      cases cc <;> first | (cases h1; done) | (cases e2; done)
theorem rels_one {W : Wd} {H : Hp} {x : D} {vs : List V} (r : RepsS G W H [x] vs) : ∃ v, vs = [v] ∧ RepS G W H x v := by
  cases r with
  | cons a b => cases b; exact ⟨_, rfl, a⟩
theorem sem_lenM {E : XK} (g : Hd G X) {C : CallH} {ct : CT} {k il : Nat} (hil : G.nm il = "__len__") (ok : CtOk G ct) (hF : ∀ i, FnI G k (G.fa i) (C i)) (hr : Room (k + 1) X.A) : BltSemM G E (rrE G) (fun vs H Q => rLen G.K vs H Q ∨ rLenO X G.K vs H Q) (lenM C ct il) := fun W h H xs vs Q hr0 rs p => by
  by_cases c : ∃ x i, xs = [x] ∧ methD ct il h x = some i
  · obtain ⟨x, i, rfl, e⟩ := c
    obtain ⟨v, rfl, r⟩ := rels_one rs
    have p : ((lenChk (C i [x])) h).post (KQ G (rrE G) W H Q) (KX G E W H) := by
      have p : (match methD ct il h x with
        | some i => lenChk (C i [x]) h
        | none => lftNs bLen [x] h : R D).post (KQ G (rrE G) W H Q) (KX G E W H) := p
      rw [e] at p; exact p
    obtain ⟨b, DD, dx, fs, rfl, a1, a2, a3, a4⟩ := meth_at g ok hr0 r e
    rw [hil] at a3
    refine .inr ⟨b, DD, dx, fs, _, _, k, rfl, a1, by rw [← g.hK]; exact a3, g.fn (hF i), hr, W, h, [x], hr0, .cons a4 .nil, ?_⟩
    refine (lenChk_post (W := W) (H := H) p).mono (fun d h' ⟨n, ed, hn, kk⟩ W' H' v f' hr' r' => ?_) fun _ _ _ k => k
    subst ed
    cases r'
    exact ⟨n, rfl, hn, kk W' H' _ f' hr' (.int n)⟩
  · refine .inl (BltSem.toM (E := E) blt_len W h H xs vs Q hr0 rs ?_)
    have e : lenM C ct il xs h = lftNs bLen xs h := by
      unfold lenM
      split
      · split
        · rename_i q; exact absurd ⟨_, _, rfl, q⟩ c
        · rfl
      · rfl
    rw [← e]; exact p
theorem sem_listM {E : XK} (g : Hd G X) {C : CallH} {ct : CT} {k il : Nat} (hil : G.nm il = "__len__") (ok : CtOk G ct) (it : ∀ c K CC, ct c = some K → ClOk G c K CC → ItOk G K CC) (hF : ∀ i, FnI G k (G.fa i) (C i)) (hk : k = 0 → ∀ i ds h K Y, ¬ (C i ds h).post K Y) (hr : Room (k + 3) X.A) :
    BltSemM G E (rrF G) (fun vs H Q => (∃ p ys, vs = [.ref p] ∧ (SqL G.K H p ys ∨ SqT G.K H p ys) ∧ ∀ l, H l = none → Q (.ref l) (upd H l (.lst ys))) ∨ rListO X G.K vs H Q) (listM C ct il) := fun W h H xs vs Q hr0 rs p => by
  by_cases c : ∃ x ys, xs = [x] ∧ iterD ct h x = some ys
  · obtain ⟨x, ys, rfl, e⟩ := c
    obtain ⟨v, rfl, r⟩ := rels_one rs
    have p : (match methD ct il h x with
      | some i => bnd (lenChk (C i [x])) (fun _ => ret (.lst ys)) h
      | none => .bad : R D).post (KQ G (rrF G) W H Q) (KX G E W H) := by
      have p : (match iterD ct h x with
        | some xs => (match methD ct il h x with
          | some i => bnd (lenChk (C i [x])) (fun _ => ret (.lst xs)) h
          | none => .bad)
        | none => lftNs bList [x] h : R D).post (KQ G (rrF G) W H Q) (KX G E W H) := p
      rw [e] at p; exact p
    cases e2 : methD ct il h x with
    | none => rw [e2] at p; exact p.elim
    | some i =>
      rw [e2] at p
      have p := post_bnd.mp p
      have p2 := lenChk_post (G := G) (W := W) (H := H) p
      have k0 : 1 ≤ k := by
        rcases Nat.eq_zero_or_pos k with z | z
        · exact absurd p2 (hk z _ _ _ _ _)
        · exact z
      obtain ⟨b, DD, dx, fs, rfl, a1, a2, a3, a4⟩ := meth_at g ok hr0 r e2
      rw [hil] at a3
      -- the items
      unfold iterD at e
      cases e3 : insAt h x with
      | none => rw [e3] at e; cases e
      | some cf =>
        obtain ⟨c, fs'⟩ := cf
        rw [e3] at e
        dsimp only at e
        obtain ⟨K, q1, e⟩ := Option.bind_eq_some_iff.mp e
        obtain ⟨f, q2, e⟩ := Option.bind_eq_some_iff.mp e
        obtain ⟨j, q3, e⟩ := Option.bind_eq_some_iff.mp e
        obtain ⟨CC, ko⟩ := ok c K q1
        obtain ⟨hf, gi, mi, Fi⟩ := it c K CC q1 ko f q2
        obtain ⟨b', C', dx', ns, us, eb, b1, b2, b3, b4⟩ := insAt_ok hr0 r e3
        cases eb
        rw [a1] at b2; cases b2
        rw [ko.at_] at b1; cases b1
        cases e5 : fs'[j]? with
        | none => rw [e5] at e; cases e
        | some dd =>
          rw [e5] at e
          cases dd <;> first | (cases e; done) | skip
          rename_i zs
          cases e
          obtain ⟨w, c1, c2⟩ := b4.get e5
          obtain ⟨t, ts, rfl, t0, t1, t2, t3⟩ : ∃ t ts, w = V.ref t ∧ W.F t = some (.tup ts) ∧ H t = some (.tup ts) ∧ ys.length ≤ sizeLine ∧ Reps G W ys ts := by
            cases c2 with
            | tup hh z rr => exact ⟨_, _, rfl, hh, hr0.sub _ _ hh, z, rr⟩
          have hn : (K.ns.map G.nm)[j]? = some (G.nm f) := by rw [List.getElem?_map, fIx_get q3]; rfl
          refine .inr ⟨b, DD, dx, _, gi, _, G.nm f, _, k, t, ts, rfl, a1, mi, by rw [g.hP, g.hw, g.hK, g.hm, g.hb]; exact Fi.mono k0, by rw [← g.hK]; exact a3, g.fn (hF i), hr, ko.cl, ko.no f hf, lookup_zip_some ko.nd hn c1, t1, fun p0 it0 hp0 hit0 ne => ?_⟩
          have g1 := fr_own (W := W) (o := .lst []) hp0
          have hit1 : upd H p0 (.lst []) it0 = none := by rw [upd_ne ne]; exact hit0
          have g2 := g1.trans (fr_own (W := W) (o := ItT t it0 0) hit1)
          have hr2 : Hr G W h (upd (upd H p0 (.lst [])) it0 (ItT t it0 0)) := (hr0.own hp0).own hit1
          refine ⟨W, h, [x], hr2, .cons a4 .nil, (lenChk_post (G := G) (W := W) (H := upd (upd H p0 (.lst [])) it0 (ItT t it0 0)) p).mono (fun d h' ⟨n, ed, hn, kk⟩ W' H' v f' hr' r' => ?_) fun _ _ _ k => k⟩
          subst ed
          cases r'
          have np := hr0.notcell hp0
          have ni := hr0.notcell hit0
          have at_p : upd (upd H p0 (.lst [])) it0 (ItT t it0 0) p0 = some (.lst []) := by rw [upd_ne ne.symm, upd_same]
          have at_t : upd (upd H p0 (.lst [])) it0 (ItT t it0 0) t = some (.tup ts) := by rw [upd_ne (ne_of_none t1 hit0), upd_ne (ne_of_none t1 hp0)]; exact t1
          have fp := hr0.fnone hp0
          have fi := hr0.fnone hit0
          refine ⟨n, rfl, hn, ⟨f'.pres _ _ at_p np, f'.pres _ _ upd_same ni, hr'.sub _ _ (f'.f _ _ t0)⟩, ?_⟩
          have kk : KQ G (rrF G) W H Q (.lst ys) h' := kk
          have np' := f'.notin at_p np
          have fp' := f'.nof at_p fp np
          have ni' := f'.notin upd_same ni
          have fi' := f'.nof upd_same fi ni
          refine kk W' _ _ (((g2.trans f').own_upd hp0).own_upd hit0) ((hr'.own_upd np' fp').own_upd ni' fi') ⟨p0, rfl, CellR.mkL (by rw [upd_ne ne.symm, upd_same]) (t3.mono f'.le) t2, np', fp', hp0⟩
  · refine .inl (BltSem.toM (E := E) blt_list W h H xs vs Q hr0 rs ?_)
    have e : listM C ct il xs h = lftNs bList xs h := by
      unfold listM
      split
      · split
        · rename_i q; exact absurd ⟨_, _, rfl, q⟩ c
        · rfl
      · rfl
    rw [← e]; exact p
end Iv

/-! Iv, part S: operators of own instances. -/
namespace Iv
open PySem L2
variable {G : GC} {X : Cx} {H0 : Hp} {E : EK}

/-! ### operators whose answer may need the program -/
/-- an operation whose rule may ask how the slots stand -/
def OpRS (X : Cx) (f : Value → Value → Sem Value) (r : St → R2) : Prop := ∀ (pins : List (Addr × Obj)) (s : Shared) (σ : St) (H : Hp) (x y : V) (v u : Value) (Q : VK), Inv X pins σ H s → RelV x v → RelV y u → r σ x y H Q → wpAny (model X.prog X.w) X.A (f v u) (EP X pins σ Q) X.xe s
def tOpS (r : St → R2) (ta tb : TE) : TE := fun σ H Q => ta σ H fun x H1 => tb σ H1 fun y H2 => r σ x y H2 Q
theorem pe_opS {op : Operator} {r : St → R2} {a b : Expr} {ta tb : TE} {pos : Pos} (ho : OpRS X (binaryOp op) r) (ha : PE X a ta) (hb : PE X b tb) : PE X (.BinOp a op b pos) (tOpS r ta tb) := by
  refine ⟨fun pins s σ H Q I h => ?_⟩
  exact wpAny_BinOp (binT ha hb I h fun v u s2 x y H2 I2 rx ry q => ho pins s2 σ H2 x y v u Q I2 rx ry q)
theorem pe_cmpS {op : CmpOp} {r : St → R2} {a b : Expr} {ta tb : TE} {pos : Pos} (ho : OpRS X (compareOp op) r) (ha : PE X a ta) (hb : PE X b tb) (hm : behindInMarks op b = false) : PE X (.Compare a [op] [b] pos) (tOpS r ta tb) := by
  refine ⟨fun pins s σ H Q I h => ?_⟩
  exact wpAny_Compare1 (binT ha hb I h fun v u s2 x y H2 I2 rx ry q => ho pins s2 σ H2 x y v u Q I2 rx ry q) hm
theorem pt_cmpS {op : CmpOp} {r : St → R2} {a b : Expr} {ta tb : TE} {pos : Pos} (ho : OpRS X (compareOp op) r) (ha : PE X a ta) (hb : PE X b tb) (hm : behindInMarks op b = false) : PT X (.Compare a [op] [b] pos) (tTest (tOpS r ta tb)) := by
  refine ⟨fun pins s σ H Q I h => ?_⟩
  refine wpAny_isTrue_Compare1 (thn (ha.run pins s σ H _ I h) fun v s1 ⟨x, H1, I1, r1, q1⟩ => thn (hb.run pins s1 σ H1 _ I1 q1) fun u s2 ⟨y, H2, I2, r2, q2⟩ =>
    thn (ho pins s2 σ H2 x y v u _ I2 r1 r2 q2) fun c s3 ⟨z, H3, I3, r3, k, e, q3⟩ => ?_) hm
  subst e
  cases r3
  exact wpAny_truthy_bool ⟨H3, I3, q3⟩
def OpSemM (G : GC) (E : XK) (RR : RRel) (r : R2) (op : D → D → M D) : Prop :=
  ∀ (W : Wd) (h : IH) (H : Hp) (x y : D) (v u : V) (Q : VK), Hr G W h H → RepS G W H x v → RepS G W H y u → (op x y h).post (KQ G RR W H Q) (KX G E W H) → r v u H Q
def eOpM (op : D → D → M D) (fa fb : Env → M D) (env : Env) : M D := bnd (fa env) fun x => bnd (fb env) fun y => op x y
theorem OpSem.toM {E : XK} {RR : RRel} {r : R2} {op : IH → D → D → Option D} (s : OpSem G RR r op) : OpSemM G E RR r (liftH op) := fun W h H x y v u Q hr rx ry p => by
  obtain ⟨d, e, k⟩ := post_lft p
  exact s W h H _ _ v u d Q hr (RepS.drf hr rx) (RepS.drf hr ry) e k
theorem two_ofM {RR : RRel} (up : Up RR) {r : St → R2} {op : D → D → M D} (sem : ∀ σ, OpSemM G (E σ) RR (r σ) op) {fa fb : Env → M D} {σ : St} {H : Hp} {Q : VK}
    (t : tR G RR E (eOpM op fa fb) σ H Q) : tOpS r (tR G (rrO G) E fa) (tR G (rrO G) E fb) σ H Q := by
  obtain ⟨W, h, env, H0, hr, er, p⟩ := t
  refine ⟨W, h, env, H0, hr, er, ?_⟩
  refine (post_bnd.mp p).mono (fun x h1 p1 W1 H1 v f1 hr1 r1 => ?_) fun _ _ _ k => k
  refine ⟨W1, h1, env, H0, hr1, er.step f1, ?_⟩
  refine (post_bnd.mp p1).mono (fun y h2 p2 W2 H2 u f2 hr2 r2 => ?_) fun _ _ _ k => k.step f1
  exact sem σ W2 h2 H2 x y v u Q hr2 (RepS.step r1 f2) r2 (R.post.mono p2 (fun d h3 k => k.step up (f1.trans f2)) fun _ _ _ k => k.step (f1.trans f2))
theorem pev_opM {RR : RRel} (up : Up RR) {op : Operator} {r : St → R2} {f : D → D → M D} {a b : Expr} {fa fb : Env → M D} {pos : Pos} (ho : OpRS X (binaryOp op) r) (sem : ∀ σ, OpSemM G (E σ) RR (r σ) f)
    (ha : PE X a (tR G (rrO G) E fa)) (hb : PE X b (tR G (rrO G) E fb)) : PE X (.BinOp a op b pos) (tR G RR E (eOpM f fa fb)) := pe_imp (pe_opS ho ha hb) fun _ _ _ => two_ofM up sem
theorem pev_cmpM {op : CmpOp} {r : St → R2} {f : D → D → M D} {a b : Expr} {fa fb : Env → M D} {pos : Pos} (ho : OpRS X (compareOp op) r) (sem : ∀ σ, OpSemM G (E σ) (rrE G) (r σ) f)
    (ha : PE X a (tR G (rrO G) E fa)) (hb : PE X b (tR G (rrO G) E fb)) (hm : behindInMarks op b = false) : PE X (.Compare a [op] [b] pos) (tR G (rrE G) E (eOpM f fa fb)) :=
  pe_imp (pe_cmpS ho ha hb hm) fun _ _ _ => two_ofM upE sem
theorem ptv_cmpM {op : CmpOp} {r : St → R2} {f : D → D → M D} {a b : Expr} {fa fb : Env → M D} {pos : Pos} (ho : OpRS X (compareOp op) r) (sem : ∀ σ, OpSemM G (E σ) (rrE G) (r σ) f)
    (ha : PE X a (tR G (rrO G) E fa)) (hb : PE X b (tR G (rrO G) E fb)) (hm : behindInMarks op b = false) : PT X (.Compare a [op] [b] pos) (tTr G E (toB (eOpM f fa fb))) :=
  pt_imp (pt_cmpS ho ha hb hm) fun _ _ _ t => two_ofM upE sem (test_of t)

/-- the class of an instance -/
def clsAt (h : IH) (x : D) : Option Nat := (insAt h x).map (·.1)
/-- x op y by a method of x, both of one class -/
def opM (C : CallH) (ct : CT) (m : Nat) (op : IH → D → D → Option D) (x y : D) : M D := fun h => match methD ct m h x with
  | some i => if clsAt h x = clsAt h y then C i [x, y] h else .bad
  | none => liftH op x y h
/-- x in y by a method of y -/
def inM (C : CallH) (ct : CT) (m : Nat) (neg : Bool) (op : IH → D → D → Option D) (x y : D) : M D := fun h => match methD ct m h y with
  | some i => match x with
    | .lst _ => .bad
    | .dct _ _ _ => .bad
    | _ => bnd (C i [y, x]) (fun d => bnd (lft (asB d)) fun b => ret (.bl (if neg then !b else b))) h
  | none => liftH op x y h
structure Same (g : Hd G X) : Prop where
  sf : ∀ c C ns, G.cls c = some (C, ns) → PySem.W.selfFirst G.K C = true
def rOpO (X : Cx) (K : PySem.W.Frag) (E : XK) (m : Str) : R2 := fun x y H Q => ∃ a b C dx fs dx' fs' f sp k, x = .ref a ∧ y = .ref b ∧ H a = some (.ins C dx fs) ∧ H b = some (.ins C dx' fs') ∧ PySem.W.selfFirst K C = true ∧ Meth K C m f ∧
  FnR X.prog X.w X.K X.mg X.base (L2.CX X.prog X.w) k f sp ∧ Room k X.A ∧ sp [.ref a, .ref b] H (fun v H' => (∀ u, RelV v u → u ≠ .notImplemented) ∧ Q v H') E
theorem cmpBack_of {Q : Value → Shared → Prop} {u : Value} {s : Shared} (h : u ≠ .notImplemented) (q : Q u s) : PySem.W.CmpBack Q u s := by
  cases u <;> first | exact absurd rfl h | exact q
theorem op_binO (hx : PassX X E) {op : Operator} {m : Str} (hm : PySem.dunder op.info.2 = m) : OpRS X (binaryOp op) (fun σ => rOpO X X.K (E σ) m) := by
  intro pins s σ H x y v u Q I rx ry h
  obtain ⟨a, b, C, dx, fs, dx', fs', f, sp, k, rfl, rfl, ea, eb, sf, me, F, hr, q⟩ := h
  obtain rfl : v = .ref a := rx
  obtain rfl : u = .ref b := ry
  obtain ⟨mA, O, _⟩ := ins_get I.hok ea
  obtain ⟨od, J, _⟩ := O.look
  obtain ⟨mB, O', _⟩ := ins_get I.hok eb
  obtain ⟨od', J', _⟩ := O'.look
  obtain ⟨m0, hF⟩ := I.fr
  refine PySem.W.binop_K hF I.ok.mod.kin J J'.type sf (by rw [hm]; exact me.at_) me.fn (wpAny_mono (run_fnA (us := [.ref a, .ref b]) (vs := [.ref a, .ref b]) F (⟨hr, rfl⟩ : Sub X k X.A) (hx σ) I (.cons rfl (.cons rfl .nil)) q) (fun r s' ⟨w, H', I', rw', nn, q'⟩ => ?_) fun _ _ z => z)
  exact cmpBack_of (nn _ rw') ⟨w, H', I', rw', q'⟩
theorem op_cmpO (hx : PassX X E) {op : CmpOp} {m : Str} (hu : X.A.units < cLine) (hm : (cmpInfo op).2.1 = m) (ho : op = .Eq ∨ op = .Lt ∨ op = .LtE ∨ op = .Gt ∨ op = .GtE) : OpRS X (compareOp op) (fun σ => rOpO X X.K (E σ) m) := by
  intro pins s σ H x y v u Q I rx ry h
  obtain ⟨a, b, C, dx, fs, dx', fs', f, sp, k, rfl, rfl, ea, eb, sf, me, F, hr, q⟩ := h
  obtain rfl : v = .ref a := rx
  obtain rfl : u = .ref b := ry
  obtain ⟨mA, O, _⟩ := ins_get I.hok ea
  obtain ⟨od, J, _⟩ := O.look
  obtain ⟨mB, O', _⟩ := ins_get I.hok eb
  obtain ⟨od', J', _⟩ := O'.look
  obtain ⟨m0, hF⟩ := I.fr
  have goal : wpAny (model X.prog X.w) X.A (richCompare op (.ref a) (.ref b)) (EP X pins σ Q) X.xe s :=
    PySem.W.cmp_K hu hF I.ok.mod.kin J J'.type (by unfold PySem.W.notFirst; simp) (by rw [hm]; exact me.at_) me.fn (wpAny_mono (run_fnA (us := [.ref a, .ref b]) (vs := [.ref a, .ref b]) F (⟨hr, rfl⟩ : Sub X k X.A) (hx σ) I (.cons rfl (.cons rfl .nil)) q) (fun r s' ⟨w, H', I', rw', nn, q'⟩ => cmpBack_of (nn _ rw') ⟨w, H', I', rw', q'⟩) fun _ _ z => z)
  rcases ho with rfl | rfl | rfl | rfl | rfl <;> exact goal
theorem Rep.notNI {W : Wd} {d : D} {v : V} (r : Rep G W d v) {u : Value} (h : RelV v u) : u ≠ .notImplemented := by
  cases r <;> first
    | (cases (show u = _ from h); simp; done)
    | (obtain ⟨t, rfl⟩ := (show ∃ t, u = _ from h); simp)
def rInO (X : Cx) (K : PySem.W.Frag) (E : XK) (neg : Bool) : R2 := fun x y H Q => ∃ a C dx fs f sp k, y = .ref a ∧ H a = some (.ins C dx fs) ∧ Meth K C "__contains__" f ∧
  FnR X.prog X.w X.K X.mg X.base (L2.CX X.prog X.w) k f sp ∧ Room k X.A ∧ sp [.ref a, x] H (fun v H' => ∃ b, v = .bl b ∧ Q (.bl (if neg then !b else b)) H') E
theorem op_inO (hx : PassX X E) : OpRS X (compareOp .In) (fun σ => rInO X X.K (E σ) false) := by
  intro pins s σ H x y v u Q I rx ry h
  obtain ⟨a, C, dx, fs, f, sp, k, rfl, ea, me, F, hr, q⟩ := h
  obtain rfl : u = .ref a := ry
  obtain ⟨mA, O, _⟩ := ins_get I.hok ea
  obtain ⟨od, J, _⟩ := O.look
  obtain ⟨m0, hF⟩ := I.fr
  refine PySem.W.in_K hF I.ok.mod.kin J me.at_ me.fn (wpAny_mono (run_fnA (us := [.ref a, v]) (vs := [.ref a, x]) F (⟨hr, rfl⟩ : Sub X k X.A) (hx σ) I (.cons rfl (.cons rx .nil)) q) (fun r s' ⟨w, H', I', rw', b, ew, q'⟩ => ?_) fun _ _ z => z)
  subst ew
  obtain rfl : r = .bool b := rw'
  exact wpAny_pure ⟨.bl b, H', I', rfl, q'⟩
theorem op_ninO (hx : PassX X E) : OpRS X (compareOp .NotIn) (fun σ => rInO X X.K (E σ) true) := by
  intro pins s σ H x y v u Q I rx ry h
  obtain ⟨a, C, dx, fs, f, sp, k, rfl, ea, me, F, hr, q⟩ := h
  obtain rfl : u = .ref a := ry
  obtain ⟨mA, O, _⟩ := ins_get I.hok ea
  obtain ⟨od, J, _⟩ := O.look
  obtain ⟨m0, hF⟩ := I.fr
  refine PySem.W.notIn_K hF I.ok.mod.kin J me.at_ me.fn (wpAny_mono (run_fnA (us := [.ref a, v]) (vs := [.ref a, x]) F (⟨hr, rfl⟩ : Sub X k X.A) (hx σ) I (.cons rfl (.cons rx .nil)) q) (fun r s' ⟨w, H', I', rw', b, ew, q'⟩ => ?_) fun _ _ z => z)
  subst ew
  obtain rfl : r = .bool b := rw'
  exact wpAny_pure ⟨.bl (!b), H', I', rfl, q'⟩
theorem repS_rep {W : Wd} {h : IH} {H : Hp} {x : D} {v : V} {cf : Nat × List D} (r : RepS G W H x v) (e : insAt h x = some cf) : Rep G W x v := by
  rcases r with r | ⟨p, cc, h1, h2, h3, h4⟩
  · exact r
  · exfalso
    subst h2
    cases cc <;> first | (cases h1; done) | (cases e; done)
theorem sem_opM {E : XK} (g : Hd G X) {C : CallH} {ct : CT} {k m : Nat} {RR : RRel} {r : R2} {op : IH → D → D → Option D} (ok : CtOk G ct) (sf : ∀ c C ns, G.cls c = some (C, ns) → PySem.W.selfFirst G.K C = true) (hF : ∀ i, FnI G k (G.fa i) (C i)) (hr : Room k X.A)
    (s : OpSem G RR r op) (hRR : ∀ W H W' H' d v, Rep G W' d v → (∀ xs, d ≠ .lst xs) → (∀ t ks vs, d ≠ .dct t ks vs) → RR W H W' H' d v) : OpSemM G E RR (fun x y H Q => r x y H Q ∨ rOpO X G.K E (G.nm m) x y H Q) (fun x y h => match methD ct m h x with
      | some i => if clsAt h x = clsAt h y then (match C i [x, y] h with
        | .ok (.lst _) _ => .bad
        | .ok (.dct _ _ _) _ => .bad
        | q => q) else .bad
      | none => liftH op x y h) := fun W h H x y v u Q hr0 rx ry p => by
  cases e : methD ct m h x with
  | none =>
    simp only [e] at p
    exact .inl (OpSem.toM (E := E) s W h H x y v u Q hr0 rx ry p)
  | some i =>
    simp only [e] at p
    by_cases c : clsAt h x = clsAt h y
    · rw [if_pos c] at p
      obtain ⟨b, DD, dx, fs, rfl, a1, a2, a3, a4⟩ := meth_at g ok hr0 rx e
      cases e3 : insAt h x with
      | none => unfold methD at e; rw [e3] at e; cases e
      | some cf =>
        obtain ⟨c0, fs0⟩ := cf
        have c2 : (insAt h y).map (·.1) = some c0 := by
          have : clsAt h x = some c0 := by unfold clsAt; rw [e3]; rfl
          rw [this] at c; exact c.symm
        obtain ⟨⟨c1, fs1⟩, e4, e5⟩ := Option.map_eq_some_iff.mp c2
        simp only at e5
        subst e5
        obtain ⟨b1, C1, dx1, ns1, us1, eb, q1, q2, q3, q4⟩ := insAt_ok hr0 rx e3
        obtain ⟨b2, C2, dx2, ns2, us2, rfl, q5, q6, q7, q8⟩ := insAt_ok hr0 ry e4
        cases eb
        rw [a1] at q2; cases q2
        rw [q1] at q5; cases q5
        have ry' := repS_rep ry e4
        refine .inr ⟨b, b2, DD, dx, _, dx2, _, G.fa i, _, k, rfl, rfl, a1, q6, sf _ _ _ q1, by rw [← g.hK]; exact a3, g.fn (hF i), hr, ?_⟩
        refine ⟨W, h, [x, y], hr0, .cons a4 (.cons ry' .nil), ?_⟩
        cases q : C i [x, y] h with
        | bad => rw [q] at p; exact p.elim
        | ex c fs h' => rw [q] at p; exact p
        | ok d h' =>
          rw [q] at p
          intro W' H' w f' hr' rw'
          refine ⟨fun u z => Rep.notNI rw' z, ?_⟩
          cases d <;> first | exact p.elim | exact p W' H' w f' hr' (hRR _ _ _ _ _ _ rw' (fun _ z => by cases z) (fun _ _ _ z => by cases z))
    · rw [if_neg c] at p; exact p.elim
theorem sem_inM {E : XK} (g : Hd G X) {C : CallH} {ct : CT} {k m : Nat} {neg : Bool} {r : R2} {op : IH → D → D → Option D} (hm : G.nm m = "__contains__") (ok : CtOk G ct) (hF : ∀ i, FnI G k (G.fa i) (C i)) (hr : Room k X.A)
    (s : OpSem G (rrE G) r op) : OpSemM G E (rrE G) (fun x y H Q => r x y H Q ∨ rInO X G.K E neg x y H Q) (inM C ct m neg op) := fun W h H x y v u Q hr0 rx ry p => by
  unfold inM at p
  cases e : methD ct m h y with
  | none =>
    simp only [e] at p
    exact .inl (OpSem.toM (E := E) s W h H x y v u Q hr0 rx ry p)
  | some i =>
    simp only [e] at p
    obtain ⟨b, DD, dx, fs, rfl, a1, a2, a3, a4⟩ := meth_at g ok hr0 ry e
    rw [hm] at a3
    rcases rx with rx | ⟨p0, cc, h1, h2, h3, h4⟩
    · have p : (bnd (C i [y, x]) (fun d => bnd (lft (asB d)) fun b => ret (.bl (if neg then !b else b))) h).post (KQ G (rrE G) W H Q) (KX G E W H) := by
        cases x <;> first | exact p | exact p.elim
      refine .inr ⟨b, DD, dx, fs, G.fa i, _, k, rfl, a1, by rw [← g.hK]; exact a3, g.fn (hF i), hr, W, h, [y, x], hr0, .cons a4 (.cons rx .nil), ?_⟩
      refine (post_bnd.mp p).mono (fun d h' k W' H' w f' hr' rw' => ?_) fun _ _ _ k => k
      obtain ⟨t, et, k⟩ := post_lft (post_bnd.mp k)
      have et := asB_some et
      subst et
      cases rw'
      exact ⟨t, rfl, k W' H' _ f' hr' (.bl _)⟩
    · exfalso
      subst h2
      cases cc <;> first | exact p | (cases h1; done)
end Iv

/-! Iv, part T: what is left of the small things: new cells, empty dicts, o.f = e, o.append(e), what is never run. -/
namespace Iv
open PySem L2
variable {G : GC} {X : Cx} {W0 : Wd} {H0 : Hp} {E : EK}

/-! ### what is never run -/
def eNever {α : Type} (_ : Env) : M α := fun _ => .bad
theorem pev_never {e : Expr} {RR : RRel} : PE X e (tR G RR E eNever) := ⟨fun _ _ _ _ _ _ ⟨_, _, _, _, _, _, p⟩ => p.elim⟩
theorem ptv_never {e : Expr} : PT X e (tTr G E eNever) := ⟨fun _ _ _ _ _ _ ⟨_, _, _, _, _, _, p⟩ => p.elim⟩
theorem psv_never {st : Stmt} : PS X st (tSr G W0 H0 E eNever) := ⟨fun _ _ _ _ _ _ ⟨_, _, _, _, _, _, p⟩ => p.elim⟩

/-! ### new things as cells -/
theorem new_cell {W1 : Wd} {h1 : IH} {H1 : Hp} {c : Cell} {q : Addr} {o : HO} (hr1 : Hr G W1 h1 H1) (hq : H1 q = none) (co : CellO G W1 o c) :
    Fr W1 H1 ⟨W1.F, W1.rho ++ [q]⟩ (upd H1 q o) ∧ Hr G ⟨W1.F, W1.rho ++ [q]⟩ (h1 ++ [c]) (upd H1 q o) ∧ (W1.rho ++ [q])[h1.length]? = some q := by
  have l : Le W1 ⟨W1.F, W1.rho ++ [q]⟩ := ⟨fun _ _ h => h, [q], rfl⟩
  have nq : q ∉ W1.rho := hr1.notcell hq
  have up : ∀ a w, H1 a = some w → upd H1 q o a = some w := fun a w h => by rw [upd_ne (ne_of_none h hq)]; exact h
  refine ⟨⟨fun _ _ h => h, ⟨[q], rfl, fun a ha => by simp at ha; rw [ha]; exact hq⟩, fun a o h _ => up a o h, fun a o h => .inl h, fun a h => ?_⟩, ⟨fun a o h => up a o (hr1.sub a o h), by simp [hr1.len], ?_, fun i a c' h1' h2 => ?_, fun i a h1' h2 => ?_⟩, ?_⟩
  · by_cases e : a = q
    · exact e ▸ hq
    · rw [upd_ne e] at h; exact h
  · show (W1.rho ++ [q]).Nodup
    rw [List.nodup_append]
    exact ⟨hr1.nd, by simp, fun a ha b hb => by simp at hb; subst hb; intro e; subst e; exact nq ha⟩
  · by_cases hi : i < W1.rho.length
    · have h1'' : W1.rho[i]? = some a := by rw [← h1']; exact (List.getElem?_append_left hi).symm
      rw [List.getElem?_append_left (by rw [← hr1.len]; exact hi)] at h2
      exact CellR.step l (fun o q' => up a o q') (hr1.cell i a c' h1'' h2)
    · have hi2 : i < (W1.rho ++ [q]).length := (List.getElem?_eq_some_iff.mp h1').1
      have e : i = W1.rho.length := by simp at hi2; omega
      subst e
      have h1' : (W1.rho ++ [q])[W1.rho.length]? = some a := h1'
      rw [List.getElem?_append_right (Nat.le_refl _)] at h1'
      simp at h1'
      subst h1'
      rw [hr1.len, List.getElem?_append_right (Nat.le_refl _)] at h2
      simp at h2
      subst h2
      exact ⟨_, upd_same, co.mono l⟩
  · have h1' : (W1.rho ++ [q])[i]? = some a := h1'
    by_cases hi : i < W1.rho.length
    · rw [List.getElem?_append_left hi] at h1'
      rw [List.getElem?_append_left (by rw [← hr1.len]; exact hi)] at h2
      exact hr1.nf i a h1' h2
    · rw [List.getElem?_append_right (by omega)] at h1'
      have : a = q := by
        have := (List.getElem?_eq_some_iff.mp h1').2
        simpa using this.symm
      subst this
      exact hr1.fnone hq
  · rw [← hr1.len, List.getElem?_append_right (Nat.le_refl _)]
    simp
def eCell (g : Env → M (List D)) (env : Env) : M D := bnd (g env) fun xs => bnd (lft (fits xs.length)) fun _ => fun h => .ok (.ref h.length) (h ++ [.lst xs])
theorem pev_cell {es : List Expr} {g : Env → M (List D)} {pos : Pos} (h : PA X es (tAr G E g)) : PE X (.List es pos) (tR G (rrE G) E (eCell g)) := pe_imp (pe_lst h) fun σ H Q ⟨W, hh, env, H0, hr, er, p⟩ => by
  refine ⟨W, hh, env, H0, hr, er, (post_bnd.mp p).mono (fun xs h1 p1 W1 H1 vs f1 hr1 r1 => ?_) fun _ _ _ k => k⟩
  obtain ⟨u, e, k⟩ := post_lft (post_bnd.mp p1)
  have hz := fits_le e
  refine ⟨by rw [← r1.length]; exact hz, fun q hq => ?_⟩
  obtain ⟨f2, hr2, eq⟩ := new_cell (c := .lst xs) (o := .lst vs) hr1 hq ⟨vs, rfl, r1, hz⟩
  exact k _ _ _ (f1.trans f2) hr2 (.ref eq)
/-- a list of our own is made a cell -/
def eBox (f : Env → M D) (env : Env) : M D := bnd (f env) fun d => match d with
  | .lst xs => fun h => .ok (.ref h.length) (h ++ [.lst xs])
  | .dct t ks vs => fun h => .ok (.ref h.length) (h ++ [.dct t ks vs])
  | _ => fun _ => .bad
theorem add_cell {W1 : Wd} {h1 : IH} {H0 H1 : Hp} {c : Cell} {v : V} (hr1 : Hr G W1 h1 H1) (o : OwnF G H0 W1 H1 c v) (nd : c ≠ .dead) : ∃ q, v = .ref q ∧ H0 q = none ∧
    Hr G ⟨W1.F, W1.rho ++ [q]⟩ (h1 ++ [c]) H1 ∧ (W1.rho ++ [q])[h1.length]? = some q := by
  obtain ⟨q, rfl, cr, nq, nf, h0⟩ := o
  have l : Le W1 ⟨W1.F, W1.rho ++ [q]⟩ := ⟨fun _ _ h => h, [q], rfl⟩
  refine ⟨q, rfl, h0, ⟨hr1.sub, by simp [hr1.len], ?_, fun i a c' h1' h2 => ?_, fun i a h1' h2 => ?_⟩, ?_⟩
  · show (W1.rho ++ [q]).Nodup
    rw [List.nodup_append]
    exact ⟨hr1.nd, by simp, fun a ha b hb => by simp at hb; subst hb; intro e; subst e; exact nq ha⟩
  · by_cases hi : i < W1.rho.length
    · have h1'' : W1.rho[i]? = some a := by rw [← h1']; exact (List.getElem?_append_left hi).symm
      rw [List.getElem?_append_left (by rw [← hr1.len]; exact hi)] at h2
      exact CellR.step l (fun o q' => q') (hr1.cell i a c' h1'' h2)
    · have hi2 : i < (W1.rho ++ [q]).length := (List.getElem?_eq_some_iff.mp h1').1
      have e : i = W1.rho.length := by simp at hi2; omega
      subst e
      have h1' : (W1.rho ++ [q])[W1.rho.length]? = some a := h1'
      rw [List.getElem?_append_right (Nat.le_refl _)] at h1'
      simp at h1'
      subst h1'
      rw [hr1.len, List.getElem?_append_right (Nat.le_refl _)] at h2
      simp at h2
      subst h2
      exact CellR.step l (fun o q' => q') cr
  · have h1' : (W1.rho ++ [q])[i]? = some a := h1'
    by_cases hi : i < W1.rho.length
    · rw [List.getElem?_append_left hi] at h1'
      rw [List.getElem?_append_left (by rw [← hr1.len]; exact hi)] at h2
      exact hr1.nf i a h1' h2
    · rw [List.getElem?_append_right (by omega)] at h1'
      have : a = q := by
        have := (List.getElem?_eq_some_iff.mp h1').2
        simpa using this.symm
      subst this
      exact nf
  · rw [← hr1.len, List.getElem?_append_right (Nat.le_refl _)]
    simp
theorem Fr.grow {W W' : Wd} {H H' : Hp} {q : Addr} (x : Fr W H W' H') (h0 : H q = none) : Fr W H ⟨W'.F, W'.rho ++ [q]⟩ H' := by
  obtain ⟨m, em, hm⟩ := x.r
  refine ⟨x.f, ⟨m ++ [q], by show W'.rho ++ [q] = _; rw [em, List.append_assoc], fun a ha => ?_⟩, x.pres, x.newF, x.dom⟩
  rcases List.mem_append.mp ha with ha | ha
  · exact hm a ha
  · simp at ha; rw [ha]; exact h0
theorem pev_box {e : Expr} {f : Env → M D} (h : PE X e (tR G (rrF G) E f)) : PE X e (tR G (rrE G) E (eBox f)) := pe_imp h fun σ H Q ⟨W, hh, env, H0, hr, er, p⟩ => by
  refine ⟨W, hh, env, H0, hr, er, (post_bnd.mp p).mono (fun d h1 p1 W1 H1 v f1 hr1 r1 => ?_) fun _ _ _ k => k⟩
  have go : ∀ c : Cell, c ≠ .dead → OwnF G H W1 H1 c v → KQ G (rrE G) W H Q (.ref h1.length) (h1 ++ [c]) → Q v H1 := fun c nd o k => by
    obtain ⟨q, rfl, h0, hr2, eq⟩ := add_cell hr1 o nd
    exact k ⟨W1.F, W1.rho ++ [q]⟩ H1 _ (f1.grow h0) hr2 (.ref eq)
  cases d <;> first | exact p1.elim | skip
  · exact go (.lst _) (by simp) r1 p1
  · exact go (.dct _ _ _) (by simp) r1 p1
/-! ### an empty dict of our own -/
def eDnew (t : Bool) (_ : Env) : M D := ret (.dct t [] [])
theorem pev_dnew {t : Bool} {pos : Pos} : PE X (.Dict [] [] pos) (tR G (rrF G) E (eDnew t)) := by
  have go : ∀ (o : HO), DicO t [] [] o → PE X (.Dict [] [] pos) (fun _ H Q => ∀ p, H p = none → Q (.ref p) (upd H p o)) → PE X (.Dict [] [] pos) (tR G (rrF G) E (eDnew t)) := fun o od h =>
    pe_imp h fun σ H Q ⟨W, hh, env, H0, hr, er, p⟩ q hq => by
      have p : KQ G (rrF G) W H Q (.dct t [] []) hh := p
      refine p W _ _ ⟨fun _ _ h => h, ⟨[], by simp⟩, fun a w h _ => by rw [upd_ne (ne_of_none h hq)]; exact h, fun a o h => .inl h, fun a h => ?_⟩ ?_ ⟨q, rfl, ⟨o, upd_same, [], od, .nil⟩, hr.notcell hq, hr.fnone hq, hq⟩
      · by_cases e : a = q
        · exact e ▸ hq
        · rw [upd_ne e] at h; exact h
      · refine ⟨fun a w h => ?_, hr.len, hr.nd, fun i a c h1 h2 => ?_, hr.nf⟩
        · have := hr.sub a w h
          rw [upd_ne (ne_of_none this hq)]; exact this
        · refine CellR.step (W := W) (H := H) ⟨fun _ _ h => h, [], by simp⟩ (fun w h => ?_) (hr.cell i a c h1 h2)
          rw [upd_ne (ne_of_none h hq)]; exact h
  cases t with
  | false => exact go (.dK []) ⟨rfl, by simp, List.nodup_nil, [], rfl, rfl⟩ pe_dnewK
  | true => exact go (.dT []) ⟨rfl, by simp, List.nodup_nil, [], rfl, rfl⟩ pe_dnewT

/-! ### o.f = e -/
/-- the cell of an instance with a field stored -/
def attS (ct : CT) (a : Nat) (o v : D) (h : IH) : Option IH := match o with
  | .ref r => match h[r]? with
    | some (.ins c fs) => (ct c).bind fun K => (fIx K.ns a).bind fun j => if j < fs.length then some (h.set r (.ins c (fs.set j v))) else if j = fs.length then some (h.set r (.ins c (fs ++ [v]))) else none
    | _ => none
  | _ => none
theorem attS_ok {ct : CT} {a : Nat} {o d : D} {h h' : IH} {W : Wd} {H : Hp} {x y : V} (ok : CtOk G ct) (hr : Hr G W h H) (ro : Rep G W o x) (rd : Rep G W d y) (e : attS ct a o d h = some h') :
    ∃ b C dx fs, x = .ref b ∧ H b = some (.ins C dx fs) ∧ Cls G.K C ∧ NoAttr G.K C (G.nm a) ∧ fs.length < 1000 ∧ Fr W H W (upd H b (.ins C dx (putF (G.nm a) y fs))) ∧ Hr G W h' (upd H b (.ins C dx (putF (G.nm a) y fs))) := by
  cases o <;> try (cases e; done)
  rename_i r
  unfold attS at e
  dsimp only at e
  split at e
  · rename_i c fs q
    obtain ⟨K, e1, e⟩ := Option.bind_eq_some_iff.mp e
    obtain ⟨j, e2, e⟩ := Option.bind_eq_some_iff.mp e
    cases ro with
    | ref ea =>
      rename_i b
      obtain ⟨CC, ko⟩ := ok c K e1
      obtain ⟨o, ho, C', dx, ns, us, a1, rfl, a3, a4⟩ := hr.cell _ _ _ ea q
      rw [ko.at_] at a1
      cases a1
      have hn : (K.ns.map G.nm)[j]? = some (G.nm a) := by rw [List.getElem?_map, fIx_get e2]; rfl
      have hj : j < K.ns.length := by
        have := (List.getElem?_eq_some_iff.mp (fIx_get e2)).1
        exact this
      have hl := a4.length
      have jl : j ≤ us.length := by
        split at e
        · omega
        · split at e
          · omega
          · cases e
      have pz := putF_zip (v := y) ko.nd hn jl a3
      have fl : ((K.ns.map G.nm).zip us).length < 1000 := by
        rw [List.length_zip, List.length_map]
        have := ko.few
        omega
      refine ⟨b, CC, dx, _, rfl, ho, ko.cl, ko.no a (List.mem_of_getElem? (fIx_get e2)), fl, Fr.cell hr ea, ?_⟩
      have fin : ∀ fs' us', Reps G W fs' us' → us'.length ≤ (K.ns.map G.nm).length → putF (G.nm a) y ((K.ns.map G.nm).zip us) = (K.ns.map G.nm).zip us' → h' = h.set r (.ins c fs') → Hr G W h' (upd H b (.ins CC dx (putF (G.nm a) y ((K.ns.map G.nm).zip us)))) := fun fs' us' r' l' ez eh => by
        rw [eh]
        exact hr.setCell ea q (by simp) ⟨_, upd_same, CC, dx, _, us', ko.at_, by rw [ez], l', r'⟩
      by_cases c1 : j < us.length
      · rw [if_pos (by omega)] at e
        cases e
        rw [if_pos c1] at pz
        exact fin _ _ (Reps.set rd j a4) (by rw [List.length_set]; exact a3) pz rfl
      · rw [if_neg (by omega), if_pos (by omega)] at e
        cases e
        rw [if_neg c1] at pz
        exact fin _ _ (a4.snoc rd) (by rw [List.length_append, List.length_map]; simp; omega) pz rfl
  · cases e
def sAtt (ct : CT) (a : Nat) (fo f : Env → M D) (env : Env) : M RS := bnd (f env) fun v => bnd (fo env) fun o => fun h => match attS ct a o v h with
  | some h' => .ok (.nx, env) h'
  | none => .bad
theorem psv_att (g : Hd G X) {ct : CT} (ok : CtOk G ct) {a : Nat} {o e : Expr} {fo f : Env → M D} {pos' pos : Pos} (ho : PE X o (tR G (rrE G) E fo)) (he : PE X e (tR G (rrE G) E f)) (hs : swapsWith e (some (.Attribute o (G.nm a) pos')) pos.line X.env = pure false) :
    PS X (.Assign [.Attribute o (G.nm a) pos'] e pos) (tS0 G W0 H0 E (sAtt ct a fo f)) := ps_imp (ps_fld ho he hs) fun D σ H ⟨W, h, env, hr, er, fr, p⟩ => by
  refine ⟨W, h, env, H0, hr, er, (post_bnd.mp p).mono (fun d h1 p1 W1 H1 v f1 hr1 r1 => ?_) fun _ _ _ k => k⟩
  refine ⟨W1, h1, env, H0, hr1, er.step f1, (post_bnd.mp p1).mono (fun d2 h2 p2 W2 H2 v2 f2 hr2 r2 => ?_) fun _ _ _ k => k.step f1⟩
  cases q : attS ct a d2 d h2 with
  | none => simp only [q] at p2; exact p2.elim
  | some h4 =>
    simp only [q] at p2
    obtain ⟨b, C, dx, fs, ex, a1, a2, a3, a4, a5, a6⟩ := attS_ok ok hr2 r2 (Rep.mono f2.le r1) q
    refine ⟨b, C, dx, fs, ex, a1, by rw [g.hK]; exact a2, by rw [g.hK]; exact a3, a4, ?_⟩
    exact p2 W2 _ σ (f1.trans f2).le (fr.trans (f1.trans (f2.trans a5))) a6 (((er.step f1).step f2).step a5)

/-! ### o.append(e), o a cell -/
def appC (o v : D) (h : IH) : Option IH := match o with
  | .ref r => match h[r]? with
    | some (.lst xs) => if xs.length < 16777216 then some (h.set r (.lst (xs ++ [v]))) else none
    | _ => none
  | _ => none
def isL (o : D) (h : IH) : Bool := match o with
  | .ref r => match h[r]? with
    | some (.lst _) => true
    | _ => false
  | _ => false
def sAppR (fo f : Env → M D) (env : Env) : M RS := bnd (fo env) fun o => fun h => if isL o h = true then bnd (f env) (fun v => fun h => match appC o v h with
  | some h' => .ok (.nx, env) h'
  | none => .bad) h else .bad
theorem psv_appR {o e : Expr} {fo f : Env → M D} {apos cpos pos : Pos} (hK : X.K = G.K) (ho : PE X o (tR G (rrE G) E fo)) (he : PE X e (tR G (rrE G) E f)) (hn : ∀ a p, e ≠ .Starred a p) (hline : (apos.endLine == cpos.line) = true) (hbase : attributeBase o "append" X.env (eval o X.env) = eval o X.env) :
    PS X (.Expr (.Call (.Attribute o "append" apos) [e] [] cpos) pos) (tS0 G W0 H0 E (sAppR fo f)) := by
  have hb := pe_bm (X := X) (apos := apos) (cpos := cpos) PySem.F.plainAttrs_list PySem.F.slot_list_append PySem.F.type_list_append mt_append ho (pa_cons he pa_nil (starEach_cons hn)) hbase (by
    rw [starEach_cons hn]; rfl) hline (starEach_cons hn) rfl
  refine ps_imp (ps_expr hb (swaps_no rfl _ _ _)) fun D σ H ⟨W, h, env, hr, er, fr, p⟩ => ?_
  refine ⟨W, h, env, H0, hr, er, (post_bnd.mp p).mono (fun d h1 p1 W1 H1 v f1 hr1 r1 => ?_) fun _ _ _ k => k⟩
  by_cases c : isL d h1 = true
  · rw [if_pos c] at p1
    cases d <;> simp only [isL, Bool.false_eq_true] at c
    rename_i r
    split at c
    · rename_i xs q
      cases r1 with
      | ref ea =>
        rename_i b
        obtain ⟨vs, a1, _, _⟩ := (hr1.cell _ _ _ ea q).lst
        refine ⟨.inl ⟨rfl, vs, .inl (.inl a1)⟩, W1, h1, env, H0, hr1, er.step f1, (post_bnd.mp p1).mono (fun d2 h2 p2 W2 H2 v2 f2 hr2 r2 => ?_) fun _ _ _ k => k.step f1⟩
        cases q2 : appC (.ref r) d2 h2 with
        | none => simp only [q2] at p2; exact p2.elim
        | some h4 =>
          simp only [q2] at p2
          unfold appC at q2
          dsimp only at q2
          split at q2
          · rename_i ys q3
            split at q2
            · rename_i lt
              cases q2
              have ea2 := f2.le.at ea
              obtain ⟨us, b1, b2, b3⟩ := (hr2.cell _ _ _ ea2 q3).lst
              refine ⟨b, us, v2, rfl, rfl, b1, by rw [← b2.length, sizeLine_eq]; exact lt, ?_⟩
              have f4 : Fr W2 H2 W2 (upd H2 b (.lst (us ++ [v2]))) := Fr.cell hr2 ea2
              exact p2 W2 _ σ (f1.trans f2).le (fr.trans (f1.trans (f2.trans f4))) (hr2.setCell ea2 q3 (by simp) (CellR.mkL upd_same (b2.snoc r2) (by rw [List.length_append, sizeLine_eq]; simp; omega))) (((er.step f1).step f2).step f4)
            · cases q2
          · cases q2
    · cases c
  · rw [if_neg c] at p1; exact p1.elim
end Iv

/-! Iv, part U: methods of texts. -/
namespace Iv
open PySem L2
variable {G : GC} {X : Cx} {W0 : Wd} {H0 : Hp} {E : EK}
/-- texts, one behind another, with sep between -/
def joinL (sep : List Nat) (ys : List (List Nat)) : List Nat := match ys with
  | [] => []
  | y :: ys => ys.foldl (fun acc q => acc ++ sep ++ q) y
def toS (z : List Nat) : Str := ⟨z.toArray⟩
theorem join_txt (sep : List Nat) (ys : List (List Nat)) : Txt.join (toS sep) (ys.map toS) = toS (joinL sep ys) := by
  cases ys with
  | nil => rfl
  | cons y ys =>
    show (⟨((ys.map toS)).foldl (fun acc p => acc ++ (toS sep).cps ++ p.cps) (toS y).cps⟩ : Str) = ⟨(ys.foldl (fun acc q => acc ++ sep ++ q) y).toArray⟩
    congr 1
    have : ∀ (ys : List (List Nat)) (a : List Nat), (ys.map toS).foldl (fun acc p => acc ++ (toS sep).cps ++ p.cps) a.toArray = (ys.foldl (fun acc q => acc ++ sep ++ q) a).toArray := by
      intro ys
      induction ys with
      | nil => intro a; rfl
      | cons q ys ih =>
        intro a
        rw [List.map_cons, List.foldl_cons, List.foldl_cons, ← ih]
        congr 1
        show a.toArray ++ sep.toArray ++ q.toArray = (a ++ sep ++ q).toArray
        simp
    exact this ys y
theorem joinL_len (sep : List Nat) (ys : List (List Nat)) : (joinL sep ys).length ≤ (ys.map List.length).sum + ys.length * sep.length := by
  cases ys with
  | nil => exact Nat.zero_le _
  | cons y ys =>
    have : ∀ (ys : List (List Nat)) (a : List Nat), (ys.foldl (fun acc q => acc ++ sep ++ q) a).length = a.length + ((ys.map List.length).sum + ys.length * sep.length) := by
      intro ys
      induction ys with
      | nil => intro a; simp
      | cons q ys ih =>
        intro a
        rw [List.foldl_cons, ih, List.map_cons, List.sum_cons, List.length_cons, Nat.succ_mul]
        simp only [List.length_append]
        omega
    show (ys.foldl _ y).length ≤ _
    rw [this, List.map_cons, List.sum_cons, List.length_cons, Nat.succ_mul]
    omega
def txtsOf : List D → Option (List (List Nat))
  | [] => some []
  | .str z :: xs => (txtsOf xs).map (z :: ·)
  | _ => none
def itemsN (d : D) : Option (List D) := match d with
  | .lst xs => some xs
  | .tup xs => some xs
  | _ => none
def joinD (x y : D) : Option D := match x with
  | .str z => (itemsN y).bind fun xs => (txtsOf xs).bind fun ys => if (ys.map List.length).sum + ys.length * z.length ≤ 16777216 then some (.str (joinL z ys)) else none
  | _ => none
theorem txtsOf_rep {W : Wd} : ∀ {xs : List D} {ys : List (List Nat)} {vs : List V}, txtsOf xs = some ys → Reps G W xs vs → vs = (ys.map toS).map V.str
  | [], ys, vs, e, r => by cases e; cases r; rfl
  | x :: xs, ys, vs, e, r => by
    cases x <;> simp only [txtsOf, reduceCtorEq] at e
    obtain ⟨zs, e2, rfl⟩ := Option.map_eq_some_iff.mp e
    cases r with
    | cons a b =>
      have := txtsOf_rep e2 b
      cases a
      rw [this]; rfl
def isS (x : D) : Bool := match x with
  | .str _ => true
  | _ => false
def eJoin (fo fe : Env → M D) (env : Env) : M D := bnd (fo env) fun x => fun h => if isS x = true then bnd (fe env) (fun y => fun h => lft (joinD x (drf h y)) h) h else .bad
theorem pev_join {o e : Expr} {fo fe : Env → M D} {apos pos : Pos} (hK : X.K = G.K) (ho : PE X o (tR G (rrE G) E fo)) (he : PE X e (tR G (rrO G) E fe)) (hn : ∀ a p, e ≠ .Starred a p) (hbase : attributeBase o "join" X.env (eval o X.env) = eval o X.env) (hline : (apos.endLine == pos.line) = true) :
    PE X (.Call (.Attribute o "join" apos) [e] [] pos) (tR G (rrE G) E (eJoin fo fe)) := pe_imp (pe_join ho he (by rw [starEach_cons hn]; rfl) hbase hline) fun σ H Q ⟨W, hh, env, H0, hr, er, p⟩ => by
  refine ⟨W, hh, env, H0, hr, er, (post_bnd.mp p).mono (fun x h1 p1 W1 H1 v f1 hr1 r1 => ?_) fun _ _ _ k => k⟩
  by_cases c : isS x = true
  · rw [if_pos c] at p1
    cases x <;> simp only [isS, Bool.false_eq_true] at c
    rename_i z
    cases r1
    refine ⟨⟨_, rfl⟩, W1, h1, env, H0, hr1, er.step f1, (post_bnd.mp p1).mono (fun y h2 p2 W2 H2 u f2 hr2 r2 => ?_) fun _ _ _ k => k.step f1⟩
    obtain ⟨d, e, k⟩ := post_lft p2
    have rn := RepS.drf hr2 r2
    generalize drf h2 y = y at e rn
    obtain ⟨xs, e1, e⟩ := Option.bind_eq_some_iff.mp (show (itemsN y).bind _ = some d from e)
    obtain ⟨ys, e2, e⟩ := Option.bind_eq_some_iff.mp e
    split at e
    · rename_i lz
      cases e
      have seq : ∃ q vs, u = .ref q ∧ (SqL G.K H2 q vs ∨ SqT G.K H2 q vs) ∧ Reps G W2 xs vs := by
        cases y <;> simp only [itemsN, Option.some.injEq, reduceCtorEq] at e1
        · subst e1
          obtain ⟨q, vs, a1, a2, _, a4⟩ := RepN.tup hr2 rn
          exact ⟨q, vs, a1, .inr (.inl (.inl a2)), a4⟩
        · subst e1
          obtain ⟨q, vs, a1, a2, _, a4⟩ := RepN.lst hr2 rn
          exact ⟨q, vs, a1, .inl a2, a4⟩
      obtain ⟨q, vs, rfl, hq, hv⟩ := seq
      have hv := txtsOf_rep e2 hv
      subst hv
      refine ⟨toS z, q, ys.map toS, rfl, rfl, by rw [hK]; exact hq, ?_, ?_⟩
      · have el : ((ys.map toS).map fun s => s.length) = ys.map List.length := by
          rw [List.map_map]; exact List.map_congr_left fun y _ => by simp [toS, Str.length]
        rw [show ((ys.map toS).map (·.length)) = ys.map List.length from el, List.length_map]
        have : (toS z).length = z.length := by simp [toS, Str.length]
        rw [this]; exact lz
      · rw [join_txt]
        exact k W2 H2 _ (f1.trans f2) hr2 (.str _ (by rw [sizeLine_eq]; exact Nat.le_trans (joinL_len z ys) lz))
    · cases e
  · rw [if_neg c] at p1; exact p1.elim

/-! ### s.split(sep) -/
def ofS (s : Str) : D := .str s.cps.toList
def splitD (x y : D) : Option D := match x, y with
  | .str z, .str b => if (b.length ≠ 0 ∧ z.length + 2 ≤ 16777216) ∧ (Txt.split (toS z) (toS b)).length ≤ 16777216 ∧ ∀ s ∈ Txt.split (toS z) (toS b), s.cps.toList.length ≤ 16777216 then some (.lst ((Txt.split (toS z) (toS b)).map ofS)) else none
  | _, _ => none
theorem reps_ofS {W : Wd} : ∀ {ys : List Str}, (∀ s ∈ ys, s.cps.toList.length ≤ 16777216) → Reps G W (ys.map ofS) (ys.map V.str)
  | [], _ => .nil
  | y :: ys, h => by
    refine .cons ?_ (reps_ofS fun s hs => h s (List.mem_cons_of_mem _ hs))
    have e : (⟨y.cps.toList.toArray⟩ : Str) = y := by cases y; simp
    have : Rep G W (.str y.cps.toList) (.str ⟨y.cps.toList.toArray⟩) := .str _ (by rw [sizeLine_eq]; exact h y List.mem_cons_self)
    rw [e] at this
    exact this
def eSplit (fo fe : Env → M D) (env : Env) : M D := bnd (fo env) fun x => fun h => if isS x = true then bnd (fe env) (fun y => lft (splitD x y)) h else .bad
theorem pev_split {o e : Expr} {fo fe : Env → M D} {apos pos : Pos} (ho : PE X o (tR G (rrE G) E fo)) (he : PE X e (tR G (rrE G) E fe)) (hn : ∀ a p, e ≠ .Starred a p) (hbase : attributeBase o "split" X.env (eval o X.env) = eval o X.env) (hline : (apos.endLine == pos.line) = true) :
    PE X (.Call (.Attribute o "split" apos) [e] [] pos) (tR G (rrF G) E (eSplit fo fe)) := pe_imp (pe_split ho he (by rw [starEach_cons hn]; rfl) hbase hline) fun σ H Q ⟨W, hh, env, H0, hr, er, p⟩ => by
  refine ⟨W, hh, env, H0, hr, er, (post_bnd.mp p).mono (fun x h1 p1 W1 H1 v f1 hr1 r1 => ?_) fun _ _ _ k => k⟩
  by_cases c : isS x = true
  · rw [if_pos c] at p1
    cases x <;> simp only [isS, Bool.false_eq_true] at c
    rename_i z
    cases r1
    refine ⟨⟨_, rfl⟩, W1, h1, env, H0, hr1, er.step f1, (post_bnd.mp p1).mono (fun y h2 p2 W2 H2 u f2 hr2 r2 => ?_) fun _ _ _ k => k.step f1⟩
    obtain ⟨d, e, k⟩ := post_lft p2
    cases y <;> try (cases e; done)
    rename_i b
    cases r2
    unfold splitD at e
    dsimp only at e
    split at e
    · rename_i l
      obtain ⟨⟨l1, l2⟩, l3, l4⟩ := l
      cases e
      have lz : (toS z).length = z.length := by simp [toS, Str.length]
      have lb : (toS b).length = b.length := by simp [toS, Str.length]
      refine ⟨toS z, toS b, rfl, rfl, by rw [lb]; exact beq_eq_false_iff_ne.mpr l1, by rw [lz, sizeLine_eq]; exact l2, fun q hq => ?_⟩
      obtain ⟨n1, n2, n3⟩ := new_lst hr2 (xs := (Txt.split (toS z) (toS b)).map ofS) (by rw [List.length_map, sizeLine_eq]; exact l3) (reps_ofS l4) hq
      exact k _ _ _ ((f1.trans f2).trans n1) n2 (upF _ _ _ _ _ _ _ _ (f1.trans f2) n3)
    · cases e
  · rw [if_neg c] at p1; exact p1.elim

/-! ### o.f op= e, whole numbers -/
def fldI (ct : CT) (a : Nat) (o : D) (h : IH) : Option Int := match insAt h o with
  | some (c, fs) => (ct c).bind fun K => (fIx K.ns a).bind fun j => match fs[j]? with
    | some (.int i) => some i
    | _ => none
  | none => none
def sAttAug (ct : CT) (g : Int → Int → Int) (a : Nat) (fo fe : Env → M D) (env : Env) : M RS := bnd (fo env) fun o => fun h => match fldI ct a o h with
  | some i => bnd (fe env) (fun y => fun h2 => match y with
    | .int j => if clsAt h2 o = clsAt h o then (match attS ct a o (.int (g i j)) h2 with
      | some h3 => .ok (.nx, env) h3
      | none => .bad) else .bad
    | _ => .bad) h
  | none => .bad
theorem fldI_ok {ct : CT} {a : Nat} {o : D} {h : IH} {i : Int} {W : Wd} {H : Hp} {x : V} (ok : CtOk G ct) (hr : Hr G W h H) (ro : Rep G W o x) (e : fldI ct a o h = some i) :
    ∃ b C dx fs, x = .ref b ∧ H b = some (.ins C dx fs) ∧ (∃ c ns, clsAt h o = some c ∧ G.cls c = some (C, ns)) ∧ Cls G.K C ∧ NoAttr G.K C (G.nm a) ∧ fs.lookup (G.nm a) = some (.int i) := by
  unfold fldI at e
  cases e1 : insAt h o with
  | none => rw [e1] at e; cases e
  | some cf =>
    obtain ⟨c, fs⟩ := cf
    rw [e1] at e
    dsimp only at e
    obtain ⟨K, e2, e⟩ := Option.bind_eq_some_iff.mp e
    obtain ⟨j, e3, e⟩ := Option.bind_eq_some_iff.mp e
    obtain ⟨CC, ko⟩ := ok c K e2
    obtain ⟨b, C', dx, ns, us, rfl, a1, a2, a3, a4⟩ := insAt_ok hr (.inl ro) e1
    rw [ko.at_] at a1
    cases a1
    split at e
    · rename_i i' e4
      cases e
      obtain ⟨w, b1, b2⟩ := a4.get e4
      cases b2
      have hn : (K.ns.map G.nm)[j]? = some (G.nm a) := by rw [List.getElem?_map, fIx_get e3]; rfl
      exact ⟨b, CC, dx, _, rfl, a2, ⟨c, _, by unfold clsAt; rw [e1]; rfl, ko.at_⟩, ko.cl, ko.no a (List.mem_of_getElem? (fIx_get e3)), lookup_zip_some ko.nd hn b1⟩
    · cases e
theorem psv_attAug (g : Hd G X) {ct : CT} (ok : CtOk G ct) {a : Nat} {o e : Expr} {fo fe : Env → M D} {op : Operator} {gg : Int → Int → Int} {pos' pos : Pos} (ho : PE X o (tR G (rrE G) E fo)) (he : PE X e (tR G (rrE G) E fe)) (hop : InOp X op (ipI gg)) :
    PS X (.AugAssign (.Attribute o (G.nm a) pos') op e pos) (tS0 G W0 H0 E (sAttAug ct gg a fo fe)) := ps_imp (ps_fldaug ho he hop) fun D σ H ⟨W, h, env, hr, er, fr, p⟩ => by
  refine ⟨W, h, env, H0, hr, er, (post_bnd.mp p).mono (fun o1 h1 p1 W1 H1 v f1 hr1 r1 => ?_) fun _ _ _ k => k⟩
  cases e1 : fldI ct a o1 h1 with
  | none => rw [e1] at p1; exact p1.elim
  | some i =>
    rw [e1] at p1
    obtain ⟨b, C, dx, fs, ex, a1, ⟨c, ns, ec, eg⟩, a2, a3, a4⟩ := fldI_ok ok hr1 r1 e1
    refine ⟨b, C, dx, fs, _, ex, a1, by rw [g.hK]; exact a2, by rw [g.hK]; exact a3, a4, W1, h1, env, H0, hr1, er.step f1, (post_bnd.mp p1).mono (fun y h2 p2 W2 H2 u f2 hr2 r2 => ?_) fun _ _ _ k => k.step f1⟩
    cases y <;> first | exact p2.elim | skip
    rename_i j
    cases r2
    by_cases cc : clsAt h2 o1 = clsAt h1 o1
    · simp only [cc, if_true] at p2
      cases q : attS ct a o1 (.int (gg i j)) h2 with
      | none => simp only [q] at p2; exact p2.elim
      | some h4 =>
        simp only [q] at p2
        obtain ⟨b', C', dx', fs', ex', b1, b2, b3, b4, b5, b6⟩ := attS_ok ok hr2 (Rep.mono f2.le r1) (.int (gg i j)) q
        rw [ex] at ex'
        cases ex'
        have ec2 : (insAt h2 o1).map (·.1) = some c := by
          have : clsAt h2 o1 = some c := cc.trans ec
          exact this
        obtain ⟨⟨c1, fs1⟩, e4, e5⟩ := Option.map_eq_some_iff.mp ec2
        simp only at e5
        subst e5
        obtain ⟨b1', C1, dx1, ns1, us1, eb, q1, q2, q3, q4⟩ := insAt_ok hr2 (.inl (Rep.mono f2.le r1)) e4
        rw [ex] at eb
        cases eb
        rw [b1] at q2
        cases q2
        rw [eg] at q1
        cases q1
        exact ⟨i, j, rfl, rfl, dx', _, b1, b4, p2 W2 _ σ (f1.trans f2).le (fr.trans (f1.trans (f2.trans b5))) b6 (((er.step f1).step f2).step b5)⟩
    · simp only [cc, if_false] at p2
      exact p2.elim
end Iv

/-! Iv, part H: the small syntax, its evaluator, the checker against the program's text. -/
namespace Iv
open PySem L2
variable {G : GC} {X : Cx} {W0 : Wd} {H0 : Hp} {E : EK}

/-! ### the small syntax -/
inductive BOp where
  | add | sub | mul | fdiv | mod | pow | band | bor | bxor
inductive COp where
  | eq | ne | lt | le | gt | ge | inn | nin | isn | isnn
inductive Blt where
  | len | int | str | list | tuple | all | any
mutual
inductive Ex where
  | cst (d : D) | var (i : Nat) | peek (i : Nat) | neg (a : Ex)
  | bin (op : BOp) (a b : Ex) | cmp (op : COp) (a b : Ex) | ix (a b : Ex) | sl (a : Ex) (lo hi : Exo)
  | tru (a : Ex) | and (es : Exs) | or (es : Exs) | not (a : Ex) | ite (c a b : Ex) | chain (o1 o2 : COp) (a b c : Ex)
  | tup (es : Exs) | lst (es : Exs) | cell (es : Exs) | blt (b : Blt) (es : Exs) | isi (t : Ty) (a : Ex) | call (f : Nat) (es : Exs)
  | never | binO (op : BOp) (a b : Ex) | cmpO (op : COp) (a b : Ex) | lenO (a : Ex) | listO (a : Ex) | mk (c : Nat) (es : Exs) | attr (a : Nat) (e : Ex) | meth (m : Nat) (o : Ex) (es : Exs) | scall (c m : Nat) (es : Exs)
  | box (e : Ex) | dnew (t : Bool) | join (o e : Ex) | split (o e : Ex)
  | comp (it : Itr) (t : Tg) (ifs : Exo) (elt : Ex) (own : List Nat)
  | comp2 (it : Itr) (t : Tg) (ifs : Exo) (it2 : Itr) (t2 : Tg) (ifs2 : Exo) (elt : Ex) (own vs1 : List Nat)
inductive Exs where
  | nil | cons (e : Ex) (r : Exs) | star (e : Ex) (r : Exs)
inductive Exo where
  | no | yes (e : Ex)
inductive Itr where
  | seq (e : Ex) | range (es : Exs) | zip (es : Exs)
end
mutual
inductive Sm where
  | set (i : Nat) (e : Ex) | own (i : Nat) (e : Ex) | tg (t : Tg) (e : Ex) | ixs (o i e : Ex) | aug (op : BOp) (i : Nat) (e : Ex) | app (i : Nat) (e : Ex)
  | never | att (a : Nat) (o e : Ex) | appR (o e : Ex) | putO (i : Nat) (k e : Ex) | attAug (op : BOp) (a : Nat) (o e : Ex)
  | ret (e : Ex) | retN | pass | brk | cont | expr (e : Ex)
  | ite (c : Ex) (a b : Sms) | whl (c : Ex) (b : Sms) | forr (it : Itr) (t : Tg) (b : Sms)
inductive Sms where
  | nil | cons (s : Sm) (r : Sms) | frz (i : Nat) (r : Sms)
end

/-! ### truth -/
def trD (d : D) : Option Bool := match d with
  | .non => some false | .bl b => some b | .int i => some (i != 0) | .str z => some ((z.length : Int) != 0) | .tup xs => some (!xs.isEmpty) | .lst xs => some (!xs.isEmpty)
  | _ => none
def toT (ev : Env → M D) (env : Env) : M Bool := bnd (ev env) fun d => lftN trD d
theorem isEmpty_rep {W : Wd} {ds : List D} {vs : List V} (r : Reps G W ds vs) : ds.isEmpty = vs.isEmpty := by cases r <;> rfl
theorem ptv_tru {e : Expr} {ev : Env → M D} (hK : X.K = G.K) (h : PE X e (tR G (rrO G) E ev)) (he : ∀ whole, isTrue e X.env whole = (do let v ← whole; standAt e.pos; holding [v] (truthy v))) : PT X e (tTr G E (toT ev)) := pt_imp (pt_truth h he) fun σ H Q ⟨W, hh, env, H0, hr, er, p⟩ => by
  refine ⟨W, hh, env, H0, hr, er, (post_bnd.mp p).mono (fun d h1 p1 W1 H1 v f1 hr1 r1 => ?_) fun _ _ _ k => k⟩
  obtain ⟨b, e, k⟩ := post_lft p1
  have r1 := RepS.drf hr1 r1
  generalize drf h1 d = d at e r1
  refine ⟨b, ?_, k W1 H1 f1 hr1⟩
  unfold trD at e
  split at e
  · cases e; rw [RepN.non r1]; exact rfl
  · cases e; rw [RepN.bl r1]; exact rfl
  · cases e; rw [RepN.int r1]; exact rfl
  · cases e
    obtain ⟨rfl, z⟩ := RepN.str r1
    exact ⟨by simpa [Str.length] using z, by simp [Str.length]⟩
  · cases e
    obtain ⟨p, us, rfl, s, z, r2⟩ := RepN.tup hr1 r1
    exact .inr (.inl ⟨us, .inl (.inl s), by rw [isEmpty_rep r2]⟩)
  · cases e
    obtain ⟨p, us, rfl, s, z, r2⟩ := RepN.lst hr1 r1
    exact .inl ⟨us, by rw [hK]; exact s, by rw [isEmpty_rep r2]⟩
  · cases e
def cAnd (fa fb : Env → M Bool) (env : Env) : M Bool := bnd (fa env) fun c => if c = true then fb env else ret false
def cOr (fa fb : Env → M Bool) (env : Env) : M Bool := bnd (fa env) fun c => if c = true then ret true else fb env
def cNot (fa : Env → M Bool) (env : Env) : M Bool := bnd (fa env) fun c => ret (!c)
theorem ptc_and {a b : Expr} {rest : List Expr} {fa fb : Env → M Bool} {pos : Pos} (ha : PT X a (tTr G E fa)) (hb : PW X (.BoolOp .And (b :: rest) pos) (tTr G E fb)) :
    PW X (.BoolOp .And (a :: b :: rest) pos) (tTr G E (cAnd fa fb)) := pw_imp (pw_and ha hb) fun σ H Q ⟨W, h, env, H0, hr, er, p⟩ => by
  refine ⟨W, h, env, H0, hr, er, (post_bnd.mp p).mono (fun c h1 p1 W1 H1 f1 hr1 => ?_) fun _ _ _ k => k⟩
  cases c with
  | true =>
    rw [if_pos rfl]
    rw [if_pos rfl] at p1
    exact ⟨W1, h1, env, H0, hr1, er.step f1, p1.mono (fun b h2 k => k.step f1) fun _ _ _ k => k.step f1⟩
  | false =>
    rw [if_neg Bool.false_ne_true]
    rw [if_neg Bool.false_ne_true] at p1
    exact p1 W1 H1 f1 hr1
theorem ptc_or {a b : Expr} {rest : List Expr} {fa fb : Env → M Bool} {pos : Pos} (ha : PT X a (tTr G E fa)) (hb : PW X (.BoolOp .Or (b :: rest) pos) (tTr G E fb)) :
    PW X (.BoolOp .Or (a :: b :: rest) pos) (tTr G E (cOr fa fb)) := pw_imp (pw_or ha hb) fun σ H Q ⟨W, h, env, H0, hr, er, p⟩ => by
  refine ⟨W, h, env, H0, hr, er, (post_bnd.mp p).mono (fun c h1 p1 W1 H1 f1 hr1 => ?_) fun _ _ _ k => k⟩
  cases c with
  | true =>
    rw [if_pos rfl]
    rw [if_pos rfl] at p1
    exact p1 W1 H1 f1 hr1
  | false =>
    rw [if_neg Bool.false_ne_true]
    rw [if_neg Bool.false_ne_true] at p1
    exact ⟨W1, h1, env, H0, hr1, er.step f1, p1.mono (fun b h2 k => k.step f1) fun _ _ _ k => k.step f1⟩
theorem ptc_not {a : Expr} {fa : Env → M Bool} {pos : Pos} (ha : PT X a (tTr G E fa)) : PT X (.UnaryOp .Not a pos) (tTr G E (cNot fa)) := pt_imp (pt_not ha) fun σ H Q ⟨W, h, env, H0, hr, er, p⟩ =>
  ⟨W, h, env, H0, hr, er, (post_bnd.mp p).mono (fun c h1 p1 W1 H1 f1 hr1 => p1 W1 H1 f1 hr1) fun _ _ _ k => k⟩

def negD (d : D) : Option D := match d with
  | .int i => some (.int (-i))
  | _ => none
def eNeg (f : Env → M D) (env : Env) : M D := bnd (f env) fun d => lft (negD d)
theorem pev_neg {a : Expr} {f : Env → M D} {pos : Pos} (h : PE X a (tR G (rrE G) E f)) : PE X (.UnaryOp .USub a pos) (tR G (rrE G) E (eNeg f)) := pe_imp (pe_un un_neg h) fun σ H Q ⟨W, hh, env, H0, hr, er, p⟩ => by
  refine ⟨W, hh, env, H0, hr, er, (post_bnd.mp p).mono (fun d h1 p1 W1 H1 v f1 hr1 r1 => ?_) fun _ _ _ k => k⟩
  obtain ⟨b, e, k⟩ := post_lft p1
  cases d <;> simp only [negD, Option.some.injEq, reduceCtorEq] at e
  subst e
  cases r1
  exact ⟨_, rfl, k W1 H1 _ f1 hr1 (.int _)⟩
theorem pev_ifG {RR : RRel} (up : Up RR) {c a b : Expr} {fc : Env → M Bool} {fa fb : Env → M D} {pos : Pos} (hc : PT X c (tTr G E fc)) (ha : PE X a (tR G RR E fa)) (hb : PE X b (tR G RR E fb)) :
    PE X (.IfExp c a b pos) (tR G RR E (eIf fc fa fb)) := pe_imp (pe_ifExp hc ha hb) fun σ H Q ⟨W, h, env, H0, hr, er, p⟩ => by
  refine ⟨W, h, env, H0, hr, er, (post_bnd.mp p).mono (fun c h1 p1 W1 H1 f1 hr1 => ?_) fun _ _ _ k => k⟩
  cases c with
  | true =>
    rw [if_pos rfl]
    rw [if_pos rfl] at p1
    exact ⟨W1, h1, env, H0, hr1, er.step f1, p1.mono (fun d h2 k => k.step up f1) fun _ _ _ k => k.step f1⟩
  | false =>
    rw [if_neg Bool.false_ne_true]
    rw [if_neg Bool.false_ne_true] at p1
    exact ⟨W1, h1, env, H0, hr1, er.step f1, p1.mono (fun d h2 k => k.step up f1) fun _ _ _ k => k.step f1⟩

/-! ### its evaluator -/
def opNone (_ : IH) (_ _ : D) : Option D := none
def binF : BOp → IH → D → D → Option D
  | .add => opAdd | .sub => opSub | .mul => opMul | .fdiv => opFdiv | .mod => opMod | .pow => opPow | .band => opAnd | .bor => opNone | .bxor => opNone
def cmpF : COp → IH → D → D → Option D
  | .eq => opEq | .ne => opNe | .lt => opOrd .Lt | .le => opOrd .LtE | .gt => opOrd .Gt | .ge => opOrd .GtE | .inn => opIn | .nin => opNin | .isn => opIsN | .isnn => opIsnN
def bltF : Blt → List D → Option D
  | .len => bLen | .int => bInt | .str => bStr | .list => bList | .tuple => bTuple | .all => bAll | .any => bAny
def rangeF (ds : List D) : Option (List D) := match ds with
  | [_] => range1 ds
  | [_, _] => range2 ds
  | [_, _, _] => range3 ds
  | _ => none
def augF : BOp → IH → D → D → Option D
  | .add => opAddI | .sub => opSubI
  | _ => fun _ _ _ => none
def augI : BOp → Int → Int → Int
  | .sub => fun i j => i - j
  | _ => fun i j => i + j
/-- what the program is, for the evaluator: its defs, its classes -/
structure Cfg where
  call : CallH
  ct : CT
  sub : Nat → Nat → Bool
instance : CoeFun Cfg fun _ => CallH := ⟨Cfg.call⟩
/-- the numbers of the names that the language knows -/
def binN : BOp → Nat
  | .add => 20 | .sub => 16 | .mul => 23 | .fdiv => 24 | .mod => 25 | .pow => 26 | .band => 14 | .bor => 12 | .bxor => 18
def cmpN : COp → Nat
  | .eq => 1 | .ne => 2 | .lt => 3 | .le => 4 | .gt => 5 | .ge => 6 | _ => 7
def resv : List Str := ["__len__", "__eq__", "__ne__", "__lt__", "__le__", "__gt__", "__ge__", "__contains__", "__iter__", "__getitem__", "__setitem__", "__call__", "__or__", "__ror__", "__and__", "__rand__", "__sub__", "__rsub__", "__xor__", "__rxor__", "__add__", "__radd__", "__init__", "__mul__", "__floordiv__", "__mod__", "__pow__", "__truediv__"]
def nmOf (nms : List Str) (i : Nat) : Str := ((resv ++ nms)[i]?).getD ""
def noList (f : Env → M D) (env : Env) : M D := f env
/-- by a method of both -/
def dundO (C : CallH) (ct : CT) (m : Nat) (op : IH → D → D → Option D) (x y : D) : M D := fun h => match methD ct m h x with
  | some i => if clsAt h x = clsAt h y then (match C i [x, y] h with
    | .ok (.lst _) _ => .bad
    | .ok (.dct _ _ _) _ => .bad
    | q => q) else .bad
  | none => liftH op x y h
def cmpM (C : Cfg) (op : COp) (f : IH → D → D → Option D) : D → D → M D := match op with
  | .inn => inM C.call C.ct 7 false f
  | .nin => inM C.call C.ct 7 true f
  | op => dundO C.call C.ct (cmpN op) f
def eMk (C : Cfg) (c : Nat) (ga : Env → M (List D)) : Env → M D := match (C.ct c).bind fun K => K.init.map fun i => (K, i) with
  | some (K, i) => eMake K.frz c (C.call i) ga
  | none => eNever
def eScall (C : Cfg) (c m : Nat) (ga : Env → M (List D)) : Env → M D := match (C.ct c).bind fun K => K.ss.lookup m with
  | some i => eCall (C.call i) ga
  | none => eNever
mutual
noncomputable def evE (C : Cfg) : Ex → Env → M D
  | .cst d => fun _ => ret d
  | .var i => eVar i
  | .peek i => ePeek i
  | .neg a => eNeg (evE C a)
  | .bin op a b => eOp (binF op) (evE C a) (evE C b)
  | .cmp op a b => eOp (cmpF op) (evE C a) (evE C b)
  | .ix a b => eOp opIx (evE C a) (evE C b)
  | .sl a lo hi => eSl (evE C a) (evO C lo) (evO C hi)
  | .and es => evAnd C es
  | .or es => evOr C es
  | .not a => eNot (toB (evE C a))
  | .tru _ => fun _ _ => .bad
  | .ite c a b => eIf (evC C c) (evE C a) (evE C b)
  | .chain o1 o2 a b c => eChain (cmpF o1) (cmpF o2) (evE C a) (evE C b) (evE C c)
  | .tup es => eTup (evA C es)
  | .lst es => eLst (evA C es)
  | .cell es => eCell (evA C es)
  | .never => eNever
  | .binO op a b => eOpM (dundO C.call C.ct (binN op) (binF op)) (evE C a) (evE C b)
  | .cmpO op a b => eOpM (cmpM C op (cmpF op)) (evE C a) (evE C b)
  | .lenO a => eBltM (lenM C.call C.ct 0) (aCons (evE C a) aNil)
  | .listO a => eBltM (listM C.call C.ct 0) (aCons (evE C a) aNil)
  | .mk c es => eMk C c (evA C es)
  | .attr a e => eAttr C.call C.ct a (evE C e)
  | .meth m o es => eMeth C.call C.ct m (evE C o) (evA C es)
  | .scall c m es => eScall C c m (evA C es)
  | .box e => eBox (evE C e)
  | .dnew t => eDnew t
  | .join o e => eJoin (evE C o) (evE C e)
  | .split o e => eSplit (evE C o) (evE C e)
  | .blt b es => eBlt (bltF b) (evA C es)
  | .isi t a => eIsi C.sub t (evE C a)
  | .call f es => eCall (C.call f) (evA C es)
  | .comp it t ifs elt own => eComp (evI C it) t (evT C ifs) (evE C elt) own
  | .comp2 it t ifs it2 t2 ifs2 elt own vs1 => eComp2 (evI C it) t (evT C ifs) (evI C it2) t2 (evT C ifs2) (evE C elt) own vs1
noncomputable def evC (C : Cfg) : Ex → Env → M Bool
  | .tru a => toT (evE C a)
  | .and es => evCA C es
  | .or es => evCO C es
  | .not a => cNot (evC C a)
  | .cst d => toB fun _ => ret d
  | .var i => toB (eVar i)
  | .cmp op a b => toB (eOp (cmpF op) (evE C a) (evE C b))
  | .ix a b => toB (eOp opIx (evE C a) (evE C b))
  | .chain o1 o2 a b c => toB (eChain (cmpF o1) (cmpF o2) (evE C a) (evE C b) (evE C c))
  | .blt b es => toB (eBlt (bltF b) (evA C es))
  | .isi t a => toB (eIsi C.sub t (evE C a))
  | .never => eNever
  | .cmpO op a b => toB (eOpM (cmpM C op (cmpF op)) (evE C a) (evE C b))
  | .attr a e => toB (eAttr C.call C.ct a (evE C e))
  | .meth m o es => toB (eMeth C.call C.ct m (evE C o) (evA C es))
  | .scall c m es => toB (eScall C c m (evA C es))
  | .call f es => toB (eCall (C.call f) (evA C es))
  | _ => fun _ _ => .bad
noncomputable def evCA (C : Cfg) : Exs → Env → M Bool
  | .nil => fun _ _ => .bad
  | .cons e .nil => evC C e
  | .cons e r => cAnd (evC C e) (evCA C r)
  | .star _ _ => fun _ _ => .bad
noncomputable def evCO (C : Cfg) : Exs → Env → M Bool
  | .nil => fun _ _ => .bad
  | .cons e .nil => evC C e
  | .cons e r => cOr (evC C e) (evCO C r)
  | .star _ _ => fun _ _ => .bad
noncomputable def evAnd (C : Cfg) : Exs → Env → M D
  | .nil => fun _ _ => .bad
  | .cons e .nil => evE C e
  | .cons e r => eAnd (toB (evE C e)) (evAnd C r)
  | .star _ _ => fun _ _ => .bad
noncomputable def evOr (C : Cfg) : Exs → Env → M D
  | .nil => fun _ _ => .bad
  | .cons e .nil => evE C e
  | .cons e r => eOr (toB (evE C e)) (evOr C r)
  | .star _ _ => fun _ _ => .bad
noncomputable def evA (C : Cfg) : Exs → Env → M (List D)
  | .nil => aNil
  | .cons e r => aCons (evE C e) (evA C r)
  | .star e r => aStar (evE C e) (evA C r)
noncomputable def evO (C : Cfg) : Exo → FO
  | .no => none
  | .yes e => some (evE C e)
noncomputable def evT (C : Cfg) : Exo → Env → M Bool
  | .no => tsYes
  | .yes e => evC C e
noncomputable def evI (C : Cfg) : Itr → Env → M (Gd × List D)
  | .seq e => iSeq (evE C e)
  | .range es => iArgs rangeF (evA C es)
  | .zip es => iZip (evA C es)
end
mutual
noncomputable def evS (C : Cfg) : Sm → Env → M RS
  | .set i e => catchX (sSet i (evE C e))
  | .own i e => catchX (sOwn i (evE C e))
  | .tg t e => catchX (sTg t (evE C e))
  | .ixs o i e => catchX (sIx (evE C o) (evE C i) (evE C e))
  | .aug op i e => catchX (sAug (augF op) i (evE C e))
  | .app i e => catchX (sApp i (evE C e))
  | .never => eNever
  | .att a o e => catchX (sAtt C.ct a (evE C o) (evE C e))
  | .appR o e => catchX (sAppR (evE C o) (evE C e))
  | .putO i k e => catchX (sPutO i (evE C k) (evE C e))
  | .attAug op a o e => catchX (sAttAug C.ct (augI op) a (evE C o) (evE C e))
  | .ret e => catchX (sRet (evE C e))
  | .retN => sEnd (.rt .non)
  | .pass => sEnd .nx
  | .brk => sEnd .bk
  | .cont => sEnd .ct
  | .expr e => catchX (sDrop (evE C e))
  | .ite c a b => sIf (evC C c) (evSs C a) (evSs C b)
  | .whl c b => sWhile (evC C c) (evSs C b)
  | .forr it t b => sFor (evI C it) t (evSs C b)
noncomputable def evSs (C : Cfg) : Sms → Env → M RS
  | .nil => sEnd .nx
  | .cons s r => sSeq (evS C s) (evSs C r)
  | .frz i r => fun env => bnd (sFrz i env) fun x => evSs C r x.2
end

/-! ### the checker -/
structure FnE where
  name : Str
  arity : Nat
  top : Bool
/-- what is known where a piece of text stands: the slots' names, the scope as it runs, the block's own names; the constants, the built-ins that are not hidden, the defs -/
structure Sta where
  N : List Str
  sc : Scope
  loc : List (Str × NameKind)
  globs : List (Str × D)
  blts : List Str
  funs : List (Nat × FnE)
  ct : List (Nat × ClsD)
  nms : List Str
def nmOk (x : Str) : Bool := !(x == ("__debug__" : Str)) && !(x == ("__classdict__" : Str)) && decide (x ≠ "__name__")
def visOk (S : Sta) (x : Str) : Bool := match S.sc.names.lookup x with
  | some .local => true | some .cell => true | some .free => true
  | _ => false
def glOk (S : Sta) (x : Str) : Bool := decide (S.sc.names.lookup x = some .globalImplicit)
def tgOk (S : Sta) (x : Str) : Bool := match S.loc.lookup x with
  | some .local => true | some .cell => true
  | _ => false
def slotOk (S : Sta) (i : Nat) (x : Str) : Bool := decide (S.N[i]? = some x)
def bltOk (S : Sta) (x : Str) : Bool := glOk S x && decide (x ∈ S.blts)
def isStar : Expr → Bool
  | .Starred .. => true
  | _ => false
def isSlice : Expr → Bool
  | .Slice .. => true
  | _ => false
def isSet : Expr → Bool
  | .Set .. => true
  | _ => false
def isPeek : Ex → Bool
  | .peek _ => true
  | _ => false
def isFresh : Ex → Bool
  | .bin .add _ _ => true | .sl .. => true | .lst _ => true | .blt .list _ => true | .comp .. => true | .comp2 .. => true | .listO _ => true | .dnew _ => true | .split _ _ => true
  | _ => false
def plainT : Expr → Bool
  | .UnaryOp .Not _ _ => false | .BoolOp .. => false | .IfExp .. => false | .Compare .. => false
  | _ => true
def binP : BOp → Operator → Bool
  | .add, .Add => true | .sub, .Sub => true | .mul, .Mult => true | .fdiv, .FloorDiv => true | .mod, .Mod => true | .pow, .Pow => true | .band, .BitAnd => true | .bor, .BitOr => true | .bxor, .BitXor => true
  | _, _ => false
def cmpP : COp → CmpOp → Bool
  | .eq, .Eq => true | .ne, .NotEq => true | .lt, .Lt => true | .le, .LtE => true | .gt, .Gt => true | .ge, .GtE => true | .inn, .In => true | .nin, .NotIn => true | .isn, .Is => true | .isnn, .IsNot => true
  | _, _ => false
def cstP (S : Sta) (d : D) (e : Expr) : Bool := match e, d with
  | .Constant (.int i) _ _, .int j => decide (i = j)
  | .Constant (.bool i) _ _, .bl j => decide (i = j)
  | .Constant .none _ _, .non => true
  | .Constant (.str x) _ _, .str y => decide (x = ⟨y.toArray⟩ ∧ y.length ≤ 16777216)
  | _, _ => false
def globP (S : Sta) (d : D) (e : Expr) : Bool := match e with
  | .Name x _ => nmOk x && glOk S x && (match S.globs.lookup x with | some c => D.beq c d | none => false)
  | _ => false
def bltNm : Blt → Str
  | .len => "len" | .int => "int" | .str => "str" | .list => "list" | .tuple => "tuple" | .all => "all" | .any => "any"
def bltVal : Blt → Value
  | .len => .builtin "len" | .int => .type "int" | .str => .type "str" | .list => .type "list" | .tuple => .type "tuple" | .all => .builtin "all" | .any => .builtin "any"
def blkS (S : Sta) (scope : Scope) : Sta := { S with sc := relS scope S.sc, loc := scope.names }
def ownP (S : Sta) (own : List Nat) : List (Str × Nat) := own.map fun i => ((S.N[i]?).getD "", i)
def okNs (S : Sta) : List Nat → List Expr → Bool
  | [], [] => true
  | i :: is, .Name x _ :: es => slotOk S i x && tgOk S x && okNs S is es
  | _, _ => false
def okT (S : Sta) (t : Tg) (e : Expr) : Bool := match t, e with
  | .nm i, .Name x _ => slotOk S i x && tgOk S x
  | .tp is, .Tuple es _ _ => okNs S is es
  | _, _ => false
def slotsIn (t : Tg) (own : List Nat) : Bool := t.slots.all fun i => decide (i ∈ own)
/-- a base of an attribute that is asked as it stands -/
def plainBase : Expr → Bool
  | .Call (.Name _ _) [] [] _ => false
  | _ => true
def clsX (S : Sta) (c : Nat) (x : Str) : Bool := nmOk x && glOk S x && (match S.ct.lookup c with | some K => decide (K.x = x) | none => false)
def sameLine (a b : Pos) : Bool := a.endLine == b.line
/-- dunders that are asked of both sides alike -/
def dunOk : COp → Bool
  | .eq => true | .lt => true | .le => true | .gt => true | .ge => true | .inn => true | .nin => true
  | _ => false
def binOk : BOp → Bool
  | .sub => true | .band => true | .bor => true | .bxor => true
  | _ => false
mutual
def okE (S : Sta) : Ex → Expr → Bool
  | .cst d, e => cstP S d e || globP S d e
  | .var i, e => match e with | .Name x _ => nmOk x && slotOk S i x && visOk S x | _ => false
  | .peek i, e => match e with | .Name x _ => nmOk x && slotOk S i x && visOk S x | _ => false
  | .neg a, e => match e with | .UnaryOp .USub x _ => okE S a x && !isPeek a | _ => false
  | .bin op a b, e => match e with | .BinOp x o y _ => binP op o && okE S a x && okE S b y | _ => false
  | .cmp op a b, e => match e with | .Compare x [o] [y] _ => cmpP op o && okE S a x && okE S b y && !behindInMarks o y | _ => false
  | .ix a b, e => match e with | .Subscript x y _ => okE S a x && okE S b y && !isSlice y | _ => false
  | .sl a lo hi, e => match e with | .Subscript x (.Slice l h none _) _ => okE S a x && okO S lo l && okO S hi h | _ => false
  | .and es, e => match e with | .BoolOp .And vs _ => okL S es vs | _ => false
  | .or es, e => match e with | .BoolOp .Or vs _ => okL S es vs | _ => false
  | .not a, e => match e with | .UnaryOp .Not x _ => okE S a x && !isPeek a | _ => false
  | .tru _, _ => false
  | .ite c a b, e => match e with | .IfExp t x y _ => okC S c t && okE S a x && okE S b y && !isPeek a && !isPeek b | _ => false
  | .chain o1 o2 a b c, e => match e with | .Compare x [p, q] [y, z] _ => cmpP o1 p && cmpP o2 q && okE S a x && okE S b y && okE S c z && !lastMarks [p, q] [y, z] | _ => false
  | .tup es, e => match e with | .Tuple vs _ _ => okA S es vs | _ => false
  | .lst es, e => match e with | .List vs _ => okA S es vs | _ => false
  | .cell es, e => match e with | .List vs _ => okA S es vs | _ => false
  | .blt b es, e => match e with | .Call (.Name x _) (v :: vs) [] _ => decide (x = bltNm b) && bltOk S x && okW S es (v :: vs) | _ => false
  | .isi t a, e => match e with
    | .Call (.Name x _) [y, .Name z _] [] _ => decide (x = "isinstance") && bltOk S x && (match t with | .cls c => clsX S c z | t => decide (z = Str.ofString t.nm) && bltOk S z) && okE S a y && !isStar y
    | _ => false
  | .call f es, e => match e with
    | .Call (.Name x _) vs [] _ => nmOk x && glOk S x && (match S.funs.lookup f with | some F => decide (F.name = x) && F.top | none => false) && okA S es vs
    | _ => false
  | .cmpO op a b, e => match e with | .Compare x [o] [y] _ => cmpP op o && dunOk op && okE S a x && okE S b y && !behindInMarks o y | _ => false
  | .attr a o, e => match e with | .Attribute x y _ => decide (y = nmOf S.nms a) && okE S o x && !isPeek o && plainBase x | _ => false
  | .meth m o es, e => match e with
    | .Call (.Attribute x y ap) vs [] cp => decide (y = nmOf S.nms m) && okE S o x && !isPeek o && plainBase x && sameLine ap cp && decide (vs.length < 30) && (vs.all fun v => !isStar v) && okA S es vs
    | _ => false
  | .scall c m es, e => match e with
    | .Call (.Attribute (.Name x _) y ap) vs [] cp => decide (y = nmOf S.nms m) && clsX S c x && sameLine ap cp && decide (vs.length < 30) && (vs.all fun v => !isStar v) && okA S es vs
    | _ => false
  | .never, _ => true
  | .binO op a b, e => match e with | .BinOp x o y _ => binP op o && binOk op && okE S a x && okE S b y | _ => false
  | .lenO a, e => match e with | .Call (.Name x _) [v] [] _ => decide (x = "len") && bltOk S x && okE S a v && !isStar v | _ => false
  | .listO a, e => match e with | .Call (.Name x _) [v] [] _ => decide (x = "list") && bltOk S x && okE S a v && !isStar v | _ => false
  | .mk c es, e => match e with | .Call (.Name x _) vs [] _ => clsX S c x && okA S es vs | _ => false
  | .box a, e => okE S a e && isFresh a
  | .dnew t, e => match e with | .Dict [] [] _ => true | _ => false
  | .join o a, e => match e with
    | .Call (.Attribute x m ap) [v] [] cp => decide (m = "join") && plainBase x && okE S o x && !isPeek o && okE S a v && !isStar v && sameLine ap cp
    | _ => false
  | .split o a, e => match e with
    | .Call (.Attribute x m ap) [v] [] cp => decide (m = "split") && plainBase x && okE S o x && !isPeek o && okE S a v && !isPeek a && !isStar v && sameLine ap cp
    | _ => false
  | .comp it t ifs elt own, e => match e with
    | .ListComp x [⟨tg, iter, fs, 0⟩] scope _ => okI S it tg iter && blkC S.N S.sc scope (ownP S own) && slotsIn t own && okT (blkS S scope) t tg && okF (blkS S scope) ifs fs && okE (blkS S scope) elt x && !isPeek elt && !isSet iter
    | _ => false
  | .comp2 it t ifs it2 t2 ifs2 elt own vs1, e => match e with
    | .ListComp x [⟨tg, iter, fs, 0⟩, ⟨tg2, iter2, fs2, 0⟩] scope _ => okI S it tg iter && blkC S.N S.sc scope (ownP S own) && slotsIn t own && slotsIn t2 vs1 && (vs1.all fun i => decide (i ∈ own)) && okT (blkS S scope) t tg && okF (blkS S scope) ifs fs
        && okI (blkS S scope) it2 tg2 iter2 && okT (blkS S scope) t2 tg2 && okF (blkS S scope) ifs2 fs2 && okE (blkS S scope) elt x && !isPeek elt && !isSet iter && !isSet iter2
    | _ => false
/-- tests -/
def okC (S : Sta) : Ex → Expr → Bool
  | .tru a, e => okE S a e && plainT e
  | .and es, e => match e with | .BoolOp .And vs _ => okCL S es vs | _ => false
  | .or es, e => match e with | .BoolOp .Or vs _ => okCL S es vs | _ => false
  | .not a, e => match e with | .UnaryOp .Not x _ => okC S a x | _ => false
  | .cst d, e => (cstP S d e || globP S d e) && plainT e
  | .var i, e => match e with | .Name x _ => nmOk x && slotOk S i x && visOk S x | _ => false
  | .cmp op a b, e => match e with | .Compare x [o] [y] _ => cmpP op o && okE S a x && okE S b y && !behindInMarks o y | _ => false
  | .ix a b, e => match e with | .Subscript x y _ => okE S a x && okE S b y && !isSlice y | _ => false
  | .chain o1 o2 a b c, e => match e with | .Compare x [p, q] [y, z] _ => cmpP o1 p && cmpP o2 q && okE S a x && okE S b y && okE S c z && !lastMarks [p, q] [y, z] | _ => false
  | .blt b es, e => match e with | .Call (.Name x _) (v :: vs) [] _ => decide (x = bltNm b) && bltOk S x && okW S es (v :: vs) | _ => false
  | .isi t a, e => match e with
    | .Call (.Name x _) [y, .Name z _] [] _ => decide (x = "isinstance") && bltOk S x && (match t with | .cls c => clsX S c z | t => decide (z = Str.ofString t.nm) && bltOk S z) && okE S a y && !isStar y
    | _ => false
  | .call f es, e => match e with
    | .Call (.Name x _) vs [] _ => nmOk x && glOk S x && (match S.funs.lookup f with | some F => decide (F.name = x) && F.top | none => false) && okA S es vs
    | _ => false
  | .cmpO op a b, e => match e with | .Compare x [o] [y] _ => cmpP op o && dunOk op && okE S a x && okE S b y && !behindInMarks o y | _ => false
  | .attr a o, e => match e with | .Attribute x y _ => decide (y = nmOf S.nms a) && okE S o x && !isPeek o && plainBase x | _ => false
  | .meth m o es, e => match e with
    | .Call (.Attribute x y ap) vs [] cp => decide (y = nmOf S.nms m) && okE S o x && !isPeek o && plainBase x && sameLine ap cp && decide (vs.length < 30) && (vs.all fun v => !isStar v) && okA S es vs
    | _ => false
  | .scall c m es, e => match e with
    | .Call (.Attribute (.Name x _) y ap) vs [] cp => decide (y = nmOf S.nms m) && clsX S c x && sameLine ap cp && decide (vs.length < 30) && (vs.all fun v => !isStar v) && okA S es vs
    | _ => false
  | .never, _ => true
  | _, _ => false
def okCL (S : Sta) : Exs → List Expr → Bool
  | .cons e .nil, [x] => okC S e x
  | .cons e r, x :: xs => okC S e x && okCL S r xs
  | _, _ => false
/-- one after the other, values, no star, one at least -/
def okL (S : Sta) : Exs → List Expr → Bool
  | .cons e .nil, [x] => okE S e x && !isPeek e
  | .cons e r, x :: xs => okE S e x && !isPeek e && okL S r xs
  | _, _ => false
/-- arguments: values, stars -/
def okA (S : Sta) : Exs → List Expr → Bool
  | .nil, [] => true
  | .cons e r, x :: xs => okE S e x && !isPeek e && !isStar x && okA S r xs
  | .star e r, .Starred x _ :: xs => okE S e x && okA S r xs
  | _, _ => false
/-- operands, no star -/
def okW (S : Sta) : Exs → List Expr → Bool
  | .nil, [] => true
  | .cons e r, x :: xs => okE S e x && !isStar x && okW S r xs
  | _, _ => false
def okO (S : Sta) : Exo → Option Expr → Bool
  | .no, none => true
  | .yes e, some x => okE S e x && !isPeek e
  | _, _ => false
def okF (S : Sta) : Exo → List Expr → Bool
  | .no, [] => true
  | .yes e, [x] => okC S e x
  | _, _ => false
def okI (S : Sta) : Itr → Expr → Expr → Bool
  | .seq e, _, x => okE S e x && !isPeek e
  | .range es, _, x => match x with | .Call (.Name y _) vs [] _ => decide (y = "range" ∧ (vs.length = 1 ∨ vs.length = 2 ∨ vs.length = 3)) && bltOk S y && okW S es vs | _ => false
  | .zip es, tg, x => match tg, x with | .Tuple .., .Call (.Name y _) [a, b] [] _ => decide (y = "zip") && bltOk S y && okA S es [a, b] && !isStar a && !isStar b | _, _ => false
end
def isLc : Ex → Bool
  | .comp .. => true | .comp2 .. => true
  | _ => false
/-- name = value on the name's line: a comprehension's value is stored within its frame where the name is local -/
def asgOk (S : Sta) (x : Str) (py : Pos) (e : Expr) : Bool := match e with
  | .ListComp _ _ scope p => decide (S.sc.names.lookup x = some .local) && (py.line == p.line) && !(scope.names.any fun (n, k) => n == x && (k == .local || k == .cell))
  | e => !isComp e
mutual
def okS (S : Sta) : Sm → Stmt → Bool
  | .set i e, s => match s with | .Assign [.Name x py] v _ => slotOk S i x && tgOk S x && okE S e v && !isPeek e && asgOk S x py v | _ => false
  | .own i e, s => match s with | .Assign [.Name x py] v _ => slotOk S i x && tgOk S x && okE S e v && isFresh e && asgOk S x py v | _ => false
  | .tg t e, s => match s with | .Assign [.Tuple es k p] v _ => okT S t (.Tuple es k p) && okE S e v && !isPeek e && !isTup v | _ => false
  | .ixs o i e, s => match s with | .Assign [.Subscript x y _] v _ => okE S o x && okE S i y && okE S e v && !isPeek o && !isPeek i && !isPeek e && !isSlice y | _ => false
  | .aug op i e, s => match s with
    | .AugAssign (.Name x _) o v _ => (match op, o with | .add, .Add => true | .sub, .Sub => true | _, _ => false) && slotOk S i x && tgOk S x && okE S e v
    | _ => false
  | .app i e, s => match s with
    | .Expr (.Call (.Attribute (.Name x _) m ap) [v] [] cp) _ => decide (m = "append") && nmOk x && slotOk S i x && visOk S x && okE S e v && !isPeek e && !isStar v && sameLine ap cp
    | _ => false
  | .never, _ => true
  | .att a o e, s => match s with | .Assign [.Attribute x y _] v _ => decide (y = nmOf S.nms a) && okE S o x && !isPeek o && okE S e v && !isPeek e && !isComp v | _ => false
  | .appR o e, s => match s with
    | .Expr (.Call (.Attribute x m ap) [v] [] cp) _ => decide (m = "append") && plainBase x && okE S o x && !isPeek o && okE S e v && !isPeek e && !isStar v && sameLine ap cp
    | _ => false
  | .putO i k e, s => match s with
    | .Assign [.Subscript (.Name x _) y _] v _ => nmOk x && slotOk S i x && visOk S x && okE S k y && !isPeek k && okE S e v && !isPeek e && !isSlice y && !isComp v
    | _ => false
  | .attAug op a o e, s => match s with
    | .AugAssign (.Attribute x y _) p v _ => (match op, p with | .add, .Add => true | .sub, .Sub => true | _, _ => false) && decide (y = nmOf S.nms a) && okE S o x && !isPeek o && okE S e v && !isPeek e
    | _ => false
  | .ret e, s => match s with | .Return (some v) _ => okE S e v && !isPeek e | _ => false
  | .retN, s => match s with | .Return none _ => true | _ => false
  | .pass, s => match s with | .Pass _ => true | _ => false
  | .brk, s => match s with | .Break _ => true | _ => false
  | .cont, s => match s with | .Continue _ => true | _ => false
  | .expr e, s => match s with | .Expr v _ => okE S e v && !isPeek e && !isComp v | _ => false
  | .ite c a b, s => match s with | .If t x y _ => okC S c t && okSs S a x && okSs S b y | _ => false
  | .whl c b, s => match s with | .While t x [] _ => okC S c t && okSs S b x | _ => false
  | .forr it t b, s => match s with | .For tg iter x [] _ => okI S it tg iter && okT S t tg && okSs S b x && !isSet iter | _ => false
def okSs (S : Sta) : Sms → List Stmt → Bool
  | .nil, [] => true
  | .cons s r, x :: xs => okS S s x && okSs S r xs
  | .frz _ r, xs => okSs S r xs
  | _, _ => false
end
end Iv

/-! Iv, part I: what the checker accepts, the model runs as the evaluator says. -/
namespace Iv
open PySem L2
variable {G : GC} {C : Cfg} {k : Nat}

structure Good (G : GC) (S : Sta) (k : Nat) (X : Cx) (E : EK) : Prop where
  hP : X.prog = G.P
  hw : X.w = G.w
  hK : X.K = G.K
  hm : X.mg = G.mg
  hb : X.base = G.base
  hN : X.N = S.N
  nd : S.N.Nodup
  sc : X.env.scope = S.sc
  tg : ∀ x, tgOk S x = true → Loc X.env.scope x ∧ (X.fn x = true ∨ X.env.scope.names.lookup x = some .local)
  calm : X.calm = true
  room : Room (4 * k + 3) X.A
  pass : PassX X E
/-- what is known of a class, all of it -/
structure ClX (G : GC) (c : Nat) (K : ClsD) (CC : Addr) : Prop where
  ok : ClOk G c K CC
  mkr : ∀ i, K.init = some i → Mk G.K CC (G.fa i)
  ss : ∀ m i, K.ss.lookup m = some i → SMet G.K CC (G.nm m) (G.fa i)
  it : ItOk G K CC
  sf : PySem.W.selfFirst G.K CC = true
structure GOk (G : GC) (C : Cfg) (k : Nat) (globs : List (Str × D)) (blts : List Str) (funs : List (Nat × FnE)) (ct : List (Nat × ClsD)) (nms : List Str) : Prop where
  glob : ∀ x d, globs.lookup x = some d → ∃ u v, G.mg x = some u ∧ RelV v u ∧ ∀ W, Rep G W d v
  blt : ∀ x ∈ blts, G.mg x = none
  fn : ∀ i F, funs.lookup i = some F → F.top = true → G.mg F.name = some (.ref (G.fa i)) ∧ PySem.W.keepIn G.K (.ref (G.fa i)) = true
  all : ∀ i, FnI G (4 * k) (G.fa i) (C.call i)
  z : k = 0 → ∀ i ds h K Y, ¬ (C.call i ds h).post K Y
  cls : ∀ c K, ct.lookup c = some K → ∃ CC, ClX G c K CC
  ctE : ∀ c, C.ct c = ct.lookup c
  cin : ∀ c CC ns, G.cls c = some (CC, ns) → PySem.W.selfFirst G.K CC = true
  sub : C.sub = G.sub
  ck : CK G
  nm : G.nm = nmOf nms
abbrev GS (G : GC) (C : Cfg) (k : Nat) (S : Sta) : Prop := GOk G C k S.globs S.blts S.funs S.ct S.nms
theorem GOk.ct {globs : List (Str × D)} {blts : List Str} {funs : List (Nat × FnE)} {ct : List (Nat × ClsD)} {nms : List Str} (h : GOk G C k globs blts funs ct nms) : CtOk G C.ct := fun c K e => by
  rw [h.ctE] at e
  obtain ⟨CC, x⟩ := h.cls c K e
  exact ⟨CC, x.ok⟩
theorem Good.hd {S : Sta} {X : Cx} {E : EK} (g : Good G S k X E) : Hd G X := ⟨g.hP, g.hw, g.hK, g.hm, g.hb⟩

structure SE (G : GC) (C : Cfg) (X : Cx) (E : EK) (pe : Expr) (e : Ex) : Prop where
  val : isPeek e = false → PE X pe (tR G (rrE G) E (evE C e))
  opd : PE X pe (tR G (rrO G) E (evE C e))
  fr : isFresh e = true → PE X pe (tR G (rrF G) E (evE C e))
section
variable {X : Cx} {E : EK} {pe : Expr} {e : Ex} {S : Sta}
theorem plain_true (h : plainT pe = true) (env : PySem.Env) : ∀ whole, isTrue pe env whole = (do let v ← whole; standAt pe.pos; holding [v] (truthy v)) := by
  intro whole
  cases pe with
  | UnaryOp op x p => cases op <;> first | rfl | exact Bool.noConfusion (show false = true from h)
  | BoolOp => exact Bool.noConfusion (show false = true from h)
  | IfExp => exact Bool.noConfusion (show false = true from h)
  | Compare => exact Bool.noConfusion (show false = true from h)
  | _ => rfl
theorem SE.ofVp (hf : isFresh e = false) (h : PE X pe (tR G (rrE G) E (evE C e))) : SE G C X E pe e :=
  ⟨fun _ => h, pe_E2O h, fun z => by rw [hf] at z; exact Bool.noConfusion z⟩
theorem SE.ofF (h : PE X pe (tR G (rrF G) E (evE C e))) : SE G C X E pe e := ⟨fun _ => pe_F2E h, pe_E2O (pe_F2E h), fun _ => h⟩
theorem Good.slot (g : Good G S k X E) {i : Nat} {x : Str} (h : slotOk S i x = true) : X.N[i]? = some x := by rw [g.hN]; exact of_decide_eq_true h
theorem Good.vis (g : Good G S k X E) {x : Str} (h : visOk S x = true) : Vis X.env.scope x := by
  unfold Vis
  rw [g.sc]
  unfold visOk at h
  split at h
  · exact .inl (by assumption)
  · exact .inr (.inl (by assumption))
  · exact .inr (.inr (by assumption))
  · cases h
theorem Good.gl (g : Good G S k X E) {x : Str} (h : glOk S x = true) : Gl X x := by
  show X.env.scope.names.lookup x = some .globalImplicit
  rw [g.sc]; exact of_decide_eq_true h
theorem nmOk_of {x : Str} (h : nmOk x = true) : (x == ("__debug__" : Str)) = false ∧ (x == ("__classdict__" : Str)) = false ∧ x ≠ "__name__" := by
  simp only [nmOk, Bool.and_eq_true, Bool.not_eq_true', decide_eq_true_eq] at h
  exact ⟨h.1.1, h.1.2, h.2⟩
theorem Good.blt (g : Good G S k X E) (hG : GS G C k S) {x : Str} (h : bltOk S x = true) : Gl X x ∧ X.mg x = none := by
  simp only [bltOk, Bool.and_eq_true, decide_eq_true_eq] at h
  exact ⟨g.gl h.1, by rw [g.hm]; exact hG.blt x h.2⟩
theorem Good.hu (g : Good G S k X E) : X.A.units + 70 < cLine := by have := g.room.un; omega
theorem Good.rm (g : Good G S k X E) {j : Nat} (h : j ≤ 4 * k + 3) : Room j X.A := g.room.mono h
theorem noStar {x : Expr} (h : isStar x = false) : ∀ a p, x ≠ .Starred a p := fun a p e => by rw [e] at h; cases h
theorem noSlice {x : Expr} (h : isSlice x = false) : ∀ a b c p, x ≠ .Slice a b c p := fun a b c p e => by rw [e] at h; cases h
theorem noSet {x : Expr} (h : isSet x = false) : ∀ a b p, x ≠ .Set a b p := fun a b p e => by rw [e] at h; cases h
theorem plainIx {x : Expr} (h : isSlice x = false) : PlainIx x := by
  intro o i
  cases x <;> first
    | rfl
    | exact Bool.noConfusion (show true = false from h)
theorem bin_sem (g : Good G S k X E) {op : BOp} {o : Operator} (h : binP op o = true) : (op = .add ∧ OpR X (binaryOp o) (rAdd G.K) ∧ OpSem G (rrF G) (rAdd G.K) (binF op)) ∨ (op ≠ .add ∧ ∃ r, OpR X (binaryOp o) r ∧ OpSem G (rrE G) r (binF op)) := by
  cases op <;> cases o <;> first | exact Bool.noConfusion (show false = true from h) | skip
  · exact .inl ⟨rfl, by rw [← g.hK]; exact op_addA, sem_add⟩
  · exact .inr ⟨by simp, _, op_sub, sem_sub⟩
  · exact .inr ⟨by simp, _, op_mul, sem_mul⟩
  · exact .inr ⟨by simp, _, op_fdiv, sem_fdiv⟩
  · exact .inr ⟨by simp, _, op_mod, sem_mod⟩
  · exact .inr ⟨by simp, _, op_pow, sem_pow⟩
  · exact .inr ⟨by simp, _, op_and, sem_and⟩
  · exact .inr ⟨by simp, fun _ _ _ _ => False, fun _ _ _ _ _ _ _ _ _ _ _ _ z => z.elim, fun _ _ _ _ _ _ _ _ _ _ _ _ e => by cases e⟩
  · exact .inr ⟨by simp, fun _ _ _ _ => False, fun _ _ _ _ _ _ _ _ _ _ _ _ z => z.elim, fun _ _ _ _ _ _ _ _ _ _ _ _ e => by cases e⟩
theorem cmp_sem (g : Good G S k X E) {op : COp} {o : CmpOp} (h : cmpP op o = true) : ∃ r, OpR X (compareOp o) r ∧ OpSem G (rrE G) r (cmpF op) := by
  have hu := g.hu
  cases op <;> cases o <;> first | exact Bool.noConfusion (show false = true from h) | skip
  · exact ⟨_, by rw [← g.hK]; exact op_eqP hu, sem_eq⟩
  · exact ⟨_, by rw [← g.hK]; exact op_neP hu, sem_ne⟩
  · exact ⟨_, by rw [← g.hK]; exact op_ord .Lt rfl hu, sem_ord .Lt⟩
  · exact ⟨_, by rw [← g.hK]; exact op_ord .LtE rfl hu, sem_ord .LtE⟩
  · exact ⟨_, by rw [← g.hK]; exact op_ord .Gt rfl hu, sem_ord .Gt⟩
  · exact ⟨_, by rw [← g.hK]; exact op_ord .GtE rfl hu, sem_ord .GtE⟩
  · exact ⟨_, by rw [← g.hK]; exact op_inAD hu, sem_in⟩
  · exact ⟨_, by rw [← g.hK]; exact op_ninAD hu, sem_nin⟩
  · exact ⟨_, op_isN, sem_isN⟩
  · exact ⟨_, op_notN, sem_isnN⟩
theorem cst_pe {d : D} (h : cstP S d pe = true) : PE X pe (tR G (rrE G) E fun _ => ret d) := by
  unfold cstP at h
  split at h
  · have := of_decide_eq_true h; subst this; exact pev_cst pe_int fun W => .int _
  · have := of_decide_eq_true h; subst this; exact pev_cst pe_bl fun W => .bl _
  · exact pev_cst pe_non fun W => .non
  · have q := of_decide_eq_true h
    obtain ⟨e, z⟩ := q
    subst e
    exact pev_cst pe_str fun W => .str _ (by rw [sizeLine_eq]; exact z)
  · cases h
theorem glob_pe (g : Good G S k X E) (hG : GS G C k S) {d : D} (h : globP S d pe = true) : PE X pe (tR G (rrE G) E fun _ => ret d) := by
  unfold globP at h
  split at h
  · rename_i x pos
    simp only [Bool.and_eq_true] at h
    obtain ⟨⟨h1, h2⟩, h3⟩ := h
    split at h3
    · rename_i c hc
      have e := D.beq_eq h3
      subst e
      obtain ⟨u, v, m, r, rr⟩ := hG.glob x c hc
      exact pev_cst (pe_glob (g.gl h2) (by rw [g.hm]; exact m) r (nmOk_of h1).1) rr
    · cases h3
  · cases h
theorem cst_plain {d : D} (h : cstP S d pe = true ∨ globP S d pe = true) : plainT pe = true := by
  rcases h with h | h
  · unfold cstP at h
    split at h <;> first | rfl | cases h
  · unfold globP at h
    split at h
    · rfl
    · cases h
theorem Good.blk (g : Good G S k X E) {scope : Scope} {own : List Nat} (hb : blkC S.N S.sc scope (ownP S own) = true) (s : Shared) (H : Hp) (A : Addr) (cl : List (Str × Addr)) (fp : List Addr) :
    Good G (blkS S scope) k (X.blk s H scope (compEnvC scope cl A X.env) fp) EN1 := by
  have e : (compEnvC scope cl A X.env).scope = relS scope S.sc := by
    rw [← g.sc]; rfl
  refine ⟨g.hP, g.hw, g.hK, g.hm, g.hb, g.hN, g.nd, e, fun x h => ?_, g.calm, g.room, fun σ pins H s e s' I c => passL pins σ H s e s' I c⟩
  unfold tgOk at h
  have h : (match scope.names.lookup x with | some .local => true | some .cell => true | _ => false) = true := h
  show Loc (compEnvC scope cl A X.env).scope x ∧ ((scope.names.lookup x == some NameKind.cell) = true ∨ (compEnvC scope cl A X.env).scope.names.lookup x = some .local)
  rw [e]
  split at h
  · rename_i q
    have z : (relS scope S.sc).names.lookup x = some .local := lookup_relS_keep (by decide) q
    exact ⟨.inl z, .inr z⟩
  · rename_i q
    have z : (relS scope S.sc).names.lookup x = some .cell := lookup_relS_keep (by decide) q
    exact ⟨.inr z, .inl (by rw [q]; rfl)⟩
  · cases h
theorem ownP_snd (own : List Nat) : (ownP S own).map (·.2) = own := by
  unfold ownP
  rw [List.map_map]
  exact List.map_id' own
theorem okNs_of (g : Good G S k X E) : ∀ {is : List Nat} {es : List Expr}, okNs S is es = true → Nms X es is
  | [], [], _ => .nil
  | [], _ :: _, h => by simp [okNs] at h
  | i :: is, [], h => by simp [okNs] at h
  | i :: is, e :: es, h => by
    cases e <;> simp only [okNs, Bool.false_eq_true, Bool.and_eq_true] at h
    obtain ⟨⟨h1, h2⟩, h3⟩ := h
    obtain ⟨a, b⟩ := g.tg _ h2
    exact .cons (g.slot h1) a b (okNs_of g h3)
theorem okT_of (g : Good G S k X E) {t : Tg} {e : Expr} (h : okT S t e = true) : PG X e (gTr G t) := by
  have hN : X.N.Nodup := by rw [g.hN]; exact g.nd
  unfold okT at h
  split at h
  · simp only [Bool.and_eq_true] at h
    obtain ⟨a, b⟩ := g.tg _ h.2
    exact pgv_name hN (g.slot h.1) a b
  · exact pgv_tup g.hK g.calm hN (okNs_of g h)
  · cases h
theorem blt_name (b : Blt) : nmOk (bltNm b) = true ∧ bootBuiltins (bltNm b) = some (bltVal b) := by
  cases b <;> decide +kernel
theorem clsX_of (g : Good G S k X E) (hG : GS G C k S) {c : Nat} {x : Str} (h : clsX S c x = true) : ∃ K CC, C.ct c = some K ∧ ClX G c K CC ∧ Gl X x ∧ X.mg x = some (.ref CC) ∧ (x == ("__debug__" : Str)) = false := by
  simp only [clsX, Bool.and_eq_true] at h
  obtain ⟨⟨h1, h2⟩, h3⟩ := h
  split at h3
  · rename_i K hK
    have e := of_decide_eq_true h3
    subst e
    obtain ⟨CC, x⟩ := hG.cls c K hK
    exact ⟨K, CC, by rw [hG.ctE]; exact hK, x, g.gl h2, by rw [g.hm]; exact x.ok.glo, (nmOk_of h1).1⟩
  · cases h3
theorem base_of {x : Expr} (h : plainBase x = true) (f : Str) (env : PySem.Env) : attributeBase x f env (eval x env) = eval x env := by
  unfold plainBase at h
  unfold attributeBase
  split at h
  · cases h
  · rename_i hn
    split
    · rename_i id p pos
      exact absurd rfl (hn _ _ _)
    · rfl
theorem all_star {vs : List Expr} (h : (vs.all fun v => !isStar v) = true) : ∀ u ∈ vs, ∀ a p, u ≠ .Starred a p := fun u hu => noStar (by have := List.all_eq_true.mp h u hu; cases c : isStar u <;> simp [c] at this ⊢)
theorem few_of {vs : List Expr} {pos : Pos} {env : PySem.Env} (h : ∀ u ∈ vs, ∀ a p, u ≠ .Starred a p) : (backTo pos (starEach vs env)).all (fun x => !x.1) = true := by
  induction vs with
  | nil => rfl
  | cons v vs ih =>
    rw [starEach_cons fun a p => h v List.mem_cons_self a p]
    exact ih fun u hu => h u (List.mem_cons_of_mem _ hu)
theorem meth_ht {o : Expr} {m : Str} {vs : List Expr} {apos pos : Pos} (hb : plainBase o = true) (hs : ∀ u ∈ vs, ∀ a p, u ≠ .Starred a p) (hl : sameLine apos pos = true) (hn : vs.length < 30) :
    eval (.Call (.Attribute o m apos) vs [] pos) X.env = (do
      let ov ← eval o X.env
      standAt apos.atName
      let (f, first) ← holding [ov] (getMethod ov m (do return (← importBound o X.env).getD true))
      callWith pos f first (backTo pos (starEach vs X.env)) (backToKw pos (keywordEach [] X.env))) := by
  have hf : methodCallForm (vs.length + ([] : List Keyword).length) (backTo pos (starEach vs X.env)) (backToKw pos (keywordEach [] X.env)) = true := by
    unfold methodCallForm
    rw [few_of hs]
    show (true && true && decide (vs.length + 0 + 0 < 30)) = true
    simp; omega
  have hl : (apos.endLine == pos.line) = true := hl
  rw [arm_eval_Call, base_of hb]
  unfold methodCall calleeOf methodCallPos
  rw [hf]
  simp only [hl, if_true, Bool.not_true, Bool.false_or]
  rfl
/-- a comparison by a method of both -/
theorem cmpO_sem (g : Good G S k X E) (hG : GS G C k S) {op : COp} {o : CmpOp} (h : cmpP op o = true) (hd : dunOk op = true) : ∃ r : St → R2, OpRS X (compareOp o) r ∧ ∀ σ, OpSemM G (E σ) (rrE G) (r σ) (cmpM C op (cmpF op)) := by
  obtain ⟨r, o1, s1⟩ := cmp_sem g h
  have nn : ∀ i, i < 28 → G.nm i = (resv[i]?).getD ("" : Str) := fun i hi => by
    rw [hG.nm]
    unfold nmOf
    rw [List.getElem?_append_left (show i < resv.length from hi)]
  have rm : Room (4 * k) X.A := g.rm (by omega)
  have main : ∀ m, (cmpM C op (cmpF op) = dundO C.call C.ct m (cmpF op)) → (cmpInfo o).2.1 = G.nm m → (o = .Eq ∨ o = .Lt ∨ o = .LtE ∨ o = .Gt ∨ o = .GtE) → ∃ r : St → R2, OpRS X (compareOp o) r ∧ ∀ σ, OpSemM G (E σ) (rrE G) (r σ) (cmpM C op (cmpF op)) := fun m e1 e2 e3 => by
    rw [e1]
    refine ⟨_, fun pins s σ H x y v u Q I rx ry q => ?_, fun σ => sem_opM (X := X) (E := E σ) g.hd hG.ct hG.cin hG.all rm s1 fun _ _ _ _ _ _ r _ _ => r⟩
    rcases q with q | q
    · exact o1 pins s σ H x y v u Q I rx ry q
    · rw [← g.hK] at q
      exact op_cmpO g.pass (m := G.nm m) g.room.units0 e2 e3 pins s σ H x y v u Q I rx ry q
  have main2 : ∀ neg : Bool, (cmpM C op (cmpF op) = inM C.call C.ct 7 neg (cmpF op)) → o = (if neg then .NotIn else .In) → ∃ r : St → R2, OpRS X (compareOp o) r ∧ ∀ σ, OpSemM G (E σ) (rrE G) (r σ) (cmpM C op (cmpF op)) := fun neg e1 e2 => by
    rw [e1]
    refine ⟨_, fun pins s σ H x y v u Q I rx ry q => ?_, fun σ => sem_inM (X := X) (E := E σ) g.hd (nn 7 (by omega)) hG.ct hG.all rm s1⟩
    rcases q with q | q
    · exact o1 pins s σ H x y v u Q I rx ry q
    · rw [← g.hK] at q
      subst e2
      cases neg with
      | false => exact op_inO g.pass pins s σ H x y v u Q I rx ry q
      | true => exact op_ninO g.pass pins s σ H x y v u Q I rx ry q
  cases op <;> cases o <;> first | exact Bool.noConfusion (show false = true from h) | exact Bool.noConfusion (show false = true from hd) | skip
  · exact main 1 rfl (nn 1 (by omega)).symm (.inl rfl)
  · exact main 3 rfl (nn 3 (by omega)).symm (.inr (.inl rfl))
  · exact main 4 rfl (nn 4 (by omega)).symm (.inr (.inr (.inl rfl)))
  · exact main 5 rfl (nn 5 (by omega)).symm (.inr (.inr (.inr (.inl rfl))))
  · exact main 6 rfl (nn 6 (by omega)).symm (.inr (.inr (.inr (.inr rfl))))
  · exact main2 false rfl rfl
  · exact main2 true rfl rfl
theorem binO_sem (g : Good G S k X E) (hG : GS G C k S) {op : BOp} {o : Operator} (h : binP op o = true) (hd : binOk op = true) : ∃ r : St → R2, OpRS X (binaryOp o) r ∧ ∀ σ, OpSemM G (E σ) (rrE G) (r σ) (dundO C.call C.ct (binN op) (binF op)) := by
  rcases bin_sem g h with ⟨e, _, _⟩ | ⟨_, r, o1, s1⟩
  · subst e; cases hd
  have nn : ∀ i, i < 28 → G.nm i = (resv[i]?).getD ("" : Str) := fun i hi => by
    rw [hG.nm]
    unfold nmOf
    rw [List.getElem?_append_left (show i < resv.length from hi)]
  have rm : Room (4 * k) X.A := g.rm (by omega)
  have e2 : PySem.dunder o.info.2 = G.nm (binN op) := by
    cases op <;> cases o <;> first | exact Bool.noConfusion (show false = true from h) | exact Bool.noConfusion (show false = true from hd) | skip
    · rw [nn _ (by decide)]; decide +kernel
    · rw [nn _ (by decide)]; decide +kernel
    · rw [nn _ (by decide)]; decide +kernel
    · rw [nn _ (by decide)]; decide +kernel
  refine ⟨_, fun pins s σ H x y v u Q I rx ry q => ?_, fun σ => sem_opM (X := X) (E := E σ) g.hd hG.ct hG.cin hG.all rm s1 fun _ _ _ _ _ _ r _ _ => r⟩
  rcases q with q | q
  · exact o1 pins s σ H x y v u Q I rx ry q
  · rw [← g.hK] at q
    exact op_binO g.pass e2 pins s σ H x y v u Q I rx ry q
end
end Iv

/-! Iv, part J: the checker is sound, expressions. -/
namespace Iv
open PySem L2
variable {G : GC} {C : Cfg} {k : Nat}

theorem not_true {b : Bool} (h : (!b) = true) : b = false := by cases b <;> first | rfl | cases h
theorem bin_fresh {op : BOp} {a b : Ex} (h : op ≠ .add) : isFresh (.bin op a b) = false := by cases op <;> first | rfl | exact absurd rfl h
theorem slots_of {t : Tg} {own : List Nat} (h : slotsIn t own = true) : ∀ i ∈ t.slots, i ∈ own := fun i hi => of_decide_eq_true (List.all_eq_true.mp h i hi)
theorem pt_ofB {X : Cx} {e : Expr} {E : EK} {ev : Env → M D} (h : PE X e (tR G (rrE G) E ev)) (he : plainT e = true) : PT X e (tTr G E (toB ev)) := ptv_val h (plain_true he _)
theorem evAnd2 (e : Ex) (e2 : Ex) (r : Exs) : evAnd C (.cons e (.cons e2 r)) = eAnd (toB (evE C e)) (evAnd C (.cons e2 r)) := rfl
theorem evOr2 (e : Ex) (e2 : Ex) (r : Exs) : evOr C (.cons e (.cons e2 r)) = eOr (toB (evE C e)) (evOr C (.cons e2 r)) := rfl

theorem evA_len {S : Sta} : ∀ {es : Exs} {pes : List Expr} {env : Env} {h h' : IH} {ds : List D}, okW S es pes = true → evA C es env h = .ok ds h' → ds.length = pes.length
  | .nil, [], env, h, h', ds, _, e => by cases e; rfl
  | .nil, _ :: _, _, _, _, _, q, _ => by simp [okW] at q
  | .cons e r, [], _, _, _, _, q, _ => by simp [okW] at q
  | .star e r, pes, _, _, _, _, q, _ => by simp [okW] at q
  | .cons e r, x :: pes, env, h, h', ds, q, z => by
    rw [okW] at q
    simp only [Bool.and_eq_true] at q
    have z : bnd (evE C e env) (fun d => bnd (evA C r env) fun ds => ret (d :: ds)) h = .ok ds h' := z
    unfold bnd at z
    cases c : evE C e env h with
    | bad => rw [c] at z; cases z
    | ex => rw [c] at z; cases z
    | ok d h1 =>
      rw [c] at z
      have z : bnd (evA C r env) (fun ds => ret (d :: ds)) h1 = .ok ds h' := z
      unfold bnd at z
      cases c2 : evA C r env h1 with
      | bad => rw [c2] at z; cases z
      | ex => rw [c2] at z; cases z
      | ok ds2 h2 =>
        rw [c2] at z
        cases z
        rw [List.length_cons, List.length_cons, evA_len q.2 c2]
theorem bnd_def {α β : Type} (m : M α) (f : α → M β) (h : IH) : bnd m f h = (match m h with | .ok a h' => f a h' | .ex c fs h' => .ex c fs h' | .bad => .bad) := rfl
theorem rangeF_as {S : Sta} {es : Exs} {vs : List Expr} {n : Nat} {f : List D → Option (List D)} (ok : okW S es vs = true) (hn : vs.length = n) (hf : ∀ ds : List D, ds.length = n → rangeF ds = f ds) : iArgs rangeF (evA C es) = iArgs f (evA C es) := by
  funext env h
  show bnd (evA C es env) (fun ds => bnd (lftNs rangeF ds) fun xs => ret (none, xs)) h = bnd (evA C es env) (fun ds => bnd (lftNs f ds) fun xs => ret (none, xs)) h
  rw [bnd_def, bnd_def]
  cases c : evA C es env h with
  | bad => rfl
  | ex => rfl
  | ok ds h1 =>
    show bnd (lftNs rangeF ds) _ h1 = bnd (lftNs f ds) _ h1
    rw [bnd_def, bnd_def]
    unfold lftNs
    rw [hf (ds.map (drf h1)) (by rw [List.length_map]; exact (evA_len ok c).trans hn)]
theorem pivv_range {X : Cx} {E : EK} {tg : Expr} {vs : List Expr} {p pos : Pos} {S : Sta} {es : Exs} (hg : Gl X "range") (hm : X.mg "range" = none) (ha : PA X vs (tOr G E (evA C es))) (hn : ∀ u ∈ vs, ∀ a p, u ≠ .Starred a p) (ok : okW S es vs = true)
    (hl : vs.length = 1 ∨ vs.length = 2 ∨ vs.length = 3) : PI X tg (.Call (.Name "range" p) vs [] pos) (tIr G E (iArgs rangeF (evA C es))) := by
  rcases hl with hl | hl | hl
  · match vs, hl with
    | [a], _ =>
      rw [rangeF_as ok rfl (f := range1) fun ds h => match ds, h with | [_], _ => rfl]
      exact pivv_range1 hg hm ha (hn a (by simp))
  · match vs, hl with
    | [a, b], _ =>
      rw [rangeF_as ok rfl (f := range2) fun ds h => match ds, h with | [_, _], _ => rfl]
      exact pivv_range2 hg hm ha (hn a (by simp)) (hn b (by simp))
  · match vs, hl with
    | [a, b, c], _ =>
      rw [rangeF_as ok rfl (f := range3) fun ds h => match ds, h with | [_, _, _], _ => rfl]
      exact pivv_range3 hg hm ha (hn a (by simp)) (hn b (by simp)) (hn c (by simp))
theorem evCA2 (e : Ex) (e2 : Ex) (r : Exs) : evCA C (.cons e (.cons e2 r)) = cAnd (evC C e) (evCA C (.cons e2 r)) := rfl
theorem evCO2 (e : Ex) (e2 : Ex) (r : Exs) : evCO C (.cons e (.cons e2 r)) = cOr (evC C e) (evCO C (.cons e2 r)) := rfl
theorem it_all {S : Sta} (hG : GS G C k S) : ∀ c K CC, C.ct c = some K → ClOk G c K CC → ItOk G K CC := fun c K CC e ok => by
  rw [hG.ctE] at e
  obtain ⟨C2, x⟩ := hG.cls c K e
  have := x.ok.at_
  rw [ok.at_] at this
  cases this
  exact x.it
theorem mk_pe {S : Sta} {X : Cx} {E : EK} (g : Good G S k X E) (hG : GS G C k S) {c : Nat} {x : Str} {vs : List Expr} {ga : Env → M (List D)} {p pos : Pos} (h : clsX S c x = true) (ha : CW X vs (tAr G E ga)) :
    PE X (.Call (.Name x p) vs [] pos) (tR G (rrE G) E (eMk C c ga)) := by
  obtain ⟨K, CC, e, x, q3, q4, q5⟩ := clsX_of g hG h
  unfold eMk
  rw [e]
  cases q : K.init with
  | none => simp only [q, Option.bind_some, Option.map_none]; exact pev_never
  | some i =>
    simp only [q, Option.bind_some, Option.map_some]
    exact pev_make g.hd (hG.all i) (g.rm (by omega)) g.pass x.ok.at_ (by rw [g.hK]; exact x.mkr i q) q3 q4 q5 ha
theorem scall_pe {S : Sta} {X : Cx} {E : EK} (g : Good G S k X E) (hG : GS G C k S) {c m : Nat} {x : Str} {vs : List Expr} {ga : Env → M (List D)} {p apos pos : Pos} {pl : Sem Bool} (h : clsX S c x = true) (ha : CW X vs (tAr G E ga))
    (ht : eval (.Call (.Attribute (.Name x p) (G.nm m) apos) vs [] pos) X.env = (do
      let ov ← eval (.Name x p) X.env
      standAt apos.atName
      let (f, first) ← holding [ov] (getMethod ov (G.nm m) pl)
      callWith pos f first (backTo pos (starEach vs X.env)) (backToKw pos (keywordEach [] X.env)))) :
    PE X (.Call (.Attribute (.Name x p) (G.nm m) apos) vs [] pos) (tR G (rrE G) E (eScall C c m ga)) := by
  obtain ⟨K, CC, e, x, q3, q4, q5⟩ := clsX_of g hG h
  unfold eScall
  rw [e]
  cases q : K.ss.lookup m with
  | none => simp only [q, Option.bind_some]; exact pev_never
  | some i =>
    simp only [q, Option.bind_some]
    exact pev_scall g.hd (hG.all i) (g.rm (by omega)) g.pass (by rw [g.hK]; exact x.ss m i q) q3 q4 q5 ha ht
theorem cw_starx {X : Cx} {E : EK} {e : Expr} {es : List Expr} {p : Pos} {f : Env → M D} {g : Env → M (List D)} (hK : X.K = G.K) (he : PE X e (tR G (rrO G) E f)) (hs : PA X es (tAr G E g)) (hn : es = [] → g = aNil) : CW X (.Starred e p :: es) (tAr G E (aStar f g)) := by
  cases es with
  | nil => rw [hn rfl]; exact cw_lone hK he
  | cons x xs => exact cw_of (pav_star hK he hs) rfl
theorem isi_pe {S : Sta} {X : Cx} {E : EK} (g : Good G S k X E) (hG : GS G C k S) {t : Ty} {x z : Str} {y : Expr} {p p2 pos : Pos} {f : Env → M D} (h0 : x = "isinstance") (h1 : bltOk S x = true) (h2 : (match t with | .cls c => clsX S c z | t => decide (z = Str.ofString t.nm) && bltOk S z) = true)
    (ha : PE X y (tR G (rrO G) E f)) (hn : ∀ b q, y ≠ .Starred b q) : PE X (.Call (.Name x p) [y, .Name z p2] [] pos) (tR G (rrE G) E (eIsi C.sub t f)) := by
  subst h0
  obtain ⟨q1, q2⟩ := g.blt hG h1
  rw [hG.sub]
  have go : (∀ c, t ≠ .cls c) → (decide (z = Str.ofString t.nm) && bltOk S z) = true → PE X (.Call (.Name "isinstance" p) [y, .Name z p2] [] pos) (tR G (rrE G) E (eIsi G.sub t f)) := fun n h => by
    rw [Bool.and_eq_true, decide_eq_true_eq] at h
    obtain ⟨h, h3⟩ := h
    subst h
    obtain ⟨q3, q4⟩ := g.blt hG h3
    have ht : bootBuiltins (Str.ofString t.nm) = some (.type t.nm) ∧ (Str.ofString t.nm) ≠ "__name__" ∧ (Str.ofString t.nm == ("__debug__" : Str)) = false := by
      cases t <;> first | (decide +kernel) | exact absurd rfl (n _)
    exact pev_isi hG.ck n g.hK q1 q2 q3 q4 ht.1 ht.2.1 ht.2.2 ha hn
  cases t with
  | cls c =>
    obtain ⟨K, CC, e, x, q3, q4, q5⟩ := clsX_of g hG h2
    exact pev_isiC hG.ck x.ok.at_ g.hK q1 q2 q3 q4 q5 ha hn
  | int => exact go (by simp) h2
  | bool => exact go (by simp) h2
  | str => exact go (by simp) h2
  | tuple => exact go (by simp) h2
  | list => exact go (by simp) h2
mutual
theorem sE : ∀ (e : Ex) (S : Sta) (X : Cx) (E : EK) (pe : Expr), okE S e pe = true → Good G S k X E → GS G C k S → SE G C X E pe e
  | .cst d, S, X, E, pe, h, g, hG => by
    rw [okE, Bool.or_eq_true] at h
    refine .ofVp rfl ?_
    rcases h with h | h
    · exact cst_pe h
    · exact glob_pe g hG h
  | .var i, S, X, E, pe, h, g, hG => by
    unfold okE at h
    split at h
    · simp only [Bool.and_eq_true] at h
      obtain ⟨⟨h1, h2⟩, h3⟩ := h
      obtain ⟨n1, n2, _⟩ := nmOk_of h1
      exact .ofVp rfl (pev_var (g.slot h2) (g.vis h3) n1 n2)
    · cases h
  | .peek i, S, X, E, pe, h, g, hG => by
    unfold okE at h
    split at h
    · simp only [Bool.and_eq_true] at h
      obtain ⟨⟨h1, h2⟩, h3⟩ := h
      obtain ⟨n1, n2, _⟩ := nmOk_of h1
      exact ⟨fun z => Bool.noConfusion z, pev_peek (g.slot h2) (g.vis h3) n1 n2, fun z => Bool.noConfusion z⟩
    · cases h
  | .bin op a b, S, X, E, pe, h, g, hG => by
    unfold okE at h
    split at h
    · simp only [Bool.and_eq_true] at h
      obtain ⟨⟨h1, h2⟩, h3⟩ := h
      have ha := (sE a S X E _ h2 g hG).opd
      have hb := (sE b S X E _ h3 g hG).opd
      rcases bin_sem g h1 with ⟨e, o, s⟩ | ⟨n, r, o, s⟩
      · subst e
        exact .ofF (pev_op upF o s ha hb)
      · exact .ofVp (bin_fresh n) (pev_op upE o s ha hb)
    · cases h
  | .cmp op a b, S, X, E, pe, h, g, hG => by
    unfold okE at h
    split at h
    · simp only [Bool.and_eq_true] at h
      obtain ⟨⟨⟨h1, h2⟩, h3⟩, h4⟩ := h
      have ha := (sE a S X E _ h2 g hG).opd
      have hb := (sE b S X E _ h3 g hG).opd
      obtain ⟨r, o, s⟩ := cmp_sem g h1
      exact .ofVp rfl (pev_cmp o s ha hb (not_true h4))
    · cases h
  | .ix a b, S, X, E, pe, h, g, hG => by
    unfold okE at h
    split at h
    · simp only [Bool.and_eq_true] at h
      obtain ⟨⟨h1, h2⟩, h3⟩ := h
      have ha := (sE a S X E _ h1 g hG).opd
      have hb := (sE b S X E _ h2 g hG).opd
      exact .ofVp rfl (pev_ix (by rw [← g.hK]; exact ix_all g.hu) sem_ix ha hb (plainIx (not_true h3)))
    · cases h
  | .sl a lo hi, S, X, E, pe, h, g, hG => by
    unfold okE at h
    split at h
    · simp only [Bool.and_eq_true] at h
      obtain ⟨⟨h1, h2⟩, h3⟩ := h
      exact .ofF (pev_sl g.hK (sE a S X E _ h1 g hG).opd (sO lo S X E _ h2 g hG) (sO hi S X E _ h3 g hG))
    · cases h
  | .and es, S, X, E, pe, h, g, hG => by
    unfold okE at h
    split at h
    · have := sL es S X E _ h g hG
      rename_i pos
      exact .ofVp rfl (this pos).1
    · cases h
  | .or es, S, X, E, pe, h, g, hG => by
    unfold okE at h
    split at h
    · have := sL es S X E _ h g hG
      rename_i pos
      exact .ofVp rfl (this pos).2
    · cases h
  | .neg a, S, X, E, pe, h, g, hG => by
    unfold okE at h
    split at h
    · simp only [Bool.and_eq_true] at h
      exact .ofVp rfl (pev_neg ((sE a S X E _ h.1 g hG).val (not_true h.2)))
    · cases h
  | .not a, S, X, E, pe, h, g, hG => by
    unfold okE at h
    split at h
    · simp only [Bool.and_eq_true] at h
      have ha := sE a S X E _ h.1 g hG
      exact .ofVp rfl (pev_not (ha.val (not_true h.2)))
    · cases h
  | .tru a, S, X, E, pe, h, g, hG => by
    unfold okE at h
    cases h
  | .ite c a b, S, X, E, pe, h, g, hG => by
    unfold okE at h
    split at h
    · simp only [Bool.and_eq_true] at h
      obtain ⟨⟨⟨⟨h1, h2⟩, h3⟩, h5⟩, h6⟩ := h
      exact .ofVp rfl (pev_ifG upE (sC c S X E _ h1 g hG) ((sE a S X E _ h2 g hG).val (not_true h5)) ((sE b S X E _ h3 g hG).val (not_true h6)))
    · cases h
  | .chain o1 o2 a b c, S, X, E, pe, h, g, hG => by
    unfold okE at h
    split at h
    · simp only [Bool.and_eq_true] at h
      obtain ⟨⟨⟨⟨⟨h1, h2⟩, h3⟩, h4⟩, h5⟩, h6⟩ := h
      obtain ⟨r, o, s⟩ := cmp_sem g h1
      obtain ⟨r', o', s'⟩ := cmp_sem g h2
      have ha := (sE a S X E _ h3 g hG).opd
      have hb := (sE b S X E _ h4 g hG).opd
      have hc := (sE c S X E _ h5 g hG).opd
      exact .ofVp rfl (pev_chain o o' s s' ha hb hc (not_true h6))
    · cases h
  | .tup es, S, X, E, pe, h, g, hG => by
    unfold okE at h
    split at h
    · exact .ofVp rfl (pev_tup (sA es S X E _ h g hG))
    · cases h
  | .lst es, S, X, E, pe, h, g, hG => by
    unfold okE at h
    split at h
    · exact .ofF (pev_lst (sA es S X E _ h g hG))
    · cases h
  | .cell es, S, X, E, pe, h, g, hG => by
    unfold okE at h
    split at h
    · exact .ofVp rfl (pev_cell (sA es S X E _ h g hG))
    · cases h
  | .blt b es, S, X, E, pe, h, g, hG => by
    unfold okE at h
    split at h
    · simp only [Bool.and_eq_true, decide_eq_true_eq] at h
      obtain ⟨⟨h1, h2⟩, h3⟩ := h
      obtain ⟨q1, q2⟩ := g.blt hG h2
      subst h1
      obtain ⟨n1, n2⟩ := blt_name b
      obtain ⟨m1, _, m3⟩ := nmOk_of n1
      obtain ⟨ha, hn⟩ := sW es S X E _ h3 g hG
      cases b with
      | len => exact .ofVp rfl (pev_bltB upE (by rw [← g.hK]; exact cr_len) blt_len q1 q2 n2 ha m3 m1 hn)
      | int => exact .ofVp rfl (pev_bltT upE call_int1 blt_int q1 q2 n2 ha m3 m1 hn)
      | str => exact .ofVp rfl (pev_bltT upE call_str_int blt_str q1 q2 n2 ha m3 m1 hn)
      | list => exact .ofF (pev_bltT upF (by rw [← g.hK]; exact call_list_of) blt_list q1 q2 n2 ha m3 m1 hn)
      | tuple => exact .ofVp rfl (pev_bltT upE (by rw [← g.hK]; exact call_tuple_of) blt_tuple q1 q2 n2 ha m3 m1 hn)
      | all => exact .ofVp rfl (pev_bltB upE (by rw [← g.hK]; exact cr_all g.calm) blt_all q1 q2 n2 ha m3 m1 hn)
      | any => exact .ofVp rfl (pev_bltB upE (by rw [← g.hK]; exact cr_any g.calm) blt_any q1 q2 n2 ha m3 m1 hn)
    · cases h
  | .isi t a, S, X, E, pe, h, g, hG => by
    unfold okE at h
    split at h
    · simp only [Bool.and_eq_true, decide_eq_true_eq] at h
      obtain ⟨⟨⟨⟨h0, h1⟩, h2⟩, h4⟩, h5⟩ := h
      exact .ofVp rfl (isi_pe g hG h0 h1 h2 (sE a S X E _ h4 g hG).opd (noStar (not_true h5)))
    · cases h
  | .attr a o, S, X, E, pe, h, g, hG => by
    unfold okE at h
    split at h
    · simp only [Bool.and_eq_true, decide_eq_true_eq] at h
      obtain ⟨⟨⟨h1, h2⟩, h3⟩, h4⟩ := h
      rw [← hG.nm] at h1
      subst h1
      exact .ofVp rfl (pev_attr g.hd hG.ct hG.all (g.rm (by omega)) ((sE o S X E _ h2 g hG).val (not_true h3)) (base_of h4 _ _))
    · cases h
  | .meth m o es, S, X, E, pe, h, g, hG => by
    unfold okE at h
    split at h
    · simp only [Bool.and_eq_true, decide_eq_true_eq] at h
      obtain ⟨⟨⟨⟨⟨⟨⟨h1, h2⟩, h3⟩, h4⟩, h5⟩, h6⟩, h7⟩, h8⟩ := h
      rw [← hG.nm] at h1
      subst h1
      have hs := all_star h7
      exact .ofVp rfl (pev_meth g.hd hG.ct hG.all (g.rm (by omega)) g.pass ((sE o S X E _ h2 g hG).val (not_true h3)) (sCW es S X E _ h8 g hG) (meth_ht h4 hs h5 h6))
    · cases h
  | .scall c m es, S, X, E, pe, h, g, hG => by
    unfold okE at h
    split at h
    · simp only [Bool.and_eq_true, decide_eq_true_eq] at h
      obtain ⟨⟨⟨⟨⟨h1, h2⟩, h3⟩, h4⟩, h5⟩, h6⟩ := h
      rw [← hG.nm] at h1
      subst h1
      have hs := all_star h5
      exact .ofVp rfl (scall_pe g hG h2 (sCW es S X E _ h6 g hG) (meth_ht rfl hs h3 h4))
    · cases h
  | .never, S, X, E, pe, h, g, hG => .ofVp rfl pev_never
  | .binO op a b, S, X, E, pe, h, g, hG => by
    unfold okE at h
    split at h
    · simp only [Bool.and_eq_true] at h
      obtain ⟨⟨⟨h1, h2⟩, h3⟩, h4⟩ := h
      obtain ⟨r, o, s⟩ := binO_sem (E := E) g hG h1 h2
      exact .ofVp rfl (pev_opM upE o s (sE a S X E _ h3 g hG).opd (sE b S X E _ h4 g hG).opd)
    · cases h
  | .cmpO op a b, S, X, E, pe, h, g, hG => by
    unfold okE at h
    split at h
    · simp only [Bool.and_eq_true] at h
      obtain ⟨⟨⟨⟨h1, h2⟩, h3⟩, h4⟩, h5⟩ := h
      obtain ⟨r, o, s⟩ := cmpO_sem (E := E) g hG h1 h2
      exact .ofVp rfl (pev_cmpM o s (sE a S X E _ h3 g hG).opd (sE b S X E _ h4 g hG).opd (not_true h5))
    · cases h
  | .lenO a, S, X, E, pe, h, g, hG => by
    unfold okE at h
    split at h
    · simp only [Bool.and_eq_true, decide_eq_true_eq] at h
      obtain ⟨⟨⟨h1, h2⟩, h3⟩, h4⟩ := h
      subst h1
      obtain ⟨q1, q2⟩ := g.blt hG h2
      have hn := noStar (not_true h4)
      exact .ofVp rfl (pev_bltBM upE (by rw [← g.hK]; exact cr_len.or cr_lenO) (fun EE => sem_lenM (X := X) (E := EE) g.hd (by rw [hG.nm]; rfl) hG.ct hG.all (g.rm (by omega))) q1 q2 (by decide +kernel) (pov_cons (sE a S X E _ h3 g hG).opd pov_nil hn) (by decide +kernel) (by decide +kernel) (by simpa using hn))
    · cases h
  | .listO a, S, X, E, pe, h, g, hG => by
    unfold okE at h
    split at h
    · simp only [Bool.and_eq_true, decide_eq_true_eq] at h
      obtain ⟨⟨⟨h1, h2⟩, h3⟩, h4⟩ := h
      subst h1
      obtain ⟨q1, q2⟩ := g.blt hG h2
      have hn := noStar (not_true h4)
      exact .ofF (pev_bltTM upF (by rw [← g.hK]; exact call_list_of.or cr_listO) (fun EE => sem_listM (X := X) (E := EE) g.hd (by rw [hG.nm]; rfl) hG.ct (it_all hG) hG.all (fun z => hG.z (by omega)) (g.rm (by omega))) q1 q2 (by decide +kernel) (pov_cons (sE a S X E _ h3 g hG).opd pov_nil hn) (by decide +kernel) (by decide +kernel) (by simpa using hn))
    · cases h
  | .mk c es, S, X, E, pe, h, g, hG => by
    unfold okE at h
    split at h
    · simp only [Bool.and_eq_true] at h
      exact .ofVp rfl (mk_pe g hG h.1 (sCW es S X E _ h.2 g hG))
    · cases h
  | .box a, S, X, E, pe, h, g, hG => by
    unfold okE at h
    rw [Bool.and_eq_true] at h
    exact .ofVp rfl (pev_box ((sE a S X E _ h.1 g hG).fr h.2))
  | .join o a, S, X, E, pe, h, g, hG => by
    unfold okE at h
    split at h
    · simp only [Bool.and_eq_true, decide_eq_true_eq] at h
      obtain ⟨⟨⟨⟨⟨⟨h1, h2⟩, h3⟩, h4⟩, h5⟩, h6⟩, h7⟩ := h
      subst h1
      exact .ofVp rfl (pev_join g.hK ((sE o S X E _ h3 g hG).val (not_true h4)) (sE a S X E _ h5 g hG).opd (noStar (not_true h6)) (base_of h2 _ _) h7)
    · cases h
  | .split o a, S, X, E, pe, h, g, hG => by
    unfold okE at h
    split at h
    · simp only [Bool.and_eq_true, decide_eq_true_eq] at h
      obtain ⟨⟨⟨⟨⟨⟨⟨h1, h2⟩, h3⟩, h4⟩, h5⟩, h5'⟩, h6⟩, h7⟩ := h
      subst h1
      exact .ofF (pev_split ((sE o S X E _ h3 g hG).val (not_true h4)) ((sE a S X E _ h5 g hG).val (not_true h5')) (noStar (not_true h6)) (base_of h2 _ _) h7)
    · cases h
  | .dnew t, S, X, E, pe, h, g, hG => by
    unfold okE at h
    split at h
    · exact .ofF pev_dnew
    · cases h
  | .call f es, S, X, E, pe, h, g, hG => by
    unfold okE at h
    split at h
    · simp only [Bool.and_eq_true] at h
      obtain ⟨⟨⟨h1, h2⟩, h3⟩, h4⟩ := h
      obtain ⟨n1, n2, n3⟩ := nmOk_of h1
      split at h3
      · rename_i F hF
        rw [Bool.and_eq_true] at h3
        have e := of_decide_eq_true h3.1
        subst e
        obtain ⟨k1, k2⟩ := hG.fn f F hF h3.2
        exact .ofVp rfl (pev_callC g.hd (hG.all f) (g.rm (by omega)) g.pass (g.gl h2) (by rw [g.hm]; exact k1) (by rw [g.hK]; exact k2) (sCW es S X E _ h4 g hG) n1)
      · cases h3
    · cases h
  | .comp it t ifs elt own, S, X, E, pe, h, g, hG => by
    unfold okE at h
    split at h
    · simp only [Bool.and_eq_true] at h
      obtain ⟨⟨⟨⟨⟨⟨⟨h1, h2⟩, h3⟩, h4⟩, h5⟩, h6⟩, h7⟩, h8⟩ := h
      have ok := blkOk_by h2
      rw [← g.hN, ← g.sc] at ok
      have hd : X.N.Nodup := by rw [g.hN]; exact g.nd
      rename_i pos
      have q := pev_comp (pos := pos) (own := ownP S own) (E := E) g.calm hd (sI it S X E _ _ h1 g hG) ok (by rw [ownP_snd]; exact slots_of h3)
        (fun s H A cl fp => okT_of (g.blk h2 s H A cl fp) h4) (fun s H A cl fp => sF ifs _ _ EN1 _ h5 (g.blk h2 s H A cl fp) hG)
        (fun s H A cl fp => (sE elt _ _ EN1 _ h6 (g.blk h2 s H A cl fp) hG).val (not_true h7)) (noSet (not_true h8))
      rw [ownP_snd] at q
      exact .ofF q
    · cases h
  | .comp2 it t ifs it2 t2 ifs2 elt own vs1, S, X, E, pe, h, g, hG => by
    unfold okE at h
    split at h
    · simp only [Bool.and_eq_true] at h
      obtain ⟨⟨⟨⟨⟨⟨⟨⟨⟨⟨⟨⟨⟨h1, h2⟩, h3⟩, h4⟩, h5⟩, h6⟩, h7⟩, h8⟩, h9⟩, h10⟩, h11⟩, h12⟩, h13⟩, h14⟩ := h
      have ok := blkOk_by h2
      rw [← g.hN, ← g.sc] at ok
      have hd : X.N.Nodup := by rw [g.hN]; exact g.nd
      rename_i pos
      have q := pev_comp2 (pos := pos) (own := ownP S own) (vs1 := vs1) (E := E) g.calm hd (sI it S X E _ _ h1 g hG) ok (by rw [ownP_snd]; exact fun i hi => of_decide_eq_true (List.all_eq_true.mp h5 i hi)) (by rw [ownP_snd]; exact slots_of h3) (slots_of h4)
        (fun s H A cl fp => okT_of (g.blk h2 s H A cl fp) h6) (fun s H A cl fp => sF ifs _ _ EN1 _ h7 (g.blk h2 s H A cl fp) hG)
        (fun s H A cl fp => sI it2 _ _ EN1 _ _ h8 (g.blk h2 s H A cl fp) hG)
        (fun s H A cl fp => okT_of (g.blk h2 s H A cl fp) h9) (fun s H A cl fp => sF ifs2 _ _ EN1 _ h10 (g.blk h2 s H A cl fp) hG)
        (fun s H A cl fp => (sE elt _ _ EN1 _ h11 (g.blk h2 s H A cl fp) hG).val (not_true h12)) (noSet (not_true h13)) (noSet (not_true h14))
      rw [ownP_snd] at q
      exact .ofF q
    · cases h
theorem sC : ∀ (e : Ex) (S : Sta) (X : Cx) (E : EK) (pe : Expr), okC S e pe = true → Good G S k X E → GS G C k S → PT X pe (tTr G E (evC C e))
  | .tru a, S, X, E, pe, h, g, hG => by
    unfold okC at h
    rw [Bool.and_eq_true] at h
    exact ptv_tru g.hK (sE a S X E _ h.1 g hG).opd (plain_true h.2 _)
  | .and es, S, X, E, pe, h, g, hG => by
    unfold okC at h
    split at h
    · have := sCL es S X E _ h g hG
      rename_i pos
      exact (this pos).1.pt
    · cases h
  | .or es, S, X, E, pe, h, g, hG => by
    unfold okC at h
    split at h
    · have := sCL es S X E _ h g hG
      rename_i pos
      exact (this pos).2.pt
    · cases h
  | .not a, S, X, E, pe, h, g, hG => by
    unfold okC at h
    split at h
    · exact ptc_not (sC a S X E _ h g hG)
    · cases h
  | .cst d, S, X, E, pe, h, g, hG => by
    unfold okC at h
    rw [Bool.and_eq_true, Bool.or_eq_true] at h
    refine pt_ofB ?_ h.2
    rcases h.1 with h | h
    · exact cst_pe h
    · exact glob_pe g hG h
  | .var i, S, X, E, pe, h, g, hG => by
    unfold okC at h
    split at h
    · simp only [Bool.and_eq_true] at h
      obtain ⟨⟨h1, h2⟩, h3⟩ := h
      obtain ⟨n1, n2, _⟩ := nmOk_of h1
      exact pt_ofB (pev_var (g.slot h2) (g.vis h3) n1 n2) rfl
    · cases h
  | .ix a b, S, X, E, pe, h, g, hG => by
    unfold okC at h
    split at h
    · simp only [Bool.and_eq_true] at h
      obtain ⟨⟨h1, h2⟩, h3⟩ := h
      have ha := (sE a S X E _ h1 g hG).opd
      have hb := (sE b S X E _ h2 g hG).opd
      exact pt_ofB (pev_ix (by rw [← g.hK]; exact ix_all g.hu) sem_ix ha hb (plainIx (not_true h3))) rfl
    · cases h
  | .blt b es, S, X, E, pe, h, g, hG => by
    unfold okC at h
    split at h
    · simp only [Bool.and_eq_true, decide_eq_true_eq] at h
      obtain ⟨⟨h1, h2⟩, h3⟩ := h
      obtain ⟨q1, q2⟩ := g.blt hG h2
      subst h1
      obtain ⟨n1, n2⟩ := blt_name b
      obtain ⟨m1, _, m3⟩ := nmOk_of n1
      obtain ⟨ha, hn⟩ := sW es S X E _ h3 g hG
      cases b with
      | len => exact pt_ofB (pev_bltB upE (by rw [← g.hK]; exact cr_len) blt_len q1 q2 n2 ha m3 m1 hn) rfl
      | int => exact pt_ofB (pev_bltT upE call_int1 blt_int q1 q2 n2 ha m3 m1 hn) rfl
      | str => exact pt_ofB (pev_bltT upE call_str_int blt_str q1 q2 n2 ha m3 m1 hn) rfl
      | list => exact pt_ofB (pe_F2E (pev_bltT upF (by rw [← g.hK]; exact call_list_of) blt_list q1 q2 n2 ha m3 m1 hn)) rfl
      | tuple => exact pt_ofB (pev_bltT upE (by rw [← g.hK]; exact call_tuple_of) blt_tuple q1 q2 n2 ha m3 m1 hn) rfl
      | all => exact pt_ofB (pev_bltB upE (by rw [← g.hK]; exact cr_all g.calm) blt_all q1 q2 n2 ha m3 m1 hn) rfl
      | any => exact pt_ofB (pev_bltB upE (by rw [← g.hK]; exact cr_any g.calm) blt_any q1 q2 n2 ha m3 m1 hn) rfl
    · cases h
  | .isi t a, S, X, E, pe, h, g, hG => by
    unfold okC at h
    split at h
    · simp only [Bool.and_eq_true, decide_eq_true_eq] at h
      obtain ⟨⟨⟨⟨h0, h1⟩, h2⟩, h4⟩, h5⟩ := h
      exact pt_ofB (isi_pe g hG h0 h1 h2 (sE a S X E _ h4 g hG).opd (noStar (not_true h5))) rfl
    · cases h
  | .attr a o, S, X, E, pe, h, g, hG => by
    unfold okC at h
    split at h
    · simp only [Bool.and_eq_true, decide_eq_true_eq] at h
      obtain ⟨⟨⟨h1, h2⟩, h3⟩, h4⟩ := h
      rw [← hG.nm] at h1
      subst h1
      exact pt_ofB (pev_attr g.hd hG.ct hG.all (g.rm (by omega)) ((sE o S X E _ h2 g hG).val (not_true h3)) (base_of h4 _ _)) rfl
    · cases h
  | .meth m o es, S, X, E, pe, h, g, hG => by
    unfold okC at h
    split at h
    · simp only [Bool.and_eq_true, decide_eq_true_eq] at h
      obtain ⟨⟨⟨⟨⟨⟨⟨h1, h2⟩, h3⟩, h4⟩, h5⟩, h6⟩, h7⟩, h8⟩ := h
      rw [← hG.nm] at h1
      subst h1
      have hs := all_star h7
      exact pt_ofB (pev_meth g.hd hG.ct hG.all (g.rm (by omega)) g.pass ((sE o S X E _ h2 g hG).val (not_true h3)) (sCW es S X E _ h8 g hG) (meth_ht h4 hs h5 h6)) rfl
    · cases h
  | .scall c m es, S, X, E, pe, h, g, hG => by
    unfold okC at h
    split at h
    · simp only [Bool.and_eq_true, decide_eq_true_eq] at h
      obtain ⟨⟨⟨⟨⟨h1, h2⟩, h3⟩, h4⟩, h5⟩, h6⟩ := h
      rw [← hG.nm] at h1
      subst h1
      have hs := all_star h5
      exact pt_ofB (scall_pe g hG h2 (sCW es S X E _ h6 g hG) (meth_ht rfl hs h3 h4)) rfl
    · cases h
  | .never, S, X, E, pe, h, g, hG => ptv_never
  | .cmpO op a b, S, X, E, pe, h, g, hG => by
    unfold okC at h
    split at h
    · simp only [Bool.and_eq_true] at h
      obtain ⟨⟨⟨⟨h1, h2⟩, h3⟩, h4⟩, h5⟩ := h
      obtain ⟨r, o, s⟩ := cmpO_sem (E := E) g hG h1 h2
      exact ptv_cmpM o s (sE a S X E _ h3 g hG).opd (sE b S X E _ h4 g hG).opd (not_true h5)
    · cases h
  | .binO _ _ _, S, X, E, pe, h, g, hG => by
    unfold okC at h
    cases h
  | .lenO _, S, X, E, pe, h, g, hG => by
    unfold okC at h
    cases h
  | .listO _, S, X, E, pe, h, g, hG => by
    unfold okC at h
    cases h
  | .mk _ _, S, X, E, pe, h, g, hG => by
    unfold okC at h
    cases h
  | .box _, S, X, E, pe, h, g, hG => by
    unfold okC at h
    cases h
  | .join _ _, S, X, E, pe, h, g, hG => by
    unfold okC at h
    cases h
  | .split _ _, S, X, E, pe, h, g, hG => by
    unfold okC at h
    cases h
  | .dnew _, S, X, E, pe, h, g, hG => by
    unfold okC at h
    cases h
  | .call f es, S, X, E, pe, h, g, hG => by
    unfold okC at h
    split at h
    · simp only [Bool.and_eq_true] at h
      obtain ⟨⟨⟨h1, h2⟩, h3⟩, h4⟩ := h
      obtain ⟨n1, n2, n3⟩ := nmOk_of h1
      split at h3
      · rename_i F hF
        rw [Bool.and_eq_true] at h3
        have e := of_decide_eq_true h3.1
        subst e
        obtain ⟨k1, k2⟩ := hG.fn f F hF h3.2
        exact pt_ofB (pev_callC g.hd (hG.all f) (g.rm (by omega)) g.pass (g.gl h2) (by rw [g.hm]; exact k1) (by rw [g.hK]; exact k2) (sCW es S X E _ h4 g hG) n1) rfl
      · cases h3
    · cases h
  | .cmp op a b, S, X, E, pe, h, g, hG => by
    unfold okC at h
    split at h
    · simp only [Bool.and_eq_true] at h
      obtain ⟨⟨⟨h1, h2⟩, h3⟩, h4⟩ := h
      have ha := (sE a S X E _ h2 g hG).opd
      have hb := (sE b S X E _ h3 g hG).opd
      obtain ⟨r, o, s⟩ := cmp_sem g h1
      exact ptv_cmp o s ha hb (not_true h4)
    · cases h
  | .chain o1 o2 a b c, S, X, E, pe, h, g, hG => by
    unfold okC at h
    split at h
    · simp only [Bool.and_eq_true] at h
      obtain ⟨⟨⟨⟨⟨h1, h2⟩, h3⟩, h4⟩, h5⟩, h6⟩ := h
      obtain ⟨r, o, s⟩ := cmp_sem g h1
      obtain ⟨r', o', s'⟩ := cmp_sem g h2
      have ha := (sE a S X E _ h3 g hG).opd
      have hb := (sE b S X E _ h4 g hG).opd
      have hc := (sE c S X E _ h5 g hG).opd
      exact ptv_chain o o' s s' ha hb hc (not_true h6)
    · cases h
  | .peek _, S, X, E, pe, h, g, hG => by
    unfold okC at h
    cases h
  | .neg _, S, X, E, pe, h, g, hG => by
    unfold okC at h
    cases h
  | .bin _ _ _, S, X, E, pe, h, g, hG => by
    unfold okC at h
    cases h
  | .sl _ _ _, S, X, E, pe, h, g, hG => by
    unfold okC at h
    cases h
  | .ite _ _ _, S, X, E, pe, h, g, hG => by
    unfold okC at h
    cases h
  | .tup _, S, X, E, pe, h, g, hG => by
    unfold okC at h
    cases h
  | .lst _, S, X, E, pe, h, g, hG => by
    unfold okC at h
    cases h
  | .cell _, S, X, E, pe, h, g, hG => by
    unfold okC at h
    cases h
  | .comp _ _ _ _ _, S, X, E, pe, h, g, hG => by
    unfold okC at h
    cases h
  | .comp2 _ _ _ _ _ _ _ _ _, S, X, E, pe, h, g, hG => by
    unfold okC at h
    cases h
theorem sL : ∀ (es : Exs) (S : Sta) (X : Cx) (E : EK) (pes : List Expr), okL S es pes = true → Good G S k X E → GS G C k S → ∀ pos : Pos,
    PE X (.BoolOp .And pes pos) (tR G (rrE G) E (evAnd C es)) ∧ PE X (.BoolOp .Or pes pos) (tR G (rrE G) E (evOr C es))
  | .nil, S, X, E, pes, h, g, hG, pos => by simp [okL] at h
  | .star _ _, S, X, E, pes, h, g, hG, pos => by simp [okL] at h
  | .cons e .nil, S, X, E, [], h, g, hG, pos => by simp [okL] at h
  | .cons e .nil, S, X, E, [x], h, g, hG, pos => by
    rw [okL, Bool.and_eq_true] at h
    have a := sE e S X E _ h.1 g hG
    exact ⟨pe_one (a.val (not_true h.2)), pe_one (a.val (not_true h.2))⟩
  | .cons e .nil, S, X, E, x :: y :: pes, h, g, hG, pos => by simp [okL] at h
  | .cons e (.cons e2 r), S, X, E, [], h, g, hG, pos => by simp [okL] at h
  | .cons e (.cons e2 r), S, X, E, [x], h, g, hG, pos => by simp [okL] at h
  | .cons e (.cons e2 r), S, X, E, x :: y :: pes, h, g, hG, pos => by
    have h : (okE S e x && !isPeek e && okL S (.cons e2 r) (y :: pes)) = true := by rw [← h]; conv => rhs; unfold okL
    simp only [Bool.and_eq_true] at h
    have a := sE e S X E _ h.1.1 g hG
    obtain ⟨b1, b3⟩ := sL (.cons e2 r) S X E _ h.2 g hG pos
    rw [evAnd2, evOr2]
    exact ⟨pev_and (a.val (not_true h.1.2)) b1, pev_or (a.val (not_true h.1.2)) b3⟩
  | .cons e (.star e2 r), S, X, E, pes, h, g, hG, pos => by
    exfalso
    cases pes with
    | nil => simp [okL] at h
    | cons x pes => cases pes <;> simp [okL] at h
theorem sCL : ∀ (es : Exs) (S : Sta) (X : Cx) (E : EK) (pes : List Expr), okCL S es pes = true → Good G S k X E → GS G C k S → ∀ pos : Pos,
    PW X (.BoolOp .And pes pos) (tTr G E (evCA C es)) ∧ PW X (.BoolOp .Or pes pos) (tTr G E (evCO C es))
  | .nil, S, X, E, pes, h, g, hG, pos => by simp [okCL] at h
  | .star _ _, S, X, E, pes, h, g, hG, pos => by simp [okCL] at h
  | .cons e .nil, S, X, E, [], h, g, hG, pos => by simp [okCL] at h
  | .cons e .nil, S, X, E, [x], h, g, hG, pos => by
    rw [okCL] at h
    have a := sC e S X E _ h g hG
    exact ⟨pw_and1 a, pw_or1 a⟩
  | .cons e .nil, S, X, E, x :: y :: pes, h, g, hG, pos => by simp [okCL] at h
  | .cons e (.cons e2 r), S, X, E, [], h, g, hG, pos => by simp [okCL] at h
  | .cons e (.cons e2 r), S, X, E, [x], h, g, hG, pos => by simp [okCL] at h
  | .cons e (.cons e2 r), S, X, E, x :: y :: pes, h, g, hG, pos => by
    have h : (okC S e x && okCL S (.cons e2 r) (y :: pes)) = true := by rw [← h]; conv => rhs; unfold okCL
    simp only [Bool.and_eq_true] at h
    have a := sC e S X E _ h.1 g hG
    obtain ⟨b1, b3⟩ := sCL (.cons e2 r) S X E _ h.2 g hG pos
    rw [evCA2, evCO2]
    exact ⟨ptc_and a b1, ptc_or a b3⟩
  | .cons e (.star e2 r), S, X, E, pes, h, g, hG, pos => by
    exfalso
    cases pes with
    | nil => simp [okCL] at h
    | cons x pes => cases pes <;> simp [okCL] at h
theorem sA : ∀ (es : Exs) (S : Sta) (X : Cx) (E : EK) (pes : List Expr), okA S es pes = true → Good G S k X E → GS G C k S → PA X pes (tAr G E (evA C es))
  | .nil, S, X, E, pes, h, g, hG => by
    cases pes with
    | nil => exact pav_nil
    | cons => simp [okA] at h
  | .cons e r, S, X, E, [], h, g, hG => by simp [okA] at h
  | .cons e r, S, X, E, x :: pes, h, g, hG => by
    rw [okA] at h
    simp only [Bool.and_eq_true] at h
    obtain ⟨⟨⟨h1, h2⟩, h3⟩, h4⟩ := h
    exact pav_cons ((sE e S X E _ h1 g hG).val (not_true h2)) (sA r S X E _ h4 g hG) (noStar (not_true h3))
  | .star e r, S, X, E, [], h, g, hG => by simp [okA] at h
  | .star e r, S, X, E, x :: pes, h, g, hG => by
    cases x <;> simp only [okA, Bool.false_eq_true, Bool.and_eq_true] at h
    exact pav_star g.hK (sE e S X E _ h.1 g hG).opd (sA r S X E _ h.2 g hG)
theorem sCW : ∀ (es : Exs) (S : Sta) (X : Cx) (E : EK) (pes : List Expr), okA S es pes = true → Good G S k X E → GS G C k S → CW X pes (tAr G E (evA C es))
  | .nil, S, X, E, pes, h, g, hG => by
    cases pes with
    | nil => exact cw_of pav_nil rfl
    | cons => simp [okA] at h
  | .cons e r, S, X, E, [], h, g, hG => by simp [okA] at h
  | .cons e r, S, X, E, x :: pes, h, g, hG => by
    rw [okA] at h
    simp only [Bool.and_eq_true] at h
    obtain ⟨⟨⟨h1, h2⟩, h3⟩, h4⟩ := h
    have hn := noStar (not_true h3)
    refine cw_of (pav_cons ((sE e S X E _ h1 g hG).val (not_true h2)) (sA r S X E _ h4 g hG) hn) ?_
    unfold isLone
    split
    · rename_i q; cases q; exact absurd rfl (hn _ _)
    · rfl
  | .star e r, S, X, E, [], h, g, hG => by simp [okA] at h
  | .star e r, S, X, E, x :: pes, h, g, hG => by
    cases x <;> simp only [okA, Bool.false_eq_true, Bool.and_eq_true] at h
    exact cw_starx g.hK (sE e S X E _ h.1 g hG).opd (sA r S X E _ h.2 g hG) fun z => by
      subst z
      cases r with
      | nil => rfl
      | cons => have := h.2; simp [okA] at this
      | star => have := h.2; simp [okA] at this
theorem sW : ∀ (es : Exs) (S : Sta) (X : Cx) (E : EK) (pes : List Expr), okW S es pes = true → Good G S k X E → GS G C k S → PA X pes (tOr G E (evA C es)) ∧ ∀ u ∈ pes, ∀ a p, u ≠ .Starred a p
  | .nil, S, X, E, pes, h, g, hG => by
    cases pes with
    | nil => exact ⟨pov_nil, fun u hu => by cases hu⟩
    | cons => simp [okW] at h
  | .cons e r, S, X, E, [], h, g, hG => by simp [okW] at h
  | .cons e r, S, X, E, x :: pes, h, g, hG => by
    rw [okW] at h
    simp only [Bool.and_eq_true] at h
    obtain ⟨⟨h1, h2⟩, h3⟩ := h
    obtain ⟨q1, q2⟩ := sW r S X E _ h3 g hG
    refine ⟨pov_cons (sE e S X E _ h1 g hG).opd q1 (noStar (not_true h2)), fun u hu => ?_⟩
    rcases List.mem_cons.mp hu with e | hu
    · rw [e]; exact noStar (not_true h2)
    · exact q2 u hu
  | .star e r, S, X, E, pes, h, g, hG => by simp [okW] at h
theorem sO : ∀ (o : Exo) (S : Sta) (X : Cx) (E : EK) (pe : Option Expr), okO S o pe = true → Good G S k X E → GS G C k S → PO X pe (tPr G E (ePart (evO C o)))
  | .no, S, X, E, none, h, g, hG => pov_none
  | .no, S, X, E, some x, h, g, hG => by simp [okO] at h
  | .yes e, S, X, E, none, h, g, hG => by simp [okO] at h
  | .yes e, S, X, E, some x, h, g, hG => by
    rw [okO, Bool.and_eq_true] at h
    exact pov_some ((sE e S X E _ h.1 g hG).val (not_true h.2))
theorem sF : ∀ (o : Exo) (S : Sta) (X : Cx) (E : EK) (pes : List Expr), okF S o pes = true → Good G S k X E → GS G C k S → PTs X pes (tTr G E (evT C o))
  | .no, S, X, E, [], h, g, hG => ptsv_nil
  | .no, S, X, E, _ :: _, h, g, hG => by simp [okF] at h
  | .yes e, S, X, E, [], h, g, hG => by simp [okF] at h
  | .yes e, S, X, E, [x], h, g, hG => by
    rw [okF] at h
    exact pts_one (sC e S X E _ h g hG)
  | .yes e, S, X, E, _ :: _ :: _, h, g, hG => by simp [okF] at h
theorem sI : ∀ (it : Itr) (S : Sta) (X : Cx) (E : EK) (tg x : Expr), okI S it tg x = true → Good G S k X E → GS G C k S → PI X tg x (tIr G E (evI C it))
  | .seq e, S, X, E, tg, x, h, g, hG => by
    rw [okI, Bool.and_eq_true] at h
    exact pivv_seq g.hK ((sE e S X E _ h.1 g hG).val (not_true h.2))
  | .range es, S, X, E, tg, x, h, g, hG => by
    unfold okI at h
    split at h
    · simp only [Bool.and_eq_true, decide_eq_true_eq] at h
      obtain ⟨⟨⟨h1, h1'⟩, h2⟩, h3⟩ := h
      subst h1
      obtain ⟨q1, q2⟩ := g.blt hG h2
      obtain ⟨p1, p2⟩ := sW es S X E _ h3 g hG
      exact pivv_range q1 q2 p1 p2 h3 h1'
    · cases h
  | .zip es, S, X, E, tg, x, h, g, hG => by
    unfold okI at h
    split at h
    · simp only [Bool.and_eq_true, decide_eq_true_eq] at h
      obtain ⟨⟨⟨⟨h1, h2⟩, h3⟩, h4⟩, h5⟩ := h
      subst h1
      obtain ⟨q1, q2⟩ := g.blt hG h2
      exact pivv_zip g.hK q1 q2 (sA es S X E _ h3 g hG) (noStar (not_true h4)) (noStar (not_true h5))
    · cases h
end
end Iv

/-! Iv, part K: the checker is sound, statements. -/
namespace Iv
open PySem L2
variable {G : GC} {C : Cfg} {k : Nat} {W0 : Wd} {H0 : Hp} {X : Cx} {E : EK} {S : Sta}

theorem isComp_no {e : Expr} (h : (!isComp e) = true) : isComp e = false := not_true h
def isBox : Ex → Bool
  | .box _ => true
  | _ => false
theorem pev_never_asg {st : Stmt} {g : TG} {RR : RRel} : PS X st (tAsg (tR G RR E eNever) g) := ⟨fun _ _ _ _ _ _ ⟨_, _, _, _, _, _, p⟩ => p.elim⟩
/-- never a dict -/
def NoD (m : M D) : Prop := ∀ h t ks vs h', m h ≠ .ok (.dct t ks vs) h'
theorem nod_bnd {α : Type} {m : M α} {f : α → M D} (h : ∀ x, NoD (f x)) : NoD (bnd m f) := fun h0 t ks vs h' e => by
  unfold bnd at e
  cases c : m h0 with
  | bad => rw [c] at e; cases e
  | ex => rw [c] at e; cases e
  | ok a h1 => rw [c] at e; exact h a _ _ _ _ _ e
theorem nod_lst (xs : List D) : NoD (ret (.lst xs)) := fun h t ks vs h' e => by cases e
theorem nod_gdP {α : Type} {g : Gd} {f : α → M D} (h : ∀ x, NoD (f x)) (x : α) : NoD (gdP g f x) := by
  unfold gdP
  split
  · exact h x
  · intro h0 t ks vs h' e
    dsimp only at e
    split at e
    · exact h x _ _ _ _ _ e
    · cases e
/-- name = comprehension -/
theorem asg_comp (g : Good G S k X E) (hG : GS G C k S) (hk : X.env.scope.kind = .function) {i : Nat} {x : Str} {e : Ex} {py pos sp : Pos} {elt : Expr} {gs : List Comprehension} {scope : Scope}
    (hbx : isBox e = false) (h1 : slotOk S i x = true) (h3 : okE S e (.ListComp elt gs scope pos) = true) (ha : asgOk S x py (.ListComp elt gs scope pos) = true) :
    PS X (.Assign [.Name x py] (.ListComp elt gs scope pos) sp) (tAsg (tR G (rrF G) E (evE C e)) (gName i)) := by
  have hd : X.N.Nodup := by rw [g.hN]; exact g.nd
  simp only [asgOk, Bool.and_eq_true, decide_eq_true_eq] at ha
  obtain ⟨⟨a1, a2⟩, a3⟩ := ha
  have a1' : X.env.scope.names.lookup x = some .local := by rw [g.sc]; exact a1
  have sw := sw_true (elt := elt) (gs := gs) (pos := pos) (py := py) (l := sp.line) (env := X.env) hk a1' a2 (not_true a3)
  cases e with
  | comp it t ifs elt' own =>
    unfold okE at h3
    split at h3
    · rename_i q
      cases q
      simp only [Bool.and_eq_true] at h3
      obtain ⟨⟨⟨⟨⟨⟨⟨h1', h2⟩, h3⟩, h4⟩, h5⟩, h6⟩, h7⟩, h8⟩ := h3
      have ok := blkOk_by h2
      rw [← g.hN, ← g.sc] at ok
      refine ps_imp (ps_setLc g.calm hd (g.slot h1) a1' sw (sI it S X E _ _ h1' g hG) ok
        (fun s H A cl fp => okT_of (g.blk h2 s H A cl fp) h4) (fun s H A cl fp => sF ifs _ _ EN1 _ h5 (g.blk h2 s H A cl fp) hG)
        (fun s H A cl fp => (sE elt' _ _ EN1 _ h6 (g.blk h2 s H A cl fp) hG).val (not_true h7)) (folded_not (noSet (not_true h8)))) fun D σ H t => ?_
      rw [ownP_snd]
      exact comp_of (slots_of h3) t
    · cases h3
  | comp2 it t ifs it2 t2 ifs2 elt' own vs1 =>
    unfold okE at h3
    split at h3
    · rename_i q
      cases q
      simp only [Bool.and_eq_true] at h3
      obtain ⟨⟨⟨⟨⟨⟨⟨⟨⟨⟨⟨⟨⟨h1', h2⟩, h3⟩, h4⟩, h5⟩, h6⟩, h7⟩, h8⟩, h9⟩, h10⟩, h11⟩, h12⟩, h13⟩, h14⟩ := h3
      have ok := blkOk_by h2
      rw [← g.hN, ← g.sc] at ok
      refine ps_imp (ps_setLc2 (vs1 := vs1) g.calm hd (g.slot h1) a1' sw (sI it S X E _ _ h1' g hG) ok (by rw [ownP_snd]; exact fun i hi => of_decide_eq_true (List.all_eq_true.mp h5 i hi))
        (fun s H A cl fp => okT_of (g.blk h2 s H A cl fp) h6) (fun s H A cl fp => sF ifs _ _ EN1 _ h7 (g.blk h2 s H A cl fp) hG)
        (fun s H A cl fp => sI it2 _ _ EN1 _ _ h8 (g.blk h2 s H A cl fp) hG)
        (fun s H A cl fp => okT_of (g.blk h2 s H A cl fp) h9) (fun s H A cl fp => sF ifs2 _ _ EN1 _ h10 (g.blk h2 s H A cl fp) hG)
        (fun s H A cl fp => (sE elt' _ _ EN1 _ h11 (g.blk h2 s H A cl fp) hG).val (not_true h12)) (folded_not (noSet (not_true h13))) fun env => folded_not (noSet (not_true h14))) fun D σ H t => ?_
      rw [ownP_snd]
      exact comp2_of (slots_of h3) (slots_of h4) t
    · cases h3
  | cst d => unfold okE at h3; rw [Bool.or_eq_true] at h3; rcases h3 with h | h <;> simp [cstP, globP] at h
  | var i => simp [okE] at h3
  | peek i => simp [okE] at h3
  | neg => simp [okE] at h3
  | bin => simp [okE] at h3
  | cmp => simp [okE] at h3
  | ix => simp [okE] at h3
  | sl => simp [okE] at h3
  | and => simp [okE] at h3
  | or => simp [okE] at h3
  | not => simp [okE] at h3
  | tru => simp [okE] at h3
  | ite => simp [okE] at h3
  | chain => simp [okE] at h3
  | tup => simp [okE] at h3
  | lst => simp [okE] at h3
  | cell => simp [okE] at h3
  | blt => simp [okE] at h3
  | isi => simp [okE] at h3
  | call => simp [okE] at h3
  | never => exact pev_never_asg
  | binO => simp [okE] at h3
  | cmpO => simp [okE] at h3
  | lenO => simp [okE] at h3
  | listO => simp [okE] at h3
  | mk => simp [okE] at h3
  | attr => simp [okE] at h3
  | meth => simp [okE] at h3
  | scall => simp [okE] at h3
  | dnew => simp [okE] at h3
  | join => simp [okE] at h3
  | split => simp [okE] at h3
  | box => exact absurd hbx (by simp [isBox])
theorem comp_nod (e : Ex) {S : Sta} {elt : Expr} {gs : List Comprehension} {scope : Scope} {pos : Pos} (hb : isBox e = false) (h3 : okE S e (.ListComp elt gs scope pos) = true) (env : Env) : NoD (evE C e env) := by
  cases e with
  | comp => exact nod_bnd fun p => nod_bnd fun x => nod_gdP (fun y => nod_lst y) x
  | comp2 => exact nod_bnd fun p => nod_bnd fun x => nod_lst x
  | never => exact fun h t ks vs h' e => by cases e
  | box => cases hb
  | cst d => unfold okE at h3; rw [Bool.or_eq_true] at h3; rcases h3 with h | h <;> simp [cstP, globP] at h
  | _ => simp [okE] at h3
theorem tAsg_F2E {g : TG} {ev : Env → M D} {st : Stmt} (nd : ∀ env, NoD (ev env)) (h : PS X st (tAsg (tR G (rrF G) E ev) g)) : PS X st (tAsg (tR G (rrE G) E ev) g) := ps_imp h fun D σ H t => by
  obtain ⟨W, hh, env, H0, hr, er, p⟩ := t
  refine ⟨W, hh, env, H0, hr, er, ?_⟩
  cases e : ev env hh with
  | bad => rw [e] at p; exact p.elim
  | ex => rw [e] at p; exact p
  | ok d h' =>
    rw [e] at p
    intro W' H' v f hr' r
    cases d with
    | lst xs =>
      obtain ⟨q, h1, h2, h3, h4, h5⟩ := r
      obtain ⟨vs, e1, e2, e3⟩ := h2.lst
      subst h1
      exact p (W'.fz q (.lst vs)) H' _ (f.freeze h5 h4) (hr'.freeze e1 h3 h4) (.lst (.inl (.inl upd_same)) e3 (e2.mono (le_fz h4)))
    | dct t ks vs => exact absurd e (nd _ _ _ _ _ _)
    | _ => exact p W' H' v f hr' r
theorem tAsg_box {g : TG} {ev : Env → M D} {st : Stmt} (h : PS X st (tAsg (tR G (rrF G) E ev) g)) : PS X st (tAsg (tR G (rrE G) E (eBox ev)) g) := ps_imp h fun D σ H t => by
  obtain ⟨W, hh, env, H0, hr, er, p⟩ := t
  refine ⟨W, hh, env, H0, hr, er, (post_bnd.mp p).mono (fun d h1 p1 W1 H1 v f1 hr1 r1 => ?_) fun _ _ _ k => k⟩
  cases d <;> first | exact p1.elim | skip
  · obtain ⟨q, rfl, h0, hr2, eq⟩ := add_cell hr1 r1 (by simp)
    exact p1 ⟨W1.F, W1.rho ++ [q]⟩ H1 _ (f1.grow h0) hr2 (.ref eq)
  · obtain ⟨q, rfl, h0, hr2, eq⟩ := add_cell hr1 r1 (by simp)
    exact p1 ⟨W1.F, W1.rho ++ [q]⟩ H1 _ (f1.grow h0) hr2 (.ref eq)
theorem asg_fr (g : Good G S k X E) (hG : GS G C k S) (hk : X.env.scope.kind = .function) {i : Nat} {x : Str} {e : Ex} {v : Expr} {py sp : Pos} (h1 : slotOk S i x = true) (h2 : tgOk S x = true) (h3 : okE S e v = true) (hp : isFresh e = true) (ha : asgOk S x py v = true) :
    PS X (.Assign [.Name x py] v sp) (tAsg (tR G (rrF G) E (evE C e)) (gName i)) := by
  have hd : X.N.Nodup := by rw [g.hN]; exact g.nd
  by_cases c : ∃ elt gs scope pos, v = .ListComp elt gs scope pos
  · obtain ⟨elt, gs, scope, pos, rfl⟩ := c
    exact asg_comp g hG hk (by cases e <;> first | rfl | exact Bool.noConfusion (show false = true from hp)) h1 h3 ha
  · have n : isComp v = false := by
      unfold asgOk at ha
      split at ha
      · exact absurd ⟨_, _, _, _, rfl⟩ c
      · exact not_true ha
    exact asg_name hd (g.slot h1) (g.tg _ h2).1 (g.tg _ h2).2 ((sE e S X E v h3 g hG).fr hp) n

theorem asg_any (g : Good G S k X E) (hG : GS G C k S) (hk : X.env.scope.kind = .function) {i : Nat} {x : Str} {e : Ex} {v : Expr} {py sp : Pos} (h1 : slotOk S i x = true) (h2 : tgOk S x = true) (h3 : okE S e v = true) (hp : isPeek e = false) (ha : asgOk S x py v = true) :
    PS X (.Assign [.Name x py] v sp) (tAsg (tR G (rrE G) E (evE C e)) (gName i)) := by
  have hd : X.N.Nodup := by rw [g.hN]; exact g.nd
  cases hbx : isBox e with
  | true =>
    cases e <;> try exact Bool.noConfusion (show false = true from hbx)
    rw [okE, Bool.and_eq_true] at h3
    exact tAsg_box (asg_fr g hG hk h1 h2 h3.1 h3.2 ha)
  | false =>
    by_cases c : ∃ elt gs scope pos, v = .ListComp elt gs scope pos
    · obtain ⟨elt, gs, scope, pos, rfl⟩ := c
      exact tAsg_F2E (comp_nod e hbx h3) (asg_comp g hG hk hbx h1 h3 ha)
    · have n : isComp v = false := by
        unfold asgOk at ha
        split at ha
        · exact absurd ⟨_, _, _, _, rfl⟩ c
        · exact not_true ha
      exact asg_name hd (g.slot h1) (g.tg _ h2).1 (g.tg _ h2).2 ((sE e S X E v h3 g hG).val hp) n

mutual
theorem sS : ∀ (s : Sm) {st : Stmt}, okS S s st = true → Good G S k X E → GS G C k S → X.env.scope.kind = .function → PassesOwn (model X.prog X.w) X.A X.env X.xe → PS X st (tSr G W0 H0 E (evS C s))
  | .set i e, st, h, g, hG, hk, hp => by
    unfold okS at h
    split at h
    · simp only [Bool.and_eq_true] at h
      obtain ⟨⟨⟨⟨h1, h2⟩, h3⟩, h4⟩, h5⟩ := h
      exact psv_leaf (psv_set (asg_any g hG hk h1 h2 h3 (not_true h4) h5))
    · cases h
  | .own i e, st, h, g, hG, hk, hp => by
    unfold okS at h
    split at h
    · simp only [Bool.and_eq_true] at h
      obtain ⟨⟨⟨⟨h1, h2⟩, h3⟩, h4⟩, h5⟩ := h
      exact psv_leaf (psv_own (asg_fr g hG hk h1 h2 h3 h4 h5))
    · cases h
  | .tg t e, st, h, g, hG, hk, hp => by
    unfold okS at h
    split at h
    · simp only [Bool.and_eq_true] at h
      obtain ⟨⟨⟨h1, h2⟩, h3⟩, h4⟩ := h
      exact psv_leaf (psv_tg ((sE e S X E _ h2 g hG).val (not_true h3)) (okT_of g h1) (not_true h4))
    · cases h
  | .ixs o i e, st, h, g, hG, hk, hp => by
    unfold okS at h
    split at h
    · simp only [Bool.and_eq_true] at h
      obtain ⟨⟨⟨⟨⟨⟨h1, h2⟩, h3⟩, h4⟩, h5⟩, h6⟩, h7⟩ := h
      exact psv_leaf (psv_ix ((sE e S X E _ h3 g hG).val (not_true h6)) ((sE o S X E _ h1 g hG).val (not_true h4)) ((sE i S X E _ h2 g hG).val (not_true h5)) (noSlice (not_true h7)))
    · cases h
  | .aug op i e, st, h, g, hG, hk, hp => by
    have hd : X.N.Nodup := by rw [g.hN]; exact g.nd
    unfold okS at h
    split at h
    · simp only [Bool.and_eq_true] at h
      obtain ⟨⟨⟨h1, h2⟩, h3⟩, h4⟩ := h
      split at h1
      · exact psv_leaf (psv_aug hd (g.slot h2) (g.tg _ h3).1 (g.tg _ h3).2 (sE e S X E _ h4 g hG).opd ip_add sem_ipI)
      · exact psv_leaf (psv_aug hd (g.slot h2) (g.tg _ h3).1 (g.tg _ h3).2 (sE e S X E _ h4 g hG).opd ip_sub sem_ipI)
      · cases h1
    · cases h
  | .app i e, st, h, g, hG, hk, hp => by
    unfold okS at h
    split at h
    · simp only [Bool.and_eq_true, decide_eq_true_eq] at h
      obtain ⟨⟨⟨⟨⟨⟨⟨h1, h2⟩, h3⟩, h4⟩, h5⟩, h6⟩, h7⟩, h8⟩ := h
      subst h1
      obtain ⟨n1, n2, _⟩ := nmOk_of h2
      exact psv_leaf (psv_app g.hK (g.slot h3) (g.vis h4) n1 n2 ((sE e S X E _ h5 g hG).val (not_true h6)) (noStar (not_true h7)) h8)
    · cases h
  | .never, st, h, g, hG, hk, hp => psv_never
  | .att a o e, st, h, g, hG, hk, hp => by
    unfold okS at h
    split at h
    · simp only [Bool.and_eq_true, decide_eq_true_eq] at h
      obtain ⟨⟨⟨⟨⟨h1, h2⟩, h3⟩, h4⟩, h5⟩, h6⟩ := h
      rw [← hG.nm] at h1
      subst h1
      exact psv_leaf (psv_att g.hd hG.ct ((sE o S X E _ h2 g hG).val (not_true h3)) ((sE e S X E _ h4 g hG).val (not_true h5)) (swaps_no (not_true h6) _ _ _))
    · cases h
  | .appR o e, st, h, g, hG, hk, hp => by
    unfold okS at h
    split at h
    · simp only [Bool.and_eq_true, decide_eq_true_eq] at h
      obtain ⟨⟨⟨⟨⟨⟨⟨h1, h2⟩, h3⟩, h4⟩, h5⟩, h6⟩, h7⟩, h8⟩ := h
      subst h1
      exact psv_leaf (psv_appR g.hK ((sE o S X E _ h3 g hG).val (not_true h4)) ((sE e S X E _ h5 g hG).val (not_true h6)) (noStar (not_true h7)) h8 (base_of h2 _ _))
    · cases h
  | .putO i kx e, st, h, g, hG, hk, hp => by
    unfold okS at h
    split at h
    · simp only [Bool.and_eq_true] at h
      obtain ⟨⟨⟨⟨⟨⟨⟨⟨h1, h2⟩, h3⟩, h4⟩, h5⟩, h6⟩, h7⟩, h8⟩, h9⟩ := h
      obtain ⟨n1, n2, _⟩ := nmOk_of h1
      exact psv_leaf (psv_putO g.hu (g.slot h2) (g.vis h3) n1 n2 ((sE kx S X E _ h4 g hG).val (not_true h5)) ((sE e S X E _ h6 g hG).val (not_true h7)) (noSlice (not_true h8)) (swaps_no (not_true h9) _ _ _))
    · cases h
  | .attAug op a o e, st, h, g, hG, hk, hp => by
    unfold okS at h
    split at h
    · simp only [Bool.and_eq_true, decide_eq_true_eq] at h
      obtain ⟨⟨⟨⟨⟨h1, h2⟩, h3⟩, h4⟩, h5⟩, h6⟩ := h
      rw [← hG.nm] at h2
      subst h2
      have ho := (sE o S X E _ h3 g hG).val (not_true h4)
      have he := (sE e S X E _ h5 g hG).val (not_true h6)
      split at h1
      · exact psv_leaf (psv_attAug (gg := fun i j => i + j) g.hd hG.ct ho he in_add)
      · exact psv_leaf (psv_attAug (gg := fun i j => i - j) g.hd hG.ct ho he in_sub)
      · cases h1
    · cases h
  | .ret e, st, h, g, hG, hk, hp => by
    unfold okS at h
    split at h
    · simp only [Bool.and_eq_true] at h
      exact psv_leaf (psv_ret ((sE e S X E _ h.1 g hG).val (not_true h.2)))
    · cases h
  | .retN, st, h, g, hG, hk, hp => by
    unfold okS at h
    split at h
    · exact psv_retN
    · cases h
  | .pass, st, h, g, hG, hk, hp => by
    unfold okS at h
    split at h
    · exact psv_pass
    · cases h
  | .brk, st, h, g, hG, hk, hp => by
    unfold okS at h
    split at h
    · exact psv_break
    · cases h
  | .cont, st, h, g, hG, hk, hp => by
    unfold okS at h
    split at h
    · exact psv_cont
    · cases h
  | .expr e, st, h, g, hG, hk, hp => by
    unfold okS at h
    split at h
    · simp only [Bool.and_eq_true] at h
      exact psv_leaf (psv_expr ((sE e S X E _ h.1.1 g hG).val (not_true h.1.2)) (not_true h.2))
    · cases h
  | .ite c a b, st, h, g, hG, hk, hp => by
    unfold okS at h
    split at h
    · simp only [Bool.and_eq_true] at h
      obtain ⟨⟨h1, h3⟩, h4⟩ := h
      exact psv_if (sC c S X E _ h1 g hG) (sSs a h3 g hG hk hp) (sSs b h4 g hG hk hp)
    · cases h
  | .whl c b, st, h, g, hG, hk, hp => by
    unfold okS at h
    split at h
    · simp only [Bool.and_eq_true] at h
      obtain ⟨h1, h3⟩ := h
      exact psv_while hp (sC c S X E _ h1 g hG) (sSs b h3 g hG hk hp)
    · cases h
  | .forr it t b, st, h, g, hG, hk, hp => by
    unfold okS at h
    split at h
    · simp only [Bool.and_eq_true] at h
      obtain ⟨⟨⟨h1, h2⟩, h3⟩, h4⟩ := h
      exact psv_for hp g.calm (sI it S X E _ _ h1 g hG) (okT_of g h2) (sSs b h3 g hG hk hp) (noSet (not_true h4))
    · cases h
theorem sSs : ∀ (s : Sms) {sts : List Stmt}, okSs S s sts = true → Good G S k X E → GS G C k S → X.env.scope.kind = .function → PassesOwn (model X.prog X.w) X.A X.env X.xe → PSs X sts (tSr G W0 H0 E (evSs C s))
  | .nil, [], h, g, hG, hk, hp => pssv_nil
  | .nil, _ :: _, h, g, hG, hk, hp => by simp [okSs] at h
  | .cons s r, [], h, g, hG, hk, hp => by simp [okSs] at h
  | .cons s r, x :: xs, h, g, hG, hk, hp => by
    rw [okSs, Bool.and_eq_true] at h
    exact pssv_cons (sS s h.1 g hG hk hp) (sSs r h.2 g hG hk hp)
  | .frz i r, xs, h, g, hG, hk, hp => by
    unfold okSs at h
    exact pssv_frz (sSs r h g hG hk hp)
end
end Iv

/-! Iv, part L: defs, all together; the law's end. -/
namespace Iv
open PySem L2 PyProof.Rows

/-- where a def stands: a global's value; a method; behind a staticmethod; behind a property -/
inductive Pl where
  | glo | met (c : Str) | sta (c : Str) | prp (c : Str)
/-- a def: its name, qualified name, its place, its parameters, whether the last one takes all that is left, its slots (the parameters first), its body -/
structure FnD where
  name : Str
  ps : List Str
  N : List Str
  body : Sms
  qual : Str := name
  pl : Pl := .glo
  star : Bool := false
def FnD.arity (F : FnD) : Nat := F.ps.length
def Pl.isGlo : Pl → Bool
  | .glo => true
  | _ => false
def FnD.e (F : FnD) : FnE := ⟨F.name, F.arity, F.pl.isGlo⟩
/-- a program: its defs, classes, the names of attributes, which class is under which -/
structure Prog where
  fs : List (Nat × FnD)
  ct : List (Nat × ClsD)
  nms : List Str
  sub : List (Nat × Nat)
def Prog.lookup (P : Prog) (i : Nat) : Option FnD := P.fs.lookup i
def Prog.subB (P : Prog) (a b : Nat) : Bool := a == b || P.sub.contains (a, b)
def Prog.cfg (P : Prog) (C : CallH) : Cfg := ⟨C, fun c => P.ct.lookup c, P.subB⟩
def endV (f : Fl) : M D := match f with
  | .nx => ret .non
  | .rt d => ret d
  | .xc c fs => fun h => .ex c fs h
  | _ => fun _ => .bad
noncomputable def runF (b : Env → M RS) (n : Nat) (ds : List D) : M D := bnd (noex (b (ds.map Sl.val ++ List.replicate (n - ds.length) Sl.no))) fun r => endV r.1
noncomputable def runD (C : Cfg) (F : FnD) (ds : List D) : M D := if F.star = true then (if 1 ≤ F.ps.length ∧ F.ps.length ≤ ds.length + 1 ∧ ds.length + 1 - F.ps.length ≤ 16777216 then runF (evSs C F.body) F.N.length (ds.take (F.ps.length - 1) ++ [.tup (ds.drop (F.ps.length - 1))]) else fun _ => .bad)
  else if ds.length = F.arity then runF (evSs C F.body) F.N.length ds else fun _ => .bad
noncomputable def callI (P : Prog) : Nat → CallH
  | 0 => fun _ _ _ => .bad
  | n + 1 => fun f ds => match P.lookup f with
    | none => fun _ => .bad
    | some F => runD (P.cfg (callI P n)) F ds
noncomputable abbrev cfgI (P : Prog) (k : Nat) : Cfg := P.cfg (callI P k)
def fnE (P : Prog) : List (Nat × FnE) := P.fs.map fun p => (p.1, p.2.e)
theorem fnE_look {P : Prog} {i : Nat} : (fnE P).lookup i = (P.lookup i).map FnD.e := by
  unfold fnE Prog.lookup
  generalize P.fs = l
  induction l with
  | nil => rfl
  | cons p r ih =>
    obtain ⟨j, F⟩ := p
    show (match i == j with | true => some F.e | false => List.lookup i (r.map fun p => (p.1, p.2.e))) = (match i == j with | true => some F | false => r.lookup i).map FnD.e
    cases i == j with
    | true => rfl
    | false => exact ih
theorem look_mem {α : Type} : ∀ {l : List (Nat × α)} {i : Nat} {F : α}, l.lookup i = some F → (i, F) ∈ l
  | [], _, _, h => by cases h
  | (j, x) :: r, i, F, h => by
    have h : (match i == j with | true => some x | false => r.lookup i) = some F := h
    cases c : i == j with
    | true =>
      rw [c] at h
      cases h
      rw [beq_iff_eq.mp c]
      exact List.mem_cons_self
    | false =>
      rw [c] at h
      exact List.mem_cons_of_mem _ (look_mem h)
def staOf (P : Prog) (globs : List (Str × D)) (blts : List Str) (F : FnD) (st : Stmt) : Sta where
  N := F.N
  sc := defScope st
  loc := (defScope st).names
  globs := globs
  blts := blts
  funs := fnE P
  ct := P.ct
  nms := P.nms
def scK (N P : List Str) (sc : Scope) : Bool :=
  decide (sc.kind = .function) && !sc.isCoroutine && !sc.isGenerator && decide N.Nodup && decide (N.take P.length = P) && P.all (fun x => decide (sc.names.lookup x = some .local) || decide (sc.names.lookup x = some .cell)) && sc.names.all (fun y => !decide (y.2 = .free))
theorem fnScope_of {N P : List Str} {sc : Scope} (h : scK N P sc = true) : FnScope N P sc := by
  unfold scK at h
  simp only [Bool.and_eq_true, Bool.not_eq_true', decide_eq_true_eq, List.all_eq_true, Bool.or_eq_true, decide_eq_false_iff_not] at h
  obtain ⟨⟨⟨⟨⟨⟨h1, h2⟩, h3⟩, h4⟩, h5⟩, h6⟩, h7⟩ := h
  exact ⟨h1, h2, h3, h4, h5, h6, h7⟩
def okD (P : Prog) (globs : List (Str × D)) (blts : List Str) (F : FnD) (st : Stmt) : Bool := scK F.N F.ps (defScope st) && okSs (staOf P globs blts F st) F.body (defBody st)
/-- how a def's arguments are bound -/
def BindP (st : Stmt) (F : FnD) : Prop := ∀ (kV doc pm : Value) (an : Option Addr) (cdv ct : Value),
  if F.star = true then ∀ us rest : List Value, us.length = F.ps.dropLast.length → bindArgs (PySem.W.fnOf F.name F.qual (defArgs st) (defBody st) (defScope st) .none kV doc pm an cdv ct) ⟨us ++ rest, []⟩ = (newTuple rest >>= fun t => pure (F.ps.dropLast.zip us ++ [(F.ps.getLastD "", t)]))
  else ∀ us : List Value, us.length = F.ps.length → bindArgs (PySem.W.fnOf F.name F.qual (defArgs st) (defBody st) (defScope st) .none kV doc pm an cdv ct) ⟨us, []⟩ = pure (F.ps.zip us)

variable {G : GC} {P : Prog} {globs : List (Str × D)} {blts : List Str}
theorem Er.start {W : Wd} {H : Hp} {ds : List D} {vs : List V} (r : Reps G W ds vs) (n : Nat) : Er G W H H (ds.map Sl.val ++ List.replicate (n - ds.length) Sl.no) (vs.map some ++ List.replicate (n - vs.length) none) := by
  have hl := r.length
  refine ⟨by simp [hl], fun i s v h1 h2 => ?_, fun i j xs ys p h1 => ?_⟩
  · by_cases hi : i < ds.length
    · rw [List.getElem?_append_left (by simpa using hi), List.getElem?_map] at h1
      rw [List.getElem?_append_left (by simpa [← hl] using hi), List.getElem?_map] at h2
      cases c : ds[i]? with
      | none => rw [c] at h1; cases h1
      | some d =>
        rw [c] at h1; cases h1
        obtain ⟨u, e, q⟩ := r.get c
        rw [e] at h2; cases h2
        exact ⟨u, rfl, q⟩
    · rw [List.getElem?_append_right (by simpa using hi), List.getElem?_replicate] at h1
      split at h1
      · cases h1; trivial
      · cases h1
  · exfalso
    by_cases hi : i < ds.length
    · rw [List.getElem?_append_left (by simpa using hi), List.getElem?_map] at h1
      cases c : ds[i]? with
      | none => rw [c] at h1; cases h1
      | some d => rw [c] at h1; cases h1
    · rw [List.getElem?_append_right (by simpa using hi), List.getElem?_replicate] at h1
      split at h1 <;> cases h1
theorem tgOk_loc {S : Sta} (h : S.loc = S.sc.names) {x : Str} (t : tgOk S x = true) : Loc S.sc x := by
  unfold tgOk at t
  rw [h] at t
  split at t
  · exact .inl (by assumption)
  · exact .inr (by assumption)
  · cases t
/-- the body, from where its slots are filled -/
theorem body_ok {k : Nat} {C : Cfg} (hG : GOk G C k globs blts (fnE P) P.ct P.nms) {F : FnD} {st : Stmt} (ok : okD P globs blts F st = true) (cdv : Value) (f : Addr) (A : Around) (outer : List PySem.Env) (s : Shared) (H : Hp) (vs : List V) (Q : VK) (E : XK)
    (hr : Room (4 * k + 3) (A.deeper (envOfC F.qual (defScope st) s.heap.objs.size f cdv))) {W : Wd} {h : IH} {ds : List D} (hr0 : Hr G W h H) (r : Reps G W ds vs) (p : (runF (evSs C F.body) F.N.length ds h).post (KQ G (rrE G) W H Q) (KX G E W H)) :
    ∃ t, PSs (cxOf (L2.CX G.P G.w) G.P G.w G.K G.mg G.base F.N F.qual (defScope st) f cdv A outer s H E) (defBody st) t ∧ t { nx := fun _ H' => Q .non H', rt := Q } (start F.N vs) H := by
  unfold okD at ok
  rw [Bool.and_eq_true] at ok
  have S := fnScope_of ok.1
  have g : Good G (staOf P globs blts F st) k (cxOf (L2.CX G.P G.w) G.P G.w G.K G.mg G.base F.N F.qual (defScope st) f cdv A outer s H E) (fun _ => E) :=
    ⟨rfl, rfl, rfl, rfl, rfl, rfl, S.nd, rfl, fun x hx => ⟨tgOk_loc (S := staOf P globs blts F st) rfl hx, .inl rfl⟩, rfl, hr, fun σ pins H s e s' I c => passes_call (takes_of rfl rfl rfl rfl) (fun _ _ _ _ h => h) pins σ H s e s' I c⟩
  refine ⟨_, sSs (W0 := W) (H0 := H) F.body ok.2 g hG S.kind (passes_of rfl), ?_⟩
  refine ⟨W, h, ds.map Sl.val ++ List.replicate (F.N.length - ds.length) Sl.no, hr0, Er.start r _, Fr.refl W H, ?_⟩
  have p := post_bnd.mp p
  have p : ((evSs C F.body (ds.map Sl.val ++ List.replicate (F.N.length - ds.length) Sl.no)) h).post (fun r h' => ((endV r.1) h').post (KQ G (rrE G) W H Q) (KX G E W H)) NoY := by
    unfold noex at p
    cases e : evSs C F.body (ds.map Sl.val ++ List.replicate (F.N.length - ds.length) Sl.no) h with
    | ok a h' => rw [e] at p; exact p
    | ex c fs h' => rw [e] at p; exact p.elim
    | bad => rw [e] at p; exact p.elim
  refine p.mono (fun q h1 p1 W1 H1 σ1 l1 f1 hr1 er1 => ?_) fun _ _ _ k => k
  cases hq : q.1 with
  | nx =>
    rw [hq] at p1
    have p1 : KQ G (rrE G) W H Q .non h1 := p1
    exact p1 W1 H1 _ f1 hr1 .non
  | rt d =>
    rw [hq] at p1
    have p1 : KQ G (rrE G) W H Q d h1 := p1
    exact fun v rv => p1 W1 H1 v f1 hr1 rv
  | xc c fs =>
    rw [hq] at p1
    have p1 : KX G E W H c fs h1 := p1
    exact fun cls dd x => p1 W1 H1 cls dd f1 hr1 x
  | bk => rw [hq] at p1; exact p1.elim
  | ct => rw [hq] at p1; exact p1.elim
theorem bindP_of {st : Stmt} {F : FnD} (hs : F.star = false) (h : ∀ (kV doc pm : Value) (an : Option Addr) (cdv ct : Value) (us : List Value), us.length = F.ps.length → bindArgs (PySem.W.fnOf F.name F.qual (defArgs st) (defBody st) (defScope st) .none kV doc pm an cdv ct) ⟨us, []⟩ = pure (F.ps.zip us)) : BindP st F := fun kV doc pm an cdv ct => by
    rw [hs, if_neg Bool.false_ne_true]
    exact h kV doc pm an cdv ct
theorem bindP_star {st : Stmt} {F : FnD} (hs : F.star = true) (h : ∀ (kV doc pm : Value) (an : Option Addr) (cdv ct : Value) (us rest : List Value), us.length = F.ps.dropLast.length → bindArgs (PySem.W.fnOf F.name F.qual (defArgs st) (defBody st) (defScope st) .none kV doc pm an cdv ct) ⟨us ++ rest, []⟩ = (newTuple rest >>= fun t => pure (F.ps.dropLast.zip us ++ [(F.ps.getLastD "", t)]))) : BindP st F := fun kV doc pm an cdv ct => by
    rw [hs, if_pos rfl]
    exact h kV doc pm an cdv ct
  /-- where a def's text stands: a statement of the module; one of a class's -/
def placeAt (b : List Stmt) (p : Option (Nat × Option Nat)) : Stmt := match p with
    | some (j, none) => b.getD j (.Pass ⟨0, 0, 0, 0⟩)
    | some (j, some k) => match b.getD j (.Pass ⟨0, 0, 0, 0⟩) with
      | .ClassDef _ _ _ body _ _ _ _ _ _ _ => body.getD k (.Pass ⟨0, 0, 0, 0⟩)
      | s => s
    | none => .Pass ⟨0, 0, 0, 0⟩
theorem take_last {ps : List Str} (h : ps ≠ []) : ps.dropLast ++ [ps.getLastD ""] = ps := by
  rw [List.getLastD_eq_getLast?, List.getLast?_eq_getLast h]
  exact List.dropLast_concat_getLast h
theorem fn_okF {k : Nat} {C : Cfg} (hG : GOk G C k globs blts (fnE P) P.ct P.nms) {F : FnD} {st : Stmt} {f : Addr} {fd : FuncData} (hF : FunD G.K F.name F.qual (defArgs st) (defBody st) (defScope st) [] [] f fd) (hs : F.star = false) (ok : okD P globs blts F st = true) :
    FnOk G.P G.w G.K G.mg G.base (L2.CX G.P G.w) (4 * k + 4) f fd F.ps (fun vs H Q E => ∃ W h ds, Hr G W h H ∧ Reps G W ds vs ∧ ds.length = F.arity ∧ (runF (evSs C F.body) F.N.length ds h).post (KQ G (rrE G) W H Q) (KX G E W H)) := by
  have ok' := ok
  unfold okD at ok'
  rw [Bool.and_eq_true] at ok'
  have S := fnScope_of ok'.1
  refine hF.ok S (fun vs H Q E h => ?_) fun cdv A outer s H vs Q E hr h => ?_
  · obtain ⟨W, h, ds, _, r, e, _⟩ := h
    rw [← r.length, e]; rfl
  · obtain ⟨W, h, ds, hr0, r, e, p⟩ := h
    exact body_ok hG ok cdv f A outer s H vs Q E hr hr0 r p
theorem fn_okI {k : Nat} {C : Cfg} (hG : GOk G C k globs blts (fnE P) P.ct P.nms) {F : FnD} {st : Stmt} {f : Addr} {fd : FuncData} (hF : FunD G.K F.name F.qual (defArgs st) (defBody st) (defScope st) [] [] f fd) (hb : BindP st F) (ok : okD P globs blts F st = true) :
    FnI G (4 * k + 4) f (runD C F) := by
  have ok' := ok
  unfold okD at ok'
  rw [Bool.and_eq_true] at ok'
  have S := fnScope_of ok'.1
  cases hs : F.star with
  | false =>
    have A := fn_okF hG hF hs ok
    have B := A.raw (FunD.bindsN hF (fun kV doc pm an cdv ct us hl => by
      have := hb kV doc pm an cdv ct
      rw [hs] at this
      exact this us hl)) .nil
    refine B.imp fun vs H Q E ⟨W, h, ds, hr0, r, p⟩ => ?_
    rw [List.append_nil]
    unfold runD at p
    rw [hs] at p
    simp only [Bool.false_eq_true, if_false] at p
    by_cases c : ds.length = F.arity
    · rw [if_pos c] at p
      exact ⟨W, h, ds, hr0, r, c, p⟩
    · rw [if_neg c] at p; exact p.elim
  | true =>
    obtain ⟨oc, od, dV, kV, doc, pm, an, cdv, ct, osl, rfl, lk, hcd, hd, _⟩ := hF.ex
    have ed : dV = .none := by
      rcases hd with ⟨_, e2⟩ | ⟨e2, _⟩
      · exact e2
      · exact absurd rfl e2
    subst ed
    have hb1 := hb kV doc pm an cdv ct
    rw [hs] at hb1
    have hb1 := hb1
    by_cases hps : F.ps = []
    · intro A outer s H us vs Q E _ _ _ ⟨W, h, ds, _, _, p⟩
      exfalso
      unfold runD at p
      rw [hs] at p
      simp only [if_true] at p
      rw [if_neg (fun c => by rw [hps] at c; exact absurd c.1 (by simp))] at p
      exact p
    · have e := take_last hps
      have el : F.ps.dropLast.length = F.ps.length - 1 := List.length_dropLast
      have S' : FnScope F.N (F.ps.dropLast ++ [F.ps.getLastD ""]) (defScope st) := by rw [e]; exact S
      have A := StX.fn_star (K := G.K) (P := G.P) (w := G.w) (mg := G.mg) (base := G.base) (CX := L2.CX G.P G.w) (k := 4 * k + 3) (sp := fun vs H Q E => ∃ W h ds, Hr G W h H ∧ Reps G W ds vs ∧ (runF (evSs C F.body) F.N.length ds h).post (KQ G (rrE G) W H Q) (KX G E W H))
        lk hcd S' StX.cxUp hb1 (fun A outer s H vs Q E hr ⟨W, h, ds, hr0, r, p⟩ => body_ok hG ok cdv f A outer s H vs Q E hr hr0 r p)
      refine A.imp fun vs H Q E ⟨W, h, ds, hr0, r, p⟩ => ?_
      unfold runD at p
      rw [hs] at p
      simp only [if_true] at p
      by_cases c : 1 ≤ F.ps.length ∧ F.ps.length ≤ ds.length + 1 ∧ ds.length + 1 - F.ps.length ≤ 16777216
      · rw [if_pos c] at p
        have hl := r.length
        have ld : (ds.drop (F.ps.length - 1)).length ≤ sizeLine := by rw [List.length_drop, sizeLine_eq]; omega
        refine ⟨vs.take (F.ps.length - 1), vs.drop (F.ps.length - 1), (List.take_append_drop _ _).symm, by rw [List.length_take, el]; omega, by rw [List.length_drop, sizeLine_eq]; omega, fun q hq => ?_⟩
        have r2 : Reps G W (ds.drop (F.ps.length - 1)) (vs.drop (F.ps.length - 1)) := Reps.drop _ r
        have r1 : Reps G W (ds.take (F.ps.length - 1)) (vs.take (F.ps.length - 1)) := Reps.take _ r
        obtain ⟨n1, n2, n3⟩ := new_tup hr0 ld r2 hq
        refine ⟨_, h, _, n2, (r1.mono n1.le).snoc n3, R.post.mono p (fun d h2 k => k.step upE n1) fun _ _ _ k => k.step n1⟩
      · rw [if_neg c] at p; exact p.elim

/-! ### all defs together -/
/-- where the defs, the classes stand -/
structure Placed (G : GC) (P : Prog) (globs : List (Str × D)) (blts : List Str) : Prop where
  at_ : ∀ i F, P.lookup i = some F → ∃ st fd, FunD G.K F.name F.qual (defArgs st) (defBody st) (defScope st) [] [] (G.fa i) fd ∧ BindP st F ∧ okD P globs blts F st = true
  top : ∀ i F, P.lookup i = some F → F.pl.isGlo = true → G.mg F.name = some (.ref (G.fa i)) ∧ PySem.W.keepIn G.K (.ref (G.fa i)) = true
  glob : ∀ x d, globs.lookup x = some d → ∃ u v, G.mg x = some u ∧ RelV v u ∧ ∀ W, Rep G W d v
  blt : ∀ x ∈ blts, G.mg x = none
  cls : ∀ c K, P.ct.lookup c = some K → ∃ CC, ClX G c K CC
  cin : ∀ c CC ns, G.cls c = some (CC, ns) → PySem.W.selfFirst G.K CC = true
  sub : P.subB = G.sub
  ck : CK G
  nm : G.nm = nmOf P.nms
theorem fnI_bad {k : Nat} {f : Addr} {F : List D → M D} (h : ∀ ds h K Y, ¬ (F ds h).post K Y) : FnI G k f F := fun A outer s H us vs Q E _ _ _ ⟨W, hh, ds, _, _, p⟩ => absurd p (h _ _ _ _)
theorem all_ok (L : Placed G P globs blts) : ∀ k, GOk G (cfgI P k) k globs blts (fnE P) P.ct P.nms
  | 0 => ⟨L.glob, L.blt, fun i F h t => by
      rw [fnE_look] at h
      obtain ⟨F', hF, rfl⟩ := Option.map_eq_some_iff.mp h
      exact L.top i F' hF t, fun i => fnI_bad fun ds h K Y q => q, fun _ i ds h K Y q => q, L.cls, fun _ => rfl, L.cin, L.sub, L.ck, L.nm⟩
  | k + 1 => ⟨L.glob, L.blt, fun i F h t => by
      rw [fnE_look] at h
      obtain ⟨F', hF, rfl⟩ := Option.map_eq_some_iff.mp h
      exact L.top i F' hF t, fun i => by
      show FnI G (4 * k + 4) (G.fa i) (callI P (k + 1) i)
      cases e : P.lookup i with
      | none =>
        refine fnI_bad fun ds h K Y q => ?_
        simp only [callI, e] at q
        exact q
      | some F =>
        obtain ⟨st, fd, hF, hb, ok⟩ := L.at_ i F e
        have e2 : callI P (k + 1) i = runD (cfgI P k) F := by
          funext ds
          simp only [callI, e]
        rw [e2]
        exact fn_okI (all_ok L k) hF hb ok, fun z => absurd z (by omega), L.cls, fun _ => rfl, L.cin, L.sub, L.ck, L.nm⟩

/-! ### what the top has written -/
def Pl.addr (K : PySem.W.Frag) (x : Str) : Pl → Addr
  | .glo => He.ga K x
  | .met c => He.ma K (He.ga K c) x
  | .sta c => He5.wf K (He.ga K c) "staticmethod" x
  | .prp c => He5.wf K (He.ga K c) "property" x
def faI (P : Prog) (K : PySem.W.Frag) (i : Nat) : Addr := match P.lookup i with
  | some F => F.pl.addr K F.name
  | none => 0
def gcI (P : Prog) (prog : Program) (w : World) (K : PySem.W.Frag) (mg : Str → Option Value) (base : Heap) : GC where
  P := prog
  w := w
  K := K
  mg := mg
  base := base
  cls := fun c => (P.ct.lookup c).map fun k => (He.ga K k.x, k.ns.map (nmOf P.nms))
  exc := fun _ => none
  sub := P.subB
  fa := faI P K
  nm := nmOf P.nms
def repB : D → Value → Bool
  | .non, .none => true
  | .bl b, .bool c => b == c
  | .int i, .int j _ => decide (i = j)
  | .str x, .str y _ => decide (y = ⟨x.toArray⟩ ∧ x.length ≤ 16777216)
  | _, _ => false
theorem repB_ok {d : D} {u : Value} (h : repB d u = true) : ∃ v, RelV v u ∧ ∀ W, Rep G W d v := by
  unfold repB at h
  split at h
  · exact ⟨.non, rfl, fun _ => .non⟩
  · exact ⟨.bl _, by rw [beq_iff_eq.mp h]; rfl, fun _ => .bl _⟩
  · exact ⟨.int _, ⟨_, by rw [of_decide_eq_true h]⟩, fun _ => .int _⟩
  · have q := of_decide_eq_true h
    rename_i x y t
    exact ⟨.str ⟨x.toArray⟩, ⟨_, by rw [q.1]⟩, fun _ => .str x (by rw [sizeLine_eq]; exact q.2)⟩
  · cases h
def globB (K : PySem.W.Frag) (p : Str × D) : Bool := match PySem.W.nsIn K mainGlobals p.1 with
  | some (some u) => repB p.2 u
  | _ => false
def propB (K : PySem.W.Frag) (C : Addr) (m : Str) : Bool := He.eqO (PySem.W.findIn K (.ref C) m) (some (some (.ref (He.ma K C m)))) && (He.eqO (PySem.W.specialIn K (.ref (He.ma K C m)) "__get__") (some (some (.builtin "property.__get__"))) &&
  (decide (PySem.W.takesIn K (.ref (He.ma K C m)) = some true) && (match PySem.W.recIn K (He.ma K C m) "property" with
    | some (.ref _ :: _) => true
    | _ => false)))
theorem propB_ok {K : PySem.W.Frag} {C : Addr} {m : Str} (h : propB K C m = true) : PropOf K C m (He.ma K C m) (He5.wf K C "property" m) := by
  obtain ⟨h1, h⟩ := He.ba h
  obtain ⟨h2, h⟩ := He.ba h
  obtain ⟨h3, h4⟩ := He.ba h
  refine ⟨He.eqO_ok h1, He.eqO_ok h2, of_decide_eq_true h3, ?_⟩
  unfold He5.wf
  split at h4
  · rename_i f r e
    exact ⟨r, by rw [e]⟩
  · cases h4
/-- a def's text that returns iter(self.f) -/
def iterK (fld : Str) (st : Stmt) : Bool := (match defBody st with
  | [.Return (some (.Call (.Name f _) [.Attribute (.Name s _) a _] [] _)) _] => decide (f = "iter") && (decide (s = "self") && decide (a = fld))
  | _ => false) && (scK ["self"] ["self"] (defScope st) && (decide ((defScope st).names.lookup ("self" : Str) = some .local) && decide ((defScope st).names.lookup ("iter" : Str) = some .globalImplicit)))
def conB (K : PySem.W.Frag) (C : Addr) (m : Str) (d : D) : Bool := match PySem.W.findIn K (.ref C) m with
  | some (some u) => repB d u && (decide (PySem.W.specialIn K u "__get__" = some none) && !PySem.W.copiedNames.contains m)
  | _ => false
/-- what is asked of a class -/
def clsB (P : Prog) (K : PySem.W.Frag) (k : ClsD) : Bool :=
  (He.Fa.glo k.x).ok K && ((He.Fa.cls k.x).ok K && (PySem.W.keepIn K (.ref (He.ga K k.x)) && (decide (k.ns.map (nmOf P.nms)).Nodup && (decide (k.ns.length ≤ 900) &&
  ((k.ns.all fun f => (He.Fa.noat k.x (nmOf P.nms f)).ok K) && ((k.ms.all fun q => (He.Fa.meth k.x (nmOf P.nms q.1)).ok K && (decide (He.ma K (He.ga K k.x) (nmOf P.nms q.1) = faI P K q.2) && decide (nmOf P.nms q.1 ∉ k.ns.map (nmOf P.nms)))) &&
  ((k.ps.all fun q => propB K (He.ga K k.x) (nmOf P.nms q.1) && decide (He5.wf K (He.ga K k.x) "property" (nmOf P.nms q.1) = faI P K q.2)) &&
  ((k.ss.all fun q => He5.wrapB K (He.ga K k.x) "staticmethod" "staticmethod.__get__" (nmOf P.nms q.1) && (decide (He5.wf K (He.ga K k.x) "staticmethod" (nmOf P.nms q.1) = faI P K q.2) && PySem.W.keepIn K (.ref (faI P K q.2)))) &&
  ((k.ss.isEmpty || (He.eqO (PySem.W.specialIn K (.ref (He.ga K k.x)) "__getattribute__") (some (some (.builtin "type.__getattribute__"))) && PySem.W.readsIn K (He.ga K k.x) (.type "type"))) &&
  ((k.con.all fun q => conB K (He.ga K k.x) (nmOf P.nms q.1) q.2 && decide (nmOf P.nms q.1 ∉ k.ns.map (nmOf P.nms))) &&
  ((match k.init with
    | some i => (He.Fa.mkr k.x).ok K && decide (He.ma K (He.ga K k.x) "__init__" = faI P K i)
    | none => true) && ((match k.it with
    | some f => decide (f ∈ k.ns) && (He.Fa.meth k.x "__iter__").ok K
    | none => true) && PySem.W.selfFirst K (He.ga K k.x)))))))))))))
def ckB (P : Prog) (K : PySem.W.Frag) : Bool := P.ct.all fun p => (He.Fa.cls p.2.x).ok K && (He.eqO (PySem.W.findIn K (.ref (He.ga K p.2.x)) "__class__") (some (some (.builtin "object.__class__"))) && (decide (PySem.W.mroIn K (He.ga K p.2.x) (.type "object") = some true) &&
  ((P.ct.all fun q => decide (PySem.W.kitOne K (.ref (He.ga K p.2.x)) (.ref (He.ga K q.2.x)) = some (P.subB p.1 q.1))) &&
  ((["int", "bool", "str", "tuple", "list"].all fun T => decide (PySem.W.kitOne K (.ref (He.ga K p.2.x)) (.type T) = some false)) && (["NoneType", "bool", "int", "str", "tuple", "list"].all fun T => decide (PySem.W.kitOne K (.type T) (.ref (He.ga K p.2.x)) = some false))))))
def objB (K : PySem.W.Frag) : Bool := He.eqO (PySem.W.specialIn K (.builtin "object.__class__") "__get__") (some (some (.builtin "getset_descriptor.__get__"))) && decide (PySem.W.takesIn K (.builtin "object.__class__") = some true)
def exB (P : Prog) (globs : List (Str × D)) (K : PySem.W.Frag) : Bool := (globs.all (globB K)) && ((P.ct.all fun p => clsB P K p.2) && (ckB P K && (P.ct.isEmpty || objB K)))

theorem iter_fn {fld name qual : Str} {st : Stmt} {f : Addr} {fd : FuncData} (hF : FunD G.K name qual (defArgs st) (defBody st) (defScope st) [] [] f fd) (hb : Binds G.K fd ["self"] []) (h : iterK fld st = true) (hm : G.mg "iter" = none) :
    FnR G.P G.w G.K G.mg G.base (L2.CX G.P G.w) 1 f (spIt G.K fld) := by
  obtain ⟨h1, h⟩ := He.ba h
  obtain ⟨h2, h⟩ := He.ba h
  obtain ⟨h3, h4⟩ := He.ba h
  have h3 := of_decide_eq_true h3
  have h4 := of_decide_eq_true h4
  have S := fnScope_of h2
  split at h1
  · rename_i q1 q2 q3 q4 q5 q6 q7 q8 eb
    obtain ⟨k1, k⟩ := He.ba h1
    obtain ⟨k2, k3⟩ := He.ba k
    have k1 := of_decide_eq_true k1
    have k2 := of_decide_eq_true k2
    have k3 := of_decide_eq_true k3
    subst k1 k2 k3
    have A : FnOk G.P G.w G.K G.mg G.base (L2.CX G.P G.w) (0 + 1) f fd ["self"] (spIt G.K q5) := by
      refine hF.ok S (fun vs H Q E h => ?_) fun cdv A outer s H vs Q E hr h => ?_
      · obtain ⟨a, _, _, _, _, _, rfl, _⟩ := h; rfl
      · rw [eb]
        have hv : PE (cxOf (L2.CX G.P G.w) G.P G.w G.K G.mg G.base ["self"] qual (defScope st) f cdv A outer s H E) (.Name "self" q4) (tVar 0) := pe_var rfl (.inl h3) (by decide +kernel) (by decide +kernel)
        have hg : Gl (cxOf (L2.CX G.P G.w) G.P G.w G.K G.mg G.base ["self"] qual (defScope st) f cdv A outer s H E) "iter" := h4
        have ha := pa_cons (pe_fld (pos := q6) (f := q5) hv rfl) pa_nil (starEach_cons (fun _ _ z => by cases z))
        refine ⟨_, pss_cons (ps_ret (pos := q8) (pe_callB (pos := q7) (p := q2) cr_iterT hg hm (by decide +kernel) ha (by decide +kernel) (by decide +kernel) (starEach_cons (fun _ _ z => by cases z)) rfl)) pss_nil, ?_⟩
        obtain ⟨a, C, dx, fs, t, xs, rfl, e1, e2, e3, e4, e5, e6⟩ := h
        exact ⟨.ref a, rfl, a, C, dx, fs, .ref t, rfl, e1, e2, e3, e4, t, xs, rfl, e5, e6⟩
    refine (A.raw hb .nil).imp fun vs H Q E q => ?_
    rw [List.append_nil]; exact q
  · cases h1

/-! ### the Hook -/
def faOf (P : Prog) (blts : List Str) : List He.Fa := (P.fs.filter fun p => p.2.pl.isGlo).map (fun F => He.Fa.glo F.2.name) ++ blts.map He.Fa.free
def ddOf (top : Nat → Stmt) (p : Nat × FnD) : He5.DefA := ⟨fun K => p.2.pl.addr K p.2.name, p.2.name, p.2.qual, defArgs (top p.1), defBody (top p.1), defScope (top p.1), [], []⟩
def ddsOf (top : Nat → Stmt) (P : Prog) : List He5.DefA := P.fs.map (ddOf top)
abbrev AlI : Type := He.AlD × Bool
def obsI (fa : List He.Fa) (fn : List He5.DefA) (ex : PySem.W.Frag → Bool) (K : PySem.W.Frag) : AlI := (He5.obsA fa fn K, ex K)
def valI (fn : List He5.DefA) : AlI := (He5.valA fn, true)
structure SaysI (fa : List He.Fa) (fn : List He5.DefA) (ex : PySem.W.Frag → Bool) (K : PySem.W.Frag) : Prop where
  a : He5.SaysA fa fn K
  more : ex K = true
def obsIG (n : Nat) (fa : List He.Fa) (fn : List He5.DefA) (ex : PySem.W.Frag → Bool) (g : Addr → Option Obj) : AlI := obsI fa fn ex (He.frG g (He5.asA g n))
def hookI (n : Nat) (fa : List He.Fa) (fn : List He5.DefA) (ex : PySem.W.Frag → Bool) : PySem.W.Hook where
  α := AlI
  obs := fun s => obsIG n fa fn ex s.heap.get?
  val := fun _ => valI fn
  says := fun _ h => ∃ K : PySem.W.Frag, K.In h ∧ SaysI fa fn ex K
  of := fun _ _ e => ⟨_, He.frG_in, ⟨congrArg (fun z : AlI => z.1) e, congrArg (fun z : AlI => z.2) e⟩⟩
  keeps := fun _ _ _ ⟨K, hK, c⟩ k => ⟨K, PySem.W.Frag.In.keeps hK k, c⟩
theorem obsIG_eq {n : Nat} {fa : List He.Fa} {fn : List He5.DefA} {ex : PySem.W.Frag → Bool} {g : Addr → Option Obj} {s : Shared} (h : ∀ a, g a = s.heap.get? a) : obsIG n fa fn ex g = (hookI n fa fn ex).obs s := by
  have e : g = s.heap.get? := funext h
  rw [e] <;> rfl
theorem saysA_fact {fa : List He.Fa} {fn : List He5.DefA} {K : PySem.W.Frag} (c : He5.SaysA fa fn K) {f : He.Fa} (h : f ∈ fa) : f.ok K = true := by
  obtain ⟨i, hi, e⟩ := List.mem_iff_getElem.mp h
  exact c.fact i (f := f) (by rw [List.getElem?_eq_getElem hi, e])
theorem saysA_def {fa : List He.Fa} {fn : List He5.DefA} {K : PySem.W.Frag} (c : He5.SaysA fa fn K) {d : He5.DefA} (h : d ∈ fn) : ∃ fd, FunD K d.name d.qual d.params d.body d.scope (d.dvs K) (d.kws K) (d.at_ K) fd := by
  obtain ⟨i, hi, e⟩ := List.mem_iff_getElem.mp h
  exact c.def_ i (d := d) (by rw [List.getElem?_eq_getElem hi, e])
/-- what is looked up in the text -/
structure TextOk (top : Nat → Stmt) (P : Prog) (globs : List (Str × D)) (blts : List Str) : Prop where
  ok : ∀ p ∈ P.fs, okD P globs blts p.2 (top p.1) = true
  bd : ∀ p ∈ P.fs, BindP (top p.1) p.2
  it : ∀ p ∈ P.ct, ∀ f, p.2.it = some f → ∃ i F, p.2.ms.lookup 8 = some i ∧ P.lookup i = some F ∧ F.ps = [("self" : Str)] ∧ F.star = false ∧ iterK (nmOf P.nms f) (top i) = true ∧ ("iter" : Str) ∈ blts
theorem placed_of {top : Nat → Stmt} (T : TextOk top P globs blts) {h : Heap} {prog : Program} {w : World} {K : PySem.W.Frag} {mg : Str → Option Value} {base : Heap} (X : K.In h) (N : h.Ns mainGlobals mg) (c : SaysI (faOf P blts) (ddsOf top P) (exB P globs) K) :
    Placed (gcI P prog w K mg base) P globs blts := by
  obtain ⟨c1, c2⟩ := He.ba c.more
  obtain ⟨c2, c3⟩ := He.ba c2
  obtain ⟨c3, c4⟩ := He.ba c3
  have hdef : ∀ i F, P.lookup i = some F → ∃ fd, FunD K F.name F.qual (defArgs (top i)) (defBody (top i)) (defScope (top i)) [] [] (faI P K i) fd := fun i F e => by
    have hq : (i, F) ∈ P.fs := look_mem e
    obtain ⟨fd, D⟩ := saysA_def c.a (d := ddOf top (i, F)) (List.mem_map_of_mem hq)
    refine ⟨fd, ?_⟩
    have : faI P K i = F.pl.addr K F.name := by unfold faI; rw [e]
    rw [this]; exact D
  have hblt : ∀ x ∈ blts, mg x = none := fun x hx => He.free_ok X N (saysA_fact c.a (f := .free x) (List.mem_append_right _ (List.mem_map_of_mem hx)))
  have hcls : ∀ c0 k, P.ct.lookup c0 = some k → ∃ CC, ClX (gcI P prog w K mg base) c0 k CC := fun c0 k e => by
    have hq := look_mem e
    have q := List.all_eq_true.mp c2 _ hq
    obtain ⟨q1, q⟩ := He.ba q
    obtain ⟨q2, q⟩ := He.ba q
    obtain ⟨q3, q⟩ := He.ba q
    obtain ⟨q4, q⟩ := He.ba q
    obtain ⟨q5, q⟩ := He.ba q
    obtain ⟨q6, q⟩ := He.ba q
    obtain ⟨q6b, q⟩ := He.ba q
    obtain ⟨q7, q⟩ := He.ba q
    obtain ⟨q8, q⟩ := He.ba q
    obtain ⟨q9, q⟩ := He.ba q
    obtain ⟨q10, q⟩ := He.ba q
    obtain ⟨q11, q⟩ := He.ba q
    obtain ⟨q12, q13⟩ := He.ba q
    have nd := of_decide_eq_true q4
    refine ⟨He.ga K k.x, ⟨by show (P.ct.lookup c0).map _ = _; rw [e]; rfl, He.cls_ok q2, He.glo_ok X N q1, q3, nd, of_decide_eq_true q5, fun f hf => He.noat_ok (List.all_eq_true.mp q6 f hf), fun m i hm => ?_, fun m i hm => ?_, fun m d hm => ?_⟩, fun i hi => ?_, fun m i hm => ?_, ?_, q13⟩
    · obtain ⟨z1, z2⟩ := He.ba (List.all_eq_true.mp q6b _ (look_mem hm))
      obtain ⟨z2, z3⟩ := He.ba z2
      have z2 := of_decide_eq_true z2
      refine ⟨?_, of_decide_eq_true z3⟩
      have := He.meth_ok z1
      rw [z2] at this
      exact this
    · obtain ⟨z1, z2⟩ := He.ba (List.all_eq_true.mp q7 _ (look_mem hm))
      have := propB_ok z1
      rw [of_decide_eq_true z2] at this
      exact ⟨_, this⟩
    · obtain ⟨z1, z2⟩ := He.ba (List.all_eq_true.mp q10 _ (look_mem hm))
      refine ⟨of_decide_eq_true z2, ?_⟩
      unfold conB at z1
      split at z1
      · rename_i u eu
        obtain ⟨y1, y⟩ := He.ba z1
        obtain ⟨y2, y3⟩ := He.ba y
        obtain ⟨v, r, rr⟩ := repB_ok y1
        exact ⟨v, u, ⟨eu, r, of_decide_eq_true y2, not_true y3⟩, rr⟩
      · cases z1
    · have q11 : (match k.init with | some i => (He.Fa.mkr k.x).ok K && decide (He.ma K (He.ga K k.x) "__init__" = faI P K i) | none => true) = true := q11
      rw [hi] at q11
      obtain ⟨z1, z2⟩ := He.ba q11
      have := He.mkr_ok z1
      rw [of_decide_eq_true z2] at this
      exact this
    · obtain ⟨z1, z2⟩ := He.ba (List.all_eq_true.mp q8 _ (look_mem hm))
      obtain ⟨z2, z3⟩ := He.ba z2
      obtain ⟨y1, y2⟩ := He5.wrapB_ok z1
      have ne : k.ss.isEmpty = false := by
        cases es : k.ss with
        | nil => rw [es] at hm; cases hm
        | cons => rfl
      have q9 : (k.ss.isEmpty || (He.eqO (PySem.W.specialIn K (.ref (He.ga K k.x)) "__getattribute__") (some (some (.builtin "type.__getattribute__"))) && PySem.W.readsIn K (He.ga K k.x) (.type "type"))) = true := q9
      rw [ne, Bool.false_or] at q9
      obtain ⟨x1, x2⟩ := He.ba q9
      rw [of_decide_eq_true z2] at y2
      obtain ⟨rest, y2⟩ := y2
      exact ⟨He.eqO_ok x1, x2, ⟨_, rest, y1, y2⟩, z3⟩
    · intro f hf
      have q12 : (match k.it with | some f => decide (f ∈ k.ns) && (He.Fa.meth k.x "__iter__").ok K | none => true) = true := q12
      rw [hf] at q12
      obtain ⟨z1, z2⟩ := He.ba q12
      obtain ⟨i, F, t1, t2, t3, t4, t5, t6⟩ := T.it _ hq f hf
      have me := He.meth_ok z2
      refine ⟨of_decide_eq_true z1, _, me, ?_⟩
      obtain ⟨z3, z4⟩ := He.ba (List.all_eq_true.mp q6b _ (look_mem t1))
      obtain ⟨z4, _⟩ := He.ba z4
      have z4 := of_decide_eq_true z4
      obtain ⟨fd, D⟩ := hdef i F t2
      have z4 : He.ma K (He.ga K k.x) "__iter__" = faI P K i := z4
      rw [z4]
      refine iter_fn (G := gcI P prog w K mg base) D (FunD.bindsN D (fun kV doc pm an cdv ct us hl => ?_)) t5 (hblt _ t6)
      have := T.bd _ (look_mem t2) kV doc pm an cdv ct
      rw [t4, t3] at this
      exact this us hl
  refine ⟨fun i F e => ?_, fun i F e t => ?_, fun x d hx => ?_, hblt, hcls, fun c0 CC ns e => ?_, rfl, ?_, rfl⟩
  · obtain ⟨fd, D⟩ := hdef i F e
    exact ⟨top i, fd, D, T.bd _ (look_mem e), T.ok _ (look_mem e)⟩
  · have hq : (i, F) ∈ P.fs := look_mem e
    have g := He.glo_ok X N (saysA_fact c.a (f := .glo F.name) (List.mem_append_left _ (List.mem_map.mpr ⟨(i, F), List.mem_filter.mpr ⟨hq, t⟩, rfl⟩)))
    obtain ⟨fd, D⟩ := hdef i F e
    have e2 : faI P K i = He.ga K F.name := by
      unfold faI
      rw [e]
      cases hp : F.pl <;> rw [hp] at t <;> first | (show Pl.addr K F.name F.pl = _; rw [hp]; rfl) | cases t
    refine ⟨?_, D.kp⟩
    show mg F.name = some (.ref (faI P K i))
    rw [e2]; exact g
  · have q := List.all_eq_true.mp c1 (x, d) (PySem.mem_of_lookup hx)
    unfold globB at q
    split at q
    · rename_i u e
      obtain ⟨v, r, rr⟩ := repB_ok q
      exact ⟨u, v, PySem.W.mg_of X N e, r, rr⟩
    · cases q
  · obtain ⟨k, ek, ek2⟩ := Option.map_eq_some_iff.mp (show (P.ct.lookup c0).map _ = some (CC, ns) from e)
    obtain ⟨C2, x⟩ := hcls c0 k ek
    have := x.ok.at_
    rw [show (gcI P prog w K mg base).cls c0 = _ from e] at this
    cases this
    exact x.sf
  · have obj : ∀ c0 CC ns, (gcI P prog w K mg base).cls c0 = some (CC, ns) → objB K = true := fun c0 CC ns e => by
      obtain ⟨k, ek, _⟩ := Option.map_eq_some_iff.mp (show (P.ct.lookup c0).map _ = some (CC, ns) from e)
      cases es : P.ct with
      | nil => rw [es] at ek; cases ek
      | cons a b => rw [es] at c4; exact c4
    have one : ∀ c0 CC ns, (gcI P prog w K mg base).cls c0 = some (CC, ns) → ∃ k, (c0, k) ∈ P.ct ∧ CC = He.ga K k.x := fun c0 CC ns e => by
      obtain ⟨k, ek, e2⟩ := Option.map_eq_some_iff.mp (show (P.ct.lookup c0).map _ = some (CC, ns) from e)
      cases e2
      exact ⟨k, look_mem ek, rfl⟩
    refine ⟨fun c0 CC ns e => ?_, fun c0 CC ns c1' CC1 ns1 e e1 => ?_, fun c0 CC ns T e hT => ?_, fun c0 CC ns n e hn => ?_⟩
    · obtain ⟨k, hk, rfl⟩ := one _ _ _ e
      obtain ⟨z1, z⟩ := He.ba (List.all_eq_true.mp c3 _ hk)
      obtain ⟨z2, z⟩ := He.ba z
      obtain ⟨z3, _⟩ := He.ba z
      obtain ⟨o1, o2⟩ := He.ba (obj _ _ _ e)
      exact ⟨He.cls_ok z1, He.eqO_ok z2, He.eqO_ok o1, of_decide_eq_true o2, of_decide_eq_true z3⟩
    · obtain ⟨k, hk, rfl⟩ := one _ _ _ e
      obtain ⟨k1, hk1, rfl⟩ := one _ _ _ e1
      obtain ⟨_, z⟩ := He.ba (List.all_eq_true.mp c3 _ hk)
      obtain ⟨_, z⟩ := He.ba z
      obtain ⟨_, z⟩ := He.ba z
      obtain ⟨z, _⟩ := He.ba z
      exact of_decide_eq_true (List.all_eq_true.mp z _ hk1)
    · obtain ⟨k, hk, rfl⟩ := one _ _ _ e
      obtain ⟨_, z⟩ := He.ba (List.all_eq_true.mp c3 _ hk)
      obtain ⟨_, z⟩ := He.ba z
      obtain ⟨_, z⟩ := He.ba z
      obtain ⟨_, z⟩ := He.ba z
      obtain ⟨z, _⟩ := He.ba z
      exact of_decide_eq_true (List.all_eq_true.mp z _ hT)
    · obtain ⟨k, hk, rfl⟩ := one _ _ _ e
      obtain ⟨_, z⟩ := He.ba (List.all_eq_true.mp c3 _ hk)
      obtain ⟨_, z⟩ := He.ba z
      obtain ⟨_, z⟩ := He.ba z
      obtain ⟨_, z⟩ := He.ba z
      obtain ⟨_, z⟩ := He.ba z
      exact of_decide_eq_true (List.all_eq_true.mp z _ hn)

/-! ### the law -/
def spLaw (K : PySem.W.Frag) : Sp := fun vs H Q _ => ∃ (a : Addr) (ns : List Int), vs = [.ref a] ∧ ns.length ≤ 63 ∧ SqL K H a (ns.map V.int) ∧ ∀ H', Q (.bl true) H'
theorem reps_ints {W : Wd} (ns : List Int) : Reps G W (ns.map D.int) (ns.map V.int) := by
  induction ns with
  | nil => exact .nil
  | cons i ns ih => exact .cons (.int i) ih
def LawV (P : Prog) (k i : Nat) : Prop := ∀ ns : List Int, ns.length ≤ 63 → ∃ h', callI P k i [.lst (ns.map D.int)] [] = .ok (.bl true) h'
theorem spLaw_of {k i : Nat} {vs : List V} {H : Hp} {Q : VK} {E : XK} (law : LawV P k i) (h : spLaw G.K vs H Q E) : spR G (callI P k i) vs H Q E := by
  obtain ⟨a, ns, rfl, hl, hS, q⟩ := h
  refine ⟨⟨H, []⟩, [], [.lst (ns.map D.int)], ⟨fun _ _ h => h, rfl, List.nodup_nil, fun i a c h => by simp at h, fun i a h => by simp at h⟩, .cons (.lst hS (by rw [List.length_map, sizeLine_eq]; omega) (reps_ints ns)) .nil, ?_⟩
  obtain ⟨h', e⟩ := law ns hl
  rw [e]
  intro W' H' v f hr r
  cases r
  exact q H'
theorem walk_ofW {l : PySem.W.OpenLaw} {n k : Nat} {q : Program} {loose : List Str} {XP : (Str → Option Value) → Heap → Prop} {YP : World → Heap → Prop} {d : DefRec} {CX : World → CXT} {x : Str}
    (hn : l.most = some n) (hn2 : n ≤ sizeLine) (hdf : d.params.defaults = []) (hr : Room k callerA)
    (F : ∀ (w : World) (mg : Str → Option Value) (fa : Addr) (h : Heap), YP w h → h.Ns mainGlobals mg → mg d.name = some (.ref fa) →
      ∃ (K : PySem.W.Frag) (fd : FuncData) (sp : Sp), K.In h ∧ (∀ (s : Shared) (u : Value), BindsTo s fd ⟨[u], []⟩ [(x, u)]) ∧
        (∀ (H : Hp) (a : Addr) (ns : List Int), ns.length ≤ n → Only H → SqL K H a (ns.map V.int) → sp [.ref a] H (fun v _ => v = .bl true) fun _ _ _ => False) ∧
        ∀ base : Heap, K.In base → base.Ns mainGlobals mg → FnOk l.prog w K mg base (CX w) k fa fd [x] sp)
    (hCX : ∀ (w : World) (H : Hp) (s : Shared) (e : Value) (s' : Shared), CX w [] H s (fun _ _ _ => False) e s' → False) :
    PySem.W.WalkO q loose XP YP l.row.toRowW d [] (fun f vs => PySem.call f vs) := by
  refine Att.attach_call hn hdf fun w s₀ s₁ mg mb fa o pm cd doc a vs ns G Y ho hd hcd hmg hobj hints hlen hg => ?_
  obtain ⟨K, fd, sp, KX, hb, hsp, hF⟩ := F w mg fa _ Y G.T.g hmg
  exact law_call KX G.T.g G.T.b G.T.builtins G.T.nolimit hg hobj hints (Nat.le_trans hlen hn2) hr hF hb (fun H hO hS => hsp H a ns hlen hO hS) fun H e s' => hCX w H s₁ e s'
theorem law_end {l : PySem.W.OpenLaw} {q : Program} {loose : List Str} {XP : (Str → Option Value) → Heap → Prop} {YP : World → Heap → Prop} {d : DefRec} {top : Nat → Stmt} {k i : Nat} {F : FnD} (hn : l.most = some 63) (hdf : d.params.defaults = []) (hr : Room (4 * (k + 1)) callerA)
    (hY : ∀ (w : World) (h : Heap), YP w h → ∃ K : PySem.W.Frag, K.In h ∧ SaysI (faOf P blts) (ddsOf top P) (exB P globs) K) (T : TextOk top P globs blts) (hi : P.lookup i = some F) (hp : F.ps = [("script" : Str)]) (hs : F.star = false) (hg : F.pl = .glo) (hd : d.name = F.name) (law : LawV P (k + 1) i) :
    PySem.W.WalkO q loose XP YP l.row.toRowW d [] (fun f vs => PySem.call f vs) := by
  refine walk_ofW (n := 63) (k := 4 * (k + 1)) (x := "script") (CX := fun w => L2.CX l.prog w) hn (by rw [sizeLine_eq]; decide) hdf hr (fun w mg fa h Y N hmg => ?_) fun w H s e s' z => ?_
  · obtain ⟨K, X, c⟩ := hY w h Y
    have PL : ∀ base : Heap, Placed (gcI P l.prog w K mg base) P globs blts := fun base => placed_of T X N c
    have q0 := (PL h).top i F hi (by rw [hg]; rfl)
    have g : mg F.name = some (.ref (faI P K i)) := q0.1
    rw [hd, g] at hmg
    have e : faI P K i = fa := by cases hmg; rfl
    obtain ⟨fd, D⟩ := saysA_def c.a (d := ddOf top (i, F)) (List.mem_map_of_mem (look_mem hi))
    have e3 : faI P K i = F.pl.addr K F.name := by unfold faI; rw [hi]
    have D : FunD K F.name F.qual (defArgs (top i)) (defBody (top i)) (defScope (top i)) [] [] fa fd := by
      rw [← e, e3]; exact D
    have hb : ∀ kV doc pm an cdv ct (us : List Value), us.length = F.ps.length → bindArgs (PySem.W.fnOf F.name F.qual (defArgs (top i)) (defBody (top i)) (defScope (top i)) .none kV doc pm an cdv ct) ⟨us, []⟩ = pure (F.ps.zip us) := fun kV doc pm an cdv ct us hl => by
      have := T.bd _ (look_mem hi) kV doc pm an cdv ct
      rw [hs] at this
      exact this us hl
    refine ⟨K, fd, spLaw K, X, fun s u => ?_, fun H a ns hl _ hS => ⟨a, ns, rfl, hl, hS, fun _ => rfl⟩, fun base X2 N2 => ?_⟩
    · have := FunD.bindsA D hb s [u] (by rw [hp]; rfl)
      rw [hp] at this
      exact this
    · have A := fn_okF (all_ok (PL base) k) D hs (T.ok _ (look_mem hi))
      rw [hp] at A
      refine A.imp fun vs H Q E h => ?_
      have h2 := spLaw_of (G := gcI P l.prog w K mg base) law h
      obtain ⟨W, hh, ds, h3, h4, h5⟩ := h2
      have e4 : callI P (k + 1) i = runD (cfgI P k) F := by
        funext ds
        simp only [callI, hi]
      rw [e4] at h5
      unfold runD at h5
      rw [hs] at h5
      simp only [Bool.false_eq_true, if_false] at h5
      by_cases c : ds.length = F.arity
      · rw [if_pos c] at h5
        exact ⟨W, hh, ds, h3, h4, c, h5⟩
      · rw [if_neg c] at h5; exact h5.elim
  · obtain ⟨_, _, _, _, _, _, _, _, _, _, _, _, z⟩ := z
    exact z
end Iv

/-! defs as Iv terms, by their numbers in reg.json (printed by gen.py) -/
namespace Fn
open PySem Iv
/-- _law_source -/
def b2 : Sms := .cons (.ret (.cell (.cons (.blt .list (.cons (.var 0) (.nil))) (.cons (.cst (.int 0)) (.cons (.cst (.int 0)) (.nil)))))) (.nil)
def f2 : FnD := { name := "_law_source", ps := ["script"], N := ["script"], body := b2, qual := "_law_source", pl := .glo, star := false }
/-- _law_relations -/
def b3 : Sms := .cons (.set 2 (.lst (.cons (.tup (.cons (.cst (.str [65])) (.cons (.cst (.int 1)) (.nil)))) (.cons (.tup (.cons (.cst (.str [66])) (.cons (.cst (.int 1)) (.nil)))) (.cons (.tup (.cons (.cst (.str [69])) (.cons (.cst (.int 2)) (.nil)))) (.cons (.tup (.cons (.cst (.str [70])) (.cons (.cst (.int 2)) (.nil)))) (.cons (.tup (.cons (.cst (.str [65])) (.cons (.cst (.int 2)) (.nil)))) (.cons (.tup (.cons (.cst (.str [69, 100, 103, 101])) (.cons (.cst (.int 2)) (.nil)))) (.cons (.tup (.cons (.cst (.str [77, 97, 114, 107])) (.cons (.cst (.int 1)) (.nil)))) (.cons (.tup (.cons (.cst (.str [66])) (.cons (.cst (.int 2)) (.nil)))) (.nil))))))))))) (.cons (.set 3 (.call 5 (.cons (.var 0) (.cons (.cst (.int 8)) (.nil))))) (.cons (.set 4 (.ix (.lst (.cons (.cst (.int 3)) (.cons (.cst (.int 5)) (.cons (.cst (.int 1)) (.nil))))) (.call 5 (.cons (.var 0) (.cons (.cst (.int 3)) (.nil)))))) (.cons (.ret (.comp (.range (.cons (.bin .add (.cst (.int 2)) (.call 5 (.cons (.var 0) (.cons (.cst (.int 3)) (.nil))))) (.nil))) (.nm 1) .no (.ix (.var 2) (.bin .mod (.blt .int (.cons (.bin .add (.var 3) (.bin .mul (.var 4) (.var 1))) (.nil))) (.cst (.int 8)))) [1])) (.nil))))
def f3 : FnD := { name := "_law_relations", ps := ["source"], N := ["source", "k", "pool", "first", "step"], body := b3, qual := "_law_relations", pl := .glo, star := false }
/-- _law_names -/
def b4 : Sms := .cons (.set 2 (.cst (.str [97, 98, 99, 100, 101, 102, 103, 104, 105, 106, 107, 108, 109, 110, 111, 112, 113, 114, 115, 116, 117, 118, 119, 120, 121, 122]))) (.cons (.set 3 (.call 5 (.cons (.var 0) (.cons (.cst (.int 26)) (.nil))))) (.cons (.set 4 (.call 5 (.cons (.var 0) (.cons (.cst (.int 4)) (.nil))))) (.cons (.own 5 (.lst (.nil))) (.cons (.forr (.range (.cons (.var 1) (.nil))) (.nm 6) (.cons (.set 7 (.ix (.var 2) (.bin .mod (.blt .int (.cons (.bin .add (.var 3) (.bin .mul (.cst (.int 11)) (.var 6))) (.nil))) (.cst (.int 26))))) (.cons (.set 8 (.var 7)) (.cons (.ite (.cmp .eq (.var 4) (.cst (.int 1))) (.cons (.set 8 (.bin .add (.bin .add (.ix (.lst (.cons (.cst (.str [])) (.cons (.cst (.str [120])) (.cons (.cst (.str [113, 55])) (.cons (.cst (.str [98])) (.nil)))))) (.call 5 (.cons (.var 0) (.cons (.cst (.int 4)) (.nil))))) (.var 7)) (.ix (.lst (.cons (.cst (.str [])) (.cons (.cst (.str [49])) (.cons (.cst (.str [122, 122])) (.cons (.cst (.str [99, 48])) (.nil)))))) (.call 5 (.cons (.var 0) (.cons (.cst (.int 4)) (.nil))))))) (.nil)) (.nil)) (.cons (.ite (.cmp .eq (.var 4) (.cst (.int 2))) (.cons (.set 8 (.bin .add (.cst (.str [116, 104, 105, 110, 103])) (.var 7))) (.nil)) (.nil)) (.cons (.ite (.cmp .eq (.var 4) (.cst (.int 3))) (.cons (.set 8 (.bin .add (.var 7) (.blt .str (.cons (.call 5 (.cons (.var 0) (.cons (.cst (.int 1000)) (.nil)))) (.nil))))) (.cons (.ite (.cmp .eq (.call 5 (.cons (.var 0) (.cons (.cst (.int 3)) (.nil)))) (.cst (.int 0))) (.cons (.set 8 (.bin .add (.cst (.str [110])) (.blt .str (.cons (.bin .add (.cst (.int 1)) (.call 5 (.cons (.var 0) (.cons (.cst (.int 3)) (.nil))))) (.nil))))) (.nil)) (.nil)) (.nil))) (.nil)) (.cons (.ite (.cmp .inn (.var 8) (.peek 5)) (.cons (.set 8 (.bin .add (.bin .add (.cst (.str [119])) (.blt .str (.cons (.var 6) (.nil)))) (.var 7))) (.nil)) (.nil)) (.cons (.app 5 (.var 8)) (.nil))))))))) (.frz 5 (.cons (.ret (.var 5)) (.nil)))))))
def f4 : FnD := { name := "_law_names", ps := ["source", "many"], N := ["source", "many", "letters", "first", "style", "names", "k", "letter", "name"], body := b4, qual := "_law_names", pl := .glo, star := false }
/-- _law_draw -/
def b5 : Sms := .cons (.ite (.cmp .le (.var 1) (.cst (.int 1))) (.cons (.ret (.cst (.int 0))) (.nil)) (.nil)) (.cons (.ite (.cmp .eq (.ix (.var 0) (.cst (.int 2))) (.cst (.int 0))) (.cons (.ite (.cmp .ge (.ix (.var 0) (.cst (.int 1))) (.blt .len (.cons (.ix (.var 0) (.cst (.int 0))) (.nil)))) (.cons (.ret (.cst (.int 0))) (.nil)) (.nil)) (.cons (.set 2 (.ix (.ix (.var 0) (.cst (.int 0))) (.ix (.var 0) (.cst (.int 1))))) (.cons (.ixs (.var 0) (.cst (.int 1)) (.bin .add (.ix (.var 0) (.cst (.int 1))) (.cst (.int 1)))) (.cons (.ite (.cmp .ge (.var 2) (.bin .pow (.cst (.int 10)) (.cst (.int 18)))) (.cons (.ixs (.var 0) (.cst (.int 2)) (.var 2)) (.nil)) (.cons (.set 3 (.bin .mod (.blt .int (.cons (.bin .add (.bin .add (.bin .mul (.var 2) (.cst (.int 48271))) (.bin .mul (.ix (.var 0) (.cst (.int 1))) (.cst (.int 69621)))) (.cst (.int 7))) (.nil))) (.cst (.int 2147483647)))) (.cons (.set 4 (.bin .mod (.blt .int (.cons (.bin .add (.bin .add (.bin .mul (.var 3) (.cst (.int 40692))) (.bin .mul (.var 2) (.cst (.int 16807)))) (.cst (.int 11))) (.nil))) (.cst (.int 2147483399)))) (.cons (.ixs (.var 0) (.cst (.int 2)) (.bin .add (.bin .add (.bin .mul (.var 3) (.cst (.int 2147483399))) (.var 4)) (.cst (.int 1)))) (.nil))))) (.nil))))) (.nil)) (.cons (.set 5 (.bin .mod (.blt .int (.cons (.ix (.var 0) (.cst (.int 2))) (.nil))) (.var 1))) (.cons (.ixs (.var 0) (.cst (.int 2)) (.bin .fdiv (.ix (.var 0) (.cst (.int 2))) (.var 1))) (.cons (.ret (.var 5)) (.nil)))))
def f5 : FnD := { name := "_law_draw", ps := ["source", "many"], N := ["source", "many", "cell", "first", "second", "digit"], body := b5, qual := "_law_draw", pl := .glo, star := false }
/-- _law_pattern -/
def b6 : Sms := .cons (.tg (.tp [3, 4]) (.ix (.var 1) (.call 5 (.cons (.var 0) (.cons (.blt .len (.cons (.var 1) (.nil))) (.nil)))))) (.cons (.own 5 (.lst (.cons (.var 3) (.nil)))) (.cons (.forr (.range (.cons (.var 4) (.nil))) (.nm 6) (.cons (.set 7 (.ix (.var 2) (.call 5 (.cons (.var 0) (.cons (.blt .len (.cons (.var 2) (.nil))) (.nil)))))) (.cons (.app 5 (.ix (.lst (.cons (.cst (.str [])) (.cons (.var 7) (.nil)))) (.call 5 (.cons (.var 0) (.cons (.cst (.int 2)) (.nil)))))) (.nil)))) (.cons (.ret (.blt .tuple (.cons (.peek 5) (.nil)))) (.nil))))
def f6 : FnD := { name := "_law_pattern", ps := ["source", "relations", "names"], N := ["source", "relations", "names", "word", "count", "parts", "k", "name"], body := b6, qual := "_law_pattern", pl := .glo, star := false }
/-- _law_opened -/
def b7 : Sms := .cons (.own 2 (.lst (.cons (.ix (.var 1) (.cst (.int 0))) (.nil)))) (.cons (.forr (.seq (.sl (.var 1) (.yes (.cst (.int 1))) .no)) (.nm 3) (.cons (.app 2 (.ix (.lst (.cons (.var 3) (.cons (.cst (.str [])) (.nil)))) (.call 5 (.cons (.var 0) (.cons (.cst (.int 2)) (.nil)))))) (.nil))) (.cons (.ret (.blt .tuple (.cons (.peek 2) (.nil)))) (.nil)))
def f7 : FnD := { name := "_law_opened", ps := ["source", "pattern"], N := ["source", "pattern", "parts", "part"], body := b7, qual := "_law_opened", pl := .glo, star := false }
/-- _law_atom -/
def b8 : Sms := .cons (.tg (.tp [3, 4]) (.ix (.var 1) (.call 5 (.cons (.var 0) (.cons (.blt .len (.cons (.var 1) (.nil))) (.nil)))))) (.cons (.ite (.cmp .eq (.var 4) (.cst (.int 1))) (.cons (.ret (.tup (.cons (.var 3) (.cons (.ix (.var 2) (.call 5 (.cons (.var 0) (.cons (.blt .len (.cons (.var 2) (.nil))) (.nil))))) (.nil))))) (.nil)) (.nil)) (.cons (.ret (.tup (.cons (.var 3) (.cons (.ix (.var 2) (.call 5 (.cons (.var 0) (.cons (.blt .len (.cons (.var 2) (.nil))) (.nil))))) (.cons (.ix (.var 2) (.call 5 (.cons (.var 0) (.cons (.blt .len (.cons (.var 2) (.nil))) (.nil))))) (.nil)))))) (.nil)))
def f8 : FnD := { name := "_law_atom", ps := ["source", "relations", "pool"], N := ["source", "relations", "pool", "word", "count"], body := b8, qual := "_law_atom", pl := .glo, star := false }
/-- _law_all_facts -/
def b9 : Sms := .cons (.set 3 (.lst (.cons (.tup (.cons (.ix (.var 0) (.cst (.int 0))) (.nil))) (.nil)))) (.cons (.forr (.seq (.sl (.var 0) (.yes (.cst (.int 1))) .no)) (.nm 4) (.cons (.set 5 (.lst (.nil))) (.cons (.forr (.seq (.var 3)) (.nm 6) (.cons (.set 5 (.bin .add (.var 5) (.comp (.seq (.var 1)) (.nm 2) (.yes (.or (.cons (.cmp .eq (.var 4) (.cst (.str []))) (.cons (.cmp .eq (.var 4) (.var 2)) (.nil))))) (.bin .add (.var 6) (.tup (.cons (.var 2) (.nil)))) [2]))) (.nil))) (.cons (.set 3 (.blt .list (.cons (.var 5) (.nil)))) (.nil))))) (.cons (.ret (.call 15 (.cons (.var 3) (.nil)))) (.nil)))
def f9 : FnD := { name := "_law_all_facts", ps := ["pattern", "names"], N := ["pattern", "names", "name", "rows", "part", "more", "row"], body := b9, qual := "_law_all_facts", pl := .glo, star := false }
/-- _law_same -/
def b10 : Sms := .cons (.ite (.or (.cons (.cmp .isn (.var 0) (.cst (.non))) (.cons (.cmp .isn (.var 1) (.cst (.non))) (.nil)))) (.cons (.ret (.and (.cons (.cmp .isn (.var 0) (.cst (.non))) (.cons (.cmp .isn (.var 1) (.cst (.non))) (.nil))))) (.nil)) (.nil)) (.cons (.ite (.or (.cons (.isi .bool (.var 0)) (.cons (.isi .bool (.var 1)) (.nil)))) (.cons (.ret (.and (.cons (.isi .bool (.var 0)) (.cons (.isi .bool (.var 1)) (.cons (.cmp .eq (.var 0) (.var 1)) (.nil)))))) (.nil)) (.nil)) (.cons (.ite (.or (.cons (.isi .int (.var 0)) (.cons (.isi .int (.var 1)) (.nil)))) (.cons (.ret (.and (.cons (.isi .int (.var 0)) (.cons (.isi .int (.var 1)) (.cons (.cmp .eq (.var 0) (.var 1)) (.nil)))))) (.nil)) (.nil)) (.cons (.ite (.or (.cons (.isi .str (.var 0)) (.cons (.isi .str (.var 1)) (.nil)))) (.cons (.ret (.and (.cons (.isi .str (.var 0)) (.cons (.isi .str (.var 1)) (.cons (.cmp .eq (.var 0) (.var 1)) (.nil)))))) (.nil)) (.nil)) (.cons (.ite (.or (.cons (.and (.cons (.isi .list (.var 0)) (.cons (.isi .list (.var 1)) (.nil)))) (.cons (.and (.cons (.isi .tuple (.var 0)) (.cons (.isi .tuple (.var 1)) (.nil)))) (.nil)))) (.cons (.ite (.cmp .ne (.blt .len (.cons (.var 0) (.nil))) (.blt .len (.cons (.var 1) (.nil)))) (.cons (.ret (.cst (.bl false))) (.nil)) (.nil)) (.cons (.forr (.range (.cons (.blt .len (.cons (.var 0) (.nil))) (.nil))) (.nm 2) (.cons (.ite (.not (.call 10 (.cons (.ix (.var 0) (.var 2)) (.cons (.ix (.var 1) (.var 2)) (.nil))))) (.cons (.ret (.cst (.bl false))) (.nil)) (.nil)) (.nil))) (.cons (.ret (.cst (.bl true))) (.nil)))) (.nil)) (.cons (.ret (.cst (.bl false))) (.nil))))))
def f10 : FnD := { name := "_law_same", ps := ["one", "two"], N := ["one", "two", "k"], body := b10, qual := "_law_same", pl := .glo, star := false }
/-- fact_fits -/
def b11 : Sms := .cons (.ite (.or (.cons (.cmp .ne (.blt .len (.cons (.var 0) (.nil))) (.blt .len (.cons (.var 1) (.nil)))) (.cons (.cmp .ne (.ix (.var 0) (.cst (.int 0))) (.ix (.var 1) (.cst (.int 0)))) (.nil)))) (.cons (.ret (.cst (.bl false))) (.nil)) (.nil)) (.cons (.ret (.blt .all (.cons (.comp (.zip (.cons (.sl (.var 1) (.yes (.cst (.int 1))) .no) (.cons (.sl (.var 0) (.yes (.cst (.int 1))) .no) (.nil)))) (.tp [2, 3]) .no (.cmp .inn (.var 2) (.tup (.cons (.cst (.str [])) (.cons (.var 3) (.nil))))) [2, 3]) (.nil)))) (.nil))
def f11 : FnD := { name := "fact_fits", ps := ["fact", "pattern"], N := ["fact", "pattern", "part", "name"], body := b11, qual := "fact_fits", pl := .glo, star := false }
/-- _law_fits -/
def b12 : Sms := .cons (.ite (.or (.cons (.cmp .ne (.blt .len (.cons (.var 0) (.nil))) (.blt .len (.cons (.var 1) (.nil)))) (.cons (.cmp .ne (.ix (.var 0) (.cst (.int 0))) (.ix (.var 1) (.cst (.int 0)))) (.nil)))) (.cons (.ret (.cst (.bl false))) (.nil)) (.nil)) (.cons (.forr (.range (.cons (.cst (.int 1)) (.cons (.blt .len (.cons (.var 0) (.nil))) (.nil)))) (.nm 2) (.cons (.ite (.and (.cons (.cmp .ne (.ix (.var 1) (.var 2)) (.cst (.str []))) (.cons (.cmp .ne (.ix (.var 1) (.var 2)) (.ix (.var 0) (.var 2))) (.nil)))) (.cons (.ret (.cst (.bl false))) (.nil)) (.nil)) (.nil))) (.cons (.ret (.cst (.bl true))) (.nil)))
def f12 : FnD := { name := "_law_fits", ps := ["fact", "pattern"], N := ["fact", "pattern", "k"], body := b12, qual := "_law_fits", pl := .glo, star := false }
/-- pattern_covers -/
def b13 : Sms := .cons (.ite (.or (.cons (.cmp .ne (.blt .len (.cons (.var 0) (.nil))) (.blt .len (.cons (.var 1) (.nil)))) (.cons (.cmp .ne (.ix (.var 0) (.cst (.int 0))) (.ix (.var 1) (.cst (.int 0)))) (.nil)))) (.cons (.ret (.cst (.bl false))) (.nil)) (.nil)) (.cons (.ret (.blt .all (.cons (.comp (.zip (.cons (.sl (.var 0) (.yes (.cst (.int 1))) .no) (.cons (.sl (.var 1) (.yes (.cst (.int 1))) .no) (.nil)))) (.tp [2, 3]) .no (.cmp .inn (.var 2) (.tup (.cons (.cst (.str [])) (.cons (.var 3) (.nil))))) [2, 3]) (.nil)))) (.nil))
def f13 : FnD := { name := "pattern_covers", ps := ["one", "two"], N := ["one", "two", "part", "other"], body := b13, qual := "pattern_covers", pl := .glo, star := false }
/-- _law_covers -/
def b14 : Sms := .cons (.ite (.or (.cons (.cmp .ne (.blt .len (.cons (.var 0) (.nil))) (.blt .len (.cons (.var 1) (.nil)))) (.cons (.cmp .ne (.ix (.var 0) (.cst (.int 0))) (.ix (.var 1) (.cst (.int 0)))) (.nil)))) (.cons (.ret (.cst (.bl false))) (.nil)) (.nil)) (.cons (.forr (.range (.cons (.cst (.int 1)) (.cons (.blt .len (.cons (.var 0) (.nil))) (.nil)))) (.nm 2) (.cons (.ite (.and (.cons (.cmp .ne (.ix (.var 0) (.var 2)) (.cst (.str []))) (.cons (.cmp .ne (.ix (.var 0) (.var 2)) (.ix (.var 1) (.var 2))) (.nil)))) (.cons (.ret (.cst (.bl false))) (.nil)) (.nil)) (.nil))) (.cons (.ret (.cst (.bl true))) (.nil)))
def f14 : FnD := { name := "_law_covers", ps := ["one", "two"], N := ["one", "two", "k"], body := b14, qual := "_law_covers", pl := .glo, star := false }
/-- _law_ascending -/
def b15 : Sms := .cons (.own 1 (.lst (.nil))) (.cons (.forr (.seq (.var 0)) (.nm 2) (.cons (.set 3 (.blt .len (.cons (.peek 1) (.nil)))) (.cons (.forr (.range (.cons (.blt .len (.cons (.peek 1) (.nil))) (.nil))) (.nm 4) (.cons (.ite (.cmp .le (.ix (.peek 1) (.bin .sub (.var 3) (.cst (.int 1)))) (.var 2)) (.cons (.brk) (.nil)) (.nil)) (.cons (.set 3 (.bin .sub (.var 3) (.cst (.int 1)))) (.nil)))) (.cons (.ite (.and (.cons (.cmp .eq (.var 3) (.blt .len (.cons (.peek 1) (.nil)))) (.cons (.or (.cons (.cmp .eq (.var 3) (.cst (.int 0))) (.cons (.cmp .ne (.ix (.peek 1) (.bin .sub (.var 3) (.cst (.int 1)))) (.var 2)) (.nil)))) (.nil)))) (.cons (.app 1 (.var 2)) (.nil)) (.cons (.ite (.or (.cons (.cmp .eq (.var 3) (.cst (.int 0))) (.cons (.cmp .ne (.ix (.peek 1) (.bin .sub (.var 3) (.cst (.int 1)))) (.var 2)) (.nil)))) (.cons (.own 1 (.bin .add (.bin .add (.sl (.peek 1) .no (.yes (.var 3))) (.lst (.cons (.var 2) (.nil)))) (.sl (.peek 1) (.yes (.var 3)) .no))) (.nil)) (.nil)) (.nil))) (.nil))))) (.frz 1 (.cons (.ret (.var 1)) (.nil))))
def f15 : FnD := { name := "_law_ascending", ps := ["rows"], N := ["rows", "found", "row", "at", "k"], body := b15, qual := "_law_ascending", pl := .glo, star := false }
/-- pattern_names -/
def b16 : Sms := .cons (.ret (.call 21 (.cons (.comp2 (.seq (.var 0)) (.nm 1) .no (.seq (.sl (.var 1) (.yes (.cst (.int 1))) .no)) (.nm 2) (.yes (.cmp .ne (.var 2) (.cst (.str [])))) (.var 2) [1, 2] [2]) (.nil)))) (.nil)
def f16 : FnD := { name := "pattern_names", ps := ["patterns"], N := ["patterns", "pattern", "part"], body := b16, qual := "pattern_names", pl := .glo, star := false }
/-- facts_like -/
def b17 : Sms := .cons (.set 4 (.lst (.cons (.tup (.cons (.ix (.var 0) (.cst (.int 0))) (.nil))) (.nil)))) (.cons (.forr (.seq (.sl (.var 0) (.yes (.cst (.int 1))) .no)) (.nm 5) (.cons (.set 6 (.ite (.cmp .eq (.var 5) (.cst (.str []))) (.var 1) (.comp (.seq (.var 1)) (.nm 3) (.yes (.cmp .eq (.var 3) (.var 5))) (.var 3) [3]))) (.cons (.set 4 (.comp2 (.seq (.var 4)) (.nm 2) .no (.seq (.var 6)) (.nm 3) .no (.tup (.star (.var 2) (.cons (.var 3) (.nil)))) [2, 3] [3])) (.nil)))) (.cons (.ret (.call 21 (.cons (.var 4) (.nil)))) (.nil)))
def f17 : FnD := { name := "facts_like", ps := ["pattern", "names"], N := ["pattern", "names", "row", "name", "rows", "part", "chosen"], body := b17, qual := "facts_like", pl := .glo, star := false }
/-- common_pattern -/
def b18 : Sms := .cons (.ite (.or (.cons (.cmp .ne (.blt .len (.cons (.var 0) (.nil))) (.blt .len (.cons (.var 1) (.nil)))) (.cons (.cmp .ne (.ix (.var 0) (.cst (.int 0))) (.ix (.var 1) (.cst (.int 0)))) (.nil)))) (.cons (.ret (.cst (.non))) (.nil)) (.nil)) (.cons (.own 2 (.lst (.nil))) (.cons (.forr (.zip (.cons (.sl (.var 0) (.yes (.cst (.int 1))) .no) (.cons (.sl (.var 1) (.yes (.cst (.int 1))) .no) (.nil)))) (.tp [3, 4]) (.cons (.ite (.and (.cons (.cmp .ne (.var 3) (.cst (.str []))) (.cons (.cmp .ne (.var 4) (.cst (.str []))) (.cons (.cmp .ne (.var 3) (.var 4)) (.nil))))) (.cons (.ret (.cst (.non))) (.nil)) (.nil)) (.cons (.app 2 (.ite (.cmp .eq (.var 3) (.cst (.str []))) (.var 4) (.var 3))) (.nil)))) (.cons (.ret (.tup (.cons (.ix (.var 0) (.cst (.int 0))) (.star (.peek 2) (.nil))))) (.nil))))
def f18 : FnD := { name := "common_pattern", ps := ["one", "two"], N := ["one", "two", "parts", "part", "other"], body := b18, qual := "common_pattern", pl := .glo, star := false }
/-- whole_pattern -/
def b19 : Sms := .cons (.ret (.tup (.cons (.var 0) (.star (.comp (.range (.cons (.var 1) (.nil))) (.nm 2) .no (.cst (.str [])) [2]) (.nil))))) (.nil)
def f19 : FnD := { name := "whole_pattern", ps := ["word", "number"], N := ["word", "number", "_"], body := b19, qual := "whole_pattern", pl := .glo, star := false }
/-- _law_forms -/
def b20 : Sms := .cons (.set 2 (.ix (.lst (.cons (.cst (.str [65, 97])) (.cons (.cst (.str [49, 97])) (.cons (.cst (.str [97, 95, 98])) (.cons (.cst (.str [116, 111, 111, 108, 111, 110, 103, 57, 57])) (.cons (.cst (.str [42])) (.cons (.cst (.str [65])) (.cons (.cst (.str [97, 32, 98])) (.nil))))))))) (.call 5 (.cons (.var 0) (.cons (.cst (.int 7)) (.nil)))))) (.cons (.set 3 (.bin .add (.cst (.int 1)) (.call 5 (.cons (.var 0) (.cons (.bin .sub (.blt .len (.cons (.var 1) (.nil))) (.cst (.int 1))) (.nil)))))) (.cons (.ite (.or (.cons (.not (.call 22 (.cons (.var 1) (.nil)))) (.cons (.call 22 (.cons (.bin .add (.bin .add (.sl (.var 1) .no (.yes (.var 3))) (.tup (.cons (.var 2) (.nil)))) (.sl (.var 1) (.yes (.bin .add (.var 3) (.cst (.int 1)))) .no)) (.nil))) (.nil)))) (.cons (.ret (.cst (.bl false))) (.nil)) (.nil)) (.cons (.ite (.call 22 (.cons (.bin .add (.tup (.cons (.ix (.lst (.cons (.cst (.str [97])) (.cons (.cst (.str [])) (.cons (.cst (.str [84, 111, 111, 108, 111, 110, 103, 57, 57])) (.cons (.cst (.str [65, 95])) (.nil)))))) (.call 5 (.cons (.var 0) (.cons (.cst (.int 4)) (.nil))))) (.nil))) (.sl (.var 1) (.yes (.cst (.int 1))) .no)) (.nil))) (.cons (.ret (.cst (.bl false))) (.nil)) (.nil)) (.cons (.ite (.or (.cons (.call 22 (.cons (.tup (.cons (.ix (.var 1) (.cst (.int 0))) (.nil))) (.nil))) (.cons (.call 22 (.cons (.tup (.cons (.ix (.var 1) (.cst (.int 0))) (.cons (.cst (.str [97])) (.cons (.cst (.str [])) (.cons (.cst (.str [98])) (.nil)))))) (.nil))) (.cons (.call 22 (.cons (.tup (.nil)) (.nil))) (.nil))))) (.cons (.ret (.cst (.bl false))) (.nil)) (.nil)) (.cons (.ret (.and (.cons (.call 22 (.cons (.tup (.cons (.ix (.var 1) (.cst (.int 0))) (.cons (.cst (.str [])) (.nil)))) (.nil))) (.cons (.call 22 (.cons (.tup (.cons (.ix (.var 1) (.cst (.int 0))) (.cons (.cst (.str [97])) (.cons (.cst (.str [])) (.nil))))) (.nil))) (.cons (.call 22 (.cons (.tup (.cons (.ix (.var 1) (.cst (.int 0))) (.cons (.cst (.str [])) (.cons (.cst (.str [98, 50])) (.nil))))) (.nil))) (.nil)))))) (.nil))))))
def f20 : FnD := { name := "_law_forms", ps := ["source", "pattern"], N := ["source", "pattern", "bad", "at"], body := b20, qual := "_law_forms", pl := .glo, star := false }
/-- ascending -/
def b21 : Sms := .cons (.set 2 (.comp (.seq (.var 0)) (.nm 1) .no (.lst (.cons (.var 1) (.nil))) [1])) (.cons (.whl (.cmp .gt (.blt .len (.cons (.var 2) (.nil))) (.cst (.int 1))) (.cons (.own 3 (.lst (.nil))) (.cons (.forr (.range (.cons (.cst (.int 0)) (.cons (.bin .sub (.blt .len (.cons (.var 2) (.nil))) (.cst (.int 1))) (.cons (.cst (.int 2)) (.nil))))) (.nm 4) (.cons (.app 3 (.call 23 (.cons (.ix (.var 2) (.var 4)) (.cons (.ix (.var 2) (.bin .add (.var 4) (.cst (.int 1)))) (.nil))))) (.nil))) (.cons (.ite (.tru (.bin .band (.blt .len (.cons (.var 2) (.nil))) (.cst (.int 1)))) (.cons (.app 3 (.ix (.var 2) (.neg (.cst (.int 1))))) (.nil)) (.nil)) (.frz 3 (.cons (.set 2 (.var 3)) (.nil))))))) (.cons (.ite (.cmp .eq (.blt .len (.cons (.var 2) (.nil))) (.cst (.int 0))) (.cons (.ret (.lst (.nil))) (.nil)) (.nil)) (.cons (.ret (.ix (.var 2) (.cst (.int 0)))) (.nil))))
def f21 : FnD := { name := "ascending", ps := ["rows"], N := ["rows", "row", "lists", "pairs", "k"], body := b21, qual := "ascending", pl := .glo, star := false }
/-- is_pattern -/
def b22 : Sms := .cons (.ite (.or (.cons (.not (.isi .tuple (.var 0))) (.cons (.cmp .nin (.blt .len (.cons (.var 0) (.nil))) (.tup (.cons (.cst (.int 2)) (.cons (.cst (.int 3)) (.nil))))) (.cons (.not (.call 24 (.cons (.ix (.var 0) (.cst (.int 0))) (.nil)))) (.nil))))) (.cons (.ret (.cst (.bl false))) (.nil)) (.nil)) (.cons (.ret (.blt .all (.cons (.comp (.seq (.sl (.var 0) (.yes (.cst (.int 1))) .no)) (.nm 1) .no (.or (.cons (.cmp .eq (.var 1) (.cst (.str []))) (.cons (.call 25 (.cons (.var 1) (.nil))) (.nil)))) [1]) (.nil)))) (.nil))
def f22 : FnD := { name := "is_pattern", ps := ["value"], N := ["value", "part"], body := b22, qual := "is_pattern", pl := .glo, star := false }
/-- merged -/
def b23 : Sms := .cons (.own 2 (.lst (.nil))) (.cons (.set 3 (.cst (.int 0))) (.cons (.set 4 (.cst (.int 0))) (.cons (.whl (.and (.cons (.cmp .lt (.var 3) (.blt .len (.cons (.var 0) (.nil)))) (.cons (.cmp .lt (.var 4) (.blt .len (.cons (.var 1) (.nil)))) (.nil)))) (.cons (.ite (.cmp .lt (.ix (.var 1) (.var 4)) (.ix (.var 0) (.var 3))) (.cons (.app 2 (.ix (.var 1) (.var 4))) (.cons (.set 4 (.bin .add (.var 4) (.cst (.int 1)))) (.nil))) (.cons (.app 2 (.ix (.var 0) (.var 3))) (.cons (.ite (.cmp .eq (.ix (.var 0) (.var 3)) (.ix (.var 1) (.var 4))) (.cons (.set 4 (.bin .add (.var 4) (.cst (.int 1)))) (.nil)) (.nil)) (.cons (.set 3 (.bin .add (.var 3) (.cst (.int 1)))) (.nil))))) (.nil))) (.cons (.ret (.bin .add (.bin .add (.peek 2) (.sl (.var 0) (.yes (.var 3)) .no)) (.sl (.var 1) (.yes (.var 4)) .no))) (.nil)))))
def f23 : FnD := { name := "merged", ps := ["left", "right"], N := ["left", "right", "rows", "i", "j"], body := b23, qual := "merged", pl := .glo, star := false }
/-- is_word -/
def b24 : Sms := .cons (.ite (.or (.cons (.not (.chain .le .le (.cst (.int 1)) (.blt .len (.cons (.var 0) (.nil))) (.cst (.int 8)))) (.cons (.cmp .nin (.ix (.var 0) (.cst (.int 0))) (.cst (.str [65, 66, 67, 68, 69, 70, 71, 72, 73, 74, 75, 76, 77, 78, 79, 80, 81, 82, 83, 84, 85, 86, 87, 88, 89, 90]))) (.nil)))) (.cons (.ret (.cst (.bl false))) (.nil)) (.nil)) (.cons (.ret (.blt .all (.cons (.comp (.seq (.var 0)) (.nm 1) .no (.or (.cons (.cmp .inn (.var 1) (.cst (.str [97, 98, 99, 100, 101, 102, 103, 104, 105, 106, 107, 108, 109, 110, 111, 112, 113, 114, 115, 116, 117, 118, 119, 120, 121, 122]))) (.cons (.cmp .inn (.var 1) (.cst (.str [65, 66, 67, 68, 69, 70, 71, 72, 73, 74, 75, 76, 77, 78, 79, 80, 81, 82, 83, 84, 85, 86, 87, 88, 89, 90]))) (.cons (.cmp .inn (.var 1) (.cst (.str [48, 49, 50, 51, 52, 53, 54, 55, 56, 57]))) (.nil))))) [1]) (.nil)))) (.nil))
def f24 : FnD := { name := "is_word", ps := ["value"], N := ["value", "char"], body := b24, qual := "is_word", pl := .glo, star := false }
/-- is_name -/
def b25 : Sms := .cons (.ite (.or (.cons (.not (.chain .le .le (.cst (.int 1)) (.blt .len (.cons (.var 0) (.nil))) (.cst (.int 8)))) (.cons (.cmp .nin (.ix (.var 0) (.cst (.int 0))) (.cst (.str [97, 98, 99, 100, 101, 102, 103, 104, 105, 106, 107, 108, 109, 110, 111, 112, 113, 114, 115, 116, 117, 118, 119, 120, 121, 122]))) (.nil)))) (.cons (.ret (.cst (.bl false))) (.nil)) (.nil)) (.cons (.ret (.blt .all (.cons (.comp (.seq (.var 0)) (.nm 1) .no (.or (.cons (.cmp .inn (.var 1) (.cst (.str [97, 98, 99, 100, 101, 102, 103, 104, 105, 106, 107, 108, 109, 110, 111, 112, 113, 114, 115, 116, 117, 118, 119, 120, 121, 122]))) (.cons (.cmp .inn (.var 1) (.cst (.str [48, 49, 50, 51, 52, 53, 54, 55, 56, 57]))) (.nil)))) [1]) (.nil)))) (.nil))
def f25 : FnD := { name := "is_name", ps := ["value"], N := ["value", "char"], body := b25, qual := "is_name", pl := .glo, star := false }
/-- _law_chain -/
def b33 : Sms := .cons (.own 2 (.lst (.nil))) (.cons (.forr (.range (.cons (.bin .sub (.blt .len (.cons (.var 1) (.nil))) (.cst (.int 1))) (.nil))) (.nm 3) (.cons (.set 4 (.call 5 (.cons (.var 0) (.cons (.cst (.int 3)) (.nil))))) (.cons (.ite (.cmp .eq (.var 4) (.cst (.int 0))) (.cons (.app 2 (.tup (.cons (.cst (.str [69, 100, 103, 101])) (.cons (.ix (.var 1) (.var 3)) (.cons (.ix (.var 1) (.bin .add (.var 3) (.cst (.int 1)))) (.nil)))))) (.nil)) (.nil)) (.cons (.ite (.cmp .eq (.var 4) (.cst (.int 1))) (.cons (.app 2 (.tup (.cons (.cst (.str [69, 100, 103, 101])) (.cons (.ix (.var 1) (.bin .add (.var 3) (.cst (.int 1)))) (.cons (.ix (.var 1) (.var 3)) (.nil)))))) (.nil)) (.nil)) (.nil))))) (.frz 2 (.cons (.ret (.var 2)) (.nil))))
def f33 : FnD := { name := "_law_chain", ps := ["source", "names"], N := ["source", "names", "rows", "k", "way"], body := b33, qual := "_law_chain", pl := .glo, star := false }
/-- _law_facts -/
def b30 : Sms := .cons (.ret (.comp (.range (.cons (.call 5 (.cons (.var 0) (.cons (.bin .add (.var 3) (.cst (.int 1))) (.nil)))) (.nil))) (.nm 4) .no (.call 8 (.cons (.var 0) (.cons (.var 1) (.cons (.var 2) (.nil))))) [4])) (.nil)
def f30 : FnD := { name := "_law_facts", ps := ["source", "relations", "names", "most"], N := ["source", "relations", "names", "most", "k"], body := b30, qual := "_law_facts", pl := .glo, star := false }
/-- Store.of -/
def b337 : Sms := .cons (.ret (.mk 0 (.star (.var 0) (.nil)))) (.nil)
def f337 : FnD := { name := "of", ps := ["facts"], N := ["facts"], body := b337, qual := "Store.of", pl := .sta "Store", star := false }
/-- Store.pieces -/
def b338 : Sms := .cons (.set 2 (.cell (.nil))) (.cons (.set 3 (.blt .list (.cons (.attr 30 (.var 0)) (.nil)))) (.cons (.whl (.cmp .gt (.blt .len (.cons (.var 3) (.nil))) (.cst (.int 0))) (.cons (.set 4 (.call 342 (.cons (.var 3) (.cons (.sl (.ix (.var 3) (.cst (.int 0))) (.yes (.cst (.int 1))) .no) (.nil))))) (.cons (.appR (.var 2) (.scall 0 28 (.cons (.var 4) (.nil)))) (.cons (.set 3 (.comp (.seq (.var 3)) (.nm 1) (.yes (.cmp .nin (.var 1) (.var 4))) (.var 1) [1])) (.nil))))) (.cons (.ret (.var 2)) (.nil))))
def f338 : FnD := { name := "pieces", ps := ["self"], N := ["self", "fact", "found", "rest", "piece"], body := b338, qual := "Store.pieces", pl := .met "Store", star := false }
/-- _law_pieces_fit -/
def b339 : Sms := .cons (.ite (.not (.isi .list (.var 0))) (.cons (.ret (.cst (.bl false))) (.nil)) (.nil)) (.cons (.set 3 (.lst (.nil))) (.cons (.set 4 (.lst (.nil))) (.cons (.own 5 (.lst (.nil))) (.cons (.forr (.seq (.var 0)) (.nm 6) (.cons (.ite (.or (.cons (.not (.isi (.cls 0) (.var 6))) (.cons (.cmp .eq (.lenO (.var 6)) (.cst (.int 0))) (.nil)))) (.cons (.ret (.cst (.bl false))) (.nil)) (.nil)) (.cons (.set 7 (.listO (.var 6))) (.cons (.ite (.or (.cons (.not (.call 10 (.cons (.attr 30 (.var 6)) (.cons (.blt .tuple (.cons (.var 7) (.nil))) (.nil))))) (.cons (.not (.call 10 (.cons (.call 64 (.cons (.var 7) (.cons (.blt .list (.cons (.sl (.ix (.var 7) (.cst (.int 0))) (.yes (.cst (.int 1))) .no) (.nil))) (.nil)))) (.cons (.var 7) (.nil))))) (.nil)))) (.cons (.ret (.cst (.bl false))) (.nil)) (.nil)) (.cons (.set 8 (.call 63 (.cons (.var 7) (.nil)))) (.cons (.ite (.cmp .gt (.blt .len (.cons (.comp (.seq (.var 8)) (.nm 2) (.yes (.cmp .inn (.var 2) (.var 4))) (.var 2) [2]) (.nil))) (.cst (.int 0))) (.cons (.ret (.cst (.bl false))) (.nil)) (.nil)) (.cons (.set 4 (.bin .add (.var 4) (.var 8))) (.cons (.set 3 (.bin .add (.var 3) (.var 7))) (.cons (.app 5 (.ix (.var 7) (.cst (.int 0)))) (.nil)))))))))) (.cons (.ite (.or (.cons (.cmp .ne (.blt .len (.cons (.var 3) (.nil))) (.blt .len (.cons (.var 1) (.nil)))) (.cons (.not (.call 10 (.cons (.call 15 (.cons (.var 3) (.nil))) (.cons (.var 1) (.nil))))) (.nil)))) (.cons (.ret (.cst (.bl false))) (.nil)) (.nil)) (.frz 5 (.cons (.ret (.call 10 (.cons (.call 15 (.cons (.var 5) (.nil))) (.cons (.var 5) (.nil))))) (.nil))))))))
def f339 : FnD := { name := "_law_pieces_fit", ps := ["told", "due"], N := ["told", "due", "name", "rows", "seen", "starts", "piece", "inner", "names"], body := b339, qual := "_law_pieces_fit", pl := .glo, star := false }
/-- _law_linked_fits -/
def b340 : Sms := .cons (.set 3 (.call 64 (.cons (.var 1) (.cons (.var 2) (.nil))))) (.cons (.set 4 (.blt .list (.cons (.var 2) (.nil)))) (.cons (.forr (.seq (.lst (.cons (.meth 31 (.var 0) (.cons (.var 4) (.nil))) (.cons (.meth 31 (.var 0) (.cons (.blt .tuple (.cons (.var 2) (.nil))) (.nil))) (.nil))))) (.nm 5) (.cons (.ite (.or (.cons (.not (.isi (.cls 0) (.var 5))) (.cons (.not (.call 10 (.cons (.attr 30 (.var 5)) (.cons (.blt .tuple (.cons (.var 3) (.nil))) (.nil))))) (.nil)))) (.cons (.ret (.cst (.bl false))) (.nil)) (.nil)) (.nil))) (.cons (.ret (.call 10 (.cons (.var 4) (.cons (.var 2) (.nil))))) (.nil))))
def f340 : FnD := { name := "_law_linked_fits", ps := ["store", "due", "row"], N := ["store", "due", "row", "linked", "handed", "part"], body := b340, qual := "_law_linked_fits", pl := .glo, star := false }
/-- Store.__init__ -/
def b341 : Sms := .cons (.forr (.seq (.var 1)) (.nm 2) (.cons (.expr (.call 346 (.cons (.var 2) (.nil)))) (.nil))) (.cons (.att 30 (.var 0) (.blt .tuple (.cons (.call 21 (.cons (.var 1) (.nil))) (.nil)))) (.nil))
def f341 : FnD := { name := "__init__", ps := ["self", "facts"], N := ["self", "facts", "fact"], body := b341, qual := "Store.__init__", pl := .met "Store", star := true }
/-- linked_facts -/
def b342 : Sms := .cons (.own 4 (.dnew false)) (.cons (.forr (.seq (.var 1)) (.nm 3) (.cons (.putO 4 (.var 3) (.cst (.bl true))) (.nil))) (.cons (.own 5 (.dnew true)) (.cons (.set 6 (.cst (.bl true))) (.cons (.whl (.tru (.var 6)) (.cons (.set 6 (.cst (.bl false))) (.cons (.forr (.seq (.var 0)) (.nm 2) (.cons (.ite (.and (.cons (.cmp .nin (.var 2) (.peek 5)) (.cons (.blt .any (.cons (.comp (.seq (.sl (.var 2) (.yes (.cst (.int 1))) .no)) (.nm 3) .no (.cmp .inn (.var 3) (.peek 4)) [3]) (.nil))) (.nil)))) (.cons (.putO 5 (.var 2) (.cst (.bl true))) (.cons (.forr (.seq (.sl (.var 2) (.yes (.cst (.int 1))) .no)) (.nm 3) (.cons (.putO 4 (.var 3) (.cst (.bl true))) (.nil))) (.cons (.set 6 (.cst (.bl true))) (.nil)))) (.nil)) (.nil))) (.nil)))) (.cons (.ret (.comp (.seq (.var 0)) (.nm 2) (.yes (.cmp .inn (.var 2) (.peek 5))) (.var 2) [2])) (.nil))))))
def f342 : FnD := { name := "linked_facts", ps := ["facts", "names"], N := ["facts", "names", "fact", "name", "reached", "found", "grown"], body := b342, qual := "linked_facts", pl := .glo, star := false }
/-- Store.__len__ -/
def b343 : Sms := .cons (.ret (.blt .len (.cons (.attr 30 (.var 0)) (.nil)))) (.nil)
def f343 : FnD := { name := "__len__", ps := ["self"], N := ["self"], body := b343, qual := "Store.__len__", pl := .met "Store", star := false }
/-- Store.__iter__ -/
def b344 : Sms := .cons (.never) (.nil)
def f344 : FnD := { name := "__iter__", ps := ["self"], N := ["self"], body := b344, qual := "Store.__iter__", pl := .met "Store", star := false }
/-- _law_linked -/
def b64 : Sms := .cons (.own 3 (.dnew false)) (.cons (.forr (.seq (.var 1)) (.nm 4) (.cons (.putO 3 (.var 4) (.cst (.bl true))) (.nil))) (.cons (.own 5 (.dnew true)) (.cons (.forr (.range (.cons (.bin .add (.blt .len (.cons (.var 0) (.nil))) (.cst (.int 1))) (.nil))) (.nm 6) (.cons (.set 7 (.blt .len (.cons (.peek 5) (.nil)))) (.cons (.forr (.seq (.var 0)) (.nm 2) (.cons (.ite (.and (.cons (.cmp .nin (.var 2) (.peek 5)) (.cons (.or (.cons (.cmp .inn (.ix (.var 2) (.cst (.int 1))) (.peek 3)) (.cons (.cmp .inn (.ix (.var 2) (.neg (.cst (.int 1)))) (.peek 3)) (.nil)))) (.nil)))) (.cons (.putO 5 (.var 2) (.cst (.bl true))) (.cons (.putO 3 (.ix (.var 2) (.cst (.int 1))) (.cst (.bl true))) (.cons (.putO 3 (.ix (.var 2) (.neg (.cst (.int 1)))) (.cst (.bl true))) (.nil)))) (.nil)) (.nil))) (.cons (.ite (.cmp .eq (.blt .len (.cons (.peek 5) (.nil))) (.var 7)) (.cons (.brk) (.nil)) (.nil)) (.nil))))) (.cons (.ret (.call 15 (.cons (.comp (.seq (.var 0)) (.nm 2) (.yes (.cmp .inn (.var 2) (.peek 5))) (.var 2) [2]) (.nil)))) (.nil)))))
def f64 : FnD := { name := "_law_linked", ps := ["facts", "names"], N := ["facts", "names", "fact", "reached", "name", "taken", "k", "before"], body := b64, qual := "_law_linked", pl := .glo, star := false }
/-- _law_names_of -/
def b63 : Sms := .cons (.set 1 (.lst (.nil))) (.cons (.forr (.seq (.var 0)) (.nm 2) (.cons (.set 1 (.bin .add (.var 1) (.blt .list (.cons (.sl (.var 2) (.yes (.cst (.int 1))) .no) (.nil))))) (.nil))) (.cons (.ret (.call 15 (.cons (.var 1) (.nil)))) (.nil)))
def f63 : FnD := { name := "_law_names_of", ps := ["facts"], N := ["facts", "found", "fact"], body := b63, qual := "_law_names_of", pl := .glo, star := false }
/-- Store.linked -/
def b345 : Sms := .cons (.ret (.scall 0 28 (.cons (.call 342 (.cons (.attr 30 (.var 0)) (.cons (.var 1) (.nil)))) (.nil)))) (.nil)
def f345 : FnD := { name := "linked", ps := ["self", "names"], N := ["self", "names"], body := b345, qual := "Store.linked", pl := .met "Store", star := false }
/-- check_fact -/
def b346 : Sms := .cons (.ite (.not (.call 347 (.cons (.var 0) (.nil)))) (.cons (.never) (.nil)) (.nil)) (.cons (.ret (.var 0)) (.nil))
def f346 : FnD := { name := "check_fact", ps := ["value"], N := ["value"], body := b346, qual := "check_fact", pl := .glo, star := false }
/-- is_fact -/
def b347 : Sms := .cons (.ite (.or (.cons (.not (.isi .tuple (.var 0))) (.cons (.cmp .nin (.blt .len (.cons (.var 0) (.nil))) (.tup (.cons (.cst (.int 2)) (.cons (.cst (.int 3)) (.nil))))) (.cons (.not (.call 24 (.cons (.ix (.var 0) (.cst (.int 0))) (.nil)))) (.nil))))) (.cons (.ret (.cst (.bl false))) (.nil)) (.nil)) (.cons (.ret (.blt .all (.cons (.comp (.seq (.sl (.var 0) (.yes (.cst (.int 1))) .no)) (.nm 1) .no (.call 25 (.cons (.var 1) (.nil))) [1]) (.nil)))) (.nil))
def f347 : FnD := { name := "is_fact", ps := ["value"], N := ["value", "name"], body := b347, qual := "is_fact", pl := .glo, star := false }
end Fn

/-! the program text of law noticesheard_k07_whole_pieces_part_a_sto as Iv terms, checked against the row (printed by gen.py) -/
namespace W
open PySem Iv L2 Fn
abbrev prog : PySem.Program := PySem.Challenge.pw_noticesheard_k07_whole_pieces_part_a_sto
def globs : List (Str × D) := [("LONGEST", .int 8), ("CAPITALS", .str [65, 66, 67, 68, 69, 70, 71, 72, 73, 74, 75, 76, 77, 78, 79, 80, 81, 82, 83, 84, 85, 86, 87, 88, 89, 90]), ("LETTERS", .str [97, 98, 99, 100, 101, 102, 103, 104, 105, 106, 107, 108, 109, 110, 111, 112, 113, 114, 115, 116, 117, 118, 119, 120, 121, 122]), ("DIGITS", .str [48, 49, 50, 51, 52, 53, 54, 55, 56, 57])]
def blts : List Str := ["tuple", "list", "range", "int", "str", "len", "isinstance", "iter", "bool", "any", "all"]
/-- law -/
def b336 : Sms := .cons (.set 2 (.call 2 (.cons (.var 0) (.nil)))) (.cons (.set 3 (.call 4 (.cons (.var 2) (.cons (.bin .add (.cst (.int 1)) (.call 5 (.cons (.var 2) (.cons (.cst (.int 8)) (.nil))))) (.nil))))) (.cons (.set 4 (.bin .add (.call 33 (.cons (.var 2) (.cons (.var 3) (.nil)))) (.call 30 (.cons (.var 2) (.cons (.call 3 (.cons (.var 2) (.nil))) (.cons (.var 3) (.cons (.cst (.int 6)) (.nil)))))))) (.cons (.set 5 (.call 15 (.cons (.var 4) (.nil)))) (.cons (.set 6 (.scall 0 28 (.cons (.var 4) (.nil)))) (.cons (.set 7 (.meth 29 (.var 6) (.nil))) (.cons (.ite (.not (.call 339 (.cons (.var 7) (.cons (.var 5) (.nil))))) (.cons (.ret (.cst (.bl false))) (.nil)) (.nil)) (.cons (.appR (.var 7) (.var 6)) (.cons (.ite (.not (.call 339 (.cons (.meth 29 (.var 6) (.nil)) (.cons (.var 5) (.nil))))) (.cons (.ret (.cst (.bl false))) (.nil)) (.nil)) (.cons (.set 8 (.bin .add (.var 3) (.call 4 (.cons (.var 2) (.cons (.cst (.int 2)) (.nil)))))) (.cons (.set 9 (.comp (.seq (.var 8)) (.nm 1) (.yes (.cmp .eq (.call 5 (.cons (.var 2) (.cons (.cst (.int 2)) (.nil)))) (.cst (.int 1)))) (.var 1) [1])) (.cons (.forr (.seq (.bin .add (.lst (.cons (.var 9) (.cons (.var 3) (.cons (.lst (.nil)) (.nil))))) (.comp (.seq (.var 8)) (.nm 1) .no (.lst (.cons (.var 1) (.nil))) [1]))) (.nm 10) (.cons (.ite (.not (.call 340 (.cons (.var 6) (.cons (.var 5) (.cons (.var 10) (.nil)))))) (.cons (.ret (.cst (.bl false))) (.nil)) (.nil)) (.nil))) (.cons (.ret (.call 10 (.cons (.attr 30 (.var 6)) (.cons (.blt .tuple (.cons (.var 5) (.nil))) (.nil))))) (.nil)))))))))))))
def f336 : FnD := { name := "law", ps := ["script"], N := ["script", "name", "source", "names", "facts", "due", "store", "told", "pool", "some", "row"], body := b336, qual := "law", pl := .glo, star := false }
def cd0 : ClsD := { x := "Store", ns := [30], ms := [(29, 338), (0, 343), (8, 344), (31, 345)], ps := [], ss := [(28, 337)], con := [], frz := true, it := some 30, init := some 341 }
def nms0 : List Str := ["of", "pieces", "facts", "linked", "text", "set_default", "part_at", "default", "houses", "holders", "chosen", "usual", "many", "deep", "worths", "lowest", "under", "is_worth", "merge", "merged_all", "over_one", "check_worth", "most", "MOST", "among", "first", "second", "inner", "lots", "order"]
def nms1 : List Str := ["passed", "first_passed", "LOTS", "WORTHS", "turn", "steady", "one", "two", "first_told", "rise", "groups", "group_of", "can_meet"]
def fns : Prog := { fs := [(336, f336), (2, f2), (4, f4), (5, f5), (33, f33), (30, f30), (3, f3), (15, f15), (337, f337), (338, f338), (339, f339), (340, f340), (10, f10), (8, f8), (341, f341), (342, f342), (343, f343), (344, f344), (64, f64), (63, f63), (345, f345), (346, f346), (21, f21), (347, f347), (23, f23), (24, f24), (25, f25)], ct := [(0, cd0)], nms := nms0 ++ nms1, sub := [] }
def places : List (Nat × Nat × Option Nat) := [(336, 46, none), (2, 33, none), (4, 37, none), (5, 34, none), (33, 43, none), (30, 40, none), (3, 38, none), (15, 36, none), (337, 30, some 1), (338, 30, some 10), (339, 44, none), (340, 45, none), (10, 35, none), (8, 39, none), (341, 30, some 0), (342, 21, none), (343, 30, some 14), (344, 30, some 13), (64, 42, none), (63, 41, none), (345, 30, some 9), (346, 17, none), (21, 14, none), (347, 16, none), (23, 13, none), (24, 11, none), (25, 10, none)]
def top (i : Nat) : Stmt := placeAt prog.main.body (places.lookup i)
theorem ok336 : okD fns globs blts f336 (top 336) = true := by decide +kernel
theorem bd336 : BindP (top 336) f336 := bindP_of rfl fun _ _ _ _ _ _ us hl => match us, hl with | [_], _ => rfl
theorem ok2 : okD fns globs blts f2 (top 2) = true := by decide +kernel
theorem bd2 : BindP (top 2) f2 := bindP_of rfl fun _ _ _ _ _ _ us hl => match us, hl with | [_], _ => rfl
theorem ok4 : okD fns globs blts f4 (top 4) = true := by decide +kernel
theorem bd4 : BindP (top 4) f4 := bindP_of rfl fun _ _ _ _ _ _ us hl => match us, hl with | [_, _], _ => rfl
theorem ok5 : okD fns globs blts f5 (top 5) = true := by decide +kernel
theorem bd5 : BindP (top 5) f5 := bindP_of rfl fun _ _ _ _ _ _ us hl => match us, hl with | [_, _], _ => rfl
theorem ok33 : okD fns globs blts f33 (top 33) = true := by decide +kernel
theorem bd33 : BindP (top 33) f33 := bindP_of rfl fun _ _ _ _ _ _ us hl => match us, hl with | [_, _], _ => rfl
theorem ok30 : okD fns globs blts f30 (top 30) = true := by decide +kernel
theorem bd30 : BindP (top 30) f30 := bindP_of rfl fun _ _ _ _ _ _ us hl => match us, hl with | [_, _, _, _], _ => rfl
theorem ok3 : okD fns globs blts f3 (top 3) = true := by decide +kernel
theorem bd3 : BindP (top 3) f3 := bindP_of rfl fun _ _ _ _ _ _ us hl => match us, hl with | [_], _ => rfl
theorem ok15 : okD fns globs blts f15 (top 15) = true := by decide +kernel
theorem bd15 : BindP (top 15) f15 := bindP_of rfl fun _ _ _ _ _ _ us hl => match us, hl with | [_], _ => rfl
theorem ok337 : okD fns globs blts f337 (top 337) = true := by decide +kernel
theorem bd337 : BindP (top 337) f337 := bindP_of rfl fun _ _ _ _ _ _ us hl => match us, hl with | [_], _ => rfl
theorem ok338 : okD fns globs blts f338 (top 338) = true := by decide +kernel
theorem bd338 : BindP (top 338) f338 := bindP_of rfl fun _ _ _ _ _ _ us hl => match us, hl with | [_], _ => rfl
theorem ok339 : okD fns globs blts f339 (top 339) = true := by decide +kernel
theorem bd339 : BindP (top 339) f339 := bindP_of rfl fun _ _ _ _ _ _ us hl => match us, hl with | [_, _], _ => rfl
theorem ok340 : okD fns globs blts f340 (top 340) = true := by decide +kernel
theorem bd340 : BindP (top 340) f340 := bindP_of rfl fun _ _ _ _ _ _ us hl => match us, hl with | [_, _, _], _ => rfl
theorem ok10 : okD fns globs blts f10 (top 10) = true := by decide +kernel
theorem bd10 : BindP (top 10) f10 := bindP_of rfl fun _ _ _ _ _ _ us hl => match us, hl with | [_, _], _ => rfl
theorem ok8 : okD fns globs blts f8 (top 8) = true := by decide +kernel
theorem bd8 : BindP (top 8) f8 := bindP_of rfl fun _ _ _ _ _ _ us hl => match us, hl with | [_, _, _], _ => rfl
theorem ok341 : okD fns globs blts f341 (top 341) = true := by decide +kernel
theorem bd341 : BindP (top 341) f341 := bindP_star rfl fun _ _ _ _ _ _ us rest hl => match us, rest, hl with | [_], [], _ => rfl | [_], _ :: _, _ => rfl
theorem ok342 : okD fns globs blts f342 (top 342) = true := by decide +kernel
theorem bd342 : BindP (top 342) f342 := bindP_of rfl fun _ _ _ _ _ _ us hl => match us, hl with | [_, _], _ => rfl
theorem ok343 : okD fns globs blts f343 (top 343) = true := by decide +kernel
theorem bd343 : BindP (top 343) f343 := bindP_of rfl fun _ _ _ _ _ _ us hl => match us, hl with | [_], _ => rfl
theorem ok344 : okD fns globs blts f344 (top 344) = true := by decide +kernel
theorem bd344 : BindP (top 344) f344 := bindP_of rfl fun _ _ _ _ _ _ us hl => match us, hl with | [_], _ => rfl
theorem ok64 : okD fns globs blts f64 (top 64) = true := by decide +kernel
theorem bd64 : BindP (top 64) f64 := bindP_of rfl fun _ _ _ _ _ _ us hl => match us, hl with | [_, _], _ => rfl
theorem ok63 : okD fns globs blts f63 (top 63) = true := by decide +kernel
theorem bd63 : BindP (top 63) f63 := bindP_of rfl fun _ _ _ _ _ _ us hl => match us, hl with | [_], _ => rfl
theorem ok345 : okD fns globs blts f345 (top 345) = true := by decide +kernel
theorem bd345 : BindP (top 345) f345 := bindP_of rfl fun _ _ _ _ _ _ us hl => match us, hl with | [_, _], _ => rfl
theorem ok346 : okD fns globs blts f346 (top 346) = true := by decide +kernel
theorem bd346 : BindP (top 346) f346 := bindP_of rfl fun _ _ _ _ _ _ us hl => match us, hl with | [_], _ => rfl
theorem ok21 : okD fns globs blts f21 (top 21) = true := by decide +kernel
theorem bd21 : BindP (top 21) f21 := bindP_of rfl fun _ _ _ _ _ _ us hl => match us, hl with | [_], _ => rfl
theorem ok347 : okD fns globs blts f347 (top 347) = true := by decide +kernel
theorem bd347 : BindP (top 347) f347 := bindP_of rfl fun _ _ _ _ _ _ us hl => match us, hl with | [_], _ => rfl
theorem ok23 : okD fns globs blts f23 (top 23) = true := by decide +kernel
theorem bd23 : BindP (top 23) f23 := bindP_of rfl fun _ _ _ _ _ _ us hl => match us, hl with | [_, _], _ => rfl
theorem ok24 : okD fns globs blts f24 (top 24) = true := by decide +kernel
theorem bd24 : BindP (top 24) f24 := bindP_of rfl fun _ _ _ _ _ _ us hl => match us, hl with | [_], _ => rfl
theorem ok25 : okD fns globs blts f25 (top 25) = true := by decide +kernel
theorem bd25 : BindP (top 25) f25 := bindP_of rfl fun _ _ _ _ _ _ us hl => match us, hl with | [_], _ => rfl
theorem text : TextOk top fns globs blts := ⟨(List.forall_mem_cons.mpr ⟨ok336, (List.forall_mem_cons.mpr ⟨ok2, (List.forall_mem_cons.mpr ⟨ok4, (List.forall_mem_cons.mpr ⟨ok5, (List.forall_mem_cons.mpr ⟨ok33, (List.forall_mem_cons.mpr ⟨ok30, (List.forall_mem_cons.mpr ⟨ok3, (List.forall_mem_cons.mpr ⟨ok15, (List.forall_mem_cons.mpr ⟨ok337, (List.forall_mem_cons.mpr ⟨ok338, (List.forall_mem_cons.mpr ⟨ok339, (List.forall_mem_cons.mpr ⟨ok340, (List.forall_mem_cons.mpr ⟨ok10, (List.forall_mem_cons.mpr ⟨ok8, (List.forall_mem_cons.mpr ⟨ok341, (List.forall_mem_cons.mpr ⟨ok342, (List.forall_mem_cons.mpr ⟨ok343, (List.forall_mem_cons.mpr ⟨ok344, (List.forall_mem_cons.mpr ⟨ok64, (List.forall_mem_cons.mpr ⟨ok63, (List.forall_mem_cons.mpr ⟨ok345, (List.forall_mem_cons.mpr ⟨ok346, (List.forall_mem_cons.mpr ⟨ok21, (List.forall_mem_cons.mpr ⟨ok347, (List.forall_mem_cons.mpr ⟨ok23, (List.forall_mem_cons.mpr ⟨ok24, (List.forall_mem_cons.mpr ⟨ok25, (fun _ h => by cases h)⟩)⟩)⟩)⟩)⟩)⟩)⟩)⟩)⟩)⟩)⟩)⟩)⟩)⟩)⟩)⟩)⟩)⟩)⟩)⟩)⟩)⟩)⟩)⟩)⟩)⟩)⟩), (List.forall_mem_cons.mpr ⟨bd336, (List.forall_mem_cons.mpr ⟨bd2, (List.forall_mem_cons.mpr ⟨bd4, (List.forall_mem_cons.mpr ⟨bd5, (List.forall_mem_cons.mpr ⟨bd33, (List.forall_mem_cons.mpr ⟨bd30, (List.forall_mem_cons.mpr ⟨bd3, (List.forall_mem_cons.mpr ⟨bd15, (List.forall_mem_cons.mpr ⟨bd337, (List.forall_mem_cons.mpr ⟨bd338, (List.forall_mem_cons.mpr ⟨bd339, (List.forall_mem_cons.mpr ⟨bd340, (List.forall_mem_cons.mpr ⟨bd10, (List.forall_mem_cons.mpr ⟨bd8, (List.forall_mem_cons.mpr ⟨bd341, (List.forall_mem_cons.mpr ⟨bd342, (List.forall_mem_cons.mpr ⟨bd343, (List.forall_mem_cons.mpr ⟨bd344, (List.forall_mem_cons.mpr ⟨bd64, (List.forall_mem_cons.mpr ⟨bd63, (List.forall_mem_cons.mpr ⟨bd345, (List.forall_mem_cons.mpr ⟨bd346, (List.forall_mem_cons.mpr ⟨bd21, (List.forall_mem_cons.mpr ⟨bd347, (List.forall_mem_cons.mpr ⟨bd23, (List.forall_mem_cons.mpr ⟨bd24, (List.forall_mem_cons.mpr ⟨bd25, (fun _ h => by cases h)⟩)⟩)⟩)⟩)⟩)⟩)⟩)⟩)⟩)⟩)⟩)⟩)⟩)⟩)⟩)⟩)⟩)⟩)⟩)⟩)⟩)⟩)⟩)⟩)⟩)⟩)⟩), (List.forall_mem_cons.mpr ⟨(fun f e => by cases e; exact ⟨344, f344, rfl, rfl, rfl, rfl, by decide +kernel, by decide +kernel⟩), (fun _ h => by cases h)⟩)⟩
/-! the head -/
abbrev R : PySem.W.OpenRow := PySem.W.OpenLaw.row PySem.Challenge.rw_noticesheard_k07_whole_pieces_part_a_sto
def loose0 : List Str := ["_wall", "SureError", "BadFact", "BadText", "LONGEST", "LETTERS", "CAPITALS", "DIGITS", "is_name", "is_word", "merged", "ascending", "is_fact", "check_fact", "relation", "names_of", "fact_text", "linked_facts", "WORD", "tokens", "Reader", "read_facts", "all_in", "Store", "facts_of", "_law_source", "_law_draw", "_law_same", "_law_ascending", "_law_names"]
def loose1 : List Str := ["_law_relations", "_law_atom", "_law_facts", "_law_names_of", "_law_linked", "_law_chain", "_law_pieces_fit", "_law_linked_fits"]
def loose : List Str := loose0 ++ loose1
abbrev hk : PySem.W.Hook := hookI 5 (faOf fns blts) (ddsOf top fns) (exB fns globs)
def ob (s : PySem.W.SharedT) : AlI := obsIG 5 (faOf fns blts) (ddsOf top fns) (exB fns globs) (HandSHeadRun.getT s)
theorem ob_eq (s : PySem.W.SharedT) : ob s = hk.obs s.abs := obsIG_eq (HandSHeadRun.getT_eq s)
theorem run (w : World) : HandSHeadRun.RunEq R (PySem.W.view R.prog [46]) hk ob 4000 loose w := by
  intro os
  kernel_rfl
end W

/-! Iv, part P: plain reasoning about the evaluator (no program, no heap in sight): what a run must end in. -/
namespace Iv
variable {α β : Type} {K : α → IH → Prop} {Y : Nat → List D → IH → Prop} {h h' : IH}
abbrev NoX : Nat → List D → IH → Prop := fun _ _ _ => False

theorem w_ok {a : α} : ((R.ok a h).post K Y) = K a h := rfl
theorem w_ret {a : α} : ((ret a h).post K Y) = K a h := rfl
theorem w_bnd {m : M α} {f : α → M β} {K : β → IH → Prop} : ((bnd m f) h).post K Y = (m h).post (fun a h' => (f a h').post K Y) Y := propext post_bnd
theorem w_some {a : α} : ((lft (some a) h).post K Y) = K a h := rfl
theorem w_none : ((lft (none : Option α) h).post K Y) = False := rfl
theorem w_lft {o : Option α} : ((lft o h).post K Y) = ∃ a, o = some a ∧ K a h := by
  cases o with
  | none => exact propext ⟨fun q => q.elim, fun ⟨_, e, _⟩ => by cases e⟩
  | some a => exact propext ⟨fun q => ⟨a, rfl, q⟩, fun ⟨_, e, q⟩ => by cases e; exact q⟩
theorem w_noex {m : M α} : ((noex m h).post K Y) = (m h).post K NoX := by
  unfold noex
  cases m h <;> rfl
theorem eq_of_post {r : R α} {a : α} (p : r.post (fun a' h'' => a' = a ∧ h'' = h') NoX) : r = .ok a h' := by
  cases r with
  | ok b g => obtain ⟨rfl, rfl⟩ := p; rfl
  | ex => exact p.elim
  | bad => exact p.elim

section
variable {K : D → IH → Prop} {env : Env} {fa fb fc : Env → M D} {i : Nat}
theorem w_var : ((eVar i env h).post K Y) = (match env[i]? with | some (.val d) => K d h | _ => False) := by
  unfold eVar
  cases env[i]? with
  | none => rfl
  | some s => cases s <;> rfl
theorem w_peek : ((ePeek i env h).post K Y) = (match env[i]? with | some (.val d) => K d h | some (.ow c) => K c.toD h | _ => False) := by
  unfold ePeek
  cases env[i]? with
  | none => rfl
  | some s => cases s <;> rfl
theorem w_op {op : IH → D → D → Option D} : ((eOp op fa fb env h).post K Y) = (fa env h).post (fun x h1 => (fb env h1).post (fun y h2 => ∃ d, op h2 (drf h2 x) (drf h2 y) = some d ∧ K d h2) Y) Y := by
  unfold eOp
  rw [w_bnd]
  congr 1
  funext x h1
  rw [w_bnd]
  congr 1
  funext y h2
  exact w_lft
theorem w_neg : ((eNeg fa env h).post K Y) = (fa env h).post (fun x h1 => ∃ d, negD x = some d ∧ K d h1) Y := by
  unfold eNeg
  rw [w_bnd]
  congr 1
  funext x h1
  exact w_lft
theorem w_toB {K : Bool → IH → Prop} : ((toB fa env h).post K Y) = (fa env h).post (fun x h1 => ∃ b, x = .bl b ∧ K b h1) Y := by
  unfold toB
  rw [w_bnd]
  congr 1
  funext x h1
  rw [w_lft]
  refine propext ⟨fun ⟨b, e, k⟩ => ⟨b, asB_some e, k⟩, fun ⟨b, e, k⟩ => ⟨b, by rw [e]; rfl, k⟩⟩
theorem w_toT {K : Bool → IH → Prop} : ((toT fa env h).post K Y) = (fa env h).post (fun x h1 => ∃ b, trD (drf h1 x) = some b ∧ K b h1) Y := by
  unfold toT
  rw [w_bnd]
  congr 1
  funext x h1
  exact w_lft
theorem w_not : ((eNot (toB fa) env h).post K Y) = (fa env h).post (fun x h1 => ∃ b, x = .bl b ∧ K (.bl (!b)) h1) Y := by
  show ((bnd (toB fa env) fun c => ret (.bl (!c))) h).post K Y = _
  rw [w_bnd, w_toB]
  rfl
/-- both ways of a test -/
def Two (P : Prop) (b : Bool) (Q : Prop) : Prop := (b = true → P) ∧ (b = false → Q)
theorem two_true {P Q : Prop} : Two P true Q = P := propext ⟨fun h => h.1 rfl, fun h => ⟨fun _ => h, fun e => Bool.noConfusion e⟩⟩
theorem two_false {P Q : Prop} : Two P false Q = Q := propext ⟨fun h => h.2 rfl, fun h => ⟨fun e => Bool.noConfusion e, fun _ => h⟩⟩
theorem two_nf {P Q : Prop} : Two P (!false) Q = P := two_true
theorem two_nt {P Q : Prop} : Two P (!true) Q = Q := two_false
theorem post_ite {m n : R α} {K : α → IH → Prop} {b : Bool} : ((if b = true then m else n).post K Y) = Two (m.post K Y) b (n.post K Y) := by
  cases b with
  | true => rw [two_true, if_pos rfl]
  | false => rw [two_false, if_neg Bool.false_ne_true]
theorem ite_h {m n : M α} {b : Bool} : (if b = true then m else n) h = if b = true then m h else n h := by cases b <;> rfl
theorem w_if {tc : Env → M Bool} : ((eIf tc fa fb env h).post K Y) = (tc env h).post (fun b h1 => Two ((fa env h1).post K Y) b ((fb env h1).post K Y)) Y := by
  show ((bnd (tc env) fun c => if c = true then fa env else fb env) h).post K Y = _
  rw [w_bnd]
  congr 1
  funext b h1
  rw [ite_h, post_ite]
theorem w_and {tc : Env → M Bool} : ((eAnd tc fa env h).post K Y) = (tc env h).post (fun b h1 => Two ((fa env h1).post K Y) b (K (.bl false) h1)) Y := by
  show ((bnd (tc env) fun c => if c = true then fa env else ret (.bl false)) h).post K Y = _
  rw [w_bnd]
  congr 1
  funext b h1
  rw [ite_h, post_ite]
  rfl
theorem w_or {tc : Env → M Bool} : ((eOr tc fa env h).post K Y) = (tc env h).post (fun b h1 => Two (K (.bl true) h1) b ((fa env h1).post K Y)) Y := by
  show ((bnd (tc env) fun c => if c = true then ret (.bl true) else fa env) h).post K Y = _
  rw [w_bnd]
  congr 1
  funext b h1
  rw [ite_h, post_ite]
  rfl
theorem w_cAnd {ta tb : Env → M Bool} {K : Bool → IH → Prop} : ((cAnd ta tb env h).post K Y) = (ta env h).post (fun b h1 => Two ((tb env h1).post K Y) b (K false h1)) Y := by
  show ((bnd (ta env) fun c => if c = true then tb env else ret false) h).post K Y = _
  rw [w_bnd]
  congr 1
  funext b h1
  rw [ite_h, post_ite]
  rfl
theorem w_cOr {ta tb : Env → M Bool} {K : Bool → IH → Prop} : ((cOr ta tb env h).post K Y) = (ta env h).post (fun b h1 => Two (K true h1) b ((tb env h1).post K Y)) Y := by
  show ((bnd (ta env) fun c => if c = true then ret true else tb env) h).post K Y = _
  rw [w_bnd]
  congr 1
  funext b h1
  rw [ite_h, post_ite]
  rfl
theorem w_cNot {ta : Env → M Bool} {K : Bool → IH → Prop} : ((cNot ta env h).post K Y) = (ta env h).post (fun b h1 => K (!b) h1) Y := by
  show ((bnd (ta env) fun c => ret (!c)) h).post K Y = _
  rw [w_bnd]
  rfl
theorem w_chain {f g : IH → D → D → Option D} : ((eChain f g fa fb fc env h).post K Y) = (fa env h).post (fun x h1 => (fb env h1).post (fun y h2 => ∃ b, f h2 (drf h2 x) (drf h2 y) = some (.bl b) ∧ Two ((fc env h2).post (fun u h3 => ∃ d, g h3 (drf h3 y) (drf h3 u) = some d ∧ K d h3) Y) b (K (.bl false) h2)) Y) Y := by
  show ((bnd (fa env) fun x => bnd (fb env) fun y => bnd (liftH f x y) fun z => bnd (lft (asB z)) fun k => if k = true then bnd (fc env) fun u => liftH g y u else ret (.bl false)) h).post K Y = _
  rw [w_bnd]
  congr 1
  funext x h1
  rw [w_bnd]
  congr 1
  funext y h2
  rw [w_bnd]
  show ((lft (f h2 (drf h2 x) (drf h2 y)) h2).post _ Y) = _
  rw [w_lft]
  refine propext ⟨fun ⟨z, e, p⟩ => ?_, fun ⟨b, e, p⟩ => ⟨_, e, ?_⟩⟩
  · rw [w_bnd, w_lft] at p
    obtain ⟨b, e2, p⟩ := p
    have e2 := asB_some e2
    subst e2
    refine ⟨b, e, ?_⟩
    rw [ite_h, post_ite, w_bnd] at p
    refine ⟨fun c => ?_, p.2⟩
    refine R.post.mono (p.1 c) (fun u h3 q => ?_) fun _ _ _ q => q
    have q : ((lft (g h3 (drf h3 y) (drf h3 u)) h3).post K Y) := q
    rw [w_lft] at q
    exact q
  · rw [w_bnd, w_lft]
    refine ⟨b, rfl, ?_⟩
    rw [ite_h, post_ite, w_bnd]
    refine ⟨fun c => ?_, p.2⟩
    refine R.post.mono (p.1 c) (fun u h3 q => ?_) fun _ _ _ q => q
    show ((lft (g h3 (drf h3 y) (drf h3 u)) h3).post K Y)
    rw [w_lft]
    exact q
theorem w_fits {K : Unit → IH → Prop} {n : Nat} : ((lft (fits n) h).post K Y) = (n ≤ 16777216 ∧ K () h) := by
  rw [w_lft]
  unfold fits
  split
  · rename_i l; exact propext ⟨fun ⟨_, _, k⟩ => ⟨l, k⟩, fun ⟨_, k⟩ => ⟨_, rfl, k⟩⟩
  · rename_i l; exact propext ⟨(fun ⟨_, e, _⟩ => by cases e), fun ⟨l', _⟩ => absurd l' l⟩
theorem w_tup {ga : Env → M (List D)} : ((eTup ga env h).post K Y) = (ga env h).post (fun xs h1 => xs.length ≤ 16777216 ∧ K (.tup xs) h1) Y := by
  show ((bnd (ga env) fun xs => bnd (lft (fits xs.length)) fun _ => ret (.tup xs)) h).post K Y = _
  rw [w_bnd]
  congr 1
  funext xs h1
  rw [w_bnd, w_fits]
  rfl
theorem w_lst {ga : Env → M (List D)} : ((eLst ga env h).post K Y) = (ga env h).post (fun xs h1 => xs.length ≤ 16777216 ∧ K (.lst xs) h1) Y := by
  show ((bnd (ga env) fun xs => bnd (lft (fits xs.length)) fun _ => ret (.lst xs)) h).post K Y = _
  rw [w_bnd]
  congr 1
  funext xs h1
  rw [w_bnd, w_fits]
  rfl
theorem w_cell {ga : Env → M (List D)} : ((eCell ga env h).post K Y) = (ga env h).post (fun xs h1 => xs.length ≤ 16777216 ∧ K (.ref h1.length) (h1 ++ [.lst xs])) Y := by
  show ((bnd (ga env) fun xs => bnd (lft (fits xs.length)) fun _ => fun h => .ok (.ref h.length) (h ++ [.lst xs])) h).post K Y = _
  rw [w_bnd]
  congr 1
  funext xs h1
  rw [w_bnd, w_fits]
  rfl
theorem w_blt {ga : Env → M (List D)} {op : List D → Option D} : ((eBlt op ga env h).post K Y) = (ga env h).post (fun xs h1 => ∃ d, op (xs.map (drf h1)) = some d ∧ K d h1) Y := by
  show ((bnd (ga env) fun xs => lftNs op xs) h).post K Y = _
  rw [w_bnd]
  congr 1
  funext xs h1
  exact w_lft
theorem w_isi {sub : Nat → Nat → Bool} {t : Ty} : ((eIsi sub t fa env h).post K Y) = (fa env h).post (fun x h1 => ∃ b, isiD sub (drfA h1 x) t = some b ∧ K (.bl b) h1) Y := by
  show ((bnd (fa env) fun x => fun h => lft ((isiD sub (drfA h x) t).map D.bl) h) h).post K Y = _
  rw [w_bnd]
  congr 1
  funext x h1
  show ((lft ((isiD sub (drfA h1 x) t).map D.bl) h1).post K Y) = _
  rw [w_lft]
  refine propext ⟨fun ⟨a, e, k⟩ => ?_, fun ⟨b, e, k⟩ => ⟨_, by rw [e]; rfl, k⟩⟩
  obtain ⟨b, e2, rfl⟩ := Option.map_eq_some_iff.mp e
  exact ⟨b, e2, k⟩
theorem w_call {ga : Env → M (List D)} {f : List D → M D} : ((eCall f ga env h).post K Y) = (ga env h).post (fun xs h1 => (f xs h1).post K Y) Y := w_bnd
theorem w_aNil {K : List D → IH → Prop} : ((aNil env h).post K Y) = K [] h := rfl
theorem w_aCons {K : List D → IH → Prop} {ga : Env → M (List D)} : ((aCons fa ga env h).post K Y) = (fa env h).post (fun x h1 => (ga env h1).post (fun xs h2 => K (x :: xs) h2) Y) Y := by
  show ((bnd (fa env) fun x => bnd (ga env) fun xs => ret (x :: xs)) h).post K Y = _
  rw [w_bnd]
  congr 1
  funext x h1
  rw [w_bnd]
  rfl
theorem w_aStar {K : List D → IH → Prop} {ga : Env → M (List D)} : ((aStar fa ga env h).post K Y) = (fa env h).post (fun x h1 => ∃ xs, seqOf (drf h1 x) = some xs ∧ (ga env h1).post (fun ys h2 => K (xs ++ ys) h2) Y) Y := by
  show ((bnd (fa env) fun x => bnd (lftN seqOf x) fun xs => bnd (ga env) fun ys => ret (xs ++ ys)) h).post K Y = _
  rw [w_bnd]
  congr 1
  funext x h1
  rw [w_bnd]
  show ((lft (seqOf (drf h1 x)) h1).post _ Y) = _
  rw [w_lft]
  refine propext ⟨fun ⟨xs, e, p⟩ => ⟨xs, e, ?_⟩, fun ⟨xs, e, p⟩ => ⟨xs, e, ?_⟩⟩
  · rw [w_bnd] at p; exact p
  · rw [w_bnd]; exact p
theorem w_part_no {K : Option Int → IH → Prop} : ((ePart none env h).post K Y) = K none h := rfl
theorem w_part {K : Option Int → IH → Prop} : ((ePart (some fa) env h).post K Y) = (fa env h).post (fun x h1 => ∃ i, x = .int i ∧ K (some i) h1) Y := by
  show ((bnd (fa env) fun d => bnd (lft (asI d)) fun i => ret (some i)) h).post K Y = _
  rw [w_bnd]
  congr 1
  funext x h1
  rw [w_bnd, w_lft]
  refine propext ⟨fun ⟨i, e, p⟩ => ⟨i, ?_, p⟩, fun ⟨i, e, p⟩ => ⟨i, by rw [e]; rfl, p⟩⟩
  cases x <;> simp only [asI, Option.some.injEq, reduceCtorEq] at e
  rw [e]
theorem w_sl {lo hi : FO} : ((eSl fa lo hi env h).post K Y) = (fa env h).post (fun x h1 => (ePart lo env h1).post (fun l h2 => (ePart hi env h2).post (fun u h3 => ∃ d, slD (drf h3 x) l u = some d ∧ K d h3) Y) Y) Y := by
  show ((bnd (fa env) fun x => bnd (ePart lo env) fun l => bnd (ePart hi env) fun u => lftN (fun x => slD x l u) x) h).post K Y = _
  rw [w_bnd]
  congr 1
  funext x h1
  rw [w_bnd]
  congr 1
  funext l h2
  rw [w_bnd]
  congr 1
  funext u h3
  exact w_lft
theorem w_seq {K : Gd × List D → IH → Prop} : ((iSeq fa env h).post K Y) = (fa env h).post (fun x h1 => ∃ q, walkD h1 x = some q ∧ K q h1) Y := by
  show ((bnd (fa env) fun x => fun h => lft (walkD h x) h) h).post K Y = _
  rw [w_bnd]
  congr 1
  funext x h1
  exact w_lft
theorem w_args {K : Gd × List D → IH → Prop} {op : List D → Option (List D)} {ga : Env → M (List D)} : ((iArgs op ga env h).post K Y) = (ga env h).post (fun xs h1 => ∃ ds, op (xs.map (drf h1)) = some ds ∧ K (none, ds) h1) Y := by
  show ((bnd (ga env) fun x => bnd (lftNs op x) fun xs => ret (none, xs)) h).post K Y = _
  rw [w_bnd]
  congr 1
  funext x h1
  rw [w_bnd]
  show ((lft (op (x.map (drf h1))) h1).post _ Y) = _
  rw [w_lft]
  rfl
theorem w_zip {K : Gd × List D → IH → Prop} {ga : Env → M (List D)} : ((iZip ga env h).post K Y) = (ga env h).post (fun xs h1 => ∃ ds, zipD xs = some ds ∧ K (none, ds) h1) Y := by
  show ((bnd (ga env) fun x => bnd (lft (zipD x)) fun xs => ret (none, xs)) h).post K Y = _
  rw [w_bnd]
  congr 1
  funext x h1
  rw [w_bnd, w_lft]
  rfl
/-- what is walked: frozen, or a cell that must stay as it is -/
def Wk (Kn : List D → IH → Prop) (Kg : Nat × Cell → List D → IH → Prop) (p : Gd × List D) (h : IH) : Prop := match p.1 with
  | none => Kn p.2 h
  | some g => Kg g p.2 h
theorem wk_no {Kn : List D → IH → Prop} {Kg : Nat × Cell → List D → IH → Prop} {ds : List D} (k : Kn ds h) : Wk Kn Kg (none, ds) h := k
theorem wk_yes {Kn : List D → IH → Prop} {Kg : Nat × Cell → List D → IH → Prop} {g : Nat × Cell} {ds : List D} (k : Kg g ds h) : Wk Kn Kg (some g, ds) h := k
theorem w_noG {K : List D → IH → Prop} {it : Env → M (Gd × List D)} (p : (it env h).post (Wk K fun _ _ _ => False) Y) : (noG it env h).post K Y := by
  unfold noG
  rw [w_bnd]
  refine R.post.mono p (fun q h1 k => ?_) fun _ _ _ k => k
  obtain ⟨g, ds⟩ := q
  cases g with
  | none => exact k
  | some g => exact k.elim
end

theorem gdP_ok {α β : Type} {g : Nat × Cell} {f : α → M β} {a : α} {h : IH} (e : h[g.1]? = some g.2) : gdP (some g) f a h = f a h := by
  unfold gdP
  exact if_pos e
/-! ### statements -/
section
variable {K : RS → IH → Prop} {env : Env} {f fo fi : Env → M D} {i : Nat} {a b : Env → M RS}
theorem s_seq : ((sSeq a b env h).post K Y) = (a env h).post (fun r h1 => match r.1 with | .nx => (b r.2 h1).post K Y | _ => K r h1) Y := by
  unfold sSeq
  rw [w_bnd]
  congr 1
  funext r h1
  cases r with
  | mk f e => cases f <;> rfl
theorem s_set : ((sSet i f env h).post K Y) = (f env h).post (fun d h1 => K (.nx, env.set i (.val d)) h1) Y := w_bnd
theorem s_own (p : (f env h).post (fun d h1 => ∃ xs, d = .lst xs ∧ K (.nx, env.set i (.ow (.lst xs))) h1) Y) : (sOwn i f env h).post K Y := by
  unfold sOwn
  rw [w_bnd]
  refine R.post.mono p (fun d h1 ⟨xs, e, k⟩ => ?_) fun _ _ _ k => k
  subst e; exact k
theorem s_ownD (p : (f env h).post (fun d h1 => ∃ t ks vs, d = .dct t ks vs ∧ K (.nx, env.set i (.ow (.dct t ks vs))) h1) Y) : (sOwn i f env h).post K Y := by
  unfold sOwn
  rw [w_bnd]
  refine R.post.mono p (fun d h1 ⟨t, ks, vs, e, k⟩ => ?_) fun _ _ _ k => k
  subst e; exact k
theorem s_tg {t : Tg} : ((sTg t f env h).post K Y) = (f env h).post (fun d h1 => ∃ env', bindT t d env = some env' ∧ K (.nx, env') h1) Y := by
  show ((bnd (f env) fun d => bnd (lft (bindT t d env)) fun env' => ret (.nx, env')) h).post K Y = _
  rw [w_bnd]
  congr 1
  funext d h1
  rw [w_bnd, w_lft]
  rfl
theorem s_ix : ((sIx fo fi f env h).post K Y) = (f env h).post (fun v h1 => (fo env h1).post (fun o h2 => (fi env h2).post (fun j h3 => ∃ h4, setCell h3 o j v = some h4 ∧ K (.nx, env) h4) Y) Y) Y := by
  show ((bnd (f env) fun v => bnd (fo env) fun o => bnd (fi env) fun i => fun h => match setCell h o i v with | some h' => .ok (.nx, env) h' | none => .bad) h).post K Y = _
  rw [w_bnd]
  congr 1
  funext v h1
  rw [w_bnd]
  congr 1
  funext o h2
  rw [w_bnd]
  congr 1
  funext j h3
  show (((match setCell h3 o j v with | some h' => .ok (.nx, env) h' | none => .bad) : R RS).post K Y) = _
  cases e : setCell h3 o j v with
  | none => exact propext ⟨fun k => k.elim, fun ⟨_, q, _⟩ => by cases q⟩
  | some h4 => exact propext ⟨fun k => ⟨h4, rfl, k⟩, fun ⟨_, q, k⟩ => by cases q; exact k⟩
theorem s_ret : ((sRet f env h).post K Y) = (f env h).post (fun d h1 => K (.rt d, env) h1) Y := w_bnd
theorem s_end {fl : Fl} : ((sEnd fl env h).post K Y) = K (fl, env) h := rfl
theorem s_drop : ((sDrop f env h).post K Y) = (f env h).post (fun _ h1 => K (.nx, env) h1) Y := w_bnd
theorem s_if {c : Env → M Bool} (p : (c env h).post (fun t h1 => Two ((a env h1).post K Y) t ((b env h1).post K Y)) (fun k fs h1 => K (.xc k fs, env) h1)) : (sIf c a b env h).post K Y := by
  refine post_bndX.mpr (R.post.mono p (fun t h1 q => ?_) fun _ _ _ q => q)
  rw [ite_h, post_ite]
  exact q
theorem s_for {it : Env → M (Gd × List D)} {t : Tg} (p : (it env h).post (Wk (fun ds h1 => (forL t b ds env h1).post K Y) fun g ds h1 => (forL t (gdP (some g) b) ds env h1).post (fun r h2 => h2[g.1]? = some g.2 ∧ K r h2) Y) (fun k fs h1 => K (.xc k fs, env) h1)) : (sFor it t b env h).post K Y := by
  unfold sFor
  refine post_bndX.mpr ?_
  refine R.post.mono p (fun q h1 k => ?_) fun _ _ _ k => k
  obtain ⟨g, ds⟩ := q
  rw [w_bnd]
  cases g with
  | none => exact R.post.mono k (fun r h2 k => k) fun _ _ _ k => k
  | some g =>
    refine R.post.mono k (fun r h2 k => ?_) fun _ _ _ k => k
    show ((gdP (some g) ret r h2).post K Y)
    rw [gdP_ok k.1]; exact k.2
end

/-- what flies out of a statement's expression, as a flow -/
abbrev XY (K : RS → IH → Prop) (env : Env) : Nat → List D → IH → Prop := fun c fs h => K (.xc c fs, env) h
theorem w_catch {ev : Env → M RS} {K : RS → IH → Prop} {env : Env} (p : (ev env h).post K (XY K env)) : (catchX ev env h).post K Y := post_bndX.mpr p
/-! ### with cells in the place of their references -/
def binH (op : BOp) (h : IH) (x y : D) : Option D := binF op h (drf h x) (drf h y)
def cmpH (op : COp) (h : IH) (x y : D) : Option D := cmpF op h (drf h x) (drf h y)
def ixH (h : IH) (x y : D) : Option D := opIx h (drf h x) (drf h y)
def slH (h : IH) (x : D) (l u : Option Int) : Option D := slD (drf h x) l u
def bltH (t : Blt) (h : IH) (xs : List D) : Option D := bltF t (xs.map (drf h))
def isiH (C : Cfg) (h : IH) (x : D) (t : Ty) : Option Bool := isiD C.sub (drfA h x) t
def seqH (h : IH) (x : D) : Option (List D) := seqOf (drf h x)
def rngH (h : IH) (xs : List D) : Option (List D) := rangeF (xs.map (drf h))
def trH (h : IH) (x : D) : Option Bool := trD (drf h x)
def joinH (h : IH) (z : List Nat) (y : D) : Option D := joinD (.str z) (drf h y)
/-- an instance is made -/
def mkD (frz : Bool) (c : Nat) (F : List D → M D) (ds : List D) : M D := fun h => match F (.ref h.length :: ds) (h ++ [.ins c []]) with
  | .ok .non h' => if frz = true then (match h'[h.length]? with
      | some (.ins c' fs) => if c' = c then .ok (.ins c fs) (h'.set h.length .dead) else .bad
      | _ => .bad) else .ok (.ref h.length) h'
  | .ok _ _ => .bad
  | .ex k fs h' => .ex k fs h'
  | .bad => .bad
theorem mkd_f {c : Nat} {F : List D → M D} {ds : List D} {K : D → IH → Prop} (p : (F (.ref h.length :: ds) (h ++ [.ins c []])).post (fun d h' => d = .non ∧ ∃ fs, h'[h.length]? = some (.ins c fs) ∧ K (.ins c fs) (h'.set h.length .dead)) Y) : (mkD true c F ds h).post K Y := by
  unfold mkD
  cases q : F (.ref h.length :: ds) (h ++ [.ins c []]) with
  | bad => rw [q] at p; exact p.elim
  | ex => rw [q] at p; exact p
  | ok d h' =>
    rw [q] at p
    obtain ⟨rfl, fs, e, k⟩ := p
    dsimp only
    rw [if_pos rfl, e]
    dsimp only
    rw [if_pos rfl]
    exact k
theorem mkd_c {c : Nat} {F : List D → M D} {ds : List D} {K : D → IH → Prop} (p : (F (.ref h.length :: ds) (h ++ [.ins c []])).post (fun d h' => d = .non ∧ K (.ref h.length) h') Y) : (mkD false c F ds h).post K Y := by
  unfold mkD
  cases q : F (.ref h.length :: ds) (h ++ [.ins c []]) with
  | bad => rw [q] at p; exact p.elim
  | ex => rw [q] at p; exact p
  | ok d h' =>
    rw [q] at p
    obtain ⟨rfl, k⟩ := p
    exact k
/-! ### the same by the syntax -/
section
variable {C : Cfg} {K : D → IH → Prop} {env : Env} {a b c : Ex} {es : Exs} {i : Nat} {d : D}
theorem x_cst (k : K d h) : (evE C (.cst d) env h).post K Y := k
theorem x_var (e : env[i]? = some (.val d)) (k : K d h) : (evE C (.var i) env h).post K Y := by
  show ((eVar i env h).post K Y)
  rw [w_var, e]; exact k
theorem x_peekV (e : env[i]? = some (.val d)) (k : K d h) : (evE C (.peek i) env h).post K Y := by
  show ((ePeek i env h).post K Y)
  rw [w_peek, e]; exact k
theorem x_peek {xs : List D} (e : env[i]? = some (.ow (.lst xs))) (k : K (.lst xs) h) : (evE C (.peek i) env h).post K Y := by
  show ((ePeek i env h).post K Y)
  rw [w_peek, e]; exact k
theorem x_peekD {t : Bool} {ks vs : List D} (e : env[i]? = some (.ow (.dct t ks vs))) (k : K (.dct t ks vs) h) : (evE C (.peek i) env h).post K Y := by
  show ((ePeek i env h).post K Y)
  rw [w_peek, e]; exact k
theorem x_neg (p : (evE C a env h).post (fun x h1 => ∃ d, negD x = some d ∧ K d h1) Y) : (evE C (.neg a) env h).post K Y := w_neg.mpr p
theorem x_bin {op : BOp} (p : (evE C a env h).post (fun x h1 => (evE C b env h1).post (fun y h2 => ∃ d, binH op h2 x y = some d ∧ K d h2) Y) Y) : (evE C (.bin op a b) env h).post K Y := w_op.mpr p
theorem x_cmp {op : COp} (p : (evE C a env h).post (fun x h1 => (evE C b env h1).post (fun y h2 => ∃ d, cmpH op h2 x y = some d ∧ K d h2) Y) Y) : (evE C (.cmp op a b) env h).post K Y := w_op.mpr p
theorem x_ix (p : (evE C a env h).post (fun x h1 => (evE C b env h1).post (fun y h2 => ∃ d, ixH h2 x y = some d ∧ K d h2) Y) Y) : (evE C (.ix a b) env h).post K Y := w_op.mpr p
theorem x_sl {lo hi : Exo} (p : (evE C a env h).post (fun x h1 => (ePart (evO C lo) env h1).post (fun l h2 => (ePart (evO C hi) env h2).post (fun u h3 => ∃ d, slH h3 x l u = some d ∧ K d h3) Y) Y) Y) : (evE C (.sl a lo hi) env h).post K Y := w_sl.mpr p
theorem x_pno {K : Option Int → IH → Prop} (k : K none h) : (ePart (evO C .no) env h).post K Y := k
theorem x_pyes {K : Option Int → IH → Prop} (p : (evE C a env h).post (fun x h1 => ∃ i, x = .int i ∧ K (some i) h1) Y) : (ePart (evO C (.yes a)) env h).post K Y := w_part.mpr p
theorem x_and (p : (evAnd C es env h).post K Y) : (evE C (.and es) env h).post K Y := p
theorem x_or (p : (evOr C es env h).post K Y) : (evE C (.or es) env h).post K Y := p
theorem x_and1 (p : (evE C a env h).post K Y) : (evAnd C (.cons a .nil) env h).post K Y := p
theorem x_or1 (p : (evE C a env h).post K Y) : (evOr C (.cons a .nil) env h).post K Y := p
theorem x_and2 (p : (evE C a env h).post (fun x h1 => ∃ t, x = .bl t ∧ Two ((evAnd C (.cons b es) env h1).post K Y) t (K (.bl false) h1)) Y) : (evAnd C (.cons a (.cons b es)) env h).post K Y := by
  refine w_and.mpr ?_
  rw [w_toB]; exact p
theorem x_or2 (p : (evE C a env h).post (fun x h1 => ∃ t, x = .bl t ∧ Two (K (.bl true) h1) t ((evOr C (.cons b es) env h1).post K Y)) Y) : (evOr C (.cons a (.cons b es)) env h).post K Y := by
  refine w_or.mpr ?_
  rw [w_toB]; exact p
theorem x_not (p : (evE C a env h).post (fun x h1 => ∃ t, x = .bl t ∧ K (.bl (!t)) h1) Y) : (evE C (.not a) env h).post K Y := w_not.mpr p
theorem x_ite (p : (evC C c env h).post (fun t h1 => Two ((evE C a env h1).post K Y) t ((evE C b env h1).post K Y)) Y) : (evE C (.ite c a b) env h).post K Y := w_if.mpr p
theorem x_chain {o1 o2 : COp} (p : (evE C a env h).post (fun x h1 => (evE C b env h1).post (fun y h2 => ∃ t, cmpH o1 h2 x y = some (.bl t) ∧ Two ((evE C c env h2).post (fun u h3 => ∃ d, cmpH o2 h3 y u = some d ∧ K d h3) Y) t (K (.bl false) h2)) Y) Y) : (evE C (.chain o1 o2 a b c) env h).post K Y := w_chain.mpr p
theorem x_tup (p : (evA C es env h).post (fun xs h1 => xs.length ≤ 16777216 ∧ K (.tup xs) h1) Y) : (evE C (.tup es) env h).post K Y := w_tup.mpr p
theorem x_lst (p : (evA C es env h).post (fun xs h1 => xs.length ≤ 16777216 ∧ K (.lst xs) h1) Y) : (evE C (.lst es) env h).post K Y := w_lst.mpr p
theorem x_cell (p : (evA C es env h).post (fun xs h1 => xs.length ≤ 16777216 ∧ K (.ref h1.length) (h1 ++ [.lst xs])) Y) : (evE C (.cell es) env h).post K Y := w_cell.mpr p
theorem x_blt {t : Blt} (p : (evA C es env h).post (fun xs h1 => ∃ d, bltH t h1 xs = some d ∧ K d h1) Y) : (evE C (.blt t es) env h).post K Y := w_blt.mpr p
theorem x_isi {t : Ty} (p : (evE C a env h).post (fun x h1 => ∃ b, isiH C h1 x t = some b ∧ K (.bl b) h1) Y) : (evE C (.isi t a) env h).post K Y := w_isi.mpr p
theorem x_call {f : Nat} (p : (evA C es env h).post (fun xs h1 => (C.call f xs h1).post K Y) Y) : (evE C (.call f es) env h).post K Y := w_call.mpr p
theorem x_nil {K : List D → IH → Prop} (k : K [] h) : (evA C .nil env h).post K Y := k
theorem x_acons {K : List D → IH → Prop} (p : (evE C a env h).post (fun x h1 => (evA C es env h1).post (fun xs h2 => K (x :: xs) h2) Y) Y) : (evA C (.cons a es) env h).post K Y := w_aCons.mpr p
theorem x_star {K : List D → IH → Prop} (p : (evE C a env h).post (fun x h1 => ∃ xs, seqH h1 x = some xs ∧ (evA C es env h1).post (fun ys h2 => K (xs ++ ys) h2) Y) Y) : (evA C (.star a es) env h).post K Y := w_aStar.mpr p
theorem x_iseq {K : Gd × List D → IH → Prop} (p : (evE C a env h).post (fun x h1 => ∃ q, walkD h1 x = some q ∧ K q h1) Y) : (evI C (.seq a) env h).post K Y := w_seq.mpr p
theorem x_irange {K : Gd × List D → IH → Prop} (p : (evA C es env h).post (fun xs h1 => ∃ ds, rngH h1 xs = some ds ∧ K (none, ds) h1) Y) : (evI C (.range es) env h).post K Y := w_args.mpr p
theorem x_izip {K : Gd × List D → IH → Prop} (p : (evA C es env h).post (fun xs h1 => ∃ ds, zipD xs = some ds ∧ K (none, ds) h1) Y) : (evI C (.zip es) env h).post K Y := w_zip.mpr p
theorem x_binO {op : BOp} (p : (evE C a env h).post (fun x h1 => (evE C b env h1).post (fun y h2 => (dundO C.call C.ct (binN op) (binF op) x y h2).post K Y) Y) Y) : (evE C (.binO op a b) env h).post K Y := by
  show ((eOpM _ (evE C a) (evE C b) env h).post K Y)
  unfold eOpM
  rw [w_bnd]
  refine R.post.mono p (fun x h1 q => ?_) fun _ _ _ q => q
  rw [w_bnd]; exact q
theorem x_cmpO {op : COp} (p : (evE C a env h).post (fun x h1 => (evE C b env h1).post (fun y h2 => (cmpM C op (cmpF op) x y h2).post K Y) Y) Y) : (evE C (.cmpO op a b) env h).post K Y := by
  show ((eOpM _ (evE C a) (evE C b) env h).post K Y)
  unfold eOpM
  rw [w_bnd]
  refine R.post.mono p (fun x h1 q => ?_) fun _ _ _ q => q
  rw [w_bnd]; exact q
theorem x_lenO (p : (evE C a env h).post (fun x h1 => (lenM C.call C.ct 0 [x] h1).post K Y) Y) : (evE C (.lenO a) env h).post K Y := by
  show ((bnd (aCons (evE C a) aNil env) (lenM C.call C.ct 0) h).post K Y)
  rw [w_bnd, w_aCons]
  exact p
theorem x_listO (p : (evE C a env h).post (fun x h1 => (listM C.call C.ct 0 [x] h1).post K Y) Y) : (evE C (.listO a) env h).post K Y := by
  show ((bnd (aCons (evE C a) aNil env) (listM C.call C.ct 0) h).post K Y)
  rw [w_bnd, w_aCons]
  exact p
theorem x_attr {n : Nat} (p : (evE C a env h).post (fun x h1 => (attrD C.call C.ct n x h1).post K Y) Y) : (evE C (.attr n a) env h).post K Y := w_bnd.mpr p
theorem x_mk {c : Nat} {cd : ClsD} {i : Nat} (e : C.ct c = some cd) (e2 : cd.init = some i) (p : (evA C es env h).post (fun ds h1 => (mkD cd.frz c (C.call i) ds h1).post K Y) Y) : (evE C (.mk c es) env h).post K Y := by
  show ((eMk C c (evA C es) env h).post K Y)
  unfold eMk
  rw [e]
  simp only [Option.bind_some, e2, Option.map_some]
  exact w_bnd.mpr p
theorem x_meth {m : Nat} (p : (evE C a env h).post (fun x h1 => ∃ i, methD C.ct m h1 x = some i ∧ (evA C es env h1).post (fun ds h2 => (C.call i (x :: ds) h2).post K Y) Y) Y) : (evE C (.meth m a es) env h).post K Y := by
  show ((bnd (evE C a env) fun x => fun h => match methD C.ct m h x with | some i => bnd (evA C es env) (fun ds => C.call i (x :: ds)) h | none => .bad) h).post K Y
  rw [w_bnd]
  refine R.post.mono p (fun x h1 ⟨i, e, q⟩ => ?_) fun _ _ _ q => q
  rw [e]
  dsimp only
  rw [w_bnd]; exact q
theorem x_scall {c m : Nat} {cd : ClsD} {i : Nat} (e : C.ct c = some cd) (e2 : cd.ss.lookup m = some i) (p : (evA C es env h).post (fun ds h1 => (C.call i ds h1).post K Y) Y) : (evE C (.scall c m es) env h).post K Y := by
  show ((eScall C c m (evA C es) env h).post K Y)
  unfold eScall
  rw [e]
  simp only [Option.bind_some, e2]
  exact w_bnd.mpr p
theorem x_join (p : (evE C a env h).post (fun x h1 => ∃ z, x = .str z ∧ (evE C b env h1).post (fun y h2 => ∃ d, joinH h2 z y = some d ∧ K d h2) Y) Y) : (evE C (.join a b) env h).post K Y := by
  show ((eJoin (evE C a) (evE C b) env h).post K Y)
  unfold eJoin
  rw [w_bnd]
  refine R.post.mono p (fun x h1 ⟨z, e, q⟩ => ?_) fun _ _ _ q => q
  subst e
  rw [if_pos (show isS (.str z) = true from rfl), w_bnd]
  refine R.post.mono q (fun y h2 ⟨d, e, k⟩ => ?_) fun _ _ _ q => q
  show ((lft (joinD (.str z) (drf h2 y)) h2).post K Y)
  rw [w_lft]
  exact ⟨d, e, k⟩
theorem x_split (p : (evE C a env h).post (fun x h1 => ∃ z, x = .str z ∧ (evE C b env h1).post (fun y h2 => ∃ d, splitD (.str z) y = some d ∧ K d h2) Y) Y) : (evE C (.split a b) env h).post K Y := by
  show ((eSplit (evE C a) (evE C b) env h).post K Y)
  unfold eSplit
  rw [w_bnd]
  refine R.post.mono p (fun x h1 ⟨z, e, q⟩ => ?_) fun _ _ _ q => q
  subst e
  rw [if_pos (show isS (.str z) = true from rfl), w_bnd]
  refine R.post.mono q (fun y h2 ⟨d, e, k⟩ => ?_) fun _ _ _ q => q
  show ((lft (splitD (.str z) y) h2).post K Y)
  rw [w_lft]
  exact ⟨d, e, k⟩
theorem x_box (p : (evE C a env h).post (fun d h1 => ∃ xs, d = .lst xs ∧ K (.ref h1.length) (h1 ++ [.lst xs])) Y) : (evE C (.box a) env h).post K Y := by
  show ((eBox (evE C a) env h).post K Y)
  unfold eBox
  rw [w_bnd]
  refine R.post.mono p (fun d h1 ⟨xs, e, q⟩ => ?_) fun _ _ _ q => q
  subst e; exact q
theorem x_dnew {t : Bool} (k : K (.dct t [] []) h) : (evE C (.dnew t) env h).post K Y := k
end
section
variable {C : Cfg} {K : Bool → IH → Prop} {env : Env} {a b c : Ex} {es : Exs} {i : Nat} {d : D}
theorem c_tru (p : (evE C a env h).post (fun x h1 => ∃ b, trH h1 x = some b ∧ K b h1) Y) : (evC C (.tru a) env h).post K Y := w_toT.mpr p
theorem c_and (p : (evCA C es env h).post K Y) : (evC C (.and es) env h).post K Y := p
theorem c_or (p : (evCO C es env h).post K Y) : (evC C (.or es) env h).post K Y := p
theorem c_and1 (p : (evC C a env h).post K Y) : (evCA C (.cons a .nil) env h).post K Y := p
theorem c_or1 (p : (evC C a env h).post K Y) : (evCO C (.cons a .nil) env h).post K Y := p
theorem c_and2 (p : (evC C a env h).post (fun t h1 => Two ((evCA C (.cons b es) env h1).post K Y) t (K false h1)) Y) : (evCA C (.cons a (.cons b es)) env h).post K Y := w_cAnd.mpr p
theorem c_or2 (p : (evC C a env h).post (fun t h1 => Two (K true h1) t ((evCO C (.cons b es) env h1).post K Y)) Y) : (evCO C (.cons a (.cons b es)) env h).post K Y := w_cOr.mpr p
theorem c_not (p : (evC C a env h).post (fun t h1 => K (!t) h1) Y) : (evC C (.not a) env h).post K Y := w_cNot.mpr p
theorem c_cst {b : Bool} (k : K b h) : (evC C (.cst (.bl b)) env h).post K Y := k
theorem c_var {b : Bool} (e : env[i]? = some (.val (.bl b))) (k : K b h) : (evC C (.var i) env h).post K Y := by
  refine w_toB.mpr ?_
  rw [w_var, e]
  exact ⟨b, rfl, k⟩
theorem c_cmp {op : COp} (p : (evE C (.cmp op a b) env h).post (fun x h1 => ∃ b, x = .bl b ∧ K b h1) Y) : (evC C (.cmp op a b) env h).post K Y := w_toB.mpr p
theorem c_ix (p : (evE C (.ix a b) env h).post (fun x h1 => ∃ b, x = .bl b ∧ K b h1) Y) : (evC C (.ix a b) env h).post K Y := w_toB.mpr p
theorem c_chain {o1 o2 : COp} (p : (evE C (.chain o1 o2 a b c) env h).post (fun x h1 => ∃ b, x = .bl b ∧ K b h1) Y) : (evC C (.chain o1 o2 a b c) env h).post K Y := w_toB.mpr p
theorem c_blt {t : Blt} (p : (evE C (.blt t es) env h).post (fun x h1 => ∃ b, x = .bl b ∧ K b h1) Y) : (evC C (.blt t es) env h).post K Y := w_toB.mpr p
theorem c_isi {t : Ty} (p : (evE C (.isi t a) env h).post (fun x h1 => ∃ b, x = .bl b ∧ K b h1) Y) : (evC C (.isi t a) env h).post K Y := w_toB.mpr p
theorem c_call {f : Nat} (p : (evE C (.call f es) env h).post (fun x h1 => ∃ b, x = .bl b ∧ K b h1) Y) : (evC C (.call f es) env h).post K Y := w_toB.mpr p
theorem c_cmpO {op : COp} (p : (evE C (.cmpO op a b) env h).post (fun x h1 => ∃ b, x = .bl b ∧ K b h1) Y) : (evC C (.cmpO op a b) env h).post K Y := w_toB.mpr p
theorem c_attr {n : Nat} (p : (evE C (.attr n a) env h).post (fun x h1 => ∃ b, x = .bl b ∧ K b h1) Y) : (evC C (.attr n a) env h).post K Y := w_toB.mpr p
theorem c_meth {n : Nat} (p : (evE C (.meth n a es) env h).post (fun x h1 => ∃ b, x = .bl b ∧ K b h1) Y) : (evC C (.meth n a es) env h).post K Y := w_toB.mpr p
theorem c_scall {m n : Nat} (p : (evE C (.scall m n es) env h).post (fun x h1 => ∃ b, x = .bl b ∧ K b h1) Y) : (evC C (.scall m n es) env h).post K Y := w_toB.mpr p
theorem t_no (k : K true h) : (evT C .no env h).post K Y := k
theorem t_yes (p : (evC C a env h).post K Y) : (evT C (.yes a) env h).post K Y := p
end
section
variable {C : Cfg} {K : RS → IH → Prop} {env : Env} {a b c : Ex} {es : Exs} {i : Nat} {d : D} {s : Sm} {r t u : Sms}
/-- what follows a statement -/
def Then (C : Cfg) (r : Sms) (K : RS → IH → Prop) (Y : Nat → List D → IH → Prop) (x : RS) (h : IH) : Prop := match x.1 with
  | .nx => (evSs C r x.2 h).post K Y
  | _ => K x h
theorem y_nil (k : K (.nx, env) h) : (evSs C .nil env h).post K Y := k
theorem y_cons (p : (evS C s env h).post (Then C r K Y) Y) : (evSs C (.cons s r) env h).post K Y := by
  refine s_seq.mpr (R.post.mono p (fun x h1 q => ?_) fun _ _ _ q => q)
  cases x with
  | mk f e => cases f <;> exact q
theorem y_frz {xs : List D} (e : env[i]? = some (.ow (.lst xs))) (p : (evSs C r (env.set i (.val (.lst xs))) h).post K Y) : (evSs C (.frz i r) env h).post K Y := by
  show (((fun env => bnd (sFrz i env) fun x => evSs C r x.2) env h).post K Y)
  dsimp only
  rw [w_bnd]
  unfold sFrz
  rw [e]
  exact p
theorem y_frzD {t : Bool} {ks vs : List D} (e : env[i]? = some (.ow (.dct t ks vs))) (p : (evSs C r (env.set i (.val (.dct t ks vs))) h).post K Y) : (evSs C (.frz i r) env h).post K Y := by
  show (((fun env => bnd (sFrz i env) fun x => evSs C r x.2) env h).post K Y)
  dsimp only
  rw [w_bnd]
  unfold sFrz
  rw [e]
  exact p
theorem y_frzV {d : D} (e : env[i]? = some (.val d)) (p : (evSs C r env h).post K Y) : (evSs C (.frz i r) env h).post K Y := by
  show (((fun env => bnd (sFrz i env) fun x => evSs C r x.2) env h).post K Y)
  dsimp only
  rw [w_bnd]
  unfold sFrz
  rw [e]
  exact p
theorem n_nx (p : (evSs C r env h).post K Y) : Then C r K Y (.nx, env) h := p
theorem n_rt {d : D} (p : K (.rt d, env) h) : Then C r K Y (.rt d, env) h := p
theorem n_bk (p : K (.bk, env) h) : Then C r K Y (.bk, env) h := p
theorem n_ct (p : K (.ct, env) h) : Then C r K Y (.ct, env) h := p
theorem y_set (p : (evE C a env h).post (fun d h1 => K (.nx, env.set i (.val d)) h1) (XY K env)) : (evS C (.set i a) env h).post K Y := w_catch (s_set.mpr p)
theorem y_own (p : (evE C a env h).post (fun d h1 => ∃ xs, d = .lst xs ∧ K (.nx, env.set i (.ow (.lst xs))) h1) (XY K env)) : (evS C (.own i a) env h).post K Y := w_catch (s_own p)
theorem y_ownN {t : Bool} (k : K (.nx, env.set i (.ow (.dct t [] []))) h) : (evS C (.own i (.dnew t)) env h).post K Y := w_catch (s_ownD ⟨t, [], [], rfl, k⟩)
theorem y_tg {t : Tg} (p : (evE C a env h).post (fun d h1 => ∃ env', bindT t d env = some env' ∧ K (.nx, env') h1) (XY K env)) : (evS C (.tg t a) env h).post K Y := w_catch (s_tg.mpr p)
theorem y_ixs (p : (evE C c env h).post (fun v h1 => (evE C a env h1).post (fun o h2 => (evE C b env h2).post (fun j h3 => ∃ h4, setCell h3 o j v = some h4 ∧ K (.nx, env) h4) (XY K env)) (XY K env)) (XY K env)) : (evS C (.ixs a b c) env h).post K Y := w_catch (s_ix.mpr p)
theorem y_aug {op : BOp} {x : D} (e : env[i]? = some (.val x)) (p : (evE C a env h).post (fun y h1 => ∃ z, augF op h1 (drf h1 x) (drf h1 y) = some z ∧ K (.nx, env.set i (.val z)) h1) (XY K env)) : (evS C (.aug op i a) env h).post K Y := by
  refine w_catch ?_
  show ((sAug (augF op) i (evE C a) env h).post K (XY K env))
  unfold sAug
  rw [e]
  dsimp only
  rw [w_bnd]
  refine R.post.mono p (fun y h1 ⟨z, e2, k⟩ => ?_) fun _ _ _ q => q
  rw [w_bnd]
  show ((lft (augF op h1 (drf h1 x) (drf h1 y)) h1).post _ (XY K env))
  rw [w_lft]
  exact ⟨z, e2, k⟩
theorem y_app {xs : List D} (e : env[i]? = some (.ow (.lst xs))) (p : (evE C a env h).post (fun d h1 => xs.length + 1 ≤ 16777216 ∧ K (.nx, env.set i (.ow (.lst (xs ++ [d])))) h1) (XY K env)) : (evS C (.app i a) env h).post K Y := by
  refine w_catch ?_
  show ((sApp i (evE C a) env h).post K (XY K env))
  unfold sApp
  rw [e]
  dsimp only
  rw [w_bnd]
  refine R.post.mono p (fun d h1 ⟨l, k⟩ => ?_) fun _ _ _ q => q
  rw [w_bnd, w_fits]
  exact ⟨l, k⟩
theorem y_att {n : Nat} (p : (evE C b env h).post (fun v h1 => (evE C a env h1).post (fun o h2 => ∃ h3, attS C.ct n o v h2 = some h3 ∧ K (.nx, env) h3) (XY K env)) (XY K env)) : (evS C (.att n a b) env h).post K Y := by
  refine w_catch ?_
  show ((bnd (evE C b env) fun v => bnd (evE C a env) fun o => fun h => match attS C.ct n o v h with | some h' => .ok (.nx, env) h' | none => .bad) h).post K (XY K env)
  rw [w_bnd]
  refine R.post.mono p (fun v h1 q => ?_) fun _ _ _ q => q
  rw [w_bnd]
  refine R.post.mono q (fun o h2 ⟨h3, e, q⟩ => ?_) fun _ _ _ q => q
  rw [e]; exact q
theorem y_appR (p : (evE C a env h).post (fun o h1 => isL o h1 = true ∧ (evE C b env h1).post (fun v h2 => ∃ h3, appC o v h2 = some h3 ∧ K (.nx, env) h3) (XY K env)) (XY K env)) : (evS C (.appR a b) env h).post K Y := by
  refine w_catch ?_
  show ((bnd (evE C a env) fun o => fun h => if isL o h = true then bnd (evE C b env) (fun v => fun h => match appC o v h with | some h' => .ok (.nx, env) h' | none => .bad) h else .bad) h).post K (XY K env)
  rw [w_bnd]
  refine R.post.mono p (fun o h1 ⟨e, q⟩ => ?_) fun _ _ _ q => q
  rw [if_pos e, w_bnd]
  refine R.post.mono q (fun v h2 ⟨h3, e, q⟩ => ?_) fun _ _ _ q => q
  rw [e]; exact q
theorem y_putO {t0 : Bool} {ks vs : List D} (e : env[i]? = some (.ow (.dct t0 ks vs))) (p : (evE C b env h).post (fun z h1 => (evE C a env h1).post (fun y h2 => (keyOk t0 y = true ∧ ks.length < 16777216) ∧ K (.nx, env.set i (.ow (.dct t0 (putDK ks y) (putDV ks vs y z)))) h2) (XY K env)) (XY K env)) : (evS C (.putO i a b) env h).post K Y := by
  refine w_catch ?_
  show ((sPutO i (evE C a) (evE C b) env h).post K (XY K env))
  unfold sPutO
  rw [w_bnd]
  refine R.post.mono p (fun z h1 q => ?_) fun _ _ _ q => q
  rw [e]
  dsimp only
  rw [w_bnd]
  refine R.post.mono q (fun y h2 ⟨l, q⟩ => ?_) fun _ _ _ q => q
  rw [w_bnd, w_lft]
  exact ⟨_, by unfold dputC; rw [if_pos l], q⟩
theorem y_attAug {op : BOp} {n : Nat} (p : (evE C a env h).post (fun o h1 => ∃ i, fldI C.ct n o h1 = some i ∧ (evE C b env h1).post (fun y h2 => ∃ j, y = .int j ∧ clsAt h2 o = clsAt h1 o ∧ ∃ h3, attS C.ct n o (.int (augI op i j)) h2 = some h3 ∧ K (.nx, env) h3) (XY K env)) (XY K env)) : (evS C (.attAug op n a b) env h).post K Y := by
  refine w_catch ?_
  show ((sAttAug C.ct (augI op) n (evE C a) (evE C b) env h).post K (XY K env))
  unfold sAttAug
  rw [w_bnd]
  refine R.post.mono p (fun o h1 ⟨i, e, q⟩ => ?_) fun _ _ _ q => q
  rw [e]
  dsimp only
  rw [w_bnd]
  refine R.post.mono q (fun y h2 ⟨j, e2, e3, h3, e4, k⟩ => ?_) fun _ _ _ q => q
  subst e2
  dsimp only
  rw [if_pos e3, e4]
  exact k
theorem y_ret (p : (evE C a env h).post (fun d h1 => K (.rt d, env) h1) (XY K env)) : (evS C (.ret a) env h).post K Y := w_catch (s_ret.mpr p)
theorem y_retN (k : K (.rt .non, env) h) : (evS C .retN env h).post K Y := k
theorem y_pass (k : K (.nx, env) h) : (evS C .pass env h).post K Y := k
theorem y_brk (k : K (.bk, env) h) : (evS C .brk env h).post K Y := k
theorem y_cont (k : K (.ct, env) h) : (evS C .cont env h).post K Y := k
theorem y_expr (p : (evE C a env h).post (fun _ h1 => K (.nx, env) h1) (XY K env)) : (evS C (.expr a) env h).post K Y := w_catch (s_drop.mpr p)
theorem y_ite (p : (evC C c env h).post (fun b h1 => Two ((evSs C t env h1).post K Y) b ((evSs C u env h1).post K Y)) (XY K env)) : (evS C (.ite c t u) env h).post K Y := s_if p
/-- for, by an invariant of what is done -/
theorem w_for (I : List D → Env → IH → Prop) {tg : Tg} {b : Env → M RS} {ds : List D} (h0 : I [] env h)
    (step : ∀ pre d post env h, ds = pre ++ d :: post → I pre env h → ∃ env1, bindT tg d env = some env1 ∧ (b env1 h).post (fun r h' => match r.1 with
      | .nx => I (pre ++ [d]) r.2 h' | .ct => I (pre ++ [d]) r.2 h' | .bk => K (.nx, r.2) h' | .rt v => K (.rt v, r.2) h' | .xc c fs => K (.xc c fs, r.2) h') Y)
    (fin : ∀ env h, I ds env h → K (.nx, env) h) : (forL tg b ds env h).post K Y := by
  have go : ∀ (post pre : List D) (env : Env) (h : IH), ds = pre ++ post → I pre env h → (forL tg b post env h).post K Y := by
    intro post
    induction post with
    | nil =>
      intro pre env h e i
      rw [List.append_nil] at e
      exact fin env h (e ▸ i)
    | cons d post ih =>
      intro pre env h e i
      obtain ⟨env1, e1, p⟩ := step pre d post env h e i
      unfold forL
      rw [e1]
      dsimp only
      rw [w_bnd]
      refine R.post.mono p (fun r h' q => ?_) fun _ _ _ q => q
      cases r with
      | mk f e2 => cases f with
        | nx => exact ih (pre ++ [d]) e2 h' (by rw [e]; simp) q
        | ct => exact ih (pre ++ [d]) e2 h' (by rw [e]; simp) q
        | bk => exact q
        | rt v => exact q
        | xc c fs => exact q
  exact go ds [] env h rfl h0
theorem y_for {it : Itr} {tg : Tg} (p : (evI C it env h).post (Wk (fun ds h1 => (forL tg (evSs C t) ds env h1).post K Y) fun g ds h1 => (forL tg (gdP (some g) (evSs C t)) ds env h1).post (fun r h2 => h2[g.1]? = some g.2 ∧ K r h2) Y) (XY K env)) : (evS C (.forr it tg t) env h).post K Y := s_for p
/-- while, by an invariant and a measure -/
theorem w_while (I : Env → IH → Prop) (m : Env → IH → Nat) {c : Env → M Bool} {b : Env → M RS} (h0 : I env h)
    (step : ∀ env h, I env h → (c env h).post (fun t h' => Two ((b env h').post (fun r h'' => match r.1 with
      | .nx => I r.2 h'' ∧ m r.2 h'' < m env h | .ct => I r.2 h'' ∧ m r.2 h'' < m env h | .bk => K (.nx, r.2) h'' | .rt v => K (.rt v, r.2) h'' | .xc c fs => K (.xc c fs, r.2) h'') Y) t (K (.nx, env) h')) (XY K env)) : (sWhile c b env h).post K Y := by
  have go : ∀ (n : Nat) (env : Env) (h : IH), m env h < n → I env h → ∃ r, whN c b n env h = some r ∧ r.post K Y := by
    intro n
    induction n with
    | zero => intro env h l; omega
    | succ n ih =>
      intro env h l i
      have p := step env h i
      unfold whN
      cases q : c env h with
      | bad => rw [q] at p; exact p.elim
      | ex k fs h' => rw [q] at p; exact ⟨_, rfl, p⟩
      | ok t h' =>
        rw [q] at p
        cases t with
        | false => exact ⟨_, rfl, p.2 rfl⟩
        | true =>
          have p := p.1 rfl
          dsimp only
          cases q2 : b env h' with
          | bad => rw [q2] at p; exact p.elim
          | ex k fs h' => rw [q2] at p; exact ⟨_, rfl, p⟩
          | ok r2 h'' =>
            rw [q2] at p
            obtain ⟨fl, e2⟩ := r2
            cases fl with
            | nx =>
              have p : I e2 h'' ∧ m e2 h'' < m env h := p
              exact ih e2 h'' (by omega) p.1
            | ct =>
              have p : I e2 h'' ∧ m e2 h'' < m env h := p
              exact ih e2 h'' (by omega) p.1
            | bk => exact ⟨_, rfl, p⟩
            | rt v => exact ⟨_, rfl, p⟩
            | xc c fs => exact ⟨_, rfl, p⟩
  obtain ⟨r, e, p⟩ := go (m env h + 1) env h (Nat.lt_succ_self _) h0
  rw [sWhile_of e]
  exact p
theorem y_whl {I : Env → IH → Prop} {m : Env → IH → Nat} (h0 : I env h)
    (step : ∀ env h, I env h → (evC C c env h).post (fun t' h' => Two ((evSs C t env h').post (fun r h'' => match r.1 with
      | .nx => I r.2 h'' ∧ m r.2 h'' < m env h | .ct => I r.2 h'' ∧ m r.2 h'' < m env h | .bk => K (.nx, r.2) h'' | .rt v => K (.rt v, r.2) h'' | .xc c fs => K (.xc c fs, r.2) h'') Y) t' (K (.nx, env) h')) (XY K env)) : (evS C (.whl c t) env h).post K Y := w_while I m h0 step
end
/-! ### comprehensions -/
section
variable {C : Cfg} {K : List D → IH → Prop} {env : Env} {tg : Tg} {ft : Env → M Bool} {fe : Env → M D}
theorem w_comp (I : List D → List D → IH → Prop) {ds : List D} (h0 : I [] [] h)
    (step : ∀ pre d post acc h, ds = pre ++ d :: post → I pre acc h → ∃ env1, bindT tg d env = some env1 ∧ (ft env1 h).post (fun b h1 => Two ((fe env1 h1).post (fun y h2 => I (pre ++ [d]) (acc ++ [y]) h2) NoX) b (I (pre ++ [d]) acc h1)) NoX)
    (fin : ∀ acc h, I ds acc h → K acc h) : (cLoop tg ft fe env ds [] h).post K Y := by
  have go : ∀ (post pre acc : List D) (h : IH), ds = pre ++ post → I pre acc h → (cLoop tg ft fe env post acc h).post K Y := by
    intro post
    induction post with
    | nil =>
      intro pre acc h e i
      rw [List.append_nil] at e
      exact fin acc h (e ▸ i)
    | cons d post ih =>
      intro pre acc h e i
      obtain ⟨env1, e1, p⟩ := step pre d post acc h e i
      unfold cLoop
      rw [e1]
      dsimp only
      rw [w_bnd, w_noex]
      refine R.post.mono p (fun b h' q => ?_) fun _ _ _ q => q.elim
      cases b with
      | true =>
        rw [if_pos rfl, w_bnd, w_noex]
        refine R.post.mono (q.1 rfl) (fun y h2 q => ?_) fun _ _ _ q => q.elim
        exact ih (pre ++ [d]) (acc ++ [y]) h2 (by rw [e]; simp) q
      | false =>
        rw [if_neg Bool.false_ne_true]
        exact ih (pre ++ [d]) acc h' (by rw [e]; simp) (q.2 rfl)
  exact go ds [] [] h rfl h0
/-- .. where nothing is changed -/
theorem w_compP (p : D → Bool) (g : D → D) {ds : List D} (step : ∀ d ∈ ds, ∃ env1, bindT tg d env = some env1 ∧ (ft env1 h).post (fun b h1 => h1 = h ∧ b = p d) NoX ∧ (p d = true → (fe env1 h).post (fun y h1 => h1 = h ∧ y = g d) NoX))
    (k : K ((ds.filter p).map g) h) : (cLoop tg ft fe env ds [] h).post K Y := by
  refine w_comp (fun pre acc h' => h' = h ∧ acc = (pre.filter p).map g) ⟨rfl, rfl⟩ (fun pre d post acc h' e ⟨e1, e2⟩ => ?_) fun acc h' ⟨e1, e2⟩ => by rw [e1, e2]; exact k
  subst e1
  obtain ⟨env1, b1, p1, p2⟩ := step d (by rw [e]; simp)
  refine ⟨env1, b1, R.post.mono p1 (fun b h1 ⟨q1, q2⟩ => ?_) fun _ _ _ q => q⟩
  subst q1 q2
  refine ⟨fun c => R.post.mono (p2 c) (fun y h2 ⟨q1, q2⟩ => ⟨q1, ?_⟩) fun _ _ _ q => q, fun c => ⟨rfl, ?_⟩⟩
  · rw [e2, q2, List.filter_append, List.map_append, List.filter_cons_of_pos c]; rfl
  · rw [e2, List.filter_append, List.filter_cons_of_neg (by rw [c]; exact Bool.false_ne_true)]; simp
theorem x_comp {K : D → IH → Prop} {it : Itr} {ifs : Exo} {a : Ex} {own : List Nat} (p : (evI C it env h).post (Wk (fun ds h1 => (cLoop tg (evT C ifs) (evE C a) (wipeE env own) ds [] h1).post (fun acc h2 => K (.lst acc) h2) Y) fun g ds h1 => (cLoop tg (gdP (some g) (evT C ifs)) (evE C a) (wipeE env own) ds [] h1).post (fun acc h2 => h2[g.1]? = some g.2 ∧ K (.lst acc) h2) Y) Y) : (evE C (.comp it tg ifs a own) env h).post K Y := by
  show ((eComp (evI C it) tg (evT C ifs) (evE C a) own env h).post K Y)
  unfold eComp
  rw [w_bnd]
  refine R.post.mono p (fun q h1 k => ?_) fun _ _ _ q => q
  obtain ⟨g, ds⟩ := q
  rw [w_bnd]
  cases g with
  | none => exact R.post.mono k (fun r h2 k => k) fun _ _ _ k => k
  | some g =>
    refine R.post.mono k (fun r h2 k => ?_) fun _ _ _ k => k
    show ((gdP (some g) (fun acc => ret (D.lst acc)) r h2).post K Y)
    rw [gdP_ok k.1]; exact k.2
theorem w_cIn (I : List D → List D → IH → Prop) {ds acc0 : List D} (h0 : I [] acc0 h)
    (step : ∀ pre d post acc h, ds = pre ++ d :: post → I pre acc h → ∃ env1, bindT tg d env = some env1 ∧ (ft env1 h).post (fun b h1 => Two ((fe env1 h1).post (fun y h2 => acc.length + 1 ≤ 16777216 ∧ I (pre ++ [d]) (acc ++ [y]) h2) NoX) b (I (pre ++ [d]) acc h1)) NoX)
    (fin : ∀ acc h, I ds acc h → K acc h) : (cIn tg ft fe env ds acc0 h).post K Y := by
  have go : ∀ (post pre acc : List D) (h : IH), ds = pre ++ post → I pre acc h → (cIn tg ft fe env post acc h).post K Y := by
    intro post
    induction post with
    | nil =>
      intro pre acc h e i
      rw [List.append_nil] at e
      exact fin acc h (e ▸ i)
    | cons d post ih =>
      intro pre acc h e i
      obtain ⟨env1, e1, p⟩ := step pre d post acc h e i
      unfold cIn
      rw [e1]
      dsimp only
      rw [w_bnd, w_noex]
      refine R.post.mono p (fun b h' q => ?_) fun _ _ _ q => q.elim
      cases b with
      | true =>
        rw [if_pos rfl, w_bnd, w_noex]
        refine R.post.mono (q.1 rfl) (fun y h2 ⟨l, q⟩ => ?_) fun _ _ _ q => q.elim
        rw [w_bnd, w_fits]
        exact ⟨l, ih (pre ++ [d]) (acc ++ [y]) h2 (by rw [e]; simp) q⟩
      | false =>
        rw [if_neg Bool.false_ne_true]
        exact ih (pre ++ [d]) acc h' (by rw [e]; simp) (q.2 rfl)
  exact go ds [] acc0 h rfl h0
theorem w_comp2 {ft1 : Env → M Bool} {it2 : Env → M (List D)} {t2 : Tg} {vs1 : List Nat} (I : List D → List D → IH → Prop) {ds : List D} (h0 : I [] [] h)
    (step : ∀ pre d post acc h, ds = pre ++ d :: post → I pre acc h → ∃ env1, bindT tg d env = some env1 ∧ (ft1 env1 h).post (fun b h1 => Two ((it2 env1 h1).post (fun es h2 => (cIn t2 ft fe (wipeE env1 vs1) es acc h2).post (fun acc' h3 => I (pre ++ [d]) acc' h3) Y) NoX) b (I (pre ++ [d]) acc h1)) NoX)
    (fin : ∀ acc h, I ds acc h → K acc h) : (cLoop2 tg ft1 it2 t2 ft fe vs1 env ds [] h).post K Y := by
  have go : ∀ (post pre acc : List D) (h : IH), ds = pre ++ post → I pre acc h → (cLoop2 tg ft1 it2 t2 ft fe vs1 env post acc h).post K Y := by
    intro post
    induction post with
    | nil =>
      intro pre acc h e i
      rw [List.append_nil] at e
      exact fin acc h (e ▸ i)
    | cons d post ih =>
      intro pre acc h e i
      obtain ⟨env1, e1, p⟩ := step pre d post acc h e i
      unfold cLoop2
      rw [e1]
      dsimp only
      rw [w_bnd, w_noex]
      refine R.post.mono p (fun b h' q => ?_) fun _ _ _ q => q.elim
      cases b with
      | true =>
        rw [if_pos rfl, w_bnd, w_noex]
        refine R.post.mono (q.1 rfl) (fun es h2 q => ?_) fun _ _ _ q => q.elim
        rw [w_bnd]
        refine R.post.mono q (fun acc' h3 q => ?_) fun _ _ _ q => q
        exact ih (pre ++ [d]) acc' h3 (by rw [e]; simp) q
      | false =>
        rw [if_neg Bool.false_ne_true]
        exact ih (pre ++ [d]) acc h' (by rw [e]; simp) (q.2 rfl)
  exact go ds [] [] h rfl h0
theorem x_comp2 {K : D → IH → Prop} {it it2 : Itr} {t2 : Tg} {ifs ifs2 : Exo} {a : Ex} {own vs1 : List Nat} (p : (evI C it env h).post (Wk (fun ds h1 => (cLoop2 tg (evT C ifs) (noG (evI C it2)) t2 (evT C ifs2) (evE C a) vs1 (wipeE env own) ds [] h1).post (fun acc h2 => K (.lst acc) h2) Y) fun _ _ _ => False) Y) : (evE C (.comp2 it tg ifs it2 t2 ifs2 a own vs1) env h).post K Y := by
  show ((eComp2 (evI C it) tg (evT C ifs) (evI C it2) t2 (evT C ifs2) (evE C a) own vs1 env h).post K Y)
  unfold eComp2
  rw [w_bnd]
  refine w_noG (R.post.mono p (fun q h1 k => ?_) fun _ _ _ q => q)
  obtain ⟨g, ds⟩ := q
  cases g with
  | none =>
    show ((bnd _ fun acc => ret (.lst acc)) h1).post K Y
    rw [w_bnd]
    exact k
  | some g => exact k.elim
end
/-! ### calls -/
theorem run_def {C : Cfg} {F : FnD} {ds : List D} {K : D → IH → Prop} (p : (evSs C F.body (ds.map Sl.val ++ List.replicate (F.N.length - ds.length) Sl.no) h).post (fun r h1 => match r.1 with | .nx => K .non h1 | .rt d => K d h1 | .xc c fs => Y c fs h1 | _ => False) NoX) : (runF (evSs C F.body) F.N.length ds h).post K Y := by
  show ((bnd (noex (evSs C F.body (ds.map Sl.val ++ List.replicate (F.N.length - ds.length) Sl.no))) fun r => endV r.1) h).post K Y
  rw [w_bnd, w_noex]
  refine R.post.mono p (fun r h1 q => ?_) fun _ _ _ q => q
  obtain ⟨fl, e⟩ := r
  cases fl <;> exact q
theorem call_def {P : Prog} {n f : Nat} {F : FnD} {ds : List D} {K : D → IH → Prop} (hF : P.lookup f = some F) (hl : ds.length = F.arity)
    (p : (evSs (cfgI P n) F.body (ds.map Sl.val ++ List.replicate (F.N.length - ds.length) Sl.no) h).post (fun r h1 => match r.1 with | .nx => K .non h1 | .rt d => K d h1 | .xc c fs => Y c fs h1 | _ => False) NoX) (hs : F.star = false := by rfl) : (callI P (n + 1) f ds h).post K Y := by
  simp only [callI, hF]
  unfold runD
  rw [hs, if_neg Bool.false_ne_true, if_pos hl]
  exact run_def p
/-- a def whose last parameter takes what is left -/
theorem call_star {P : Prog} {n f : Nat} {F : FnD} {ds : List D} {K : D → IH → Prop} (hF : P.lookup f = some F) (hs : F.star = true) (h1 : 1 ≤ F.ps.length) (h2 : F.ps.length ≤ ds.length + 1) (h3 : ds.length + 1 - F.ps.length ≤ 16777216)
    (p : (runF (evSs (cfgI P n) F.body) F.N.length (ds.take (F.ps.length - 1) ++ [.tup (ds.drop (F.ps.length - 1))]) h).post K Y) : (callI P (n + 1) f ds h).post K Y := by
  simp only [callI, hF]
  unfold runD
  rw [hs, if_pos rfl, if_pos ⟨h1, h2, h3⟩]
  exact p
/-- more fuel does no harm to what is told of all fuels from a least one on -/
theorem fuel {P : Nat → Prop} {n k : Nat} (h : ∀ k, P (k + n)) (l : n ≤ k) : P k := by
  have := h (k - n)
  rwa [Nat.sub_add_cancel l] at this
end Iv

/-! Iv, part Q: the operations at values whose kinds are known. -/
namespace Iv
open PySem L2
variable {P : D → Prop} {h : IH}
theorem drf_of {x : D} (n : ∀ r, x ≠ .ref r) : drf h x = x := by
  cases x <;> first | rfl | exact absurd rfl (n _)
theorem drfA_of {x : D} (n : ∀ r, x ≠ .ref r) : drfA h x = x := by
  cases x <;> first | rfl | exact absurd rfl (n _)
theorem drf_dat {x : D} (l : x.dat = true) : drf h x = x := drf_of fun r e => by rw [e] at l; exact Bool.noConfusion (show false = true from l)
theorem drf_eq {x y : D} (l : eqOk x y = true) : drf h x = x ∧ drf h y = y := ⟨drf_dat (eqOk_of l).1, drf_dat (eqOk_of l).2.1⟩
theorem drf_ord {x y : D} (l : ordOk x y = true) : drf h x = x ∧ drf h y = y := by
  simp only [ordOk, Bool.and_eq_true] at l
  exact ⟨drf_dat l.1.1, drf_dat l.1.2⟩
theorem drf_in {x : D} {xs : List D} (l : inOk x xs = true) : drf h x = x := by
  simp only [inOk, Bool.and_eq_true] at l
  exact drf_dat l.1.1
theorem o_addI {i j : Int} (k : P (.int (i + j))) : ∃ d, binH .add h (.int i) (.int j) = some d ∧ P d := ⟨_, rfl, k⟩
theorem o_addS {x y : List Nat} (l : x.length + y.length ≤ 16777216) (k : P (.str (x ++ y))) : ∃ d, binH .add h (.str x) (.str y) = some d ∧ P d := ⟨_, by show (if _ then _ else _) = _; rw [if_pos l], k⟩
theorem o_addL {x y : List D} (l : x.length + y.length ≤ 16777216) (k : P (.lst (x ++ y))) : ∃ d, binH .add h (.lst x) (.lst y) = some d ∧ P d := ⟨_, by show (if _ then _ else _) = _; rw [if_pos l], k⟩
theorem o_addT {x y : List D} (l : x.length + y.length ≤ 16777216) (k : P (.tup (x ++ y))) : ∃ d, binH .add h (.tup x) (.tup y) = some d ∧ P d := ⟨_, by show (if _ then _ else _) = _; rw [if_pos l], k⟩
theorem o_subI {i j : Int} (k : P (.int (i - j))) : ∃ d, binH .sub h (.int i) (.int j) = some d ∧ P d := ⟨_, rfl, k⟩
theorem o_mulI {i j : Int} (l : (-(2 ^ 64) < i ∧ i < 2 ^ 64) ∨ (-(2 ^ 64) < j ∧ j < 2 ^ 64)) (k : P (.int (i * j))) : ∃ d, binH .mul h (.int i) (.int j) = some d ∧ P d :=
  ⟨.int (i * j), by show (Option.map D.int (if _ then _ else _)) = _; rw [if_pos l]; rfl, k⟩
theorem o_fdivI {i j : Int} (l : 0 < j ∧ j < 1073741824) (k : P (.int (i / j))) : ∃ d, binH .fdiv h (.int i) (.int j) = some d ∧ P d :=
  ⟨.int (i / j), by show (Option.map D.int (if _ then _ else _)) = _; rw [if_pos l]; rfl, k⟩
theorem o_modI {i j : Int} (l : 0 < j) (k : P (.int (i % j))) : ∃ d, binH .mod h (.int i) (.int j) = some d ∧ P d :=
  ⟨.int (i % j), by show (Option.map D.int (if _ then _ else _)) = _; rw [if_pos l]; rfl, k⟩
theorem o_powI {i j : Int} (l : 0 ≤ j ∧ j ≤ 1000000 ∧ i.natAbs < 2 ^ 64) (k : P (.int (i ^ j.toNat))) : ∃ d, binH .pow h (.int i) (.int j) = some d ∧ P d :=
  ⟨.int (i ^ j.toNat), by show (Option.map D.int (if _ then _ else _)) = _; rw [if_pos l]; rfl, k⟩
theorem o_andI {i j : Int} (k : P (.int (Builtin.bitAnd i j))) : ∃ d, binH .band h (.int i) (.int j) = some d ∧ P d := ⟨_, rfl, k⟩
theorem o_eq {x y : D} (l : eqOk x y = true) (k : P (.bl (D.eqv x y))) : ∃ d, cmpH .eq h x y = some d ∧ P d := ⟨_, by unfold cmpH; rw [(drf_eq l).1, (drf_eq l).2]; show (if _ then _ else _) = _; rw [if_pos l], k⟩
theorem o_ne {x y : D} (l : eqOk x y = true) (k : P (.bl (!D.eqv x y))) : ∃ d, cmpH .ne h x y = some d ∧ P d := ⟨_, by unfold cmpH; rw [(drf_eq l).1, (drf_eq l).2]; show (if _ then _ else _) = _; rw [if_pos l], k⟩
theorem o_eqI {i j : Int} (k : P (.bl (i == j))) : ∃ d, cmpH .eq h (.int i) (.int j) = some d ∧ P d := o_eq rfl k
theorem o_neI {i j : Int} (k : P (.bl (!(i == j)))) : ∃ d, cmpH .ne h (.int i) (.int j) = some d ∧ P d := o_ne rfl k
theorem o_eqS {x y : List Nat} (k : P (.bl (x == y))) : ∃ d, cmpH .eq h (.str x) (.str y) = some d ∧ P d := o_eq rfl k
theorem o_neS {x y : List Nat} (k : P (.bl (!(x == y)))) : ∃ d, cmpH .ne h (.str x) (.str y) = some d ∧ P d := o_ne rfl k
theorem o_ltI {i j : Int} (k : P (.bl (decide (i < j)))) : ∃ d, cmpH .lt h (.int i) (.int j) = some d ∧ P d := ⟨_, rfl, k⟩
theorem o_leI {i j : Int} (k : P (.bl (decide (i ≤ j)))) : ∃ d, cmpH .le h (.int i) (.int j) = some d ∧ P d := ⟨_, rfl, k⟩
theorem o_gtI {i j : Int} (k : P (.bl (decide (j < i)))) : ∃ d, cmpH .gt h (.int i) (.int j) = some d ∧ P d := ⟨_, rfl, k⟩
theorem o_geI {i j : Int} (k : P (.bl (decide (j ≤ i)))) : ∃ d, cmpH .ge h (.int i) (.int j) = some d ∧ P d := ⟨_, rfl, k⟩
theorem o_lt {x y : D} {b : Bool} (l : ordOk x y = true) (e : ordP .Lt x.py y.py = some b) (k : P (.bl b)) : ∃ d, cmpH .lt h x y = some d ∧ P d := ⟨.bl b, by unfold cmpH; rw [(drf_ord l).1, (drf_ord l).2]; show (if _ then _ else _) = _; rw [if_pos l, e]; rfl, k⟩
theorem o_le {x y : D} {b : Bool} (l : ordOk x y = true) (e : ordP .LtE x.py y.py = some b) (k : P (.bl b)) : ∃ d, cmpH .le h x y = some d ∧ P d := ⟨.bl b, by unfold cmpH; rw [(drf_ord l).1, (drf_ord l).2]; show (if _ then _ else _) = _; rw [if_pos l, e]; rfl, k⟩
theorem o_inS {c : Nat} {z : List Nat} (k : P (.bl (decide (c ∈ z)))) : ∃ d, cmpH .inn h (.str [c]) (.str z) = some d ∧ P d := ⟨_, rfl, k⟩
theorem o_ninS {c : Nat} {z : List Nat} (k : P (.bl (!decide (c ∈ z)))) : ∃ d, cmpH .nin h (.str [c]) (.str z) = some d ∧ P d := ⟨_, rfl, k⟩
theorem in_seq {x : D} {xs : List D} (l : inOk x xs = true) : inB x (.tup xs) = some (memD x xs) ∧ inB x (.lst xs) = some (memD x xs) := by
  constructor
  · unfold inB
    split <;> simp_all
  · unfold inB
    split <;> simp_all
theorem o_inT {x : D} {xs : List D} (l : inOk x xs = true) (k : P (.bl (memD x xs))) : ∃ d, cmpH .inn h x (.tup xs) = some d ∧ P d := ⟨.bl (memD x xs), by unfold cmpH; rw [drf_in l]; show (inB x (.tup xs)).map _ = _; rw [(in_seq l).1]; rfl, k⟩
theorem o_inL {x : D} {xs : List D} (l : inOk x xs = true) (k : P (.bl (memD x xs))) : ∃ d, cmpH .inn h x (.lst xs) = some d ∧ P d := ⟨.bl (memD x xs), by unfold cmpH; rw [drf_in l]; show (inB x (.lst xs)).map _ = _; rw [(in_seq l).2]; rfl, k⟩
theorem o_ninT {x : D} {xs : List D} (l : inOk x xs = true) (k : P (.bl (!memD x xs))) : ∃ d, cmpH .nin h x (.tup xs) = some d ∧ P d := ⟨.bl (!memD x xs), by unfold cmpH; rw [drf_in l]; show (inB x (.tup xs)).map _ = _; rw [(in_seq l).1]; rfl, k⟩
theorem o_ninL {x : D} {xs : List D} (l : inOk x xs = true) (k : P (.bl (!memD x xs))) : ∃ d, cmpH .nin h x (.lst xs) = some d ∧ P d := ⟨.bl (!memD x xs), by unfold cmpH; rw [drf_in l]; show (inB x (.lst xs)).map _ = _; rw [(in_seq l).2]; rfl, k⟩
theorem isN_drf {x : D} : (match drf h x with | .non => true | _ => false) = (match x with | .non => true | _ => false) := by
  cases x <;> try rfl
  unfold drf
  dsimp only
  split
  · rename_i e; split at e <;> cases e
  · rfl
theorem o_isN {x : D} (k : P (.bl (match x with | .non => true | _ => false))) : ∃ d, cmpH .isn h x .non = some d ∧ P d := ⟨_, by
  unfold cmpH
  show opIsN h (drf h x) .non = _
  rw [← isN_drf (h := h) (x := x)]
  generalize drf h x = y
  cases y <;> rfl, k⟩
theorem isnN_drf {x : D} : (match drf h x with | .non => false | _ => true) = (match x with | .non => false | _ => true) := by
  cases x <;> try rfl
  unfold drf
  dsimp only
  split
  · rename_i e; split at e <;> cases e
  · rfl
theorem o_isnN {x : D} (k : P (.bl (match x with | .non => false | _ => true))) : ∃ d, cmpH .isnn h x .non = some d ∧ P d := ⟨_, by
  unfold cmpH
  show opIsnN h (drf h x) .non = _
  rw [← isnN_drf (h := h) (x := x)]
  generalize drf h x = y
  cases y <;> rfl, k⟩
theorem atI_pos {α : Type} {xs : List α} {i : Int} {d : α} (h0 : 0 ≤ i) (e : xs[i.toNat]? = some d) : atI xs i = some d := by
  have hl := (List.getElem?_eq_some_iff.mp e).1
  unfold atI ixN
  rw [if_pos h0, if_pos (by omega)]
  exact e
theorem atI_neg {α : Type} {xs : List α} {i : Int} {d : α} (h0 : i < 0) (l : -(xs.length : Int) ≤ i) (e : xs[(i + xs.length).toNat]? = some d) : atI xs i = some d := by
  unfold atI ixN
  rw [if_neg (by omega), if_pos l]
  exact e
theorem o_ixT {xs : List D} {i : Int} {d : D} (e : atI xs i = some d) (k : P d) : ∃ d, ixH h (.tup xs) (.int i) = some d ∧ P d := ⟨d, e, k⟩
theorem o_ixL {xs : List D} {i : Int} {d : D} (e : atI xs i = some d) (k : P d) : ∃ d, ixH h (.lst xs) (.int i) = some d ∧ P d := ⟨d, e, k⟩
theorem o_ixS {z : List Nat} {i : Int} {c : Nat} (e : atI z i = some c) (k : P (.str [c])) : ∃ d, ixH h (.str z) (.int i) = some d ∧ P d := ⟨.str [c], by show (atI z i).map _ = _; rw [e]; rfl, k⟩
theorem atI_zero {α : Type} {x : α} {xs : List α} : atI (x :: xs) 0 = some x := atI_pos (Int.le_refl 0) rfl
theorem o_ixT0 {x : D} {xs : List D} (k : P x) : ∃ d, ixH h (.tup (x :: xs)) (.int 0) = some d ∧ P d := o_ixT atI_zero k
theorem o_ixL0 {x : D} {xs : List D} (k : P x) : ∃ d, ixH h (.lst (x :: xs)) (.int 0) = some d ∧ P d := o_ixL atI_zero k
theorem o_ixS0 {c : Nat} {z : List Nat} (k : P (.str [c])) : ∃ d, ixH h (.str (c :: z)) (.int 0) = some d ∧ P d := o_ixS atI_zero k
theorem o_fit {n : Nat} {P : Prop} (l : Nat.ble n 16777216 = true) (k : P) : n ≤ 16777216 ∧ P := ⟨Nat.le_of_ble_eq_true l, k⟩
theorem o_isi {C : Cfg} {x : D} {t : Ty} {b : Bool} {P : Bool → Prop} (e : isiH C h x t = some b) (k : P b) : ∃ b, isiH C h x t = some b ∧ P b := ⟨b, e, k⟩
theorem nfalse {b : Bool} (h : (!b) = false) : b = true := by cases b <;> first | rfl | cases h
theorem drf_ref {r : Nat} {xs : List D} (e : h[r]? = some (.lst xs)) : drf h (.ref r) = .lst xs := by unfold drf; dsimp only; rw [e]
theorem drf_refD {r : Nat} {t : Bool} {ks vs : List D} (e : h[r]? = some (.dct t ks vs)) : drf h (.ref r) = .dct t ks vs := by unfold drf; dsimp only; rw [e]
theorem o_ixR {r : Nat} {xs : List D} {i : Int} {d : D} (e : h[r]? = some (.lst xs)) (e2 : atI xs i = some d) (k : P d) : ∃ d, ixH h (.ref r) (.int i) = some d ∧ P d := ⟨d, by unfold ixH; rw [drf_ref e]; exact e2, k⟩
theorem o_setR {r : Nat} {xs : List D} {i : Int} {j : Nat} {v : D} {P : IH → Prop} (e : h[r]? = some (.lst xs)) (e2 : ixN xs.length i = some j) (k : P (h.set r (.lst (xs.set j v)))) : ∃ h4, setCell h (.ref r) (.int i) v = some h4 ∧ P h4 := ⟨_, by unfold setCell; dsimp only; rw [e]; dsimp only; rw [e2]; rfl, k⟩
theorem o_len {xs : List D} (k : P (.int xs.length)) : ∃ d, bltH .len h [.lst xs] = some d ∧ P d := ⟨_, rfl, k⟩
theorem o_lenT {xs : List D} (k : P (.int xs.length)) : ∃ d, bltH .len h [.tup xs] = some d ∧ P d := ⟨_, rfl, k⟩
theorem o_lenS {z : List Nat} (k : P (.int z.length)) : ∃ d, bltH .len h [.str z] = some d ∧ P d := ⟨_, rfl, k⟩
theorem o_int {i : Int} (k : P (.int i)) : ∃ d, bltH .int h [.int i] = some d ∧ P d := ⟨_, rfl, k⟩
theorem o_bl {b : Bool} {P : Bool → Prop} (k : P b) : ∃ c, D.bl b = .bl c ∧ P c := ⟨b, rfl, k⟩
theorem o_isI {i : Int} {P : Int → Prop} (k : P i) : ∃ c, D.int i = .int c ∧ P c := ⟨i, rfl, k⟩
theorem o_isL {i : List D} {P : List D → Prop} (k : P i) : ∃ c, D.lst i = .lst c ∧ P c := ⟨i, rfl, k⟩
/-- all other cells are as they were -/
def Oth (r : Nat) (h h' : IH) : Prop := h'.length = h.length ∧ ∀ j, j ≠ r → h'[j]? = h[j]?
theorem Oth.refl (r : Nat) (h : IH) : Oth r h h := ⟨rfl, fun _ _ => rfl⟩
theorem Oth.trans {r : Nat} {h h1 h2 : IH} (a : Oth r h h1) (b : Oth r h1 h2) : Oth r h h2 := ⟨b.1.trans a.1, fun j n => (b.2 j n).trans (a.2 j n)⟩
theorem o_setS {r : Nat} {xs : List D} {i : Int} {j : Nat} {v : D} {P : IH → Prop} (e : h[r]? = some (.lst xs)) (e2 : ixN xs.length i = some j) (k : ∀ h2, h2[r]? = some (.lst (xs.set j v)) → Oth r h h2 → P h2) : ∃ h4, setCell h (.ref r) (.int i) v = some h4 ∧ P h4 :=
  o_setR e e2 (k _ (List.getElem?_set_self (List.getElem?_eq_some_iff.mp e).1) ⟨by simp, fun j n => List.getElem?_set_ne (Ne.symm n)⟩)
theorem y_cut {C : Cfg} {K : RS → IH → Prop} {Y : Nat → List D → IH → Prop} {env : Env} {s : Sm} {r : Sms} (Mid : RS → IH → Prop) (p : (evS C s env h).post Mid Y) (q : ∀ x h, Mid x h → Then C r K Y x h) : (evSs C (.cons s r) env h).post K Y :=
  y_cons (R.post.mono p q fun _ _ _ k => k)
section
variable {P : List D → Prop}
theorem o_itL {xs : List D} {P : Gd × List D → Prop} (k : P (none, xs)) : ∃ q, walkD h (.lst xs) = some q ∧ P q := ⟨_, rfl, k⟩
theorem o_itT {xs : List D} {P : Gd × List D → Prop} (k : P (none, xs)) : ∃ q, walkD h (.tup xs) = some q ∧ P q := ⟨_, rfl, k⟩
theorem o_itS {z : List Nat} {P : Gd × List D → Prop} (k : P (none, (z.map fun c => D.str [c]))) : ∃ q, walkD h (.str z) = some q ∧ P q := ⟨_, rfl, k⟩
theorem o_itR {r : Nat} {xs : List D} {P : Gd × List D → Prop} (e : h[r]? = some (.lst xs)) (k : P (some (r, .lst xs), xs)) : ∃ q, walkD h (.ref r) = some q ∧ P q := ⟨_, by unfold walkD; dsimp only; rw [e], k⟩
theorem o_sqL {xs : List D} (k : P xs) : ∃ ys, seqH h (.lst xs) = some ys ∧ P ys := ⟨_, rfl, k⟩
theorem o_sqT {xs : List D} (k : P xs) : ∃ ys, seqH h (.tup xs) = some ys ∧ P ys := ⟨_, rfl, k⟩
theorem o_rg1 {j : Int} (l : -(2 ^ 62) ≤ j ∧ j ≤ 16777216) (k : P (rng 0 1 j.toNat)) : ∃ ds, rngH h [.int j] = some ds ∧ P ds := ⟨_, by show (if _ then _ else _) = _; rw [if_pos l], k⟩
theorem o_rg2 {i j : Int} (l : (-(2 ^ 62) ≤ i ∧ i < 2 ^ 62 ∧ -(2 ^ 62) ≤ j ∧ j < 2 ^ 62) ∧ (j - i).toNat ≤ 16777216) (k : P (rng i 1 (j - i).toNat)) : ∃ ds, rngH h [.int i, .int j] = some ds ∧ P ds := ⟨_, by show (if _ then _ else _) = _; rw [if_pos l], k⟩
theorem o_zipT {xs ys : List D} (k : P ((xs.zip ys).map fun p => .tup [p.1, p.2])) : ∃ ds, zipD [.tup xs, .tup ys] = some ds ∧ P ds := ⟨_, rfl, k⟩
theorem o_zipL {xs ys : List D} (k : P ((xs.zip ys).map fun p => .tup [p.1, p.2])) : ∃ ds, zipD [.lst xs, .lst ys] = some ds ∧ P ds := ⟨_, rfl, k⟩
end
section
variable {P : D → Prop}
theorem o_slL {xs : List D} {lo hi : Option Int} (k : P (.lst (cutD xs lo hi))) : ∃ d, slH h (.lst xs) lo hi = some d ∧ P d := ⟨_, rfl, k⟩
theorem o_slT {xs : List D} {lo hi : Option Int} (k : P (.tup (cutD xs lo hi))) : ∃ d, slH h (.tup xs) lo hi = some d ∧ P d := ⟨_, rfl, k⟩
theorem o_slS {z : List Nat} {lo hi : Option Int} (k : P (.str (cutD z lo hi))) : ∃ d, slH h (.str z) lo hi = some d ∧ P d := ⟨_, rfl, k⟩
theorem o_neg {i : Int} (k : P (.int (-i))) : ∃ d, negD (.int i) = some d ∧ P d := ⟨_, rfl, k⟩
theorem o_list {xs : List D} (k : P (.lst xs)) : ∃ d, bltH .list h [.lst xs] = some d ∧ P d := ⟨_, rfl, k⟩
theorem o_listT {xs : List D} (k : P (.lst xs)) : ∃ d, bltH .list h [.tup xs] = some d ∧ P d := ⟨_, rfl, k⟩
theorem o_tuple {xs : List D} (k : P (.tup xs)) : ∃ d, bltH .tuple h [.lst xs] = some d ∧ P d := ⟨_, rfl, k⟩
theorem o_tupleT {xs : List D} (k : P (.tup xs)) : ∃ d, bltH .tuple h [.tup xs] = some d ∧ P d := ⟨_, rfl, k⟩
theorem allB_map : ∀ bs : List Bool, allB (bs.map D.bl) = some bs
  | [] => rfl
  | b :: bs => by simp [allB, allB_map bs]
theorem o_all {xs : List D} {bs : List Bool} (e : xs = bs.map D.bl) (k : P (.bl (bs.all id))) : ∃ d, bltH .all h [.lst xs] = some d ∧ P d := ⟨.bl (bs.all id), by subst e; show bAll [.lst (bs.map D.bl)] = _; simp [bAll, allB_map], k⟩
theorem o_any {xs : List D} {bs : List Bool} (e : xs = bs.map D.bl) (k : P (.bl (bs.any id))) : ∃ d, bltH .any h [.lst xs] = some d ∧ P d := ⟨.bl (bs.any id), by subst e; show bAny [.lst (bs.map D.bl)] = _; simp [bAny, allB_map], k⟩
end
section
variable {P : Bool → Prop}
theorem o_trI {i : Int} (k : P (i != 0)) : ∃ b, trH h (.int i) = some b ∧ P b := ⟨_, rfl, k⟩
theorem o_trL {xs : List D} (k : P (!xs.isEmpty)) : ∃ b, trH h (.lst xs) = some b ∧ P b := ⟨_, rfl, k⟩
theorem o_trT {xs : List D} (k : P (!xs.isEmpty)) : ∃ b, trH h (.tup xs) = some b ∧ P b := ⟨_, rfl, k⟩
theorem o_trB {b : Bool} (k : P b) : ∃ c, trH h (.bl b) = some c ∧ P c := ⟨_, rfl, k⟩
end
theorem o_leB {i j : Int} {P : Bool → Prop} (k : P (decide (i ≤ j))) : ∃ t, cmpH .le h (.int i) (.int j) = some (.bl t) ∧ P t := ⟨_, rfl, k⟩
theorem o_ltB {i j : Int} {P : Bool → Prop} (k : P (decide (i < j))) : ∃ t, cmpH .lt h (.int i) (.int j) = some (.bl t) ∧ P t := ⟨_, rfl, k⟩
/-- a comprehension over a known row where nothing is changed -/
theorem w_compZ {K : List D → IH → Prop} {Y : Nat → List D → IH → Prop} {env : Env} {tg : Tg} {ft : Env → M Bool} {fe : Env → M D} {ζ : Type} (f g : ζ → D) (p : ζ → Bool) {zs : List ζ}
    (step : ∀ z ∈ zs, ∃ env1, bindT tg (f z) env = some env1 ∧ (ft env1 h).post (fun b h1 => h1 = h ∧ b = p z) NoX ∧ (p z = true → (fe env1 h).post (fun y h1 => h1 = h ∧ y = g z) NoX))
    (k : K ((zs.filter p).map g) h) : (cLoop tg ft fe env (zs.map f) [] h).post K Y := by
  refine w_comp (fun pre acc h' => h' = h ∧ ∃ zp, zp <+: zs ∧ zp.length = pre.length ∧ acc = (zp.filter p).map g) ⟨rfl, [], List.nil_prefix, rfl, rfl⟩ (fun pre d post acc h' e ⟨e1, zp, e2, e3, e4⟩ => ?_) fun acc h' ⟨e1, zp, e2, e3, e4⟩ => ?_
  · subst e1
    obtain ⟨zq, rfl⟩ := e2
    have hl : zp.length < (zp ++ zq).length := by
      have := congrArg List.length e
      rw [List.length_map, List.length_append, List.length_append, List.length_cons] at this
      rw [List.length_append]; omega
    cases zq with
    | nil => simp at hl
    | cons z zq =>
      have ed : d = f z := by
        have := congrArg (fun l => l[pre.length]?) e
        simp only [List.getElem?_map] at this
        rw [← e3, List.getElem?_append_right (Nat.le_refl _), e3, List.getElem?_append_right (Nat.le_refl _)] at this
        simp at this
        exact this.symm
      subst ed
      obtain ⟨env1, b1, p1, p2⟩ := step z (by simp)
      refine ⟨env1, b1, R.post.mono p1 (fun b h1 ⟨q1, q2⟩ => ?_) fun _ _ _ q => q⟩
      subst q1 q2
      refine ⟨fun c => R.post.mono (p2 c) (fun y h2 ⟨q1, q2⟩ => ⟨q1, zp ++ [z], ⟨zq, by simp⟩, by simp [e3], ?_⟩) fun _ _ _ q => q, fun c => ⟨rfl, zp ++ [z], ⟨zq, by simp⟩, by simp [e3], ?_⟩⟩
      · rw [e4, q2, List.filter_append, List.map_append, List.filter_cons_of_pos c]; rfl
      · rw [e4, List.filter_append, List.filter_cons_of_neg (by rw [c]; exact Bool.false_ne_true)]; simp
  · rw [e1, e4]
    have : zp = zs := List.IsPrefix.eq_of_length e2 (by rw [e3, List.length_map])
    rw [this]; exact k
theorem w_compA {C : Cfg} {K : List D → IH → Prop} {Y : Nat → List D → IH → Prop} {env : Env} {tg : Tg} {fe : Env → M D} {ζ : Type} (f g : ζ → D) {zs : List ζ}
    (step : ∀ z ∈ zs, ∃ env1, bindT tg (f z) env = some env1 ∧ (fe env1 h).post (fun y h1 => h1 = h ∧ y = g z) NoX)
    (k : K (zs.map g) h) : (cLoop tg (evT C .no) fe env (zs.map f) [] h).post K Y := by
  refine w_compZ f g (fun _ => true) (fun z hz => ?_) (by rw [List.filter_eq_self.mpr (fun _ _ => rfl)]; exact k)
  obtain ⟨env1, e, q⟩ := step z hz
  exact ⟨env1, e, ⟨rfl, rfl⟩, fun _ => q⟩
theorem w_cut {α : Type} {r : R α} {K : α → IH → Prop} {Y : Nat → List D → IH → Prop} (Mid : α → IH → Prop) (p : r.post Mid Y) (q : ∀ x h, Mid x h → K x h) : r.post K Y := R.post.mono p q fun _ _ _ k => k
/-- how a loop's turn ends -/
def Turn (J : Env → IH → Prop) (K : RS → IH → Prop) (r : RS) (h : IH) : Prop := match r.1 with
  | .nx => J r.2 h | .ct => J r.2 h | .bk => K (.nx, r.2) h | .rt v => K (.rt v, r.2) h | .xc c fs => K (.xc c fs, r.2) h
theorem u_nx {J : Env → IH → Prop} {K : RS → IH → Prop} {env : Env} (k : J env h) : Turn J K (.nx, env) h := k
theorem u_ct {J : Env → IH → Prop} {K : RS → IH → Prop} {env : Env} (k : J env h) : Turn J K (.ct, env) h := k
theorem u_bk {J : Env → IH → Prop} {K : RS → IH → Prop} {env : Env} (k : K (.nx, env) h) : Turn J K (.bk, env) h := k
theorem u_rt {J : Env → IH → Prop} {K : RS → IH → Prop} {env : Env} {v : D} (k : K (.rt v, env) h) : Turn J K (.rt v, env) h := k
/-- while, by an invariant with a number that goes down -/
theorem y_whlN {C : Cfg} {K : RS → IH → Prop} {Y : Nat → List D → IH → Prop} {env : Env} {c : Ex} {t : Sms} (I : Nat → Env → IH → Prop) (n : Nat) (h0 : I n env h)
    (step : ∀ n env h, I n env h → (evC C c env h).post (fun b h' => Two ((evSs C t env h').post (Turn (fun e h'' => ∃ m, m < n ∧ I m e h'') K) Y) b (K (.nx, env) h')) (XY K env)) : (evS C (.whl c t) env h).post K Y := by
  show (sWhile (evC C c) (evSs C t) env h).post K Y
  have go : ∀ (n : Nat) (env : Env) (h : IH), I n env h → ∃ (k : Nat) (r : R RS), whN (evC C c) (evSs C t) k env h = some r ∧ r.post K Y := by
    intro n
    induction n using Nat.strongRecOn with
    | _ n ih =>
      intro env h i
      have p := step n env h i
      cases q : evC C c env h with
      | bad => rw [q] at p; exact p.elim
      | ex k fs h' => rw [q] at p; exact ⟨1, .ok (.xc k fs, env) h', by unfold whN; rw [q], p⟩
      | ok b h' =>
        rw [q] at p
        cases b with
        | false => exact ⟨1, .ok (.nx, env) h', by unfold whN; rw [q], p.2 rfl⟩
        | true =>
          have p := p.1 rfl
          cases q2 : evSs C t env h' with
          | bad => rw [q2] at p; exact p.elim
          | ex k fs h'' => rw [q2] at p; exact ⟨1, .ex k fs h'', by unfold whN; rw [q]; dsimp only; rw [q2], p⟩
          | ok r2 h'' =>
            rw [q2] at p
            obtain ⟨fl, e2⟩ := r2
            cases fl with
            | nx =>
              obtain ⟨m, l, i2⟩ := (show ∃ m, m < n ∧ I m e2 h'' from p)
              obtain ⟨k, r, e, pr⟩ := ih m l e2 h'' i2
              exact ⟨k + 1, r, by unfold whN; rw [q]; dsimp only; rw [q2]; exact e, pr⟩
            | ct =>
              obtain ⟨m, l, i2⟩ := (show ∃ m, m < n ∧ I m e2 h'' from p)
              obtain ⟨k, r, e, pr⟩ := ih m l e2 h'' i2
              exact ⟨k + 1, r, by unfold whN; rw [q]; dsimp only; rw [q2]; exact e, pr⟩
            | bk => exact ⟨1, .ok (.nx, e2) h'', by unfold whN; rw [q]; dsimp only; rw [q2], p⟩
            | rt v => exact ⟨1, .ok (.rt v, e2) h'', by unfold whN; rw [q]; dsimp only; rw [q2], p⟩
            | xc c fs => exact ⟨1, .ok (.xc c fs, e2) h'', by unfold whN; rw [q]; dsimp only; rw [q2], p⟩
  obtain ⟨k, r, e, p⟩ := go n env h h0
  rw [sWhile_of e]
  exact p
/-- for, by an invariant of what is done -/
theorem f_for {K : RS → IH → Prop} {Y : Nat → List D → IH → Prop} {env : Env} (I : List D → Env → IH → Prop) {tg : Tg} {b : Env → M RS} {ds : List D} (h0 : I [] env h)
    (step : ∀ pre d post env h, ds = pre ++ d :: post → I pre env h → ∃ env1, bindT tg d env = some env1 ∧ (b env1 h).post (Turn (I (pre ++ [d])) K) Y)
    (fin : ∀ env h, I ds env h → K (.nx, env) h) : (forL tg b ds env h).post K Y :=
  w_for I h0 (fun pre d post env h e i => step pre d post env h e i) fin
/-- for, the body is walked through for each item of a known list -/
theorem f_nil {K : RS → IH → Prop} {Y : Nat → List D → IH → Prop} {env : Env} {tg : Tg} {b : Env → M RS} (k : K (.nx, env) h) : (forL tg b [] env h).post K Y := k
theorem f_cons {K : RS → IH → Prop} {Y : Nat → List D → IH → Prop} {env env1 : Env} {tg : Tg} {b : Env → M RS} {d : D} {ds : List D} (e : bindT tg d env = some env1)
    (p : (b env1 h).post (Turn (fun e h' => (forL tg b ds e h').post K Y) K) Y) : (forL tg b (d :: ds) env h).post K Y := by
  unfold forL
  rw [e]
  dsimp only
  rw [w_bnd]
  refine R.post.mono p (fun r h' q => ?_) fun _ _ _ q => q
  obtain ⟨f, e2⟩ := r
  cases f <;> exact q
/-- for over a known row, by an invariant of what is left -/
theorem f_forR {K : RS → IH → Prop} {Y : Nat → List D → IH → Prop} {tg : Tg} {b : Env → M RS} {ζ : Type} (f : ζ → D) (I : List ζ → Env → IH → Prop)
    (step : ∀ z zs env h, I (z :: zs) env h → ∃ env1, bindT tg (f z) env = some env1 ∧ (b env1 h).post (Turn (I zs) K) Y)
    (fin : ∀ env h, I [] env h → K (.nx, env) h) : ∀ {zs : List ζ} {env : Env} {h : IH}, I zs env h → (forL tg b (zs.map f) env h).post K Y
  | [], env, h, i => fin env h i
  | z :: zs, env, h, i => by
    obtain ⟨env1, e, p⟩ := step z zs env h i
    rw [List.map_cons]
    refine f_cons e (R.post.mono p (fun r h' q => ?_) fun _ _ _ q => q)
    obtain ⟨fl, e2⟩ := r
    cases fl with
    | nx => exact f_forR f I step fin q
    | ct => exact f_forR f I step fin q
    | bk => exact q
    | rt v => exact q
    | xc c fs => exact q
/-- two clauses over known rows where nothing is changed -/
theorem w_cInZ {K : List D → IH → Prop} {Y : Nat → List D → IH → Prop} {env : Env} {tg : Tg} {ft : Env → M Bool} {fe : Env → M D} {ζ : Type} (f g : ζ → D) (p : ζ → Bool) :
    ∀ {zs : List ζ} {acc : List D}, (∀ z ∈ zs, ∃ env1, bindT tg (f z) env = some env1 ∧ (ft env1 h).post (fun b h1 => h1 = h ∧ b = p z) NoX ∧ (p z = true → (fe env1 h).post (fun y h1 => h1 = h ∧ y = g z) NoX)) →
      acc.length + (zs.filter p).length ≤ 16777216 → K (acc ++ (zs.filter p).map g) h → (cIn tg ft fe env (zs.map f) acc h).post K Y
  | [], acc, _, _, k => by
    show K acc h
    simpa using k
  | z :: zs, acc, step, l, k => by
    obtain ⟨env1, e, p1, p2⟩ := step z List.mem_cons_self
    rw [List.map_cons]
    unfold cIn
    rw [e]
    dsimp only
    rw [w_bnd, w_noex]
    refine R.post.mono p1 (fun b h1 ⟨q1, q2⟩ => ?_) fun _ _ _ q => q.elim
    subst h1 b
    cases c : p z with
    | true =>
      rw [List.filter_cons_of_pos c] at l k
      rw [if_pos rfl, w_bnd, w_noex]
      refine R.post.mono (p2 c) (fun y h2 ⟨q1, q2⟩ => ?_) fun _ _ _ q => q.elim
      subst h2 y
      rw [w_bnd, w_fits]
      rw [List.length_cons] at l
      refine ⟨by omega, ?_⟩
      exact w_cInZ f g p (fun x hx => step x (List.mem_cons_of_mem _ hx)) (by rw [List.length_append, List.length_singleton]; omega) (by simpa using k)
    | false =>
      rw [List.filter_cons_of_neg (by rw [c]; exact Bool.false_ne_true)] at l k
      rw [if_neg Bool.false_ne_true]
      exact w_cInZ f g p (fun x hx => step x (List.mem_cons_of_mem _ hx)) l k
theorem w_comp2Z {C : Cfg} {K : List D → IH → Prop} {Y : Nat → List D → IH → Prop} {env : Env} {tg t2 : Tg} {it2 : Env → M (List D)} {ft : Env → M Bool} {fe : Env → M D} {vs1 : List Nat} {ζ ξ : Type} (f : ζ → D) (it : ζ → List ξ) (f2 : ξ → D) (p : ζ → ξ → Bool) (g : ζ → ξ → D) {zs : List ζ}
    (step : ∀ z ∈ zs, ∃ env1, bindT tg (f z) env = some env1 ∧ (it2 env1 h).post (fun es h1 => h1 = h ∧ es = (it z).map f2) NoX ∧
      ∀ x ∈ it z, ∃ env2, bindT t2 (f2 x) (wipeE env1 vs1) = some env2 ∧ (ft env2 h).post (fun b h1 => h1 = h ∧ b = p z x) NoX ∧ (p z x = true → (fe env2 h).post (fun y h1 => h1 = h ∧ y = g z x) NoX))
    (l : (zs.flatMap fun z => ((it z).filter (p z)).map (g z)).length ≤ 16777216) (k : K (zs.flatMap fun z => ((it z).filter (p z)).map (g z)) h) : (cLoop2 tg (evT C .no) it2 t2 ft fe vs1 env (zs.map f) [] h).post K Y := by
  have go : ∀ {zs : List ζ} {acc : List D}, (∀ z ∈ zs, ∃ env1, bindT tg (f z) env = some env1 ∧ (it2 env1 h).post (fun es h1 => h1 = h ∧ es = (it z).map f2) NoX ∧
      ∀ x ∈ it z, ∃ env2, bindT t2 (f2 x) (wipeE env1 vs1) = some env2 ∧ (ft env2 h).post (fun b h1 => h1 = h ∧ b = p z x) NoX ∧ (p z x = true → (fe env2 h).post (fun y h1 => h1 = h ∧ y = g z x) NoX)) →
      (acc ++ zs.flatMap fun z => ((it z).filter (p z)).map (g z)).length ≤ 16777216 → K (acc ++ zs.flatMap fun z => ((it z).filter (p z)).map (g z)) h → (cLoop2 tg (evT C .no) it2 t2 ft fe vs1 env (zs.map f) acc h).post K Y := by
    intro zs
    induction zs with
    | nil =>
      intro acc _ _ k
      show K acc h
      simpa using k
    | cons z zs ih =>
      intro acc step l k
      obtain ⟨env1, e, p1, p2⟩ := step z List.mem_cons_self
      rw [List.map_cons]
      unfold cLoop2
      rw [e]
      dsimp only
      rw [w_bnd, w_noex]
      show ((bnd (noex (it2 env1)) fun es => _) h).post K Y
      rw [w_bnd, w_noex]
      refine R.post.mono p1 (fun es h1 ⟨q1, q2⟩ => ?_) fun _ _ _ q => q.elim
      subst q1 q2
      rw [List.flatMap_cons, ← List.append_assoc] at l k
      rw [w_bnd]
      refine w_cInZ f2 (g z) (p z) p2 ?_ ?_
      · rw [List.length_append, List.length_append, List.length_map] at l; omega
      · exact ih (fun x hx => step x (List.mem_cons_of_mem _ hx)) l k
  exact go step (by simpa using l) (by simpa using k)

/-! ### dicts -/
theorem keyB_nr {y : D} (l : keyB y = true) : ∀ r, y ≠ .ref r := fun r e => by rw [e] at l; exact Bool.noConfusion (show false = true from l)
theorem keyOk_nr {t : Bool} {y : D} (l : keyOk t y = true) : ∀ r, y ≠ .ref r := fun r e => by
  rw [e] at l
  cases t with
  | false => exact keyB_nr (y := .ref r) l r rfl
  | true => exact Bool.noConfusion (show false = true from l)
theorem o_inD {x : D} {t : Bool} {ks vs : List D} (l : keyOk t x = true) (k : P (.bl (lookD ks vs x).isSome)) : ∃ d, cmpH .inn h x (.dct t ks vs) = some d ∧ P d :=
  ⟨_, by unfold cmpH; rw [drf_of (keyOk_nr l)]; show (inA x (.dct t ks vs)).map D.bl = _; unfold inA; dsimp only; rw [if_pos l]; rfl, k⟩
theorem o_ninD {x : D} {t : Bool} {ks vs : List D} (l : keyOk t x = true) (k : P (.bl (!(lookD ks vs x).isSome))) : ∃ d, cmpH .nin h x (.dct t ks vs) = some d ∧ P d :=
  ⟨_, by unfold cmpH; rw [drf_of (keyOk_nr l)]; show (inA x (.dct t ks vs)).map _ = _; unfold inA; dsimp only; rw [if_pos l]; rfl, k⟩
theorem o_lenD {t : Bool} {ks vs : List D} (k : P (.int ks.length)) : ∃ d, bltH .len h [.dct t ks vs] = some d ∧ P d := ⟨_, rfl, k⟩
theorem o_ixD {t : Bool} {ks vs : List D} {y d : D} (l : keyOk t y = true) (e : lookD ks vs y = some d) (k : P d) : ∃ d, ixH h (.dct t ks vs) y = some d ∧ P d :=
  ⟨d, by unfold ixH; rw [drf_of (keyOk_nr l)]; show opIx h (.dct t ks vs) y = _; unfold opIx; dsimp only; rw [if_pos l]; exact e, k⟩

/-! ### cells in the place of lists -/
theorem o_lenR {r : Nat} {xs : List D} (e : h[r]? = some (.lst xs)) (k : P (.int xs.length)) : ∃ d, bltH .len h [.ref r] = some d ∧ P d := ⟨_, by show bltF .len [drf h (.ref r)] = _; rw [drf_ref e]; rfl, k⟩
theorem o_listR {r : Nat} {xs : List D} (e : h[r]? = some (.lst xs)) (k : P (.lst xs)) : ∃ d, bltH .list h [.ref r] = some d ∧ P d := ⟨_, by show bltF .list [drf h (.ref r)] = _; rw [drf_ref e]; rfl, k⟩
theorem o_sqR {r : Nat} {xs : List D} {Q : List D → Prop} (e : h[r]? = some (.lst xs)) (k2 : Q xs) : ∃ ys, seqH h (.ref r) = some ys ∧ Q ys := ⟨_, by unfold seqH; rw [drf_ref e]; rfl, k2⟩
theorem o_isiR {C : Cfg} {r : Nat} {xs : List D} {t : Ty} {b : Bool} {P : Bool → Prop} (e : h[r]? = some (.lst xs)) (e2 : isiD C.sub (.lst xs) t = some b) (k : P b) : ∃ b, isiH C h (.ref r) t = some b ∧ P b := ⟨b, by unfold isiH drfA; dsimp only; rw [e]; exact e2, k⟩
theorem o_appR {r : Nat} {xs : List D} {v : D} {P : IH → Prop} (e : h[r]? = some (.lst xs)) (l : xs.length < 16777216) (k : P (h.set r (.lst (xs ++ [v])))) : ∃ h3, appC (.ref r) v h = some h3 ∧ P h3 := ⟨_, by unfold appC; dsimp only; rw [e]; dsimp only; rw [if_pos l], k⟩
theorem isL_of {r : Nat} {xs : List D} (e : h[r]? = some (.lst xs)) : isL (.ref r) h = true := by unfold isL; dsimp only; rw [e]
/-- for over a cell that stays as it is -/
theorem f_forG {K : RS → IH → Prop} {Y : Nat → List D → IH → Prop} {env : Env} {g : Nat × Cell} (I : List D → Env → IH → Prop) {tg : Tg} {b : Env → M RS} {ds : List D} (h0 : I [] env h)
    (hg : ∀ pre env h, I pre env h → h[g.1]? = some g.2)
    (step : ∀ pre d post env h, ds = pre ++ d :: post → I pre env h → ∃ env1, bindT tg d env = some env1 ∧ (b env1 h).post (Turn (I (pre ++ [d])) fun r h' => h'[g.1]? = some g.2 ∧ K r h') Y)
    (fin : ∀ env h, I ds env h → K (.nx, env) h) : (forL tg (gdP (some g) b) ds env h).post (fun r h' => h'[g.1]? = some g.2 ∧ K r h') Y :=
  w_for I h0 (fun pre d post env h e i => by
    obtain ⟨env1, e1, p⟩ := step pre d post env h e i
    refine ⟨env1, e1, ?_⟩
    rw [gdP_ok (hg _ _ _ i)]
    exact p) fun env h i => ⟨hg _ _ _ i, fin env h i⟩

/-! ### instances -/
theorem at_f {C : CallH} {ct : CT} {a c : Nat} {x d : D} {fs : List D} {cd : ClsD} {j : Nat} {K : D → IH → Prop} {Y : Nat → List D → IH → Prop} (e1 : insAt h x = some (c, fs)) (e2 : ct c = some cd) (e3 : fIx cd.ns a = some j) (e4 : fs[j]? = some d) (k : K d h) : (attrD C ct a x h).post K Y := by
  unfold attrD
  rw [e1]; dsimp only
  rw [e2]; dsimp only
  rw [e3]; dsimp only
  rw [e4]; exact k
theorem at_p {C : CallH} {ct : CT} {a c i : Nat} {x : D} {fs : List D} {cd : ClsD} {K : D → IH → Prop} {Y : Nat → List D → IH → Prop} (e1 : insAt h x = some (c, fs)) (e2 : ct c = some cd) (e3 : fIx cd.ns a = none) (e4 : cd.ps.lookup a = some i) (p : (C i [x] h).post K NoX) : (attrD C ct a x h).post K Y := by
  unfold attrD
  rw [e1]; dsimp only
  rw [e2]; dsimp only
  rw [e3]; dsimp only
  rw [e4]
  rw [w_noex]; exact p
theorem md_of {ct : CT} {m c i : Nat} {x : D} {fs : List D} {cd : ClsD} {P : Nat → Prop} (e1 : insAt h x = some (c, fs)) (e2 : ct c = some cd) (e3 : cd.ms.lookup m = some i) (k : P i) : ∃ i, methD ct m h x = some i ∧ P i := ⟨i, by unfold methD; rw [e1]; dsimp only; rw [e2]; exact e3, k⟩
theorem subB_self {P : Prog} {c : Nat} : P.subB c c = true := by unfold Prog.subB; simp
theorem o_isiC {Q : Prog} {n c : Nat} {fs : List D} {P : Bool → Prop} (k : P true) : ∃ b, isiH (cfgI Q n) h (.ins c fs) (.cls c) = some b ∧ P b := ⟨true, by show some (Q.subB c c) = some true; rw [subB_self], k⟩
theorem ln_of {C : CallH} {ct : CT} {il c i : Nat} {x : D} {fs : List D} {cd : ClsD} {K : D → IH → Prop} {Y : Nat → List D → IH → Prop} (e1 : insAt h x = some (c, fs)) (e2 : ct c = some cd) (e3 : cd.ms.lookup il = some i) (p : (C i [x] h).post (fun d h' => ∃ n : Int, d = .int n ∧ (0 ≤ n ∧ n ≤ 16777216) ∧ K (.int n) h') NoX) : (lenM C ct il [x] h).post K Y := by
  unfold lenM
  dsimp only
  have e : methD ct il h x = some i := by unfold methD; rw [e1]; dsimp only; rw [e2]; exact e3
  rw [e]
  dsimp only
  unfold lenChk
  cases q : C i [x] h with
  | bad => rw [q] at p; exact p.elim
  | ex => rw [q] at p; exact p.elim
  | ok d h' =>
    rw [q] at p
    obtain ⟨n, rfl, l, k⟩ := p
    dsimp only
    rw [if_pos l]; exact k
theorem ls_of {C : CallH} {ct : CT} {il c i f j : Nat} {x : D} {fs xs : List D} {cd : ClsD} {K : D → IH → Prop} {Y : Nat → List D → IH → Prop} (e1 : insAt h x = some (c, fs)) (e2 : ct c = some cd) (e3 : cd.ms.lookup il = some i) (e4 : cd.it = some f) (e5 : fIx cd.ns f = some j) (e6 : fs[j]? = some (.tup xs)) (p : (C i [x] h).post (fun d h' => ∃ n : Int, d = .int n ∧ (0 ≤ n ∧ n ≤ 16777216) ∧ K (.lst xs) h') NoX) : (listM C ct il [x] h).post K Y := by
  unfold listM
  dsimp only
  have e : methD ct il h x = some i := by unfold methD; rw [e1]; dsimp only; rw [e2]; exact e3
  have e0 : iterD ct h x = some xs := by
    unfold iterD
    rw [e1]; dsimp only
    rw [e2]
    simp only [Option.bind_some, e4, e5, e6]
  rw [e0]; dsimp only
  rw [e]; dsimp only
  rw [w_bnd]
  unfold lenChk
  cases q : C i [x] h with
  | bad => rw [q] at p; exact p.elim
  | ex => rw [q] at p; exact p.elim
  | ok d h' =>
    rw [q] at p
    obtain ⟨n, rfl, l, k⟩ := p
    dsimp only
    rw [if_pos l]; exact k
theorem as_of {ct : CT} {a c r j : Nat} {fs : List D} {v : D} {cd : ClsD} {P : IH → Prop} (e1 : h[r]? = some (.ins c fs)) (e2 : ct c = some cd) (e3 : fIx cd.ns a = some j) (k : P (h.set r (.ins c (if j < fs.length then fs.set j v else fs ++ [v])))) (l : j ≤ fs.length) : ∃ h3, attS ct a (.ref r) v h = some h3 ∧ P h3 := by
  refine ⟨_, ?_, k⟩
  unfold attS
  dsimp only
  rw [e1]; dsimp only
  rw [e2]
  simp only [Option.bind_some, e3]
  by_cases c1 : j < fs.length
  · simp only [c1, if_true]
  · have : j = fs.length := by omega
    subst this
    rw [if_neg (Nat.lt_irrefl _), if_pos rfl, if_neg (Nat.lt_irrefl _)]
/-- a dunder of both; of none -/
theorem dd_of {C : CallH} {ct : CT} {m c i : Nat} {op : IH → D → D → Option D} {x y : D} {fs fs2 : List D} {cd : ClsD} {K : D → IH → Prop} {Y : Nat → List D → IH → Prop} (e1 : insAt h x = some (c, fs)) (e1' : insAt h y = some (c, fs2)) (e2 : ct c = some cd) (e3 : cd.ms.lookup m = some i)
    (p : (C i [x, y] h).post (fun d h' => (match d with | .lst _ => False | .dct _ _ _ => False | _ => True) ∧ K d h') Y) : (dundO C ct m op x y h).post K Y := by
  unfold dundO
  have e : methD ct m h x = some i := by unfold methD; rw [e1]; dsimp only; rw [e2]; exact e3
  rw [e]; dsimp only
  have ec : clsAt h x = clsAt h y := by unfold clsAt; rw [e1, e1']; rfl
  rw [if_pos ec]
  cases q : C i [x, y] h with
  | bad => rw [q] at p; exact p.elim
  | ex => rw [q] at p; exact p
  | ok d h' =>
    rw [q] at p
    cases d <;> first | exact p.2 | exact p.1.elim
theorem in_of {C : CallH} {ct : CT} {m c i : Nat} {neg : Bool} {op : IH → D → D → Option D} {x y : D} {fs : List D} {cd : ClsD} {K : D → IH → Prop} {Y : Nat → List D → IH → Prop} (e1 : insAt h y = some (c, fs)) (e2 : ct c = some cd) (e3 : cd.ms.lookup m = some i) (nl : (match x with | .lst _ => False | .dct _ _ _ => False | _ => True))
    (p : (C i [y, x] h).post (fun d h' => ∃ b, d = .bl b ∧ K (.bl (if neg then !b else b)) h') Y) : (inM C ct m neg op x y h).post K Y := by
  unfold inM
  have e : methD ct m h y = some i := by unfold methD; rw [e1]; dsimp only; rw [e2]; exact e3
  rw [e]; dsimp only
  have go : (bnd (C i [y, x]) (fun d => bnd (lft (asB d)) fun b => ret (.bl (if neg then !b else b))) h).post K Y := by
    rw [w_bnd]
    refine R.post.mono p (fun d h' ⟨b, e, k⟩ => ?_) fun _ _ _ k => k
    subst e
    exact k
  cases x <;> first | exact go | exact nl.elim

/-! ### texts -/
theorem txtsOf_map (ys : List (List Nat)) : txtsOf (ys.map D.str) = some ys := by
  induction ys with
  | nil => rfl
  | cons y ys ih => rw [List.map_cons, txtsOf, ih]; rfl
theorem o_joinL {z : List Nat} {ys : List (List Nat)} (l : (ys.map List.length).sum + ys.length * z.length ≤ 16777216) (k : P (.str (joinL z ys))) : ∃ d, joinH h z (.lst (ys.map D.str)) = some d ∧ P d :=
  ⟨_, by
    show joinD (.str z) (.lst (ys.map D.str)) = _
    unfold joinD
    dsimp only
    unfold itemsN
    dsimp only
    rw [Option.bind_some, txtsOf_map, Option.bind_some, if_pos l], k⟩
theorem o_isS {z : List Nat} {P : List Nat → Prop} (k : P z) : ∃ c, D.str z = .str c ∧ P c := ⟨z, rfl, k⟩
end Iv

local macro_rules | `(tactic| walk_at "iv") => `(tactic| first
  | with_reducible first
    | refine Iv.y_cons ?_ | refine Iv.n_nx ?_ | refine Iv.n_rt ?_ | refine Iv.n_bk ?_ | refine Iv.n_ct ?_
    | refine Iv.x_acons ?_ | refine Iv.x_nil ?_ | refine Iv.x_cst ?_
    | refine Iv.x_bin ?_ | refine Iv.x_cmp ?_ | refine Iv.x_ix ?_ | refine Iv.x_call ?_ | refine Iv.x_blt ?_ | refine Iv.x_tup ?_ | refine Iv.x_lst ?_ | refine Iv.x_cell ?_ | refine Iv.x_isi ?_
    | refine Iv.wk_no ?_ | refine Iv.x_attr ?_ | refine Iv.x_meth ?_ | refine Iv.x_lenO ?_ | refine Iv.x_listO ?_ | refine Iv.x_binO ?_ | refine Iv.x_cmpO ?_ | refine Iv.x_box ?_ | refine Iv.x_join ?_ | refine Iv.x_split ?_ | refine Iv.o_isS ?_ | refine Iv.x_dnew ?_
    | refine Iv.x_neg ?_ | refine Iv.x_sl ?_ | refine Iv.x_pno ?_ | refine Iv.x_pyes ?_ | refine Iv.x_and ?_ | refine Iv.x_or ?_ | refine Iv.x_and2 ?_ | refine Iv.x_or2 ?_ | refine Iv.x_and1 ?_ | refine Iv.x_or1 ?_
    | refine Iv.x_not ?_ | refine Iv.x_ite ?_ | refine Iv.x_chain ?_ | refine Iv.x_star ?_ | refine Iv.x_comp ?_ | refine Iv.x_comp2 ?_ | refine Iv.x_iseq ?_ | refine Iv.x_irange ?_ | refine Iv.x_izip ?_
    | refine Iv.c_tru ?_ | refine Iv.c_and ?_ | refine Iv.c_or ?_ | refine Iv.c_and2 ?_ | refine Iv.c_or2 ?_ | refine Iv.c_and1 ?_ | refine Iv.c_or1 ?_ | refine Iv.c_not ?_ | refine Iv.c_cst ?_
    | refine Iv.c_cmp ?_ | refine Iv.c_ix ?_ | refine Iv.c_chain ?_ | refine Iv.c_blt ?_ | refine Iv.c_isi ?_ | refine Iv.c_call ?_ | refine Iv.c_cmpO ?_ | refine Iv.c_attr ?_ | refine Iv.c_meth ?_ | refine Iv.c_scall ?_ | refine Iv.t_no ?_ | refine Iv.t_yes ?_
    | refine Iv.y_nil ?_ | refine Iv.y_set ?_ | refine Iv.y_ownN ?_ | refine Iv.y_own ?_ | refine Iv.y_att ?_ | refine Iv.y_attAug ?_ | refine Iv.y_appR ?_ | refine Iv.y_tg ?_ | refine Iv.y_ixs ?_
    | refine Iv.y_ret ?_ | refine Iv.y_retN ?_ | refine Iv.y_pass ?_ | refine Iv.y_brk ?_ | refine Iv.y_cont ?_ | refine Iv.y_expr ?_ | refine Iv.y_ite ?_ | refine Iv.y_for ?_
    | refine Iv.o_addI ?_ | refine Iv.o_andI ?_ | refine Iv.o_subI ?_ | refine Iv.o_eqI ?_ | refine Iv.o_neI ?_ | refine Iv.o_eqS ?_ | refine Iv.o_neS ?_ | refine Iv.o_ltI ?_ | refine Iv.o_leI ?_ | refine Iv.o_gtI ?_ | refine Iv.o_geI ?_ | refine Iv.o_inS ?_ | refine Iv.o_ninS ?_ | refine Iv.o_isN ?_ | refine Iv.o_isnN ?_
    | refine Iv.o_len ?_ | refine Iv.o_lenT ?_ | refine Iv.o_lenS ?_ | refine Iv.o_lenD ?_ | refine Iv.o_isiC ?_ | refine Iv.o_int ?_ | refine Iv.o_bl ?_ | refine Iv.o_isI ?_ | refine Iv.o_isL ?_
    | refine Iv.o_itL ?_ | refine Iv.o_itT ?_ | refine Iv.o_itS ?_ | refine Iv.o_sqL ?_ | refine Iv.o_sqT ?_ | refine Iv.o_zipT ?_ | refine Iv.o_zipL ?_ | refine Iv.o_slL ?_ | refine Iv.o_slT ?_ | refine Iv.o_slS ?_ | refine Iv.o_neg ?_ | refine Iv.o_list ?_ | refine Iv.o_listT ?_ | refine Iv.o_tuple ?_ | refine Iv.o_tupleT ?_ | refine Iv.o_trI ?_ | refine Iv.o_trL ?_ | refine Iv.o_trT ?_ | refine Iv.o_trB ?_
    | refine Iv.o_leB ?_ | refine Iv.o_ltB ?_
    | refine Iv.u_nx ?_ | refine Iv.u_ct ?_ | refine Iv.u_bk ?_ | refine Iv.u_rt ?_
    | refine (Iv.two_nf.mpr ?_) | refine (Iv.two_nt.mpr ?_)
    | refine (Iv.two_true.mpr ?_) | refine (Iv.two_false.mpr ?_)
  | refine Iv.x_var rfl ?_ | refine Iv.x_peek rfl ?_ | refine Iv.x_peekV rfl ?_ | refine Iv.x_peekD rfl ?_ | refine Iv.c_var rfl ?_
  | refine Iv.o_isi rfl ?_ | refine Iv.o_fit rfl ?_ | refine Iv.o_ixT0 ?_ | refine Iv.o_ixL0 ?_ | refine Iv.o_ixS0 ?_
  | refine Iv.y_frz rfl ?_ | refine Iv.y_frzV rfl ?_ | refine Iv.y_frzD rfl ?_ | refine Iv.y_putO rfl ?_ | refine Iv.y_aug rfl ?_ | refine Iv.y_app rfl ?_
  | refine Iv.at_f rfl (by assumption) rfl rfl ?_ | refine Iv.at_f rfl (by assumption) (by assumption) rfl ?_ | refine Iv.o_inD rfl ?_ | refine Iv.o_ninD rfl ?_
  | refine Iv.o_itR (by assumption) ?_ | refine Iv.o_isiR (by assumption) rfl ?_ | refine Iv.o_lenR (by assumption) ?_
  | refine Iv.o_ixR (by assumption) rfl ?_ | (refine Iv.o_setS (by assumption) rfl ?_; intro _ _ _)
  | refine Iv.o_ixT rfl ?_ | refine Iv.o_ixL rfl ?_ | refine Iv.o_ixS rfl ?_)
/-! what the laws' own defs compute: draws -/
namespace Lw
open PySem L2 Iv Fn
variable {fns : Prog} {h h' : IH} {K : D → IH → Prop} {Y : Nat → List D → IH → Prop}
/-- the script's source stands in cell r -/
def Src (r : Nat) (h : IH) : Prop := ∃ (ns : List Int) (i z : Int), h[r]? = some (.lst [.lst (ns.map D.int), .int i, .int z]) ∧ 0 ≤ i
theorem ints_get {ns : List Int} {i : Nat} (hi : i < ns.length) : (ns.map D.int)[i]? = some (.int ns[i]) := by simp [hi]
theorem draw_ok {n r : Nat} {many : Int} (hF : fns.lookup 5 = some f5) (hm : many < 1073741824) (s : Src r h) (q : ∀ (d : Int) (h' : IH), 0 ≤ d → d < max many 1 → Src r h' → Oth r h h' → K (.int d) h') : (callI fns (n + 1) 5 [.ref r, .int many] h).post K Y := by
  obtain ⟨ns, i, z, e, hi⟩ := s
  refine call_def hF rfl ?_
  show (evSs (cfgI fns n) b5 [.val (.ref r), .val (.int many), .no, .no, .no, .no] h).post _ NoX
  unfold b5
  repeat walk_at "iv"
  refine ⟨fun c => ?_, fun c => ?_⟩
  · have c := of_decide_eq_true c
    repeat walk_at "iv"
    exact q 0 h (by omega) (by omega) ⟨ns, i, z, e, hi⟩ (Oth.refl r h)
  have c := of_decide_eq_false c
  have hr : r < h.length := (List.getElem?_eq_some_iff.mp e).1
  walk_at "iv"
  walk_at "iv"
  refine y_cut (fun x h1 => (x.1 = .nx ∧ Src r h1 ∧ Oth r h h1 ∧ ∃ s2 s3 s4, x.2 = [.val (.ref r), .val (.int many), s2, s3, s4, .no]) ∨ (x.1 = .rt (.int 0) ∧ Src r h1 ∧ Oth r h h1)) ?_ ?_
  · repeat walk_at "iv"
    refine ⟨fun c1 => ?_, fun c1 => ?_⟩
    · repeat walk_at "iv"
      refine ⟨fun c2 => ?_, fun c2 => ?_⟩
      · repeat walk_at "iv"
        exact .inr ⟨rfl, ⟨ns, i, z, e, hi⟩, Oth.refl r h⟩
      · have c2 := of_decide_eq_false c2
        have hi2 : i.toNat < ns.length := by simp at c2; omega
        repeat walk_at "iv"
        refine o_ixL (atI_pos hi (ints_get hi2)) ?_
        repeat walk_at "iv"
        rename_i h2 e2 o2
        refine o_powI (by decide) ?_
        repeat walk_at "iv"
        refine ⟨fun c3 => ?_, fun c3 => ?_⟩
        · repeat walk_at "iv"
          rename_i h3 e3 o3
          exact .inl ⟨rfl, ⟨ns, _, _, e3, by omega⟩, o2.trans o3, _, _, _, rfl⟩
        · repeat walk_at "iv"
          refine o_mulI (.inr (by decide)) ?_
          repeat walk_at "iv"
          refine o_mulI (.inr (by decide)) ?_
          repeat walk_at "iv"
          refine o_modI (by decide) ?_
          repeat walk_at "iv"
          refine o_mulI (.inr (by decide)) ?_
          repeat walk_at "iv"
          refine o_mulI (.inr (by decide)) ?_
          repeat walk_at "iv"
          refine o_modI (by decide) ?_
          repeat walk_at "iv"
          refine o_mulI (.inr (by decide)) ?_
          repeat walk_at "iv"
          rename_i h3 e3 o3
          exact .inl ⟨rfl, ⟨ns, _, _, e3, by omega⟩, o2.trans o3, _, _, _, rfl⟩
    · repeat walk_at "iv"
      exact .inl ⟨rfl, ⟨ns, i, z, e, hi⟩, Oth.refl r h, _, _, _, rfl⟩
  · rintro ⟨fl, env⟩ h1 (⟨h2, ⟨ns, i, z, e, hi⟩, o1, s2, s3, s4, h3⟩ | ⟨h2, s, o1⟩)
    · cases h2
      cases h3
      repeat walk_at "iv"
      refine o_modI (by omega) ?_
      repeat walk_at "iv"
      refine o_fdivI (by omega) ?_
      repeat walk_at "iv"
      rename_i h2 e2 o2
      refine q _ _ (Int.emod_nonneg _ (by omega)) (by have := Int.emod_lt_of_pos z (show 0 < many by omega); omega) ⟨ns, i, _, e2, hi⟩ (o1.trans o2)
    · cases h2
      walk_at "iv"
      exact q 0 h1 (by omega) (by omega) s o1
end Lw

/-! kinds of values with an order that the program's comparisons show; ascending rows -/
namespace Lw
open PySem L2 Iv
/-- a kind of values: how they stand as data, their order -/
structure OE (α : Type) [DecidableEq α] where
  e : α → D
  lt : α → α → Bool
  dat : ∀ a, (e a).dat = true
  depth : ∀ a, (e a).depth ≤ 60
  eq : ∀ a b, D.eqv (e a) (e b) = decide (a = b)
  ltP : ∀ a b, ordP .Lt (e a).py (e b).py = some (lt a b)
  leP : ∀ a b, ordP .LtE (e a).py (e b).py = some (!lt b a)
  irr : ∀ a, lt a a = false
  tr : ∀ a b c, lt a b = true → lt b c = true → lt a c = true
  tot : ∀ a b, lt a b = false → lt b a = false → a = b
section
variable {α : Type} [DecidableEq α] (o : OE α) {P : D → Prop} {h : IH}
theorem OE.inj {a b : α} (q : o.e a = o.e b) : a = b := by
  have h1 := o.eq a b
  have h2 := o.eq b b
  rw [q, h2] at h1
  simpa using h1.symm
theorem OE.asy {a b : α} (q : o.lt a b = true) : o.lt b a = false := by
  cases c : o.lt b a with
  | false => rfl
  | true => have := o.tr a b a q c; rw [o.irr] at this; cases this
theorem OE.o_eq {a b : α} (k : P (.bl (decide (a = b)))) : ∃ d, cmpH .eq h (o.e a) (o.e b) = some d ∧ P d := by
  have l : eqOk (o.e a) (o.e b) = true := by
    have := o.depth a
    simp only [eqOk, o.dat, Bool.and_true, Bool.true_and, decide_eq_true_eq]; omega
  refine Iv.o_eq l ?_
  rw [o.eq]; exact k
theorem OE.o_ne {a b : α} (k : P (.bl (!decide (a = b)))) : ∃ d, cmpH .ne h (o.e a) (o.e b) = some d ∧ P d := by
  have l : eqOk (o.e a) (o.e b) = true := by
    have := o.depth a
    simp only [eqOk, o.dat, Bool.and_true, Bool.true_and, decide_eq_true_eq]; omega
  refine Iv.o_ne l ?_
  rw [o.eq]; exact k
theorem OE.okO (a b : α) : ordOk (o.e a) (o.e b) = true := by
  have := o.depth a
  simp only [ordOk, o.dat, Bool.and_true, Bool.true_and, decide_eq_true_eq]; omega
theorem OE.o_lt {a b : α} (k : P (.bl (o.lt a b))) : ∃ d, cmpH .lt h (o.e a) (o.e b) = some d ∧ P d := Iv.o_lt (o.okO a b) (o.ltP a b) k
theorem OE.o_le {a b : α} (k : P (.bl (!o.lt b a))) : ∃ d, cmpH .le h (o.e a) (o.e b) = some d ∧ P d := Iv.o_le (o.okO a b) (o.leP a b) k
theorem OE.mem {a : α} {xs : List α} : memD (o.e a) (xs.map o.e) = decide (a ∈ xs) := by
  unfold memD
  rw [List.any_map, Bool.eq_iff_iff, List.any_eq_true, decide_eq_true_eq]
  constructor
  · rintro ⟨x, hx, e⟩
    have : decide (x = a) = true := by rw [← o.eq]; exact e
    rw [of_decide_eq_true this] at hx; exact hx
  · exact fun hx => ⟨a, hx, by show D.eqv (o.e a) (o.e a) = true; rw [o.eq]; simp⟩
theorem OE.dats {xs : List α} : D.dats (xs.map o.e) = true := by
  induction xs with
  | nil => rfl
  | cons x xs ih => rw [List.map_cons, D.dats, o.dat, ih]; rfl
theorem OE.inOk {a : α} {xs : List α} : inOk (o.e a) (xs.map o.e) = true := by
  have := o.depth a
  simp only [Iv.inOk, o.dat, o.dats, Bool.and_true, Bool.true_and, decide_eq_true_eq]; omega
theorem OE.o_inL {a : α} {xs : List α} (k : P (.bl (decide (a ∈ xs)))) : ∃ d, cmpH .inn h (o.e a) (.lst (xs.map o.e)) = some d ∧ P d := Iv.o_inL o.inOk (by rw [o.mem]; exact k)
theorem OE.o_inT {a : α} {xs : List α} (k : P (.bl (decide (a ∈ xs)))) : ∃ d, cmpH .inn h (o.e a) (.tup (xs.map o.e)) = some d ∧ P d := Iv.o_inT o.inOk (by rw [o.mem]; exact k)
end
/-! ### ascending -/
section
variable {α : Type} [DecidableEq α] (o : OE α)
/-- strictly ascending -/
def OE.Asc (xs : List α) : Prop := xs.Pairwise fun a b => o.lt a b = true
theorem OE.asc_eq {xs ys : List α} (hx : o.Asc xs) (hy : o.Asc ys) (m : ∀ a, a ∈ xs ↔ a ∈ ys) : xs = ys := by
  induction xs generalizing ys with
  | nil =>
    cases ys with
    | nil => rfl
    | cons y ys => exact absurd ((m y).mpr List.mem_cons_self) (by simp)
  | cons x xs ih =>
    cases ys with
    | nil => exact absurd ((m x).mp List.mem_cons_self) (by simp)
    | cons y ys =>
      have hx' := List.pairwise_cons.mp hx
      have hy' := List.pairwise_cons.mp hy
      have e : x = y := by
        rcases List.mem_cons.mp ((m x).mp List.mem_cons_self) with e | h1
        · exact e
        · rcases List.mem_cons.mp ((m y).mpr List.mem_cons_self) with e | h2
          · exact e.symm
          · have a := hy'.1 x h1
            have b := hx'.1 y h2
            rw [o.asy a] at b; cases b
      subst e
      have nx : ∀ {zs : List α}, (∀ b ∈ zs, o.lt x b = true) → x ∉ zs := fun h c => by have := h x c; rw [o.irr] at this; cases this
      congr 1
      refine ih hx'.2 hy'.2 fun a => ⟨fun ha => ?_, fun ha => ?_⟩
      · rcases List.mem_cons.mp ((m a).mp (List.mem_cons_of_mem _ ha)) with e | h1
        · subst e; exact absurd ha (nx hx'.1)
        · exact h1
      · rcases List.mem_cons.mp ((m a).mpr (List.mem_cons_of_mem _ ha)) with e | h1
        · subst e; exact absurd ha (nx hy'.1)
        · exact h1
/-- put in its place -/
def OE.ins (a : α) : List α → List α
  | [] => [a]
  | x :: xs => if o.lt a x = true then a :: x :: xs else if a = x then x :: xs else x :: OE.ins a xs
theorem OE.mem_ins {a b : α} {xs : List α} : b ∈ o.ins a xs ↔ b = a ∨ b ∈ xs := by
  induction xs with
  | nil => simp [OE.ins]
  | cons x xs ih =>
    unfold OE.ins
    split
    · simp
    · split
      · rename_i e; subst e; simp
      · simp only [List.mem_cons, ih]
        constructor
        · rintro (h | h | h) <;> simp [h]
        · rintro (h | h | h) <;> simp [h]
theorem OE.asc_ins {a : α} {xs : List α} (h : o.Asc xs) : o.Asc (o.ins a xs) := by
  induction xs with
  | nil => exact List.pairwise_singleton _ _
  | cons x xs ih =>
    have h' := List.pairwise_cons.mp h
    unfold OE.ins
    split
    · rename_i c
      refine List.pairwise_cons.mpr ⟨fun b hb => ?_, h⟩
      rcases List.mem_cons.mp hb with e | hb
      · rw [e]; exact c
      · exact o.tr _ _ _ c (h'.1 b hb)
    · split
      · exact h
      · rename_i c n
        refine List.pairwise_cons.mpr ⟨fun b hb => ?_, ih h'.2⟩
        rcases o.mem_ins.mp hb with e | hb
        · subst e
          cases q : o.lt x b with
          | true => rfl
          | false => exact absurd (o.tot b x (by simpa using c) q) n
        · exact h'.1 b hb
/-- all of a row, ascending, each once -/
def OE.asc (xs : List α) : List α := xs.foldl (fun r a => o.ins a r) []
theorem OE.asc_foldl {xs r : List α} (h : o.Asc r) : o.Asc (xs.foldl (fun r a => o.ins a r) r) ∧ ∀ b, b ∈ xs.foldl (fun r a => o.ins a r) r ↔ b ∈ xs ∨ b ∈ r := by
  induction xs generalizing r with
  | nil => exact ⟨h, fun b => by simp⟩
  | cons x xs ih =>
    obtain ⟨h1, h2⟩ := ih (o.asc_ins (a := x) h)
    refine ⟨h1, fun b => ?_⟩
    rw [List.foldl_cons, h2, o.mem_ins, List.mem_cons]
    constructor
    · rintro (h | h | h) <;> simp [h]
    · rintro ((h | h) | h) <;> simp [h]
theorem OE.asc_asc (xs : List α) : o.Asc (o.asc xs) := (o.asc_foldl (xs := xs) (r := []) List.Pairwise.nil).1
theorem OE.mem_asc {xs : List α} {b : α} : b ∈ o.asc xs ↔ b ∈ xs := by
  rw [OE.asc, (o.asc_foldl (xs := xs) (r := []) List.Pairwise.nil).2]; simp
theorem OE.asc_of {xs ys : List α} (h : o.Asc ys) (m : ∀ a, a ∈ ys ↔ a ∈ xs) : ys = o.asc xs := o.asc_eq h (o.asc_asc xs) fun a => by rw [m, o.mem_asc]
theorem OE.asc_id {xs : List α} (h : o.Asc xs) : o.asc xs = xs := (o.asc_of h fun _ => Iff.rfl).symm
theorem OE.asc_congr {xs ys : List α} (m : ∀ a, a ∈ xs ↔ a ∈ ys) : o.asc xs = o.asc ys := o.asc_of (o.asc_asc xs) fun a => by rw [o.mem_asc, m]
/-- two ascending rows as one -/
def OE.mrg : List α → List α → List α
  | [], ys => ys
  | xs, [] => xs
  | x :: xs, y :: ys => if o.lt y x = true then y :: OE.mrg (x :: xs) ys else if x = y then x :: OE.mrg xs ys else x :: OE.mrg xs (y :: ys)
termination_by xs ys => xs.length + ys.length
theorem OE.mrg_nil (xs : List α) : o.mrg xs [] = xs := by cases xs <;> simp [OE.mrg]
theorem OE.mem_mrg : ∀ {xs ys : List α} {b : α}, b ∈ o.mrg xs ys ↔ b ∈ xs ∨ b ∈ ys
  | [], ys, b => by simp [OE.mrg]
  | x :: xs, [], b => by simp [OE.mrg]
  | x :: xs, y :: ys, b => by
    rw [OE.mrg]
    split
    · rw [List.mem_cons, OE.mem_mrg (xs := x :: xs) (ys := ys)]
      simp only [List.mem_cons]
      constructor
      · rintro (h | (h | h) | h) <;> simp [h]
      · rintro ((h | h) | h | h) <;> simp [h]
    · split
      · rename_i e
        subst e
        rw [List.mem_cons, OE.mem_mrg (xs := xs) (ys := ys)]
        simp only [List.mem_cons]
        constructor
        · rintro (h | h | h) <;> simp [h]
        · rintro ((h | h) | h | h) <;> simp [h]
      · rw [List.mem_cons, OE.mem_mrg (xs := xs) (ys := y :: ys)]
        simp only [List.mem_cons]
        constructor
        · rintro (h | h | h | h) <;> simp [h]
        · rintro ((h | h) | h | h) <;> simp [h]
termination_by xs ys => xs.length + ys.length
theorem OE.asc_mrg : ∀ {xs ys : List α}, o.Asc xs → o.Asc ys → o.Asc (o.mrg xs ys)
  | [], ys, _, h => by rw [OE.mrg]; exact h
  | x :: xs, [], h, _ => by rw [OE.mrg_nil]; exact h
  | x :: xs, y :: ys, hx, hy => by
    have hx' := List.pairwise_cons.mp hx
    have hy' := List.pairwise_cons.mp hy
    rw [OE.mrg]
    split
    · rename_i c
      refine List.pairwise_cons.mpr ⟨fun b hb => ?_, OE.asc_mrg hx hy'.2⟩
      rcases o.mem_mrg.mp hb with h | h
      · rcases List.mem_cons.mp h with e | h
        · rw [e]; exact c
        · exact o.tr _ _ _ c (hx'.1 b h)
      · exact hy'.1 b h
    · rename_i c
      split
      · rename_i e
        subst e
        refine List.pairwise_cons.mpr ⟨fun b hb => ?_, OE.asc_mrg hx'.2 hy'.2⟩
        rcases o.mem_mrg.mp hb with h | h
        · exact hx'.1 b h
        · exact hy'.1 b h
      · rename_i n
        have c2 : o.lt x y = true := by
          cases q : o.lt x y with
          | true => rfl
          | false => exact absurd (o.tot x y q (by simpa using c)) n
        refine List.pairwise_cons.mpr ⟨fun b hb => ?_, OE.asc_mrg hx'.2 hy⟩
        rcases o.mem_mrg.mp hb with h | h
        · exact hx'.1 b h
        · rcases List.mem_cons.mp h with e | h
          · rw [e]; exact c2
          · exact o.tr _ _ _ c2 (hy'.1 b h)
termination_by xs ys => xs.length + ys.length
end
end Lw

/-! texts, tuples of such values -/
namespace Lw
open PySem L2 Iv
def oS : OE (List Nat) where
  e := D.str
  lt x y := decide (x < y)
  dat _ := rfl
  depth _ := Nat.zero_le _
  eq a b := by
    show (a == b) = _
    rw [Bool.eq_iff_iff]; simp
  ltP a b := by show some (decide (_ < _)) = _; simp
  leP a b := by show some (!decide (_ < _)) = _; simp
  irr a := by simp [List.lt_irrefl]
  tr a b c h1 h2 := by
    simp only [decide_eq_true_eq] at *
    exact List.lt_trans h1 h2
  tot a b h1 h2 := by
    simp only [decide_eq_false_iff_not] at *
    exact List.le_antisymm (List.not_lt.mp h2) (List.not_lt.mp h1)
section
variable {α : Type} [DecidableEq α] (o : OE α)
def lexB (lt : α → α → Bool) : List α → List α → Bool
  | [], [] => false
  | [], _ :: _ => true
  | _ :: _, [] => false
  | x :: xs, y :: ys => if x = y then lexB lt xs ys else lt x y
theorem tup_eq (o : OE α) : ∀ (a b : List α), D.eqvs (a.map o.e) (b.map o.e) = decide (a = b)
  | [], [] => rfl
  | [], _ :: _ => rfl
  | _ :: _, [] => rfl
  | x :: xs, y :: ys => by
    show (D.eqv (o.e x) (o.e y) && D.eqvs (xs.map o.e) (ys.map o.e)) = _
    rw [o.eq, tup_eq o xs ys, Bool.eq_iff_iff]; simp
theorem tup_lt (o : OE α) : ∀ (a b : List α), ordPs .Lt (D.pys (a.map o.e)) (D.pys (b.map o.e)) = some (lexB o.lt a b)
  | [], [] => rfl
  | [], _ :: _ => rfl
  | _ :: _, [] => rfl
  | x :: xs, y :: ys => by
    show (if PyData.eqv (o.e x).py (o.e y).py = true then ordPs .Lt (D.pys (xs.map o.e)) (D.pys (ys.map o.e)) else match ordP .Lt (o.e x).py (o.e y).py, ordPs .Lt (D.pys (xs.map o.e)) (D.pys (ys.map o.e)) with
      | some r, some _ => some r
      | _, _ => none) = _
    rw [tup_lt o xs ys, o.ltP, eqv_py _ _ (o.dat x) (o.dat y), o.eq, lexB]
    by_cases c : x = y <;> simp [c]
theorem tup_le (o : OE α) : ∀ (a b : List α), ordPs .LtE (D.pys (a.map o.e)) (D.pys (b.map o.e)) = some (!lexB o.lt b a)
  | [], [] => rfl
  | [], _ :: _ => rfl
  | _ :: _, [] => rfl
  | x :: xs, y :: ys => by
    show (if PyData.eqv (o.e x).py (o.e y).py = true then ordPs .LtE (D.pys (xs.map o.e)) (D.pys (ys.map o.e)) else match ordP .LtE (o.e x).py (o.e y).py, ordPs .LtE (D.pys (xs.map o.e)) (D.pys (ys.map o.e)) with
      | some r, some _ => some r
      | _, _ => none) = _
    rw [tup_le o xs ys, o.leP, eqv_py _ _ (o.dat x) (o.dat y), o.eq, lexB]
    by_cases c : x = y
    · simp [c]
    · simp [c, Ne.symm c]
theorem tup_depth (o : OE α) {n : Nat} (hd : ∀ a, (o.e a).depth ≤ n) : ∀ xs : List α, D.depths (xs.map o.e) ≤ n
  | [] => Nat.zero_le _
  | x :: xs => by
    show max (o.e x).depth (D.depths (xs.map o.e)) ≤ n
    have := hd x
    have := tup_depth o hd xs
    omega
theorem lex_irr (o : OE α) : ∀ xs : List α, lexB o.lt xs xs = false
  | [] => rfl
  | x :: xs => by rw [lexB, if_pos rfl, lex_irr o xs]
theorem lex_tr (o : OE α) : ∀ xs ys zs : List α, lexB o.lt xs ys = true → lexB o.lt ys zs = true → lexB o.lt xs zs = true
  | [], [], _, h, _ => by simp [lexB] at h
  | [], _ :: _, [], _, h => by simp [lexB] at h
  | [], _ :: _, _ :: _, _, _ => rfl
  | _ :: _, [], _, h, _ => by simp [lexB] at h
  | _ :: _, _ :: _, [], _, h => by simp [lexB] at h
  | x :: xs, y :: ys, z :: zs, h1, h2 => by
    rw [lexB] at h1 h2 ⊢
    by_cases c1 : x = y
    · subst c1
      rw [if_pos rfl] at h1
      by_cases c2 : x = z
      · subst c2
        rw [if_pos rfl] at h2 ⊢
        exact lex_tr o xs ys zs h1 h2
      · rw [if_neg c2] at h2 ⊢; exact h2
    · rw [if_neg c1] at h1
      by_cases c2 : y = z
      · subst c2
        rw [if_neg c1]; exact h1
      · rw [if_neg c2] at h2
        have h3 := o.tr _ _ _ h1 h2
        have c3 : x ≠ z := fun e => by subst e; rw [o.irr] at h3; cases h3
        rw [if_neg c3]; exact h3
theorem lex_tot (o : OE α) : ∀ xs ys : List α, lexB o.lt xs ys = false → lexB o.lt ys xs = false → xs = ys
  | [], [], _, _ => rfl
  | [], _ :: _, h, _ => by simp [lexB] at h
  | _ :: _, [], _, h => by simp [lexB] at h
  | x :: xs, y :: ys, h1, h2 => by
    rw [lexB] at h1 h2
    by_cases c : x = y
    · subst c
      rw [if_pos rfl] at h1 h2
      rw [lex_tot o xs ys h1 h2]
    · rw [if_neg c] at h1
      rw [if_neg (Ne.symm c)] at h2
      exact absurd (o.tot x y h1 h2) c
/-- tuples of such values -/
def OE.tup (hd : ∀ a, (o.e a).depth ≤ 59) : OE (List α) where
  e xs := .tup (xs.map o.e)
  lt := lexB o.lt
  dat xs := by show D.dats (xs.map o.e) = true; exact o.dats
  depth xs := by
    show D.depths (xs.map o.e) + 1 ≤ 60
    have := tup_depth o hd xs; omega
  eq a b := tup_eq o a b
  ltP a b := tup_lt o a b
  leP a b := tup_le o a b
  irr := lex_irr o
  tr := lex_tr o
  tot := lex_tot o
end
theorem cut_from {α : Type} (xs : List α) (i : Nat) : cutD xs (some (i : Int)) none = xs.drop i := by
  unfold cutD
  rw [HT.sIx_nat, HT.sIx_none]
  by_cases c : i ≤ xs.length
  · rw [Nat.min_eq_left c, List.take_of_length_le (by rw [List.length_drop]; omega)]
  · rw [Nat.min_eq_right (by omega), List.drop_of_length_le (Nat.le_refl _), List.drop_of_length_le (by omega)]; simp
theorem cut_to {α : Type} (xs : List α) (i : Nat) : cutD xs none (some (i : Int)) = xs.take i := by
  unfold cutD
  rw [HT.sIx_nat, HT.sIx_none]
  simp
def oF : OE (List (List Nat)) := oS.tup fun _ => Nat.zero_le _
theorem oF_e (xs : List (List Nat)) : oF.e xs = .tup (xs.map D.str) := rfl
end Lw

/-! ascending rows in the program and in the laws -/
namespace Lw
open PySem L2 Iv Fn
variable {fns : Prog} {h h' : IH} {K : D → IH → Prop} {Y : Nat → List D → IH → Prop} {α : Type} [DecidableEq α] (o : OE α) {n : Nat}
theorem get_map {xs : List α} {i : Nat} (hi : i < xs.length) : (xs.map o.e)[i]? = some (o.e xs[i]) := by simp [hi]
theorem slD_lst {xs : List D} {lo hi : Option Int} : slH h (.lst xs) lo hi = some (.lst (cutD xs lo hi)) := rfl
theorem drop_cons {xs : List α} {i : Nat} (hi : i < xs.length) : xs.drop i = xs[i] :: xs.drop (i + 1) := List.drop_eq_getElem_cons hi
theorem merged_ok {xs ys : List α} (hF : fns.lookup 23 = some f23) (hl : xs.length + ys.length ≤ 16000000) (q : K (.lst ((o.mrg xs ys).map o.e)) h) : (callI fns (n + 1) 23 [.lst (xs.map o.e), .lst (ys.map o.e)] h).post K Y := by
  refine call_def hF rfl ?_
  show (evSs (cfgI fns n) b23 [.val (.lst (xs.map o.e)), .val (.lst (ys.map o.e)), .no, .no, .no] h).post _ NoX
  unfold b23
  repeat walk_at "iv"
  refine w_cut (fun x h1 => h1 = h ∧ ∃ (rows : List α) (i j : Nat), x = (.nx, [.val (.lst (xs.map o.e)), .val (.lst (ys.map o.e)), .own (rows.map o.e), .val (.int (i : Nat)), .val (.int (j : Nat))]) ∧ rows ++ xs.drop i ++ ys.drop j = o.mrg xs ys ∧ rows.length + (xs.length - i) + (ys.length - j) ≤ 16000000) ?_ ?_
  · refine y_whlN (fun m env h1 => h1 = h ∧ ∃ (rows : List α) (i j : Nat), env = [.val (.lst (xs.map o.e)), .val (.lst (ys.map o.e)), .own (rows.map o.e), .val (.int (i : Nat)), .val (.int (j : Nat))] ∧ i ≤ xs.length ∧ j ≤ ys.length ∧
      rows ++ o.mrg (xs.drop i) (ys.drop j) = o.mrg xs ys ∧ rows.length ≤ i + j ∧ m = xs.length + ys.length - (i + j)) (xs.length + ys.length) ⟨rfl, [], 0, 0, rfl, Nat.zero_le _, Nat.zero_le _, by simp, Nat.zero_le _, by simp⟩ ?_
    rintro m env h1 ⟨rfl, rows, i, j, rfl, hi, hj, e, hr, rfl⟩
    repeat walk_at "iv"
    refine ⟨fun c1 => ?_, fun c1 => ?_⟩
    · have ci : i < xs.length := by have := of_decide_eq_true c1; rw [List.length_map] at this; omega
      repeat walk_at "iv"
      refine ⟨fun c2 => ?_, fun c2 => ?_⟩
      · have cj : j < ys.length := by have := of_decide_eq_true c2; rw [List.length_map] at this; omega
        have gx : atI (xs.map o.e) (i : Int) = some (o.e xs[i]) := atI_pos (Int.natCast_nonneg i) (get_map o ci)
        have gy : atI (ys.map o.e) (j : Int) = some (o.e ys[j]) := atI_pos (Int.natCast_nonneg j) (get_map o cj)
        have ee : o.mrg (xs.drop i) (ys.drop j) = if o.lt ys[j] xs[i] = true then ys[j] :: o.mrg (xs.drop i) (ys.drop (j + 1)) else if xs[i] = ys[j] then xs[i] :: o.mrg (xs.drop (i + 1)) (ys.drop (j + 1)) else xs[i] :: o.mrg (xs.drop (i + 1)) (ys.drop j) := by
          conv => lhs; rw [drop_cons ci, drop_cons cj, OE.mrg]
          rw [← drop_cons ci, ← drop_cons cj]
        repeat walk_at "iv"
        refine o_ixL gy ?_
        repeat walk_at "iv"
        refine o_ixL gx ?_
        refine o.o_lt ?_
        repeat walk_at "iv"
        refine ⟨fun c3 => ?_, fun c3 => ?_⟩
        · repeat walk_at "iv"
          refine o_ixL gy ⟨by rw [List.length_map]; omega, ?_⟩
          repeat walk_at "iv"
          rw [if_pos c3] at ee
          refine ⟨_, ?_, rfl, rows ++ [ys[j]], i, j + 1, by simp, hi, cj, by rw [← e, ee]; simp, by simp; omega, rfl⟩
          omega
        · repeat walk_at "iv"
          refine o_ixL gx ⟨by rw [List.length_map]; omega, ?_⟩
          repeat walk_at "iv"
          refine o_ixL gx ?_
          repeat walk_at "iv"
          refine o_ixL gy ?_
          refine o.o_eq ?_
          repeat walk_at "iv"
          rw [if_neg (by rw [c3]; exact Bool.false_ne_true)] at ee
          refine ⟨fun c4 => ?_, fun c4 => ?_⟩
          · repeat walk_at "iv"
            rw [if_pos (of_decide_eq_true c4)] at ee
            refine ⟨_, ?_, rfl, rows ++ [xs[i]], i + 1, j + 1, by simp, ci, cj, by rw [← e, ee]; simp, by simp; omega, rfl⟩
            omega
          · repeat walk_at "iv"
            rw [if_neg (of_decide_eq_false c4)] at ee
            refine ⟨_, ?_, rfl, rows ++ [xs[i]], i + 1, j, by simp, ci, hj, by rw [← e, ee]; simp, by simp; omega, rfl⟩
            omega
      · have cj : ys.length ≤ j := by have := of_decide_eq_false c2; rw [List.length_map] at this; omega
        repeat walk_at "iv"
        refine ⟨rfl, rows, i, j, rfl, ?_, by omega⟩
        rw [← e, List.drop_of_length_le cj, OE.mrg_nil]; simp
    · have ci : xs.length ≤ i := by have := of_decide_eq_false c1; rw [List.length_map] at this; omega
      repeat walk_at "iv"
      refine ⟨rfl, rows, i, j, rfl, ?_, by omega⟩
      rw [← e, List.drop_of_length_le ci, OE.mrg]; simp
  · rintro x h1 ⟨rfl, rows, i, j, rfl, e, hl2⟩
    repeat walk_at "iv"
    rw [cut_from]
    refine o_addL (by simp; omega) ?_
    repeat walk_at "iv"
    rw [cut_from]
    refine o_addL (by simp; omega) ?_
    repeat walk_at "iv"
    rw [← List.map_drop, ← List.map_drop, ← List.map_append, ← List.map_append, e]
    exact q
end Lw

/-! ascending rows, the program's way -/
namespace Lw
open PySem L2 Iv Fn
variable {fns : Prog} {h h' : IH} {K : D → IH → Prop} {Y : Nat → List D → IH → Prop} {α : Type} [DecidableEq α] (o : OE α) {n : Nat}
abbrev LL (xs : List α) : D := .lst (xs.map o.e)
def tot (ls : List (List α)) : Nat := (ls.map List.length).sum
theorem tot_cons (x : List α) (ls : List (List α)) : tot (x :: ls) = x.length + tot ls := by simp [tot]
theorem tot_append (a b : List (List α)) : tot (a ++ b) = tot a + tot b := by simp [tot]
theorem len_tot {ls : List (List α)} {x : List α} (h : x ∈ ls) : x.length ≤ tot ls := by
  induction ls with
  | nil => cases h
  | cons y ls ih =>
    rw [tot_cons]
    rcases List.mem_cons.mp h with e | h
    · subst e; omega
    · have := ih h; omega
theorem mrg_len : ∀ (xs ys : List α), (o.mrg xs ys).length ≤ xs.length + ys.length
  | [], ys => by simp [OE.mrg]
  | x :: xs, [] => by rw [OE.mrg_nil]; simp
  | x :: xs, y :: ys => by
    rw [OE.mrg]
    split
    · have := mrg_len (x :: xs) ys; simp only [List.length_cons] at *; omega
    · split
      · have := mrg_len xs ys; simp only [List.length_cons] at *; omega
      · have := mrg_len xs (y :: ys); simp only [List.length_cons] at *; omega
termination_by xs ys => xs.length + ys.length
theorem tot_sing : ∀ rows : List α, tot (rows.map fun a => [a]) = rows.length
  | [] => rfl
  | a :: r => by rw [List.map_cons, tot_cons, tot_sing r]; simp; omega
theorem range3_even (m : Nat) : range3 [.int 0, .int (m : Int), .int 2] = some (rng 0 2 ((m + 1) / 2)) ∨ 16777216 < m := by
  by_cases hm : 16777216 < m
  · exact .inr hm
  refine .inl ?_
  have e : Builtin.Range.rangeSize 0 (m : Int) 2 = (((m + 1) / 2 : Nat) : Int) := by
    unfold Builtin.Range.rangeSize
    rw [if_pos (by decide)]
    split
    · omega
    · omega
  unfold range3
  have sm : Builtin.Range.small 0 (m : Int) 2 = true := by
    have f : ∀ i : Int, -1 ≤ i → i ≤ 33554432 → Builtin.Range.rangeFitsLong i = true := fun i h1 h2 => by
      simp [Builtin.Range.rangeFitsLong]
      omega
    unfold Builtin.Range.small
    rw [e]
    simp only [Bool.and_eq_true, Bool.or_eq_true]
    exact ⟨⟨⟨⟨f _ (by omega) (by omega), f _ (by omega) (by omega)⟩, f _ (by omega) (by omega)⟩, f _ (by omega) (by omega)⟩, .inr (f _ (by omega) (by omega))⟩
  show (if ((2 : Int) ≠ 0 ∧ (2 : Int).natAbs < 1073741824 ∧ Builtin.Range.small 0 (m : Int) 2 = true) ∧ (0 ≤ Builtin.Range.rangeSize 0 (m : Int) 2 ∧ Builtin.Range.rangeSize 0 (m : Int) 2 ≤ 16777216) then some (rng 0 2 (Builtin.Range.rangeSize 0 (m : Int) 2).toNat) else none) = _
  rw [e, if_pos ⟨⟨by decide, by decide, sm⟩, by omega, by omega⟩]
  rfl
theorem rng_split {lo c : Int} {n : Nat} {pre post : List D} {d : D} (e : rng lo c n = pre ++ d :: post) : d = .int (lo + (pre.length : Int) * c) ∧ pre.length < n := by
  have hl : (rng lo c n).length = n := by simp [rng]
  have h1 : pre.length < (rng lo c n).length := by rw [e]; simp
  have h2 : (rng lo c n)[pre.length]? = some d := by rw [e]; simp
  rw [hl] at h1
  refine ⟨?_, h1⟩
  simp [rng, h1] at h2
  exact h2.symm
theorem ascending_okD {d0 : D} {rows : List α} (hd : ∀ h, walkD h d0 = some (none, rows.map o.e)) (hF : fns.lookup 21 = some f21) (hM : fns.lookup 23 = some f23) (hl : rows.length ≤ 8000000) (q : K (.lst ((o.asc rows).map o.e)) h) : (callI fns (n + 2) 21 [d0] h).post K Y := by
  refine call_def hF rfl ?_
  show (evSs (cfgI fns (n + 1)) b21 [.val d0, .no, .no, .no, .no] h).post _ NoX
  unfold b21
  repeat walk_at "iv"
  refine ⟨_, hd h, ?_⟩
  repeat walk_at "iv"
  refine w_compP (fun _ => true) (fun d => .lst [d]) ?_ ?_
  · refine fun d hd => ⟨_, rfl, ?_, fun _ => ?_⟩
    · repeat walk_at "iv"
      exact ⟨rfl, rfl⟩
    · repeat walk_at "iv"
      exact ⟨rfl, rfl⟩
  repeat walk_at "iv"
  have e0 : ((rows.map o.e).filter fun _ => true).map (fun d => D.lst [d]) = (rows.map fun a => [a]).map (LL o) := by
    rw [List.filter_eq_self.mpr (fun _ _ => rfl), List.map_map, List.map_map]
    rfl
  rw [e0]
  refine w_cut (fun x h1 => h1 = h ∧ ∃ (ls : List (List α)) (s1 s3 s4 : Sl), x = (.nx, [.val d0, s1, .val (.lst (ls.map (LL o))), s3, s4]) ∧ ls.length ≤ 1 ∧ (∀ xs ∈ ls, o.Asc xs) ∧ ∀ a, (∃ xs ∈ ls, a ∈ xs) ↔ a ∈ rows) ?_ ?_
  · refine y_whlN (fun m env h1 => h1 = h ∧ ∃ (ls : List (List α)) (s1 s3 s4 : Sl), env = [.val d0, s1, .val (.lst (ls.map (LL o))), s3, s4] ∧ ls.length = m ∧ (∀ xs ∈ ls, o.Asc xs) ∧ (∀ a, (∃ xs ∈ ls, a ∈ xs) ↔ a ∈ rows) ∧ ls.length ≤ 8000000 ∧ tot ls ≤ 8000000) rows.length
      ⟨rfl, rows.map fun a => [a], _, _, _, rfl, by simp, fun xs hx => ?_, fun a => ?_, by simpa using hl, ?_⟩ ?_
    · obtain ⟨a, _, rfl⟩ := List.mem_map.mp hx
      exact List.pairwise_singleton _ _
    · constructor
      · rintro ⟨xs, hx, h⟩
        obtain ⟨b, hb, rfl⟩ := List.mem_map.mp hx
        rw [List.mem_singleton.mp h]; exact hb
      · exact fun h => ⟨[a], List.mem_map.mpr ⟨a, h, rfl⟩, List.mem_singleton.mpr rfl⟩
    · rw [tot_sing]; exact hl
    rintro m env h1 ⟨rfl, ls, s1, s3, s4, rfl, rfl, ha, hm, hn, ht⟩
    repeat walk_at "iv"
    refine ⟨fun c1 => ?_, fun c1 => ?_⟩
    · have c : 1 < ls.length := by have := of_decide_eq_true c1; rw [List.length_map] at this; omega
      repeat walk_at "iv"
      have er : range3 [.int 0, .int (((ls.map (LL o)).length : Int) - 1), .int 2] = some (rng 0 2 (ls.length / 2)) := by
        rw [List.length_map, show ((ls.length : Int) - 1) = ((ls.length - 1 : Nat) : Int) by omega]
        rcases range3_even (ls.length - 1) with e | e
        · rw [e, show (ls.length - 1 + 1) / 2 = ls.length / 2 by omega]
        · omega
      refine ⟨_, er, ?_⟩
      refine f_for (fun pre env h2 => h2 = h1 ∧ ∃ (ps : List (List α)) (s1 s4 : Sl), env = [.val d0, s1, .val (.lst (ls.map (LL o))), .own (ps.map (LL o)), s4] ∧ ps.length = pre.length ∧ (∀ xs ∈ ps, o.Asc xs) ∧
        (∀ a, (∃ xs ∈ ps, a ∈ xs) ↔ ∃ xs ∈ ls.take (2 * pre.length), a ∈ xs) ∧ tot ps ≤ tot (ls.take (2 * pre.length))) ⟨rfl, [], _, _, rfl, rfl, (fun _ h => by cases h), (fun a => by simp), by simp [tot]⟩ ?_ ?_
      · rintro pre d post env h2 e ⟨rfl, ps, s1, s4, rfl, e1, e2, e3, e4⟩
        obtain ⟨rfl, hp⟩ := rng_split e
        refine ⟨_, rfl, ?_⟩
        have i1 : 2 * pre.length < ls.length := by omega
        have i2 : 2 * pre.length + 1 < ls.length := by omega
        repeat walk_at "iv"
        refine o_ixL (d := LL o ls[2 * pre.length]) (atI_pos (by omega) ?_) ?_
        · rw [show ((0 : Int) + (pre.length : Int) * 2).toNat = 2 * pre.length by omega]; simp [i1]
        repeat walk_at "iv"
        refine o_ixL (d := LL o ls[2 * pre.length + 1]) (atI_pos (by omega) ?_) ?_
        · rw [show ((0 : Int) + (pre.length : Int) * 2 + 1).toNat = 2 * pre.length + 1 by omega]; simp [i2]
        repeat walk_at "iv"
        have l1 := len_tot (List.getElem_mem i1)
        have l2 := len_tot (List.getElem_mem i2)
        have tk : ls.take (2 * (pre.length + 1)) = ls.take (2 * pre.length) ++ [ls[2 * pre.length], ls[2 * pre.length + 1]] := by
          rw [show 2 * (pre.length + 1) = 2 * pre.length + 1 + 1 by omega, List.take_succ_eq_append_getElem i2, List.take_succ_eq_append_getElem i1, List.append_assoc]; rfl
        refine merged_ok o hM (by omega) ⟨by rw [List.length_map]; omega, ?_⟩
        repeat walk_at "iv"
        refine ⟨rfl, ps ++ [o.mrg ls[2 * pre.length] ls[2 * pre.length + 1]], _, _, by rw [List.map_append]; rfl, by simp [e1], fun xs hx => ?_, fun a => ?_, ?_⟩
        · rcases List.mem_append.mp hx with hx | hx
          · exact e2 xs hx
          · rw [List.mem_singleton.mp hx]
            exact o.asc_mrg (ha _ (List.getElem_mem i1)) (ha _ (List.getElem_mem i2))
        · rw [List.length_append, List.length_singleton, tk]
          simp only [List.mem_append, List.mem_cons, List.not_mem_nil, or_false, or_and_right, exists_or, exists_eq_left, o.mem_mrg]
          rw [e3]
        · rw [List.length_append, List.length_singleton, tk, tot_append, tot_append, tot_cons, tot_cons, tot_cons]
          have := mrg_len o ls[2 * pre.length] ls[2 * pre.length + 1]
          simp only [tot, List.map_nil, List.sum_nil] at *
          omega
      · rintro env h2 ⟨rfl, ps, s1, s4, rfl, e1, e2, e3, e4⟩
        have hr : (rng 0 2 (ls.length / 2)).length = ls.length / 2 := by simp [rng]
        rw [hr] at e1 e3 e4
        repeat walk_at "iv"
        refine ⟨fun c2 => ?_, fun c2 => ?_⟩
        · have od : ls.length % 2 = 1 := by
            rw [List.length_map, PyProof.Rows.bitAnd_m1] at c2
            have := bne_iff_ne.mp c2
            omega
          repeat walk_at "iv"
          refine o_ixL (d := LL o ls[ls.length - 1]) (atI_neg (by decide) (by rw [List.length_map]; omega) ?_) ⟨by rw [List.length_map]; omega, ?_⟩
          · rw [List.length_map, show ((-1 : Int) + (ls.length : Int)).toNat = ls.length - 1 by omega, List.getElem?_map, List.getElem?_eq_getElem (by omega)]; rfl
          repeat walk_at "iv"
          have tk : ls = ls.take (2 * (ls.length / 2)) ++ [ls[ls.length - 1]] := by
            have h1 : ls.take (2 * (ls.length / 2)) = ls.take (ls.length - 1) := by congr 1; omega
            rw [h1]
            conv => lhs; rw [← List.take_length (l := ls)]
            rw [show ls.take ls.length = ls.take (ls.length - 1 + 1) by congr 1; omega, List.take_succ_eq_append_getElem (by omega)]
          refine ⟨ls.length / 2 + 1, by omega, rfl, ps ++ [ls[ls.length - 1]], _, _, _, by rw [List.map_append]; rfl, by simp [e1], fun xs hx => ?_, fun a => ?_, by simp [e1]; omega, ?_⟩
          · rcases List.mem_append.mp hx with hx | hx
            · exact e2 xs hx
            · rw [List.mem_singleton.mp hx]; exact ha _ (List.getElem_mem _)
          · rw [← hm a]
            conv => rhs; rw [tk]
            simp only [List.mem_append, List.mem_cons, List.not_mem_nil, or_false, or_and_right, exists_or, exists_eq_left]
            rw [e3]
          · rw [tk, tot_append] at ht
            rw [tot_append]; omega
        · have ev : ls.length % 2 = 0 := by
            rw [List.length_map, PyProof.Rows.bitAnd_m1] at c2
            have : ¬ (((ls.length : Int) % 2) ≠ 0) := fun c => by rw [bne_iff_ne.mpr c] at c2; cases c2
            omega
          repeat walk_at "iv"
          have tk : ls.take (2 * (ls.length / 2)) = ls := by rw [show 2 * (ls.length / 2) = ls.length by omega, List.take_length]
          rw [tk] at e3 e4
          refine ⟨ls.length / 2, by omega, rfl, ps, _, _, _, rfl, e1, e2, fun a => ?_, by omega, by omega⟩
          rw [e3, hm]
    · have c : ls.length ≤ 1 := by have := of_decide_eq_false c1; rw [List.length_map] at this; omega
      repeat walk_at "iv"
      exact ⟨rfl, ls, s1, s3, s4, rfl, c, ha, hm⟩
  · rintro x h1 ⟨rfl, ls, s1, s3, s4, rfl, hc, ha, hm⟩
    repeat walk_at "iv"
    match ls, hc, ha, hm with
    | [], _, ha, hm =>
      refine ⟨fun _ => ?_, fun c => absurd c (by simp)⟩
      repeat walk_at "iv"
      have : o.asc rows = [] := by
        refine (o.asc_of List.Pairwise.nil fun a => ?_).symm
        rw [← hm]; simp
      rw [this] at q
      exact q
    | [xs], _, ha, hm =>
      refine ⟨fun c => absurd c (by simp), fun _ => ?_⟩
      repeat walk_at "iv"
      have : o.asc rows = xs := by
        refine (o.asc_of (ha xs List.mem_cons_self) fun a => ?_).symm
        rw [← hm]; simp
      rw [this] at q
      exact q
theorem ascending_ok {rows : List α} (hF : fns.lookup 21 = some f21) (hM : fns.lookup 23 = some f23) (hl : rows.length ≤ 8000000) (q : K (.lst ((o.asc rows).map o.e)) h) : (callI fns (n + 2) 21 [.lst (rows.map o.e)] h).post K Y := ascending_okD o (fun _ => rfl) hF hM hl q
end Lw

/-! ascending rows, the laws' way -/
namespace Lw
open PySem L2 Iv Fn
variable {fns : Prog} {h h' : IH} {K : D → IH → Prop} {Y : Nat → List D → IH → Prop} {α : Type} [DecidableEq α] (o : OE α) {n : Nat}
theorem OE.mem_map {a : α} {xs : List α} : o.e a ∈ xs.map o.e ↔ a ∈ xs := by
  rw [List.mem_map]
  exact ⟨fun ⟨b, hb, e⟩ => o.inj e ▸ hb, fun h => ⟨a, h, rfl⟩⟩
/-- where a value is put -/
theorem put_asc {found : List α} {row : α} {at_ : Nat} (hf : o.Asc found) (hl : at_ ≤ found.length) (h1 : ∀ j (hj : j < found.length), at_ ≤ j → o.lt row found[j] = true) (h2 : ∀ j (hj : j < found.length), j < at_ → o.lt found[j] row = true) :
    o.Asc (found.take at_ ++ [row] ++ found.drop at_) := by
  unfold OE.Asc
  rw [List.append_assoc, List.pairwise_append]
  refine ⟨hf.sublist (List.take_sublist _ _), ?_, fun a ha b hb => ?_⟩
  · rw [List.singleton_append, List.pairwise_cons]
    refine ⟨fun b hb => ?_, hf.sublist (List.drop_sublist _ _)⟩
    obtain ⟨j, hj, e⟩ := List.mem_iff_getElem.mp hb
    rw [List.getElem_drop] at e
    rw [← e]
    exact h1 _ (by rw [List.length_drop] at hj; omega) (by omega)
  · obtain ⟨i, hi, e⟩ := List.mem_iff_getElem.mp ha
    rw [List.getElem_take] at e
    rw [List.length_take] at hi
    have l1 : o.lt a row = true := by rw [← e]; exact h2 i (by omega) (by omega)
    rw [List.singleton_append] at hb
    rcases List.mem_cons.mp hb with e2 | hb
    · rw [e2]; exact l1
    · obtain ⟨j, hj, e2⟩ := List.mem_iff_getElem.mp hb
      rw [List.getElem_drop] at e2
      rw [List.length_drop] at hj
      refine o.tr _ _ _ l1 ?_
      rw [← e2]
      exact h1 _ (by omega) (by omega)
theorem asc_get {found : List α} (hf : o.Asc found) {i j : Nat} (hi : i < found.length) (hj : j < found.length) (l : i < j) : o.lt found[i] found[j] = true := (List.pairwise_iff_getElem.mp hf) i j hi hj l
theorem rng0_split {n : Nat} {pre post : List D} {d : D} (e : rng 0 1 n = pre ++ d :: post) : d = .int (pre.length : Int) ∧ pre.length < n := by
  obtain ⟨h1, h2⟩ := rng_split e
  exact ⟨by rw [h1]; simp, h2⟩
theorem rng_len {lo c : Int} {n : Nat} : (rng lo c n).length = n := by simp [rng]
theorem lawasc_ok {rows : List α} (hF : fns.lookup 15 = some f15) (hl : rows.length ≤ 8000000) (q : K (.lst ((o.asc rows).map o.e)) h) : (callI fns (n + 1) 15 [.lst (rows.map o.e)] h).post K Y := by
  refine call_def hF rfl ?_
  show (evSs (cfgI fns n) b15 [.val (.lst (rows.map o.e)), .no, .no, .no, .no] h).post _ NoX
  unfold b15
  repeat walk_at "iv"
  refine f_for (fun pre env h1 => h1 = h ∧ ∃ (found : List α) (s2 s3 s4 : Sl), env = [.val (.lst (rows.map o.e)), .own (found.map o.e), s2, s3, s4] ∧ o.Asc found ∧ (∀ a, a ∈ found ↔ o.e a ∈ pre) ∧ found.length ≤ pre.length)
    ⟨rfl, [], _, _, _, rfl, List.Pairwise.nil, fun a => by simp, Nat.zero_le _⟩ ?_ ?_
  · rintro pre d post env h1 e ⟨rfl, found, s2, s3, s4, rfl, ha, hm, hn⟩
    obtain ⟨row, hrow, rfl⟩ : ∃ a, a ∈ rows ∧ o.e a = d := List.mem_map.mp (by rw [e]; simp)
    have hpl : pre.length < rows.length := by have := congrArg List.length e; simp at this; omega
    refine ⟨_, rfl, ?_⟩
    repeat walk_at "iv"
    refine o_rg1 ⟨by omega, by simp; omega⟩ ?_
    rw [List.length_map, Int.toNat_natCast]
    refine w_cut (fun x h2 => h2 = h1 ∧ ∃ (t : Nat) (s4 : Sl), x = (.nx, [.val (.lst (rows.map o.e)), .own (found.map o.e), .val (o.e row), .val (.int (t : Nat)), s4]) ∧ t ≤ found.length ∧ (∀ j (hj : j < found.length), t ≤ j → o.lt row found[j] = true) ∧
      (∀ j (hj : j < found.length), j + 1 = t → o.lt row found[j] = false)) ?_ ?_
    · refine f_for (fun pre env h2 => h2 = h1 ∧ pre.length ≤ found.length ∧ ∃ (s4 : Sl), env = [.val (.lst (rows.map o.e)), .own (found.map o.e), .val (o.e row), .val (.int ((found.length - pre.length : Nat) : Int)), s4] ∧
        (∀ j (hj : j < found.length), found.length - pre.length ≤ j → o.lt row found[j] = true)) ⟨rfl, Nat.zero_le _, _, by simp; rfl, fun j hj l => by simp at l; omega⟩ ?_ ?_
      · rintro pre d post env h2 e ⟨rfl, hp, s4, rfl, h3⟩
        obtain ⟨rfl, hp2⟩ := rng0_split e
        refine ⟨_, rfl, ?_⟩
        have hi : found.length - pre.length - 1 < found.length := by omega
        repeat walk_at "iv"
        refine o_ixL (d := o.e found[found.length - pre.length - 1]) (atI_pos (by omega) ?_) ?_
        · rw [show (((found.length - pre.length : Nat) : Int) - 1).toNat = found.length - pre.length - 1 by omega, List.getElem?_map, List.getElem?_eq_getElem hi]; rfl
        refine o.o_le ?_
        repeat walk_at "iv"
        refine ⟨fun c => ?_, fun c => ?_⟩
        · repeat walk_at "iv"
          refine ⟨rfl, _, _, rfl, by omega, h3, fun j hj e2 => ?_⟩
          have e3 : j = found.length - pre.length - 1 := by omega
          subst e3
          simpa using c
        · repeat walk_at "iv"
          refine ⟨rfl, by simp; omega, .val (.int (pre.length : Int)), ?_, fun j hj l => ?_⟩
          · rw [List.length_append, List.length_singleton]
            rw [show ((found.length - (pre.length + 1) : Nat) : Int) = ((found.length - pre.length : Nat) : Int) - 1 by omega]
            rfl
          · rw [List.length_append, List.length_singleton] at l
            by_cases e3 : j = found.length - pre.length - 1
            · subst e3; simpa using c
            · exact h3 j hj (by omega)
      · rintro env h2 ⟨rfl, hp, s4, rfl, h3⟩
        rw [rng_len] at h3
        refine ⟨rfl, 0, s4, ?_, Nat.zero_le _, fun j hj _ => h3 j hj (by omega), fun j hj e => by omega⟩
        rw [rng_len, Nat.sub_self]; done
    · rintro x h2 ⟨rfl, t, s4, rfl, ht, h3, h4⟩
      have low : ∀ (ne : ∀ j (hj : j < found.length), j + 1 = t → found[j] ≠ row), ∀ j (hj : j < found.length), j < t → o.lt found[j] row = true := fun ne j hj l => by
        have k1 : t - 1 < found.length := by omega
        have k2 : o.lt found[t - 1] row = true := by
          cases c : o.lt found[t - 1] row with
          | true => rfl
          | false => exact absurd (o.tot _ _ c (h4 (t - 1) k1 (by omega))) (ne _ k1 (by omega))
        by_cases e : j = t - 1
        · subst e; exact k2
        · exact o.tr _ _ _ (asc_get o ha hj k1 (by omega)) k2
      -- the new row
      have newA : ∀ (ne : ∀ j (hj : j < found.length), j + 1 = t → found[j] ≠ row), o.Asc (found.take t ++ [row] ++ found.drop t) ∧ ∀ a, a ∈ found.take t ++ [row] ++ found.drop t ↔ o.e a ∈ pre ++ [o.e row] := fun ne => by
        refine ⟨put_asc o ha ht h3 (low ne), fun a => ?_⟩
        rw [List.mem_append, List.mem_append, List.mem_append, List.mem_singleton, List.mem_singleton, ← hm a]
        have sp : a ∈ found ↔ a ∈ found.take t ∨ a ∈ found.drop t := by conv => lhs; rw [← List.take_append_drop t found, List.mem_append]
        rw [sp]
        constructor
        · rintro ((h | h) | h)
          · exact .inl (.inl h)
          · exact .inr (congrArg o.e h)
          · exact .inl (.inr h)
        · rintro ((h | h) | h)
          · exact .inl (.inl h)
          · exact .inr h
          · exact .inl (.inr (o.inj h))
      have ixA : ∀ {P : D → Prop}, (0 < t) → (∀ (hj : t - 1 < found.length), P (o.e found[t - 1])) → ∃ d, ixH h2 (.lst (found.map o.e)) (.int ((t : Int) - 1)) = some d ∧ P d := fun hp hq => by
        have hj : t - 1 < found.length := by omega
        refine o_ixL (atI_pos (by omega) ?_) (hq hj)
        rw [show ((t : Int) - 1).toNat = t - 1 by omega, List.getElem?_map, List.getElem?_eq_getElem hj]; rfl
      have old : ∀ (e : ∃ (hj : t - 1 < found.length), 0 < t ∧ found[t - 1] = row), ∀ a, a ∈ found ↔ o.e a ∈ pre ++ [o.e row] := fun ⟨hj, _, e⟩ a => by
        rw [List.mem_append, List.mem_singleton, ← hm a]
        refine ⟨.inl, ?_⟩
        rintro (h | h)
        · exact h
        · rw [o.inj h, ← e]; exact List.getElem_mem hj
      repeat walk_at "iv"
      -- at == 0 or found[at - 1] != row
      have tst : ∀ {Q1 Q2 : Prop}, ((∀ j (hj : j < found.length), j + 1 = t → found[j] ≠ row) → Q1) → ((∃ (hj : t - 1 < found.length), 0 < t ∧ found[t - 1] = row) → Q2) →
          ∀ (hj : t - 1 < found.length), 0 < t → Two Q1 (!decide (found[t - 1] = row)) Q2 := fun q1 q2 hj hp => by
        refine ⟨fun c => q1 fun j hj' e => ?_, fun c => q2 ⟨hj, hp, ?_⟩⟩
        · have e : j = t - 1 := by omega
          subst e
          simpa using c
        · simpa using c
      refine ⟨fun c1 => ?_, fun c1 => ?_⟩
      · have c1 : t = found.length := by simp at c1; omega
        repeat walk_at "iv"
        refine ⟨fun c2 => ?_, fun c2 => ?_⟩
        · have c2 : t = 0 := by simp at c2; omega
          have ne : ∀ j (hj : j < found.length), j + 1 = t → found[j] ≠ row := fun j hj e => by omega
          obtain ⟨a1, a2⟩ := newA ne
          have ee : found.take t ++ [row] ++ found.drop t = found ++ [row] := by rw [c1]; simp
          rw [ee] at a1 a2
          repeat walk_at "iv"
          refine ⟨by rw [List.length_map]; omega, ?_⟩
          repeat walk_at "iv"
          exact ⟨rfl, found ++ [row], _, _, _, by rw [List.map_append]; rfl, a1, a2, by simp; omega⟩
        · have c2 : 0 < t := by simp at c2; omega
          repeat walk_at "iv"
          refine ixA c2 fun hj => ?_
          refine o.o_ne ?_
          repeat walk_at "iv"
          refine tst (fun ne => ?_) (fun oe => ?_) hj c2
          · obtain ⟨a1, a2⟩ := newA ne
            have ee : found.take t ++ [row] ++ found.drop t = found ++ [row] := by rw [c1]; simp
            rw [ee] at a1 a2
            repeat walk_at "iv"
            refine ⟨by rw [List.length_map]; omega, ?_⟩
            repeat walk_at "iv"
            exact ⟨rfl, found ++ [row], _, _, _, by rw [List.map_append]; rfl, a1, a2, by simp; omega⟩
          · repeat walk_at "iv"
            refine ⟨fun c => ?_, fun _ => ?_⟩
            · have : t = 0 := by simp at c; omega
              omega
            repeat walk_at "iv"
            refine ixA c2 fun hj => ?_
            refine o.o_ne ?_
            repeat walk_at "iv"
            refine tst (fun ne => ?_) (fun oe => ?_) hj c2
            · exact absurd oe.2.2 (ne _ oe.1 (by omega))
            · repeat walk_at "iv"
              exact ⟨rfl, found, _, _, _, rfl, ha, old oe, by simp; omega⟩
      · have c1 : t ≠ found.length := by simp at c1; omega
        repeat walk_at "iv"
        refine ⟨fun c2 => ?_, fun c2 => ?_⟩
        · have c2 : t = 0 := by simp at c2; omega
          have ne : ∀ j (hj : j < found.length), j + 1 = t → found[j] ≠ row := fun j hj e => by omega
          obtain ⟨a1, a2⟩ := newA ne
          repeat walk_at "iv"
          rw [cut_to]
          refine o_addL (by simp; omega) ?_
          repeat walk_at "iv"
          rw [cut_from]
          refine o_addL (by simp; omega) ?_
          repeat walk_at "iv"
          exact ⟨rfl, found.take t ++ [row] ++ found.drop t, _, _, _, by rw [List.map_append, List.map_append, List.map_take, List.map_drop]; rfl, a1, a2, by simp; omega⟩
        · have c2 : 0 < t := by simp at c2; omega
          repeat walk_at "iv"
          refine ixA c2 fun hj => ?_
          refine o.o_ne ?_
          repeat walk_at "iv"
          refine tst (fun ne => ?_) (fun oe => ?_) hj c2
          · obtain ⟨a1, a2⟩ := newA ne
            repeat walk_at "iv"
            rw [cut_to]
            refine o_addL (by simp; omega) ?_
            repeat walk_at "iv"
            rw [cut_from]
            refine o_addL (by simp; omega) ?_
            repeat walk_at "iv"
            exact ⟨rfl, found.take t ++ [row] ++ found.drop t, _, _, _, by rw [List.map_append, List.map_append, List.map_take, List.map_drop]; rfl, a1, a2, by simp; omega⟩
          · repeat walk_at "iv"
            exact ⟨rfl, found, _, _, _, rfl, ha, old oe, by simp; omega⟩
  · rintro env h1 ⟨rfl, found, s2, s3, s4, rfl, ha, hm, hn⟩
    repeat walk_at "iv"
    have : found = o.asc rows := o.asc_of ha fun a => by rw [hm, o.mem_map]
    rw [this]
    exact q
end Lw

/-! names, words, patterns -/
namespace Lw
open PySem L2 Iv Fn
variable {fns : Prog} {h h' : IH} {K : D → IH → Prop} {Y : Nat → List D → IH → Prop} {n : Nat}
abbrev lettersL : List Nat := [97, 98, 99, 100, 101, 102, 103, 104, 105, 106, 107, 108, 109, 110, 111, 112, 113, 114, 115, 116, 117, 118, 119, 120, 121, 122]
abbrev capitalsL : List Nat := [65, 66, 67, 68, 69, 70, 71, 72, 73, 74, 75, 76, 77, 78, 79, 80, 81, 82, 83, 84, 85, 86, 87, 88, 89, 90]
abbrev digitsL : List Nat := [48, 49, 50, 51, 52, 53, 54, 55, 56, 57]
def nameB (z : List Nat) : Bool := match z with
  | [] => false
  | c :: r => decide ((c :: r).length ≤ 8) && decide (c ∈ lettersL) && (c :: r).all fun c => decide (c ∈ lettersL) || decide (c ∈ digitsL)
def wordB (z : List Nat) : Bool := match z with
  | [] => false
  | c :: r => decide ((c :: r).length ≤ 8) && decide (c ∈ capitalsL) && (c :: r).all fun c => decide (c ∈ lettersL) || decide (c ∈ capitalsL) || decide (c ∈ digitsL)
theorem nameB_cons (c : Nat) (r : List Nat) : nameB (c :: r) = (decide ((c :: r).length ≤ 8) && decide (c ∈ lettersL) && (c :: r).all fun c => decide (c ∈ lettersL) || decide (c ∈ digitsL)) := rfl
theorem wordB_cons (c : Nat) (r : List Nat) : wordB (c :: r) = (decide ((c :: r).length ≤ 8) && decide (c ∈ capitalsL) && (c :: r).all fun c => decide (c ∈ lettersL) || decide (c ∈ capitalsL) || decide (c ∈ digitsL)) := rfl
theorem name_ok {z : List Nat} (hF : fns.lookup 25 = some f25) (q : K (.bl (nameB z)) h) : (callI fns (n + 1) 25 [.str z] h).post K Y := by
  refine call_def hF rfl ?_
  show (evSs (cfgI fns n) b25 [.val (.str z), .no] h).post _ NoX
  unfold b25
  repeat walk_at "iv"
  cases z with
  | nil =>
    refine ⟨fun c => absurd (of_decide_eq_true c) (by decide), fun _ => ?_⟩
    repeat walk_at "iv"
    exact q
  | cons c r =>
    refine ⟨fun _ => ?_, fun c => absurd (of_decide_eq_false c) (by simp; omega)⟩
    repeat walk_at "iv"
    have fin : ∀ b : Bool, (b = true → decide ((c :: r).length ≤ 8) = false ∨ decide (c ∈ lettersL) = false) → b = true → K (.bl false) h := fun b e e2 => by
      have : nameB (c :: r) = false := by
        rw [nameB_cons]
        rcases e e2 with e | e <;> rw [e] <;> simp
      rw [this] at q; exact q
    refine ⟨fun c1 => ?_, fun c1 => ?_⟩
    · repeat walk_at "iv"
      exact fin true (fun _ => .inl (by simp at c1 ⊢; omega)) rfl
    · have c1 : (c :: r).length ≤ 8 := by simp at c1 ⊢; omega
      repeat walk_at "iv"
      refine ⟨fun c2 => ?_, fun c2 => ?_⟩
      · repeat walk_at "iv"
        exact fin true (fun _ => .inr (not_true c2)) rfl
      · have c2 : c ∈ lettersL := of_decide_eq_true (nfalse c2)
        repeat walk_at "iv"
        refine w_compA (fun c => .str [c]) (fun c => .bl (decide (c ∈ lettersL) || decide (c ∈ digitsL))) ?_ ?_
        · refine fun d hd => ⟨_, rfl, ?_⟩
          repeat walk_at "iv"
          refine ⟨fun c3 => ?_, fun c3 => ?_⟩
          · exact ⟨rfl, by rw [c3]; rfl⟩
          · repeat walk_at "iv"
            exact ⟨rfl, by rw [c3]; rfl⟩
        · repeat walk_at "iv"
          refine o_all (bs := (c :: r).map fun c => decide (c ∈ lettersL) || decide (c ∈ digitsL)) (by rw [List.map_map]; rfl) ?_
          repeat walk_at "iv"
          have : nameB (c :: r) = ((c :: r).map fun c => decide (c ∈ lettersL) || decide (c ∈ digitsL)).all id := by
            rw [nameB_cons, decide_eq_true c1, decide_eq_true c2, List.all_map]; rfl
          rw [← this]
          exact q
theorem word_ok {z : List Nat} (hF : fns.lookup 24 = some f24) (q : K (.bl (wordB z)) h) : (callI fns (n + 1) 24 [.str z] h).post K Y := by
  refine call_def hF rfl ?_
  show (evSs (cfgI fns n) b24 [.val (.str z), .no] h).post _ NoX
  unfold b24
  repeat walk_at "iv"
  cases z with
  | nil =>
    refine ⟨fun c => absurd (of_decide_eq_true c) (by decide), fun _ => ?_⟩
    repeat walk_at "iv"
    exact q
  | cons c r =>
    refine ⟨fun _ => ?_, fun c => absurd (of_decide_eq_false c) (by simp; omega)⟩
    repeat walk_at "iv"
    have fin : ∀ b : Bool, (b = true → decide ((c :: r).length ≤ 8) = false ∨ decide (c ∈ capitalsL) = false) → b = true → K (.bl false) h := fun b e e2 => by
      have : wordB (c :: r) = false := by
        rw [wordB_cons]
        rcases e e2 with e | e <;> rw [e] <;> simp
      rw [this] at q; exact q
    refine ⟨fun c1 => ?_, fun c1 => ?_⟩
    · repeat walk_at "iv"
      exact fin true (fun _ => .inl (by simp at c1 ⊢; omega)) rfl
    · have c1 : (c :: r).length ≤ 8 := by simp at c1 ⊢; omega
      repeat walk_at "iv"
      refine ⟨fun c2 => ?_, fun c2 => ?_⟩
      · repeat walk_at "iv"
        exact fin true (fun _ => .inr (not_true c2)) rfl
      · have c2 : c ∈ capitalsL := of_decide_eq_true (nfalse c2)
        repeat walk_at "iv"
        refine w_compA (fun c => .str [c]) (fun c => .bl (decide (c ∈ lettersL) || decide (c ∈ capitalsL) || decide (c ∈ digitsL))) ?_ ?_
        · refine fun d hd => ⟨_, rfl, ?_⟩
          repeat walk_at "iv"
          refine ⟨fun c3 => ?_, fun c3 => ?_⟩
          · exact ⟨rfl, by rw [c3]; rfl⟩
          · repeat walk_at "iv"
            refine ⟨fun c4 => ?_, fun c4 => ?_⟩
            · exact ⟨rfl, by rw [c3, c4]; rfl⟩
            · repeat walk_at "iv"
              exact ⟨rfl, by rw [c3, c4]; rfl⟩
        · repeat walk_at "iv"
          refine o_all (bs := (c :: r).map fun c => decide (c ∈ lettersL) || decide (c ∈ capitalsL) || decide (c ∈ digitsL)) (by rw [List.map_map]; rfl) ?_
          repeat walk_at "iv"
          have : wordB (c :: r) = ((c :: r).map fun c => decide (c ∈ lettersL) || decide (c ∈ capitalsL) || decide (c ∈ digitsL)).all id := by
            rw [wordB_cons, decide_eq_true c1, decide_eq_true c2, List.all_map]; rfl
          rw [← this]
          exact q
/-- a pattern: a word, then names or nothing, one or two -/
def patB (p : List (List Nat)) : Bool := match p with
  | [] => false
  | w :: r => (decide (r.length = 1) || decide (r.length = 2)) && wordB w && r.all fun x => decide (x = []) || nameB x
abbrev TS (p : List (List Nat)) : D := .tup (p.map D.str)
theorem pat_ok {p : List (List Nat)} (hF : fns.lookup 22 = some f22) (hW : fns.lookup 24 = some f24) (hN : fns.lookup 25 = some f25) (q : K (.bl (patB p)) h) : (callI fns (n + 2) 22 [TS p] h).post K Y := by
  refine call_def hF rfl ?_
  show (evSs (cfgI fns (n + 1)) b22 [.val (TS p), .no] h).post _ NoX
  unfold b22
  repeat walk_at "iv"
  refine o_ninT ?_ ?_
  · rfl
  repeat walk_at "iv"
  have em : memD (.int (p.map D.str).length) [.int 2, .int 3] = (decide (p.length = 2) || decide (p.length = 3)) := by
    simp only [memD, List.any_cons, List.any_nil, D.eqv, List.length_map, Bool.or_false]
    rw [Bool.eq_iff_iff]
    simp
    omega
  rw [em]
  cases p with
  | nil =>
    refine ⟨fun _ => ?_, fun c => by cases c⟩
    repeat walk_at "iv"
    exact q
  | cons w r =>
    have e1 : patB (w :: r) = ((decide (r.length = 1) || decide (r.length = 2)) && wordB w && r.all fun x => decide (x = []) || nameB x) := rfl
    have e2 : (decide ((w :: r).length = 2) || decide ((w :: r).length = 3)) = (decide (r.length = 1) || decide (r.length = 2)) := by
      rw [Bool.eq_iff_iff]; simp
    rw [e2]
    refine ⟨fun c1 => ?_, fun c1 => ?_⟩
    · have c1 : (decide (r.length = 1) || decide (r.length = 2)) = false := not_true c1
      repeat walk_at "iv"
      rw [e1, c1] at q
      exact q
    · have c1 : (decide (r.length = 1) || decide (r.length = 2)) = true := nfalse c1
      repeat walk_at "iv"
      refine word_ok hW ?_
      repeat walk_at "iv"
      refine ⟨fun c2 => ?_, fun c2 => ?_⟩
      · have c2 : wordB w = false := not_true c2
        repeat walk_at "iv"
        rw [e1, c1, c2] at q
        exact q
      · have c2 : wordB w = true := nfalse c2
        repeat walk_at "iv"
        rw [show ((1 : Int)) = ((1 : Nat) : Int) from rfl, cut_from]
        refine w_compA D.str (fun x => .bl (decide (x = []) || nameB x)) ?_ ?_
        · refine fun d hd => ⟨_, rfl, ?_⟩
          repeat walk_at "iv"
          have ed : (d == ([] : List Nat)) = decide (d = []) := by rw [Bool.eq_iff_iff]; simp
          rw [ed]
          refine ⟨fun c3 => ?_, fun c3 => ?_⟩
          · exact ⟨rfl, by rw [c3]; rfl⟩
          · repeat walk_at "iv"
            refine name_ok hN ?_
            repeat walk_at "iv"
            exact ⟨rfl, by rw [c3]; rfl⟩
        · repeat walk_at "iv"
          refine o_all (bs := r.map fun x => decide (x = []) || nameB x) (by rw [List.map_map]; rfl) ?_
          repeat walk_at "iv"
          have : patB (w :: r) = (r.map fun x => decide (x = []) || nameB x).all id := by
            rw [e1, c1, c2, List.all_map]; rfl
          rw [← this]
          exact q
end Lw

/-! what fits a pattern, what a pattern covers -/
namespace Lw
open PySem L2 Iv Fn
variable {fns : Prog} {h h' : IH} {K : D → IH → Prop} {Y : Nat → List D → IH → Prop} {n : Nat}
def cov1 (x : List Nat × List Nat) : Bool := decide (x.1 = []) || decide (x.1 = x.2)
/-- the pattern p covers q -/
def cov (p q : List (List Nat)) : Bool := match p, q with
  | a :: r, b :: s => decide (r.length = s.length) && decide (a = b) && (r.zip s).all cov1
  | _, _ => false
theorem cov_cons (a b : List Nat) (r s : List (List Nat)) : cov (a :: r) (b :: s) = (decide (r.length = s.length) && decide (a = b) && (r.zip s).all cov1) := rfl
theorem zipS (r s : List (List Nat)) : ((r.map D.str).zip (s.map D.str)).map (fun p => D.tup [p.1, p.2]) = (r.zip s).map fun p => D.tup [.str p.1, .str p.2] := by
  rw [List.zip_map, List.map_map]; rfl
theorem cut1 {α : Type} (x : α) (xs : List α) : cutD (x :: xs) (some 1) none = xs := by
  rw [show ((1 : Int)) = ((1 : Nat) : Int) from rfl, cut_from]; rfl
theorem memEO (x y : List Nat) : memD (.str x) [.str [], .str y] = cov1 (x, y) := by
  simp only [memD, List.any_cons, List.any_nil, D.eqv, Bool.or_false, cov1]
  rw [Bool.eq_iff_iff]
  simp only [Bool.or_eq_true, beq_iff_eq, decide_eq_true_eq]
  constructor
  · rintro (h | h)
    · exact .inl h.symm
    · exact .inr h.symm
  · rintro (h | h)
    · exact .inl h.symm
    · exact .inr h.symm
theorem rng_split1 {lo : Int} {n : Nat} {pre post : List D} {d : D} (e : rng lo 1 n = pre ++ d :: post) : d = .int (lo + (pre.length : Int)) ∧ pre.length < n := by
  obtain ⟨h1, h2⟩ := rng_split e
  exact ⟨by rw [h1, Int.mul_one], h2⟩

theorem fits_ok {a b : List Nat} {r s : List (List Nat)} (hF : fns.lookup 11 = some f11) (q : K (.bl (cov (a :: r) (b :: s))) h) : (callI fns (n + 1) 11 [TS (b :: s), TS (a :: r)] h).post K Y := by
  refine call_def hF rfl ?_
  show (evSs (cfgI fns n) b11 [.val (TS (b :: s)), .val (TS (a :: r)), .no, .no] h).post _ NoX
  unfold b11
  repeat walk_at "iv"
  rw [cov_cons] at q
  refine ⟨fun c1 => ?_, fun c1 => ?_⟩
  · repeat walk_at "iv"
    have c1 : r.length ≠ s.length := by have := not_true c1; simp at this; omega
    rw [decide_eq_false c1] at q
    exact q
  have c1 : r.length = s.length := by have := nfalse c1; simp at this; omega
  repeat walk_at "iv"
  refine ⟨fun c2 => ?_, fun c2 => ?_⟩
  · repeat walk_at "iv"
    have c2 : a ≠ b := by have := not_true c2; simp at this; first | exact this | exact fun e => this e.symm
    rw [decide_eq_false c2, Bool.and_false] at q
    exact q
  have c2 : a = b := by have := nfalse c2; simp at this; first | exact this | exact this.symm
  repeat walk_at "iv"
  rw [List.map_cons, List.map_cons, cut1, cut1, zipS]
  refine w_compA (fun p => D.tup [.str p.1, .str p.2]) (fun p => .bl (cov1 p)) ?_ ?_
  · refine fun d hd => ⟨_, rfl, ?_⟩
    repeat walk_at "iv"
    refine o_inT ?_ ?_
    · rfl
    rw [memEO]
    exact ⟨rfl, rfl⟩
  · repeat walk_at "iv"
    refine o_all (bs := (r.zip s).map cov1) (by rw [List.map_map]; rfl) ?_
    repeat walk_at "iv"
    rw [decide_eq_true c1, decide_eq_true c2] at q
    rw [List.all_map]
    exact q

theorem covers_ok {a b : List Nat} {r s : List (List Nat)} (hF : fns.lookup 13 = some f13) (q : K (.bl (cov (a :: r) (b :: s))) h) : (callI fns (n + 1) 13 [TS (a :: r), TS (b :: s)] h).post K Y := by
  refine call_def hF rfl ?_
  show (evSs (cfgI fns n) b13 [.val (TS (a :: r)), .val (TS (b :: s)), .no, .no] h).post _ NoX
  unfold b13
  repeat walk_at "iv"
  rw [cov_cons] at q
  refine ⟨fun c1 => ?_, fun c1 => ?_⟩
  · repeat walk_at "iv"
    have c1 : r.length ≠ s.length := by have := not_true c1; simp at this; omega
    rw [decide_eq_false c1] at q
    exact q
  have c1 : r.length = s.length := by have := nfalse c1; simp at this; omega
  repeat walk_at "iv"
  refine ⟨fun c2 => ?_, fun c2 => ?_⟩
  · repeat walk_at "iv"
    have c2 : a ≠ b := by have := not_true c2; simp at this; first | exact this | exact fun e => this e.symm
    rw [decide_eq_false c2, Bool.and_false] at q
    exact q
  have c2 : a = b := by have := nfalse c2; simp at this; first | exact this | exact this.symm
  repeat walk_at "iv"
  rw [List.map_cons, List.map_cons, cut1, cut1, zipS]
  refine w_compA (fun p => D.tup [.str p.1, .str p.2]) (fun p => .bl (cov1 p)) ?_ ?_
  · refine fun d hd => ⟨_, rfl, ?_⟩
    repeat walk_at "iv"
    refine o_inT ?_ ?_
    · rfl
    rw [memEO]
    exact ⟨rfl, rfl⟩
  · repeat walk_at "iv"
    refine o_all (bs := (r.zip s).map cov1) (by rw [List.map_map]; rfl) ?_
    repeat walk_at "iv"
    rw [decide_eq_true c1, decide_eq_true c2] at q
    rw [List.all_map]
    exact q

theorem lawfits_ok {a b : List Nat} {r s : List (List Nat)} (hF : fns.lookup 12 = some f12) (hl : s.length ≤ 1000) (q : K (.bl (cov (a :: r) (b :: s))) h) : (callI fns (n + 1) 12 [TS (b :: s), TS (a :: r)] h).post K Y := by
  refine call_def hF rfl ?_
  show (evSs (cfgI fns n) b12 [.val (TS (b :: s)), .val (TS (a :: r)), .no] h).post _ NoX
  unfold b12
  repeat walk_at "iv"
  rw [cov_cons] at q
  refine ⟨fun c1 => ?_, fun c1 => ?_⟩
  · repeat walk_at "iv"
    have c1 : r.length ≠ s.length := by have := not_true c1; simp at this; omega
    rw [decide_eq_false c1] at q
    exact q
  have c1 : r.length = s.length := by have := nfalse c1; simp at this; omega
  repeat walk_at "iv"
  refine ⟨fun c2 => ?_, fun c2 => ?_⟩
  · repeat walk_at "iv"
    have c2 : a ≠ b := by have := not_true c2; simp at this; first | exact this | exact fun e => this e.symm
    rw [decide_eq_false c2, Bool.and_false] at q
    exact q
  have c2 : a = b := by have := nfalse c2; simp at this; first | exact this | exact this.symm
  rw [decide_eq_true c1, decide_eq_true c2] at q
  have q : K (.bl ((r.zip s).all cov1)) h := q
  repeat walk_at "iv"
  refine o_rg2 ⟨⟨by decide, by decide, by simp; omega, by simp; omega⟩, by simp; omega⟩ ?_
  rw [show (((((b :: s).map D.str).length : Nat) : Int) - 1).toNat = s.length by simp <;> omega]
  have hz : (r.zip s).length = s.length := by rw [List.length_zip]; omega
  refine f_for (fun pre env h1 => h1 = h ∧ ∃ (s2 : Sl), env = [.val (TS (b :: s)), .val (TS (a :: r)), s2] ∧ ∀ j (hj : j < (r.zip s).length), j < pre.length → cov1 (r.zip s)[j] = true) ⟨rfl, _, rfl, fun j _ l => by cases l⟩ ?_ ?_
  · rintro pre d post env h1 e ⟨rfl, s2, rfl, h3⟩
    obtain ⟨rfl, hp⟩ := rng_split1 e
    refine ⟨_, rfl, ?_⟩
    have i1 : pre.length < r.length := by omega
    have g1 : atI ((a :: r).map D.str) (1 + (pre.length : Int)) = some (.str r[pre.length]) := atI_pos (by omega) (by rw [show (1 + (pre.length : Int)).toNat = pre.length + 1 by omega]; simp [i1])
    have g2 : atI ((b :: s).map D.str) (1 + (pre.length : Int)) = some (.str s[pre.length]) := atI_pos (by omega) (by rw [show (1 + (pre.length : Int)).toNat = pre.length + 1 by omega]; simp [hp])
    have ez : (r.zip s)[pre.length]'(by omega) = (r[pre.length], s[pre.length]) := by simp
    repeat walk_at "iv"
    refine o_ixT g1 ?_
    repeat walk_at "iv"
    have next : cov1 (r[pre.length], s[pre.length]) = true → (fun pre env h2 => h2 = h1 ∧ ∃ (s2 : Sl), env = [.val (TS (b :: s)), .val (TS (a :: r)), s2] ∧ ∀ j (hj : j < (r.zip s).length), j < pre.length → cov1 (r.zip s)[j] = true) (pre ++ [D.int (1 + (pre.length : Int))]) [.val (TS (b :: s)), .val (TS (a :: r)), .val (.int (1 + (pre.length : Int)))] h1 := fun c => by
      refine ⟨rfl, _, rfl, fun j hj l => ?_⟩
      rw [List.length_append, List.length_singleton] at l
      by_cases e : j = pre.length
      · subst e; rw [ez]; exact c
      · exact h3 j hj (by omega)
    refine ⟨fun c3 => ?_, fun c3 => ?_⟩
    · repeat walk_at "iv"
      refine o_ixT g1 ?_
      repeat walk_at "iv"
      refine o_ixT g2 ?_
      repeat walk_at "iv"
      refine ⟨fun c4 => ?_, fun c4 => ?_⟩
      · repeat walk_at "iv"
        have : (r.zip s).all cov1 = false := by
          rw [List.all_eq_false]
          refine ⟨(r.zip s)[pre.length]'(by omega), List.getElem_mem _, ?_⟩
          rw [ez]
          have k3 := not_true c3
          have k4 := not_true c4
          simp only [cov1, Bool.or_eq_true, decide_eq_true_eq]
          rintro (h | h)
          · rw [h] at k3; simp at k3
          · rw [h] at k4; simp at k4
        rw [this] at q
        exact q
      · repeat walk_at "iv"
        refine next ?_
        have k4 := nfalse c4
        simp only [beq_iff_eq] at k4
        simp [cov1, k4]
    · repeat walk_at "iv"
      refine next ?_
      have k3 := nfalse c3
      simp only [beq_iff_eq] at k3
      simp [cov1, k3]
  · rintro env h1 ⟨rfl, s2, rfl, h3⟩
    repeat walk_at "iv"
    have : (r.zip s).all cov1 = true := by
      rw [List.all_eq_true]
      intro x hx
      obtain ⟨j, hj, e⟩ := List.mem_iff_getElem.mp hx
      rw [← e]
      exact h3 j hj (by rw [rng_len]; omega)
    rw [this] at q
    exact q

theorem lawcovers_ok {a b : List Nat} {r s : List (List Nat)} (hF : fns.lookup 14 = some f14) (hl : s.length ≤ 1000) (q : K (.bl (cov (a :: r) (b :: s))) h) : (callI fns (n + 1) 14 [TS (a :: r), TS (b :: s)] h).post K Y := by
  refine call_def hF rfl ?_
  show (evSs (cfgI fns n) b14 [.val (TS (a :: r)), .val (TS (b :: s)), .no] h).post _ NoX
  unfold b14
  repeat walk_at "iv"
  rw [cov_cons] at q
  refine ⟨fun c1 => ?_, fun c1 => ?_⟩
  · repeat walk_at "iv"
    have c1 : r.length ≠ s.length := by have := not_true c1; simp at this; omega
    rw [decide_eq_false c1] at q
    exact q
  have c1 : r.length = s.length := by have := nfalse c1; simp at this; omega
  repeat walk_at "iv"
  refine ⟨fun c2 => ?_, fun c2 => ?_⟩
  · repeat walk_at "iv"
    have c2 : a ≠ b := by have := not_true c2; simp at this; first | exact this | exact fun e => this e.symm
    rw [decide_eq_false c2, Bool.and_false] at q
    exact q
  have c2 : a = b := by have := nfalse c2; simp at this; first | exact this | exact this.symm
  rw [decide_eq_true c1, decide_eq_true c2] at q
  have q : K (.bl ((r.zip s).all cov1)) h := q
  repeat walk_at "iv"
  refine o_rg2 ⟨⟨by decide, by decide, by simp; omega, by simp; omega⟩, by simp; omega⟩ ?_
  rw [show (((((a :: r).map D.str).length : Nat) : Int) - 1).toNat = s.length by simp <;> omega]
  have hz : (r.zip s).length = s.length := by rw [List.length_zip]; omega
  refine f_for (fun pre env h1 => h1 = h ∧ ∃ (s2 : Sl), env = [.val (TS (a :: r)), .val (TS (b :: s)), s2] ∧ ∀ j (hj : j < (r.zip s).length), j < pre.length → cov1 (r.zip s)[j] = true) ⟨rfl, _, rfl, fun j _ l => by cases l⟩ ?_ ?_
  · rintro pre d post env h1 e ⟨rfl, s2, rfl, h3⟩
    obtain ⟨rfl, hp⟩ := rng_split1 e
    refine ⟨_, rfl, ?_⟩
    have i1 : pre.length < r.length := by omega
    have g1 : atI ((a :: r).map D.str) (1 + (pre.length : Int)) = some (.str r[pre.length]) := atI_pos (by omega) (by rw [show (1 + (pre.length : Int)).toNat = pre.length + 1 by omega]; simp [i1])
    have g2 : atI ((b :: s).map D.str) (1 + (pre.length : Int)) = some (.str s[pre.length]) := atI_pos (by omega) (by rw [show (1 + (pre.length : Int)).toNat = pre.length + 1 by omega]; simp [hp])
    have ez : (r.zip s)[pre.length]'(by omega) = (r[pre.length], s[pre.length]) := by simp
    repeat walk_at "iv"
    refine o_ixT g1 ?_
    repeat walk_at "iv"
    have next : cov1 (r[pre.length], s[pre.length]) = true → (fun pre env h2 => h2 = h1 ∧ ∃ (s2 : Sl), env = [.val (TS (a :: r)), .val (TS (b :: s)), s2] ∧ ∀ j (hj : j < (r.zip s).length), j < pre.length → cov1 (r.zip s)[j] = true) (pre ++ [D.int (1 + (pre.length : Int))]) [.val (TS (a :: r)), .val (TS (b :: s)), .val (.int (1 + (pre.length : Int)))] h1 := fun c => by
      refine ⟨rfl, _, rfl, fun j hj l => ?_⟩
      rw [List.length_append, List.length_singleton] at l
      by_cases e : j = pre.length
      · subst e; rw [ez]; exact c
      · exact h3 j hj (by omega)
    refine ⟨fun c3 => ?_, fun c3 => ?_⟩
    · repeat walk_at "iv"
      refine o_ixT g1 ?_
      repeat walk_at "iv"
      refine o_ixT g2 ?_
      repeat walk_at "iv"
      refine ⟨fun c4 => ?_, fun c4 => ?_⟩
      · repeat walk_at "iv"
        have : (r.zip s).all cov1 = false := by
          rw [List.all_eq_false]
          refine ⟨(r.zip s)[pre.length]'(by omega), List.getElem_mem _, ?_⟩
          rw [ez]
          have k3 := not_true c3
          have k4 := not_true c4
          simp only [cov1, Bool.or_eq_true, decide_eq_true_eq]
          rintro (h | h)
          · rw [h] at k3; simp at k3
          · rw [h] at k4; simp at k4
        rw [this] at q
        exact q
      · repeat walk_at "iv"
        refine next ?_
        have k4 := nfalse c4
        simp only [beq_iff_eq] at k4
        simp [cov1, k4]
    · repeat walk_at "iv"
      refine next ?_
      have k3 := nfalse c3
      simp only [beq_iff_eq] at k3
      simp [cov1, k3]
  · rintro env h1 ⟨rfl, s2, rfl, h3⟩
    repeat walk_at "iv"
    have : (r.zip s).all cov1 = true := by
      rw [List.all_eq_true]
      intro x hx
      obtain ⟨j, hj, e⟩ := List.mem_iff_getElem.mp hx
      rw [← e]
      exact h3 j hj (by rw [rng_len]; omega)
    rw [this] at q
    exact q
end Lw

/-! all facts of a pattern over names -/
namespace Lw
open PySem L2 Iv Fn
variable {fns : Prog} {h h' : IH} {K : D → IH → Prop} {Y : Nat → List D → IH → Prop} {n : Nat}
abbrev Txt := List Nat
def fillB (part x : Txt) : Bool := decide (part = []) || decide (part = x)
def grow (names : List Txt) (part : Txt) (rows : List (List Txt)) : List (List Txt) := rows.flatMap fun row => (names.filter (fillB part)).map fun x => row ++ [x]
def growAll (names : List Txt) : List Txt → List (List Txt) → List (List Txt)
  | [], rows => rows
  | p :: ps, rows => growAll names ps (grow names p rows)
def factsOf (names : List Txt) (p : List Txt) : List (List Txt) := match p with
  | [] => []
  | w :: ps => oF.asc (growAll names ps [[w]])
theorem grow_len (names : List Txt) (part : Txt) : ∀ rows : List (List Txt), (grow names part rows).length ≤ rows.length * names.length
  | [] => by simp [grow]
  | r :: rows => by
    have ih := grow_len names part rows
    have l := List.length_filter_le (fillB part) names
    unfold grow at ih ⊢
    rw [List.flatMap_cons, List.length_append, List.length_map, List.length_cons, Nat.add_mul]
    omega
theorem TS_app (r s : List Txt) : TS (r ++ s) = .tup (r.map D.str ++ s.map D.str) := by rw [TS, List.map_append]
theorem pow_next {ps N R G : Nat} (hp : ps + 1 ≤ 3) (hN : N ≤ 200) (hR : R ≤ 200 ^ (3 - (ps + 1))) (hG : G ≤ R * N) : G ≤ 200 ^ (3 - ps) := by
  have e : 200 ^ (3 - ps) = 200 ^ (3 - (ps + 1)) * 200 := by rw [← Nat.pow_succ]; congr 1; omega
  rw [e]
  exact Nat.le_trans hG (Nat.mul_le_mul hR hN)
theorem pow_top {m R : Nat} (hR : R ≤ 200 ^ (3 - m)) : R ≤ 8000000 := Nat.le_trans hR (by
  have : 200 ^ (3 - m) ≤ 200 ^ 3 := Nat.pow_le_pow_right (by decide) (by omega)
  exact this)
theorem all_facts_ok {w : Txt} {ps names : List Txt} (hF : fns.lookup 9 = some f9) (hA : fns.lookup 15 = some f15) (hp : ps.length ≤ 3) (hn : names.length ≤ 200) (q : K (.lst ((factsOf names (w :: ps)).map TS)) h) :
    (callI fns (n + 2) 9 [TS (w :: ps), .lst (names.map D.str)] h).post K Y := by
  refine call_def hF rfl ?_
  show (evSs (cfgI fns (n + 1)) b9 [.val (TS (w :: ps)), .val (.lst (names.map D.str)), .no, .no, .no, .no, .no] h).post _ NoX
  unfold b9
  repeat walk_at "iv"
  rw [List.map_cons, cut1]
  refine f_forR D.str (fun rest env h1 => h1 = h ∧ ∃ (rows : List (List Txt)) (s2 s4 s5 s6 : Sl), env = [.val (TS (w :: ps)), .val (.lst (names.map D.str)), s2, .val (.lst (rows.map TS)), s4, s5, s6] ∧ growAll names rest rows = growAll names ps [[w]] ∧ rest.length ≤ 3 ∧ rows.length ≤ 200 ^ (3 - rest.length) ∧ ∀ r ∈ rows, r.length + rest.length ≤ 4)
    ?_ ?_ ⟨rfl, [[w]], _, _, _, _, rfl, rfl, hp, Nat.one_le_pow _ _ (by decide), fun r hr => by rw [List.mem_singleton.mp hr, List.length_singleton]; omega⟩
  · rintro p rest env h1 ⟨rfl, rows, s2, s4, s5, s6, rfl, e, hr, hl, hw⟩
    refine ⟨_, rfl, ?_⟩
    rw [List.length_cons] at hr hl
    repeat walk_at "iv"
    have gl := grow_len names p rows
    have gl2 := pow_next hr hn hl gl
    have gl3 := pow_top gl2
    refine w_cut (fun x h2 => h2 = h1 ∧ ∃ (s2 s6 : Sl), x = (.nx, [.val (TS (w :: ps)), .val (.lst (names.map D.str)), s2, .val (.lst (rows.map TS)), .val (.str p), .val (.lst ((grow names p rows).map TS)), s6])) ?_ ?_
    · refine f_forR TS (fun rest env h2 => h2 = h1 ∧ ∃ (more : List (List Txt)) (s2 s6 : Sl), env = [.val (TS (w :: ps)), .val (.lst (names.map D.str)), s2, .val (.lst (rows.map TS)), .val (.str p), .val (.lst (more.map TS)), s6] ∧ more ++ grow names p rest = grow names p rows ∧ ∀ r ∈ rest, r ∈ rows)
        ?_ ?_ ⟨rfl, [], _, _, rfl, rfl, fun _ h => h⟩
      · rintro row rest env h2 ⟨rfl, more, s2, s6, rfl, e2, hs⟩
        refine ⟨_, rfl, ?_⟩
        repeat walk_at "iv"
        refine w_compZ D.str (fun x => TS (row ++ [x])) (fillB p) ?_ ?_
        · refine fun x hx => ⟨_, rfl, ?_, fun _ => ?_⟩
          · repeat walk_at "iv"
            refine ⟨fun c => ?_, fun c => ?_⟩
            · refine ⟨rfl, ?_⟩
              have : p = [] := by simpa using c
              rw [this]; rfl
            · repeat walk_at "iv"
              refine ⟨rfl, ?_⟩
              rw [Bool.eq_iff_iff]
              have : ¬ p = [] := by simpa using c
              simp [fillB, this]
          · repeat walk_at "iv"
            refine o_addT ?_ ?_
            · have := hw row (hs row List.mem_cons_self)
              rw [List.length_cons] at this
              simp; omega
            · exact ⟨rfl, (TS_app row [x]).symm⟩
        · have e3 : more ++ ((names.filter (fillB p)).map fun x => row ++ [x]) ++ grow names p rest = grow names p rows := by
            rw [← e2, List.append_assoc]; rfl
          have l3 := congrArg List.length e3
          rw [List.length_append, List.length_append] at l3
          refine o_addL (by simp only [List.length_map] at l3 ⊢; omega) ?_
          repeat walk_at "iv"
          exact ⟨rfl, _, _, _, by rw [List.map_append, List.map_map]; rfl, e3, fun r hr => hs r (List.mem_cons_of_mem _ hr)⟩
      · rintro env h2 ⟨rfl, more, s2, s6, rfl, e2, _⟩
        refine ⟨rfl, s2, s6, ?_⟩
        have : more = grow names p rows := by rw [← e2]; simp [grow]
        rw [this]
    · rintro x h2 ⟨rfl, s2, s6, rfl⟩
      repeat walk_at "iv"
      refine ⟨rfl, grow names p rows, _, _, _, _, rfl, e, by omega, gl2, fun r hr => ?_⟩
      obtain ⟨row, h1, h2⟩ := List.mem_flatMap.mp hr
      obtain ⟨y, _, rfl⟩ := List.mem_map.mp h2
      have := hw row h1
      rw [List.length_cons] at this
      rw [List.length_append, List.length_singleton]; omega
  · rintro env h1 ⟨rfl, rows, s2, s4, s5, s6, rfl, e, hr, hl, hw⟩
    repeat walk_at "iv"
    refine lawasc_ok oF hA (pow_top hl) ?_
    have e : rows = growAll names ps [[w]] := e
    rw [e]
    exact q
end Lw

/-! the program's own ways with patterns -/
namespace Lw
open PySem L2 Iv Fn
variable {fns : Prog} {h h' : IH} {K : D → IH → Prop} {Y : Nat → List D → IH → Prop} {n : Nat}
theorem two_cut {α : Type} {r1 r2 : R α} {b : Bool} {K1 : α → IH → Prop} (Mid : α → IH → Prop) (p : Two (r1.post Mid Y) b (r2.post Mid Y)) (q : ∀ x h, Mid x h → K1 x h) : Two (r1.post K1 Y) b (r2.post K1 Y) :=
  ⟨fun c => R.post.mono (p.1 c) q fun _ _ _ k => k, fun c => R.post.mono (p.2 c) q fun _ _ _ k => k⟩
theorem filter_true {α : Type} (xs : List α) : xs.filter (fun _ => true) = xs := List.filter_eq_self.mpr fun _ _ => rfl
theorem chosen_eq (names : List Txt) (p : Txt) : names.filter (fillB p) = if p = [] then names else names.filter fun x => decide (x = p) := by
  split
  · rename_i e
    refine List.filter_eq_self.mpr fun x _ => ?_
    simp [fillB, e]
  · rename_i e
    congr 1
    funext x
    rw [Bool.eq_iff_iff]
    simp only [fillB, Bool.or_eq_true, decide_eq_true_eq]
    constructor
    · rintro (h | h)
      · exact absurd h e
      · exact h.symm
    · exact fun h => .inr h.symm
theorem grow_mapTS (names : List Txt) (p : Txt) (rows : List (List Txt)) : (rows.flatMap fun row => ((names.filter (fillB p)).filter fun _ => true).map fun x => TS (row ++ [x])) = (grow names p rows).map TS := by
  unfold grow
  rw [List.map_flatMap]
  congr 1
  funext row
  rw [filter_true, List.map_map]; rfl
theorem facts_like_ok {w : Txt} {ps names : List Txt} (hF : fns.lookup 17 = some f17) (hA : fns.lookup 21 = some f21) (hM : fns.lookup 23 = some f23) (hp : ps.length ≤ 3) (hn : names.length ≤ 200) (q : K (.lst ((factsOf names (w :: ps)).map TS)) h) :
    (callI fns (n + 3) 17 [TS (w :: ps), .lst (names.map D.str)] h).post K Y := by
  refine call_def hF rfl ?_
  show (evSs (cfgI fns (n + 2)) b17 [.val (TS (w :: ps)), .val (.lst (names.map D.str)), .no, .no, .no, .no, .no] h).post _ NoX
  unfold b17
  repeat walk_at "iv"
  rw [List.map_cons, cut1]
  refine f_forR D.str (fun rest env h1 => h1 = h ∧ ∃ (rows : List (List Txt)) (s2 s3 s5 s6 : Sl), env = [.val (TS (w :: ps)), .val (.lst (names.map D.str)), s2, s3, .val (.lst (rows.map TS)), s5, s6] ∧ growAll names rest rows = growAll names ps [[w]] ∧ rest.length ≤ 3 ∧ rows.length ≤ 200 ^ (3 - rest.length) ∧ ∀ r ∈ rows, r.length + rest.length ≤ 4)
    ?_ ?_ ⟨rfl, [[w]], _, _, _, _, rfl, rfl, hp, Nat.one_le_pow _ _ (by decide), fun r hr => by rw [List.mem_singleton.mp hr, List.length_singleton]; omega⟩
  · rintro p rest env h1 ⟨rfl, rows, s2, s3, s5, s6, rfl, e, hr, hl, hw⟩
    refine ⟨_, rfl, ?_⟩
    rw [List.length_cons] at hr hl
    have gl := grow_len names p rows
    have gl2 := pow_next hr hn hl gl
    have gl3 := pow_top gl2
    repeat walk_at "iv"
    refine two_cut (fun x h2 => h2 = h1 ∧ x = D.lst ((names.filter (fillB p)).map D.str)) ?_ ?_
    · rw [chosen_eq]
      refine ⟨fun c => ?_, fun c => ?_⟩
      · have c : p = [] := by simpa using c
        repeat walk_at "iv"
        rw [if_pos c]
        exact ⟨rfl, rfl⟩
      · have c : ¬ p = [] := by simpa using c
        repeat walk_at "iv"
        refine w_compZ D.str D.str (fun x => decide (x = p)) ?_ ?_
        · refine fun x hx => ⟨_, rfl, ?_, fun _ => ?_⟩
          · repeat walk_at "iv"
            refine ⟨rfl, ?_⟩
            rw [Bool.eq_iff_iff]; simp
          · repeat walk_at "iv"
            exact ⟨rfl, rfl⟩
        · rw [if_neg c]
          exact ⟨rfl, rfl⟩
    · rintro x h2 ⟨rfl, rfl⟩
      repeat walk_at "iv"
      refine w_comp2Z (C := cfgI fns n) TS (fun _ => names.filter (fillB p)) D.str (fun _ _ => true) (fun row x => TS (row ++ [x])) ?_ ?_ ?_
      · refine fun row hrow => ⟨_, rfl, ?_, fun x hx => ⟨_, rfl, ?_, fun _ => ?_⟩⟩
        · repeat walk_at "iv"
          exact ⟨rfl, rfl⟩
        · repeat walk_at "iv"
          exact ⟨rfl, rfl⟩
        · repeat walk_at "iv"
          have := hw row hrow
          rw [List.length_cons] at this
          refine ⟨by simp; omega, rfl, ?_⟩
          exact (TS_app row [x]).symm
      · rw [grow_mapTS, List.length_map]; omega
      · rw [grow_mapTS]
        repeat walk_at "iv"
        refine ⟨rfl, grow names p rows, _, _, _, _, rfl, e, by omega, gl2, fun r hr => ?_⟩
        obtain ⟨row, h1, h2⟩ := List.mem_flatMap.mp hr
        obtain ⟨y, _, rfl⟩ := List.mem_map.mp h2
        have := hw row h1
        rw [List.length_cons] at this
        rw [List.length_append, List.length_singleton]; omega
  · rintro env h1 ⟨rfl, rows, s2, s3, s5, s6, rfl, e, hr, hl, hw⟩
    repeat walk_at "iv"
    refine ascending_ok oF hA hM (pow_top hl) ?_
    have e : rows = growAll names ps [[w]] := e
    rw [e]
    exact q
/-- the names of patterns -/
def namesOf (ps : List (List Txt)) : List Txt := ps.flatMap fun p => p.tail.filter fun x => !decide (x = [])
theorem cut_tail (p : List Txt) : cutD (p.map D.str) (some 1) none = p.tail.map D.str := by
  cases p with
  | nil => rfl
  | cons a r => rw [List.map_cons, cut1]; rfl
theorem pattern_names_ok {ps : List (List Txt)} (hF : fns.lookup 16 = some f16) (hA : fns.lookup 21 = some f21) (hM : fns.lookup 23 = some f23) (hl : (namesOf ps).length ≤ 8000000) (q : K (.lst ((oS.asc (namesOf ps)).map D.str)) h) :
    (callI fns (n + 3) 16 [.lst (ps.map TS)] h).post K Y := by
  refine call_def hF rfl ?_
  show (evSs (cfgI fns (n + 2)) b16 [.val (.lst (ps.map TS)), .no, .no] h).post _ NoX
  unfold b16
  repeat walk_at "iv"
  have en : (ps.flatMap fun p => (p.tail.filter fun x => !decide (x = [])).map D.str) = (namesOf ps).map D.str := by
    unfold namesOf
    rw [List.map_flatMap]
  refine w_comp2Z (C := cfgI fns n) TS (fun p => p.tail) D.str (fun _ x => !decide (x = [])) (fun _ x => D.str x) ?_ ?_ ?_
  · refine fun p hp => ⟨_, rfl, ?_, fun x hx => ⟨_, rfl, ?_, fun _ => ?_⟩⟩
    · repeat walk_at "iv"
      exact ⟨rfl, cut_tail p⟩
    · repeat walk_at "iv"
      refine ⟨rfl, ?_⟩
      rw [Bool.eq_iff_iff]; simp
    · repeat walk_at "iv"
      exact ⟨rfl, rfl⟩
  · rw [en, List.length_map]; omega
  · rw [en]
    repeat walk_at "iv"
    exact ascending_ok oS hA hM hl q
theorem whole_ok {w : Txt} {m : Nat} (hF : fns.lookup 19 = some f19) (hl : m ≤ 16000000) (q : K (TS (w :: List.replicate m [])) h) : (callI fns (n + 1) 19 [.str w, .int (m : Int)] h).post K Y := by
  refine call_def hF rfl ?_
  show (evSs (cfgI fns n) b19 [.val (.str w), .val (.int (m : Int)), .no] h).post _ NoX
  unfold b19
  repeat walk_at "iv"
  refine o_rg1 ⟨by omega, by omega⟩ ?_
  rw [Int.toNat_natCast]
  show (cLoop _ _ _ _ ((List.range m).map _) [] h).post _ Y
  refine w_compA (C := cfgI fns n) _ (fun _ => D.str []) ?_ ?_
  · refine fun d hd => ⟨_, rfl, ?_⟩
    repeat walk_at "iv"
    exact ⟨rfl, rfl⟩
  · repeat walk_at "iv"
    have e : [D.str w] ++ ((List.range m).map fun _ => D.str []) = (w :: List.replicate m []).map D.str := by
      rw [List.map_cons, List.map_replicate, List.singleton_append]
      congr 1
      refine List.eq_replicate_iff.mpr ⟨by simp, fun b hb => ?_⟩
      obtain ⟨_, _, rfl⟩ := List.mem_map.mp hb; rfl
    refine ⟨by simp; omega, ?_⟩
    repeat walk_at "iv"
    have q : K (.tup ((w :: List.replicate m []).map D.str)) h := q
    rw [← e] at q
    first | exact q | (simpa using q)
end Lw

/-! the common pattern; the laws' sameness -/
namespace Lw
open PySem L2 Iv Fn
variable {fns : Prog} {h h' : IH} {K : D → IH → Prop} {Y : Nat → List D → IH → Prop} {n : Nat}
def clash (x : Txt × Txt) : Bool := !decide (x.1 = []) && !decide (x.2 = []) && !decide (x.1 = x.2)
def pick (x : Txt × Txt) : Txt := if x.1 = [] then x.2 else x.1
/-- the pattern of what fits both -/
def com (p q : List Txt) : Option (List Txt) := match p, q with
  | a :: r, b :: s => if (decide (r.length = s.length) && decide (a = b) && (r.zip s).all fun x => !clash x) = true then some (a :: (r.zip s).map pick) else none
  | _, _ => none
def optD : Option (List Txt) → D
  | none => .non
  | some p => TS p
theorem com_cons (a b : Txt) (r s : List Txt) : com (a :: r) (b :: s) = if (decide (r.length = s.length) && decide (a = b) && (r.zip s).all fun x => !clash x) = true then some (a :: (r.zip s).map pick) else none := rfl
theorem common_ok {a b : Txt} {r s : List Txt} (hF : fns.lookup 18 = some f18) (hl : s.length ≤ 1000) (q : K (optD (com (a :: r) (b :: s))) h) : (callI fns (n + 1) 18 [TS (a :: r), TS (b :: s)] h).post K Y := by
  refine call_def hF rfl ?_
  show (evSs (cfgI fns n) b18 [.val (TS (a :: r)), .val (TS (b :: s)), .no, .no, .no] h).post _ NoX
  unfold b18
  repeat walk_at "iv"
  rw [com_cons] at q
  refine ⟨fun c1 => ?_, fun c1 => ?_⟩
  · repeat walk_at "iv"
    have c1 : r.length ≠ s.length := by have := not_true c1; simp at this; omega
    rw [decide_eq_false c1] at q
    exact q
  have c1 : r.length = s.length := by have := nfalse c1; simp at this; omega
  repeat walk_at "iv"
  refine ⟨fun c2 => ?_, fun c2 => ?_⟩
  · repeat walk_at "iv"
    have c2 : a ≠ b := by have := not_true c2; simp at this; first | exact this | exact fun e => this e.symm
    rw [decide_eq_false c2, Bool.and_false] at q
    exact q
  have c2 : a = b := by have := nfalse c2; simp at this; first | exact this | exact this.symm
  rw [decide_eq_true c1, decide_eq_true c2] at q
  have q : K (optD (if ((r.zip s).all fun x => !clash x) = true then some (a :: (r.zip s).map pick) else none)) h := q
  repeat walk_at "iv"
  rw [List.map_cons, List.map_cons, cut1, cut1, zipS]
  have hz : (r.zip s).length ≤ 1000 := by rw [List.length_zip]; omega
  refine f_forR (fun p => D.tup [.str p.1, .str p.2]) (fun rest env h1 => h1 = h ∧ ∃ (parts : List Txt) (s3 s4 : Sl), env = [.val (TS (a :: r)), .val (TS (b :: s)), .own (parts.map D.str), s3, s4] ∧ parts ++ rest.map pick = (r.zip s).map pick ∧
    ((r.zip s).all fun x => !clash x) = rest.all fun x => !clash x) ?_ ?_ ⟨rfl, [], _, _, rfl, rfl, rfl⟩
  · rintro ⟨x, y⟩ rest env h1 ⟨rfl, parts, s3, s4, rfl, e, e2⟩
    refine ⟨_, rfl, ?_⟩
    have el := congrArg List.length e
    simp only [List.length_append, List.length_map, List.length_cons] at el
    rw [List.all_cons] at e2
    have next : clash (x, y) = false → ∀ (P : D → IH → Prop), P (.str (pick (x, y))) h1 → P (.str (if x = [] then y else x)) h1 := fun _ _ k => k
    have app : ∀ {z : Txt}, clash (x, y) = false → z = pick (x, y) → (fun rest env h2 => h2 = h1 ∧ ∃ (parts : List Txt) (s3 s4 : Sl), env = [.val (TS (a :: r)), .val (TS (b :: s)), .own (parts.map D.str), s3, s4] ∧ parts ++ rest.map pick = (r.zip s).map pick ∧
        ((r.zip s).all fun x => !clash x) = rest.all fun x => !clash x) rest [.val (TS (a :: r)), .val (TS (b :: s)), .own (parts.map D.str ++ [.str z]), .val (.str x), .val (.str y)] h1 := fun {z} c ez => by
      refine ⟨rfl, parts ++ [z], _, _, by rw [List.map_append]; rfl, ?_, ?_⟩
      · rw [← e, ez]; simp
      · rw [e2, c]; rfl
    repeat walk_at "iv"
    refine ⟨fun c3 => ?_, fun c3 => ?_⟩
    · have c3 : ¬ x = [] := by simpa using c3
      repeat walk_at "iv"
      refine ⟨fun c4 => ?_, fun c4 => ?_⟩
      · have c4 : ¬ y = [] := by simpa using c4
        repeat walk_at "iv"
        refine ⟨fun c5 => ?_, fun c5 => ?_⟩
        · have c5 : ¬ x = y := by simpa using c5
          repeat walk_at "iv"
          have : clash (x, y) = true := by simp [clash, c3, c4, c5]
          rw [e2, this] at q
          exact q
        · have c5 : x = y := by simpa using c5
          have cl : clash (x, y) = false := by simp [clash, c5]
          repeat walk_at "iv"
          refine ⟨fun c6 => ?_, fun c6 => ?_⟩
          · exact absurd (by simpa using c6) c3
          · repeat walk_at "iv"
            refine ⟨by rw [List.length_map]; omega, ?_⟩
            repeat walk_at "iv"
            exact app cl (by simp [pick, c3])
      · have c4 : y = [] := by simpa using c4
        have cl : clash (x, y) = false := by simp [clash, c4]
        repeat walk_at "iv"
        refine ⟨fun c6 => ?_, fun c6 => ?_⟩
        · exact absurd (by simpa using c6) c3
        · repeat walk_at "iv"
          refine ⟨by rw [List.length_map]; omega, ?_⟩
          repeat walk_at "iv"
          exact app cl (by simp [pick, c3])
    · have c3 : x = [] := by simpa using c3
      have cl : clash (x, y) = false := by simp [clash, c3]
      repeat walk_at "iv"
      refine ⟨fun c6 => ?_, fun c6 => ?_⟩
      · repeat walk_at "iv"
        refine ⟨by rw [List.length_map]; omega, ?_⟩
        repeat walk_at "iv"
        exact app cl (by simp [pick, c3])
      · exact absurd c3 (by simpa using c6)
  · rintro env h1 ⟨rfl, parts, s3, s4, rfl, e, e2⟩
    rw [e2, if_pos (show (List.all ([] : List (Txt × Txt)) fun x => !clash x) = true from rfl)] at q
    have ep : parts = (r.zip s).map pick := by simpa using e
    repeat walk_at "iv"
    have el : parts.length ≤ 1000 := by rw [ep, List.length_map]; exact hz
    refine ⟨by simp; omega, ?_⟩
    repeat walk_at "iv"
    rw [ep]
    simpa [optD, TS] using q

/-! ### sameness -/
theorem beq_of {d : D} (x : IH) {P : D → Prop} (e : eqOk d d = true) (e2 : D.eqv d d = true) (k : P (.bl true)) : ∃ y, cmpH .eq x d d = some y ∧ P y := o_eq e (by rw [e2]; exact k)
theorem eqv_bl (b : Bool) : D.eqv (.bl b) (.bl b) = true := by cases b <;> rfl
theorem depth_mem : ∀ {xs : List D} {x : D}, x ∈ xs → x.depth ≤ D.depths xs
  | y :: ys, x, h => by
    show _ ≤ max y.depth (D.depths ys)
    rcases List.mem_cons.mp h with e | h
    · rw [e]; omega
    · have := depth_mem h; omega
theorem dat_mem : ∀ {xs : List D} {x : D}, D.dats xs = true → x ∈ xs → x.dat = true
  | y :: ys, x, q, h => by
    have q : (y.dat && D.dats ys) = true := q
    rw [Bool.and_eq_true] at q
    rcases List.mem_cons.mp h with e | h
    · rw [e]; exact q.1
    · exact dat_mem q.2 h
/-! lists and tuples are no longer than what a row may be -/
mutual
def small : D → Prop
  | .tup xs => xs.length ≤ 8000000 ∧ smalls xs
  | .lst xs => xs.length ≤ 8000000 ∧ smalls xs
  | _ => True
def smalls : List D → Prop
  | [] => True
  | x :: xs => small x ∧ smalls xs
end
theorem small_mem : ∀ {xs : List D} {x : D}, smalls xs → x ∈ xs → small x
  | y :: ys, x, q, h => by
    rw [smalls] at q
    rcases List.mem_cons.mp h with e | h
    · rw [e]; exact q.1
    · exact small_mem q.2 h
theorem smalls_of : ∀ {xs : List D}, (∀ x ∈ xs, small x) → smalls xs
  | [], _ => by rw [smalls]; trivial
  | x :: xs, h => by rw [smalls]; exact ⟨h x List.mem_cons_self, smalls_of fun y hy => h y (List.mem_cons_of_mem _ hy)⟩
theorem same_ok (hF : fns.lookup 10 = some f10) : ∀ (m : Nat) (d : D), d.dat = true → d.depth ≤ m → small d → ∀ {h : IH} {K : D → IH → Prop} {Y : Nat → List D → IH → Prop}, K (.bl true) h → (callI fns (n + m + 1) 10 [d, d] h).post K Y
  | m, d, hd, hm, hs, h, K, Y, q => by
    refine call_def hF rfl ?_
    show (evSs (cfgI fns (n + m)) b10 [.val d, .val d, .no] h).post _ NoX
    unfold b10
    cases d with
    | non => repeat walk_at "iv"
             exact q
    | bl b =>
      repeat walk_at "iv"
      refine beq_of _ rfl (eqv_bl b) ?_
      repeat walk_at "iv"
      exact q
    | int i =>
      repeat walk_at "iv"
      rw [beq_self_eq_true]
      exact q
    | str z =>
      repeat walk_at "iv"
      rw [beq_self_eq_true]
      exact q
    | ref r => cases hd
    | ins c fs => cases hd
    | dct t ks vs => cases hd
    | tup xs =>
      have hd : D.dats xs = true := hd
      have hm : D.depths xs + 1 ≤ m := hm
      have hs : xs.length ≤ 8000000 ∧ smalls xs := by rw [small] at hs; exact hs
      repeat walk_at "iv"
      refine ⟨fun c => absurd c (by simp), fun _ => ?_⟩
      repeat walk_at "iv"
      refine o_rg1 ⟨by omega, by omega⟩ ?_
      rw [Int.toNat_natCast]
      refine f_for (fun pre env h1 => h1 = h ∧ ∃ s2, env = [.val (.tup xs), .val (.tup xs), s2]) ⟨rfl, _, rfl⟩ ?_ ?_
      · rintro pre d post env h1 e ⟨rfl, s2, rfl⟩
        obtain ⟨rfl, hp⟩ := rng0_split e
        refine ⟨_, rfl, ?_⟩
        have g : atI xs (pre.length : Int) = some xs[pre.length] := atI_pos (by omega) (by simp [hp])
        repeat walk_at "iv"
        refine o_ixT g ?_
        repeat walk_at "iv"
        refine o_ixT g ?_
        repeat walk_at "iv"
        obtain ⟨m', rfl⟩ : ∃ m', m = m' + 1 := ⟨m - 1, by omega⟩
        have mem := List.getElem_mem hp
        refine same_ok hF m' xs[pre.length] (dat_mem hd mem) (by have := depth_mem mem; omega) (small_mem hs.2 mem) ?_
        repeat walk_at "iv"
        exact ⟨rfl, _, rfl⟩
      · rintro env h1 ⟨rfl, s2, rfl⟩
        repeat walk_at "iv"
        exact q
    | lst xs =>
      have hd : D.dats xs = true := hd
      have hm : D.depths xs + 1 ≤ m := hm
      have hs : xs.length ≤ 8000000 ∧ smalls xs := by rw [small] at hs; exact hs
      repeat walk_at "iv"
      refine ⟨fun c => absurd c (by simp), fun _ => ?_⟩
      repeat walk_at "iv"
      refine o_rg1 ⟨by omega, by omega⟩ ?_
      rw [Int.toNat_natCast]
      refine f_for (fun pre env h1 => h1 = h ∧ ∃ s2, env = [.val (.lst xs), .val (.lst xs), s2]) ⟨rfl, _, rfl⟩ ?_ ?_
      · rintro pre d post env h1 e ⟨rfl, s2, rfl⟩
        obtain ⟨rfl, hp⟩ := rng0_split e
        refine ⟨_, rfl, ?_⟩
        have g : atI xs (pre.length : Int) = some xs[pre.length] := atI_pos (by omega) (by simp [hp])
        repeat walk_at "iv"
        refine o_ixL g ?_
        repeat walk_at "iv"
        refine o_ixL g ?_
        repeat walk_at "iv"
        obtain ⟨m', rfl⟩ : ∃ m', m = m' + 1 := ⟨m - 1, by omega⟩
        have mem := List.getElem_mem hp
        refine same_ok hF m' xs[pre.length] (dat_mem hd mem) (by have := depth_mem mem; omega) (small_mem hs.2 mem) ?_
        repeat walk_at "iv"
        exact ⟨rfl, _, rfl⟩
      · rintro env h1 ⟨rfl, s2, rfl⟩
        repeat walk_at "iv"
        exact q
termination_by m => m
end Lw

/-! what the laws draw: relations, names, patterns, facts -/
namespace Lw
open PySem L2 Iv Fn
variable {fns : Prog} {h h' : IH} {K : D → IH → Prop} {Y : Nat → List D → IH → Prop} {n r : Nat}
theorem o_pick {xs : List D} {d : Int} {P : D → Prop} (h0 : 0 ≤ d) (h1 : d < xs.length) (k : ∀ x ∈ xs, P x) : ∃ y, ixH h (.lst xs) (.int d) = some y ∧ P y := by
  have hj : d.toNat < xs.length := by omega
  exact o_ixL (atI_pos h0 (List.getElem?_eq_getElem hj)) (k _ (List.getElem_mem hj))
theorem o_pickM {α : Type} {f : α → D} {xs : List α} {d : Int} {P : D → Prop} (h0 : 0 ≤ d) (h1 : d < xs.length) (k : ∀ x ∈ xs, P (f x)) : ∃ y, ixH h (.lst (xs.map f)) (.int d) = some y ∧ P y := by
  refine o_pick h0 (by simpa using h1) fun y hy => ?_
  obtain ⟨x, hx, rfl⟩ := List.mem_map.mp hy
  exact k x hx
theorem o_pickS {z : List Nat} {d : Int} {P : D → Prop} (h0 : 0 ≤ d) (h1 : d < z.length) (k : ∀ c ∈ z, P (.str [c])) : ∃ y, ixH h (.str z) (.int d) = some y ∧ P y := by
  have hj : d.toNat < z.length := by omega
  exact o_ixS (atI_pos h0 (List.getElem?_eq_getElem hj)) (k _ (List.getElem_mem hj))
theorem maps_of {α : Type} {f : α → D} {R : α → Prop} : ∀ {xs : List D}, (∀ x ∈ xs, ∃ a, R a ∧ x = f a) → ∃ ys : List α, xs = ys.map f ∧ ∀ a ∈ ys, R a
  | [], _ => ⟨[], rfl, fun _ h => by cases h⟩
  | x :: xs, h => by
    obtain ⟨a, ha, e⟩ := h x List.mem_cons_self
    obtain ⟨ys, e2, h2⟩ := maps_of fun y hy => h y (List.mem_cons_of_mem _ hy)
    refine ⟨a :: ys, by rw [List.map_cons, e, e2], fun b hb => ?_⟩
    rcases List.mem_cons.mp hb with e | hb
    · rw [e]; exact ha
    · exact h2 b hb
theorem source_ok {ns : List Int} (hF : fns.lookup 2 = some f2) (q : ∀ h', Src h.length h' → h'.length = h.length + 1 → K (.ref h.length) h') : (callI fns (n + 1) 2 [.lst (ns.map D.int)] h).post K Y := by
  refine call_def hF rfl ?_
  show (evSs (cfgI fns n) b2 [.val (.lst (ns.map D.int))] h).post _ NoX
  unfold b2
  repeat walk_at "iv"
  exact q _ ⟨ns, 0, 0, by simp, Int.le_refl 0⟩ (by simp)
/-! ### relations -/
abbrev Rel := Txt × Nat
abbrev relD (p : Rel) : D := .tup [.str p.1, .int p.2]
def poolL : List Rel := [([65], 1), ([66], 1), ([69], 2), ([70], 2), ([65], 2), ([69, 100, 103, 101], 2), ([77, 97, 114, 107], 1), ([66], 2)]
theorem pool_ok : ∀ p ∈ poolL, wordB p.1 = true ∧ (p.2 = 1 ∨ p.2 = 2) := by decide +kernel
theorem relations_ok (hF : fns.lookup 3 = some f3) (hD : fns.lookup 5 = some f5) (s : Src r h) (q : ∀ (rs : List Rel) h', Src r h' → Oth r h h' → 2 ≤ rs.length → rs.length ≤ 4 → (∀ p ∈ rs, p ∈ poolL) → K (.lst (rs.map relD)) h') : (callI fns (n + 2) 3 [.ref r] h).post K Y := by
  refine call_def hF rfl ?_
  show (evSs (cfgI fns (n + 1)) b3 [.val (.ref r), .no, .no, .no, .no] h).post _ NoX
  unfold b3
  repeat walk_at "iv"
  refine draw_ok hD (by decide) s fun d1 h1 a1 b1 s1 o1 => ?_
  repeat walk_at "iv"
  refine draw_ok hD (by decide) s1 fun d2 h2 a2 b2 s2 o2 => ?_
  refine o_pick (xs := [.int 3, .int 5, .int 1]) a2 (by show d2 < 3; omega) fun x hx => ?_
  obtain ⟨st, rfl, t1, t2⟩ : ∃ st : Int, x = .int st ∧ -(2^64) < st ∧ st < 2^64 := by
    simp only [List.mem_cons, List.not_mem_nil, or_false] at hx
    rcases hx with e | e | e <;> exact ⟨_, e, by decide, by decide⟩
  repeat walk_at "iv"
  refine draw_ok hD (by decide) s2 fun d3 h3 a3 b3 s3 o3 => ?_
  repeat walk_at "iv"
  refine o_rg1 ⟨by omega, by omega⟩ ?_
  refine w_comp (fun pre acc h4 => h4 = h3 ∧ acc.length = pre.length ∧ ∀ x ∈ acc, ∃ p : Rel, p ∈ poolL ∧ x = relD p) ⟨rfl, rfl, fun _ h => by cases h⟩ ?_ ?_
  · rintro pre d post acc h4 e ⟨rfl, l, hm⟩
    obtain ⟨rfl, hp⟩ := rng0_split e
    refine ⟨_, rfl, ?_⟩
    repeat walk_at "iv"
    refine o_mulI (.inl ⟨t1, t2⟩) ?_
    repeat walk_at "iv"
    refine o_modI (by decide) ?_
    refine o_pickM (f := relD) (xs := poolL) (Int.emod_nonneg _ (by decide)) (Int.emod_lt_of_pos _ (by decide)) fun p hp => ?_
    refine ⟨rfl, by simp [l], fun x hx => ?_⟩
    rcases List.mem_append.mp hx with hx | hx
    · exact hm x hx
    · exact ⟨p, hp, List.mem_singleton.mp hx⟩
  · rintro acc h4 ⟨rfl, l, hm⟩
    repeat walk_at "iv"
    rw [rng_len] at l
    obtain ⟨ys, rfl, hy⟩ := maps_of hm
    rw [List.length_map] at l
    exact q ys h4 s3 ((o1.trans o2).trans o3) (by omega) (by omega) hy
/-! ### names -/
theorem name_of {c : Nat} {rest : List Nat} (hc : c ∈ lettersL) (hl : rest.length ≤ 7) (hr : ∀ x ∈ rest, x ∈ lettersL ∨ x ∈ digitsL) : nameB (c :: rest) = true := by
  rw [nameB_cons, decide_eq_true hc, decide_eq_true (show (c :: rest).length ≤ 8 by simp; omega), Bool.true_and, Bool.true_and, List.all_eq_true]
  intro x hx
  rcases List.mem_cons.mp hx with e | hx
  · rw [e, decide_eq_true hc]; rfl
  · rcases hr x hx with h | h
    · rw [decide_eq_true h]; rfl
    · rw [decide_eq_true h, Bool.or_true]
def digs (z : List Nat) (m : Nat) : Bool := decide (z.length ≤ m) && z.all fun c => decide (c ∈ digitsL)
theorem strI_1000 : ∀ i, i < 1000 → digs (strI (i : Nat)) 3 = true := by decide +kernel
theorem str_dig {d : Int} (h0 : 0 ≤ d) (h1 : d < 1000) : (strI d).length ≤ 3 ∧ ∀ x ∈ strI d, x ∈ digitsL := by
  have := strI_1000 d.toNat (by omega)
  rw [Int.toNat_of_nonneg h0, digs, Bool.and_eq_true, List.all_eq_true] at this
  exact ⟨of_decide_eq_true this.1, fun x hx => of_decide_eq_true (this.2 x hx)⟩
theorem o_str {d : Int} {P : D → Prop} (h0 : 0 ≤ d) (h1 : d < 1000) (k : P (.str (strI d))) : ∃ y, bltH .str h [.int d] = some y ∧ P y := by
  have l := (str_dig h0 h1).1
  have g : d.natAbs.log2 < 1920 := by
    have : d.natAbs < 2 ^ 1920 := Nat.lt_of_lt_of_le (show d.natAbs < 2 ^ 10 by omega) (Nat.pow_le_pow_right (by decide) (by decide))
    by_cases z : d.natAbs = 0
    · rw [z]; decide
    · exact (Nat.log2_lt z).mpr this
  exact ⟨_, by show (if _ then _ else _) = _; rw [if_pos ⟨g, by omega⟩], k⟩
theorem style1 : ∀ a ∈ [[], [120], [113, 55], [98]], ∀ b ∈ [[], [49], [122, 122], [99, 48]], ∀ c ∈ lettersL, nameB (a ++ [c] ++ b) = true ∧ (a ++ [c] ++ b).length ≤ 8 := by decide +kernel
theorem style2 : ∀ c ∈ lettersL, nameB ([116, 104, 105, 110, 103] ++ [c]) = true := by decide +kernel
def NmEnv (r : Nat) (many first style : Int) (zs : List Txt) (k : Nat) (c : Nat) (z : Txt) : Iv.Env := [.val (.ref r), .val (.int many), .val (.str lettersL), .val (.int first), .val (.int style), .own (zs.map D.str), .val (.int (k : Int)), .val (.str [c]), .val (.str z)]
def NmMid (r : Nat) (h : IH) (many first style : Int) (zs : List Txt) (k : Nat) (c : Nat) (x : RS) (h4 : IH) : Prop := Src r h4 ∧ Oth r h h4 ∧ ∃ z : Txt, nameB z = true ∧ x = (.nx, NmEnv r many first style zs k c z)
theorem names_ok {many : Int} (hF : fns.lookup 4 = some f4) (hD : fns.lookup 5 = some f5) (hm : 0 ≤ many) (hm2 : many ≤ 1000) (s : Src r h)
    (q : ∀ (zs : List Txt) h', Src r h' → Oth r h h' → zs.length = many.toNat → (∀ z ∈ zs, nameB z = true) → K (.lst (zs.map D.str)) h') : (callI fns (n + 2) 4 [.ref r, .int many] h).post K Y := by
  refine call_def hF rfl ?_
  show (evSs (cfgI fns (n + 1)) b4 [.val (.ref r), .val (.int many), .no, .no, .no, .no, .no, .no, .no] h).post _ NoX
  unfold b4
  repeat walk_at "iv"
  refine draw_ok hD (by decide) s fun first h1 a1 b1 s1 o1 => ?_
  repeat walk_at "iv"
  refine draw_ok hD (by decide) s1 fun style h2 a2 b2 s2 o2 => ?_
  repeat walk_at "iv"
  refine o_rg1 ⟨by omega, by omega⟩ ?_
  refine f_for (fun pre env h3 => Src r h3 ∧ Oth r h h3 ∧ ∃ (zs : List Txt) (s6 s7 s8 : Sl), env = [.val (.ref r), .val (.int many), .val (.str lettersL), .val (.int first), .val (.int style), .own (zs.map D.str), s6, s7, s8] ∧ zs.length = pre.length ∧ ∀ z ∈ zs, nameB z = true)
    ⟨s2, o1.trans o2, [], _, _, _, rfl, rfl, fun _ h => by cases h⟩ ?_ ?_
  · rintro pre d post env h3 e ⟨s3, o3, zs, s6, s7, s8, rfl, e1, hz⟩
    obtain ⟨rfl, hp⟩ := rng0_split e
    refine ⟨_, rfl, ?_⟩
    repeat walk_at "iv"
    refine o_mulI (.inl ⟨by decide, by decide⟩) ?_
    repeat walk_at "iv"
    refine o_modI (by decide) ?_
    refine o_pickS (z := lettersL) (Int.emod_nonneg _ (by decide)) (Int.emod_lt_of_pos _ (by decide)) fun c hc => ?_
    have hc0 : nameB [c] = true := name_of hc (Nat.zero_le _) fun _ h => by cases h
    repeat walk_at "iv"
    -- the three styles, one behind another
    refine two_cut (NmMid r h many first style zs pre.length c) ⟨fun c1 => ?_, fun c1 => ?_⟩ ?_
    · repeat walk_at "iv"
      refine draw_ok hD (by decide) s3 fun d4 h4 a4 b4 s4 o4 => ?_
      refine o_pickM (f := D.str) (xs := [[], [120], [113, 55], [98]]) a4 (by show d4 < 4; omega) fun x hx => ?_
      have lx : x.length ≤ 2 := by revert x; decide
      repeat walk_at "iv"
      refine o_addS (by simp; omega) ?_
      repeat walk_at "iv"
      refine draw_ok hD (by decide) s4 fun d5 h5 a5 b5 s5 o5 => ?_
      refine o_pickM (f := D.str) (xs := [[], [49], [122, 122], [99, 48]]) a5 (by show d5 < 4; omega) fun y hy => ?_
      have ly : y.length ≤ 2 := by revert y; decide
      refine o_addS (by simp; omega) ?_
      repeat walk_at "iv"
      exact ⟨s5, (o3.trans o4).trans o5, _, (style1 x hx y hy c hc).1, rfl⟩
    · repeat walk_at "iv"
      exact ⟨s3, o3, [c], hc0, rfl⟩
    rintro x h4 ⟨s4, o4, z, hz4, rfl⟩
    unfold NmEnv
    repeat walk_at "iv"
    refine two_cut (NmMid r h many first style zs pre.length c) ⟨fun c1 => ?_, fun c1 => ?_⟩ ?_
    · repeat walk_at "iv"
      refine o_addS (by simp) ?_
      repeat walk_at "iv"
      exact ⟨s4, o4, _, style2 c hc, rfl⟩
    · repeat walk_at "iv"
      exact ⟨s4, o4, z, hz4, rfl⟩
    rintro x h5 ⟨s5, o5, z, hz5, rfl⟩
    unfold NmEnv
    repeat walk_at "iv"
    refine two_cut (NmMid r h many first style zs pre.length c) ⟨fun c1 => ?_, fun c1 => ?_⟩ ?_
    · repeat walk_at "iv"
      refine draw_ok hD (by decide) s5 fun d6 h6 a6 b6 s6 o6 => ?_
      repeat walk_at "iv"
      refine o_str a6 (by omega) ?_
      have sd := str_dig a6 (show d6 < 1000 by omega)
      refine o_addS (by simp; omega) ?_
      repeat walk_at "iv"
      refine draw_ok hD (by decide) s6 fun d7 h7 a7 b7 s7 o7 => ?_
      repeat walk_at "iv"
      refine ⟨fun c2 => ?_, fun c2 => ?_⟩
      · repeat walk_at "iv"
        refine draw_ok hD (by decide) s7 fun d8 h8 a8 b8 s8 o8 => ?_
        repeat walk_at "iv"
        refine o_str (by omega) (by omega) ?_
        have sd := str_dig (show 0 ≤ 1 + d8 by omega) (show 1 + d8 < 1000 by omega)
        refine o_addS (by simp; omega) ?_
        repeat walk_at "iv"
        exact ⟨s8, ((o5.trans o6).trans o7).trans o8, _, name_of (by decide) (by omega) fun x hx => .inr (sd.2 x hx), rfl⟩
      · repeat walk_at "iv"
        exact ⟨s7, (o5.trans o6).trans o7, _, name_of hc (by omega) fun x hx => .inr (sd.2 x hx), rfl⟩
    · repeat walk_at "iv"
      exact ⟨s5, o5, z, hz5, rfl⟩
    rintro x h6 ⟨s6, o6, z, hz6, rfl⟩
    unfold NmEnv
    repeat walk_at "iv"
    refine oS.o_inL (a := z) (xs := zs) ?_
    repeat walk_at "iv"
    refine two_cut (NmMid r h many first style zs pre.length c) ⟨fun c1 => ?_, fun c1 => ?_⟩ ?_
    · repeat walk_at "iv"
      have sd := str_dig (show 0 ≤ (pre.length : Int) by omega) (show (pre.length : Int) < 1000 by omega)
      refine o_str (by omega) (by omega) ?_
      refine o_addS (by simp; omega) ?_
      repeat walk_at "iv"
      refine o_addS (by simp; omega) ?_
      repeat walk_at "iv"
      refine ⟨s6, o6, _, name_of (c := 119) (rest := strI (pre.length : Int) ++ [c]) (by decide) (by simp; omega) fun x hx => ?_, rfl⟩
      rcases List.mem_append.mp hx with hx | hx
      · exact .inr (sd.2 x hx)
      · rw [List.mem_singleton.mp hx]; exact .inl hc
    · repeat walk_at "iv"
      exact ⟨s6, o6, z, hz6, rfl⟩
    rintro x h7 ⟨s7, o7, z, hz7, rfl⟩
    unfold NmEnv
    repeat walk_at "iv"
    refine ⟨by rw [List.length_map]; omega, ?_⟩
    repeat walk_at "iv"
    refine ⟨s7, o7, zs ++ [z], _, _, _, by rw [List.map_append]; rfl, by simp [e1], fun y hy => ?_⟩
    rcases List.mem_append.mp hy with hy | hy
    · exact hz y hy
    · rw [List.mem_singleton.mp hy]; exact hz7
  · rintro env h3 ⟨s3, o3, zs, s6, s7, s8, rfl, e1, hz⟩
    repeat walk_at "iv"
    rw [rng_len] at e1
    exact q zs h3 s3 o3 e1 hz
end Lw

/-! drawn patterns and facts, spoilt forms -/
namespace Lw
open PySem L2 Iv Fn
variable {fns : Prog} {h h' : IH} {K : D → IH → Prop} {Y : Nat → List D → IH → Prop} {n r : Nat}
theorem pattern_ok {rs : List Rel} {names : List Txt} (hF : fns.lookup 6 = some f6) (hD : fns.lookup 5 = some f5) (hr : rs ≠ []) (hr2 : rs.length ≤ 1000) (hn : names ≠ []) (hn2 : names.length ≤ 1000) (hc : ∀ p ∈ rs, p.2 ≤ 100) (s : Src r h)
    (q : ∀ (p : Rel) (ps : List Txt) h', Src r h' → Oth r h h' → p ∈ rs → ps.length = p.2 → (∀ x ∈ ps, x = [] ∨ x ∈ names) → K (TS (p.1 :: ps)) h') : (callI fns (n + 2) 6 [.ref r, .lst (rs.map relD), .lst (names.map D.str)] h).post K Y := by
  refine call_def hF rfl ?_
  show (evSs (cfgI fns (n + 1)) b6 [.val (.ref r), .val (.lst (rs.map relD)), .val (.lst (names.map D.str)), .no, .no, .no, .no, .no] h).post _ NoX
  unfold b6
  have hr0 := List.length_pos_iff.mpr hr
  have hn0 := List.length_pos_iff.mpr hn
  repeat walk_at "iv"
  refine draw_ok hD (by rw [List.length_map]; omega) s fun d1 h1 a1 b1 s1 o1 => ?_
  rw [List.length_map] at b1
  refine o_pickM a1 (by omega) fun p hp => ?_
  refine ⟨_, rfl, ?_⟩
  repeat walk_at "iv"
  have hp2 := hc p hp
  refine o_rg1 ⟨by omega, by omega⟩ ?_
  rw [Int.toNat_natCast]
  refine f_for (fun pre env h3 => Src r h3 ∧ Oth r h h3 ∧ ∃ (ps : List Txt) (s6 s7 : Sl), env = [.val (.ref r), .val (.lst (rs.map relD)), .val (.lst (names.map D.str)), .val (.str p.1), .val (.int p.2), .own ((p.1 :: ps).map D.str), s6, s7] ∧ ps.length = pre.length ∧ ∀ x ∈ ps, x = [] ∨ x ∈ names)
    ⟨s1, o1, [], _, _, rfl, rfl, fun _ h => by cases h⟩ ?_ ?_
  · rintro pre d post env h3 e ⟨s3, o3, ps, s6, s7, rfl, e1, hx⟩
    obtain ⟨rfl, hlt⟩ := rng0_split e
    refine ⟨_, rfl, ?_⟩
    repeat walk_at "iv"
    refine draw_ok hD (by rw [List.length_map]; omega) s3 fun d4 h4 a4 b4 s4 o4 => ?_
    rw [List.length_map] at b4
    refine o_pickM a4 (by omega) fun nm hnm => ?_
    repeat walk_at "iv"
    refine draw_ok hD (by decide) s4 fun d5 h5 a5 b5 s5 o5 => ?_
    refine o_pickM (f := D.str) (xs := [[], nm]) a5 (by show d5 < 2; omega) fun x hx2 => ?_
    refine ⟨by rw [List.length_map, List.length_cons]; omega, ?_⟩
    repeat walk_at "iv"
    refine ⟨s5, (o3.trans o4).trans o5, ps ++ [x], _, _, by rw [← List.cons_append, List.map_append]; rfl, by simp [e1], fun y hy => ?_⟩
    · rcases List.mem_append.mp hy with hy | hy
      · exact hx y hy
      · rw [List.mem_singleton.mp hy]
        simp only [List.mem_cons, List.not_mem_nil, or_false] at hx2
        rcases hx2 with e | e
        · exact .inl e
        · exact .inr (e ▸ hnm)
  · rintro env h3 ⟨s3, o3, ps, s6, s7, rfl, e1, hx⟩
    rw [rng_len] at e1
    repeat walk_at "iv"
    exact q p ps h3 s3 o3 hp e1 hx
theorem opened_ok {w : Txt} {ps : List Txt} (hF : fns.lookup 7 = some f7) (hD : fns.lookup 5 = some f5) (hl : ps.length ≤ 1000) (s : Src r h)
    (q : ∀ (qs : List Txt) h', Src r h' → Oth r h h' → qs.length = ps.length → (∀ x ∈ qs, x = [] ∨ x ∈ ps) → K (TS (w :: qs)) h') : (callI fns (n + 2) 7 [.ref r, TS (w :: ps)] h).post K Y := by
  refine call_def hF rfl ?_
  show (evSs (cfgI fns (n + 1)) b7 [.val (.ref r), .val (TS (w :: ps)), .no, .no] h).post _ NoX
  unfold b7
  repeat walk_at "iv"
  rw [List.map_cons, cut1]
  refine f_forR D.str (fun rest env h3 => Src r h3 ∧ Oth r h h3 ∧ ∃ (qs : List Txt) (s3 : Sl), env = [.val (.ref r), .val (TS (w :: ps)), .own ((w :: qs).map D.str), s3] ∧ qs.length + rest.length = ps.length ∧ (∀ x ∈ qs, x = [] ∨ x ∈ ps) ∧ ∀ x ∈ rest, x ∈ ps)
    ?_ ?_ ⟨s, Oth.refl r h, [], _, rfl, by simp, (fun _ h => by cases h), fun _ h => h⟩
  · rintro x rest env h3 ⟨s3, o3, qs, s4, rfl, e1, hx, hr⟩
    refine ⟨_, rfl, ?_⟩
    rw [List.length_cons] at e1
    repeat walk_at "iv"
    refine draw_ok hD (by decide) s3 fun d5 h5 a5 b5 s5 o5 => ?_
    refine o_pickM (f := D.str) (xs := [x, []]) a5 (by show d5 < 2; omega) fun y hy => ?_
    refine ⟨by rw [List.length_map, List.length_cons]; omega, ?_⟩
    repeat walk_at "iv"
    refine ⟨s5, o3.trans o5, qs ++ [y], _, by rw [← List.cons_append, List.map_append]; rfl, by simp; omega, fun z hz => ?_, fun z hz => hr z (List.mem_cons_of_mem _ hz)⟩
    · rcases List.mem_append.mp hz with hz | hz
      · exact hx z hz
      · rw [List.mem_singleton.mp hz]
        simp only [List.mem_cons, List.not_mem_nil, or_false] at hy
        rcases hy with e | e
        · exact .inr (e ▸ hr x List.mem_cons_self)
        · exact .inl e
  · rintro env h3 ⟨s3, o3, qs, s4, rfl, e1, hx, hr⟩
    repeat walk_at "iv"
    exact q qs h3 s3 o3 (by simpa using e1) hx
theorem atom_ok {rs : List Rel} {names : List Txt} (hF : fns.lookup 8 = some f8) (hD : fns.lookup 5 = some f5) (hr : rs ≠ []) (hr2 : rs.length ≤ 1000) (hn : names ≠ []) (hn2 : names.length ≤ 1000) (hc : ∀ p ∈ rs, p.2 = 1 ∨ p.2 = 2) (s : Src r h)
    (q : ∀ (p : Rel) (ps : List Txt) h', Src r h' → Oth r h h' → p ∈ rs → ps.length = p.2 → (∀ x ∈ ps, x ∈ names) → K (TS (p.1 :: ps)) h') : (callI fns (n + 2) 8 [.ref r, .lst (rs.map relD), .lst (names.map D.str)] h).post K Y := by
  refine call_def hF rfl ?_
  show (evSs (cfgI fns (n + 1)) b8 [.val (.ref r), .val (.lst (rs.map relD)), .val (.lst (names.map D.str)), .no, .no] h).post _ NoX
  unfold b8
  have hr0 := List.length_pos_iff.mpr hr
  have hn0 := List.length_pos_iff.mpr hn
  repeat walk_at "iv"
  refine draw_ok hD (by rw [List.length_map]; omega) s fun d1 h1 a1 b1 s1 o1 => ?_
  rw [List.length_map] at b1
  refine o_pickM a1 (by omega) fun p hp => ?_
  refine ⟨_, rfl, ?_⟩
  repeat walk_at "iv"
  refine ⟨fun c => ?_, fun c => ?_⟩
  · have c : p.2 = 1 := by simp at c; omega
    repeat walk_at "iv"
    refine draw_ok hD (by rw [List.length_map]; omega) s1 fun d2 h2 a2 b2 s2 o2 => ?_
    rw [List.length_map] at b2
    refine o_pickM a2 (by omega) fun x hx => ?_
    repeat walk_at "iv"
    exact q p [x] h2 s2 (o1.trans o2) hp (by rw [c]; rfl) fun y hy => by rw [List.mem_singleton.mp hy]; exact hx
  · have c : p.2 = 2 := by
      have := hc p hp
      simp at c; omega
    repeat walk_at "iv"
    refine draw_ok hD (by rw [List.length_map]; omega) s1 fun d2 h2 a2 b2 s2 o2 => ?_
    rw [List.length_map] at b2
    refine o_pickM a2 (by omega) fun x hx => ?_
    repeat walk_at "iv"
    refine draw_ok hD (by rw [List.length_map]; omega) s2 fun d3 h3 a3 b3 s3 o3 => ?_
    rw [List.length_map] at b3
    refine o_pickM a3 (by omega) fun y hy => ?_
    repeat walk_at "iv"
    refine q p [x, y] h3 s3 ((o1.trans o2).trans o3) hp (by rw [c]; rfl) fun z hz => ?_
    simp only [List.mem_cons, List.not_mem_nil, or_false] at hz
    rcases hz with e | e <;> rw [e]
    · exact hx
    · exact hy
/-! ### forms -/
abbrev badL : List Txt := [[65, 97], [49, 97], [97, 95, 98], [116, 111, 111, 108, 111, 110, 103, 57, 57], [42], [65], [97, 32, 98]]
theorem bad_no : ∀ x ∈ badL, x ≠ [] ∧ nameB x = false := by decide +kernel
abbrev badW : List Txt := [[97], [], [84, 111, 111, 108, 111, 110, 103, 57, 57], [65, 95]]
theorem badW_no : ∀ x ∈ badW, wordB x = false := by decide +kernel
theorem patB_cons (w : Txt) (r : List Txt) : patB (w :: r) = ((decide (r.length = 1) || decide (r.length = 2)) && wordB w && r.all fun x => decide (x = []) || nameB x) := rfl
theorem patB_bad {w : Txt} {r : List Txt} {x : Txt} (hx : x ∈ r) (h : x ≠ [] ∧ nameB x = false) : patB (w :: r) = false := by
  rw [patB_cons]
  have : (r.all fun x => decide (x = []) || nameB x) = false := by
    rw [List.all_eq_false]
    exact ⟨x, hx, by simp [h.1, h.2]⟩
  rw [this, Bool.and_false]
theorem forms_ok {w : Txt} {ps : List Txt} (hF : fns.lookup 20 = some f20) (hD : fns.lookup 5 = some f5) (h22 : fns.lookup 22 = some f22) (h24 : fns.lookup 24 = some f24) (h25 : fns.lookup 25 = some f25) (hp : patB (w :: ps) = true) (s : Src r h)
    (q : ∀ h', Src r h' → Oth r h h' → K (.bl true) h') : (callI fns (n + 3) 20 [.ref r, TS (w :: ps)] h).post K Y := by
  refine call_def hF rfl ?_
  show (evSs (cfgI fns (n + 2)) b20 [.val (.ref r), .val (TS (w :: ps)), .no, .no] h).post _ NoX
  unfold b20
  have hp' := hp
  rw [patB_cons, Bool.and_eq_true, Bool.and_eq_true, Bool.or_eq_true, decide_eq_true_eq, decide_eq_true_eq] at hp'
  obtain ⟨⟨hl, hw⟩, ha⟩ := hp'
  repeat walk_at "iv"
  refine draw_ok hD (by decide) s fun d1 h1 a1 b1 s1 o1 => ?_
  refine o_pickM (f := D.str) (xs := badL) a1 (by show d1 < 7; omega) fun bad hb => ?_
  have nb := bad_no bad hb
  repeat walk_at "iv"
  refine draw_ok hD (by simp; omega) s1 fun d2 h2 a2 b2 s2 o2 => ?_
  have b2 : d2 < ps.length := by simp at b2; omega
  obtain ⟨k, rfl⟩ : ∃ k : Nat, d2 = (k : Int) := ⟨d2.toNat, by omega⟩
  repeat walk_at "iv"
  refine pat_ok h22 h24 h25 ?_
  repeat walk_at "iv"
  rw [hp]
  repeat walk_at "iv"
  rw [show (1 + (k : Int)) = ((k + 1 : Nat) : Int) by omega, cut_to]
  refine o_addT (by simp; omega) ?_
  repeat walk_at "iv"
  rw [show (((k + 1 : Nat) : Int) + 1) = ((k + 2 : Nat) : Int) by omega, cut_from]
  refine o_addT (by simp; omega) ?_
  repeat walk_at "iv"
  have e1 : D.tup (((w :: ps).map D.str).take (k + 1) ++ [.str bad] ++ ((w :: ps).map D.str).drop (k + 2)) = TS (w :: (ps.take k ++ [bad] ++ ps.drop (k + 1))) := by
    simp [TS, List.map_take, List.map_drop]
  rw [e1]
  refine pat_ok h22 h24 h25 ?_
  rw [patB_bad (x := bad) (by simp) nb]
  repeat walk_at "iv"
  refine draw_ok hD (by decide) s2 fun d3 h3 a3 b3 s3 o3 => ?_
  refine o_pickM (f := D.str) (xs := badW) a3 (by show d3 < 4; omega) fun bw hbw => ?_
  repeat walk_at "iv"
  rw [List.map_cons, cut1]
  refine o_addT (by simp; omega) ?_
  repeat walk_at "iv"
  refine pat_ok (p := bw :: ps) h22 h24 h25 ?_
  rw [show patB (bw :: ps) = false by rw [patB_cons, badW_no bw hbw, Bool.and_false]; rfl]
  repeat walk_at "iv"
  refine pat_ok (p := [w]) h22 h24 h25 ?_
  rw [show patB [w] = false from rfl]
  repeat walk_at "iv"
  refine pat_ok (p := [w, [97], [], [98]]) h22 h24 h25 ?_
  rw [show patB [w, [97], [], [98]] = false from rfl]
  repeat walk_at "iv"
  refine pat_ok (p := []) h22 h24 h25 ?_
  rw [show patB [] = false from rfl]
  repeat walk_at "iv"
  refine pat_ok (p := [w, []]) h22 h24 h25 ?_
  rw [show patB [w, []] = true by rw [patB_cons, hw]; rfl]
  repeat walk_at "iv"
  refine pat_ok (p := [w, [97], []]) h22 h24 h25 ?_
  rw [show patB [w, [97], []] = true by rw [patB_cons, hw]; decide +kernel]
  repeat walk_at "iv"
  refine pat_ok (p := [w, [], [98, 50]]) h22 h24 h25 ?_
  rw [show patB [w, [], [98, 50]] = true by rw [patB_cons, hw]; decide +kernel]
  exact q h3 s3 ((o1.trans o2).trans o3)
end Lw

/-! facts and patterns: the mathematics -/
namespace Lw
open PySem L2 Iv Fn
theorem mem_grow {names : List Txt} {p : Txt} {rows : List (List Txt)} {f : List Txt} : f ∈ grow names p rows ↔ ∃ row x, row ∈ rows ∧ x ∈ names ∧ fillB p x = true ∧ f = row ++ [x] := by
  unfold grow
  rw [List.mem_flatMap]
  constructor
  · rintro ⟨row, h1, h2⟩
    obtain ⟨x, hx, rfl⟩ := List.mem_map.mp h2
    obtain ⟨h3, h4⟩ := List.mem_filter.mp hx
    exact ⟨row, x, h1, h3, h4, rfl⟩
  · rintro ⟨row, x, h1, h3, h4, rfl⟩
    exact ⟨row, h1, List.mem_map.mpr ⟨x, List.mem_filter.mpr ⟨h3, h4⟩, rfl⟩⟩
def fillsB (names : List Txt) : List Txt → List Txt → Prop
  | [], [] => True
  | p :: ps, x :: xs => (x ∈ names ∧ fillB p x = true) ∧ fillsB names ps xs
  | _, _ => False
theorem mem_growAll {names : List Txt} {f : List Txt} : ∀ {ps : List Txt} {rows : List (List Txt)}, f ∈ growAll names ps rows ↔ ∃ row xs, row ∈ rows ∧ fillsB names ps xs ∧ f = row ++ xs
  | [], rows => by
    rw [growAll]
    constructor
    · exact fun h => ⟨f, [], h, trivial, by simp⟩
    · rintro ⟨row, xs, h1, h2, rfl⟩
      cases xs with
      | nil => simpa using h1
      | cons x xs => exact h2.elim
  | p :: ps, rows => by
    rw [growAll, mem_growAll (ps := ps)]
    constructor
    · rintro ⟨row, xs, h1, h2, rfl⟩
      obtain ⟨row', x, h3, h4, h5, rfl⟩ := mem_grow.mp h1
      exact ⟨row', x :: xs, h3, ⟨⟨h4, h5⟩, h2⟩, by simp⟩
    · rintro ⟨row, xs, h1, h2, rfl⟩
      cases xs with
      | nil => exact h2.elim
      | cons x xs => exact ⟨row ++ [x], xs, mem_grow.mpr ⟨row, x, h1, h2.1.1, h2.1.2, rfl⟩, h2.2, by simp⟩
theorem fillsB_iff {names : List Txt} : ∀ {ps xs : List Txt}, fillsB names ps xs ↔ ps.length = xs.length ∧ (ps.zip xs).all cov1 = true ∧ ∀ x ∈ xs, x ∈ names
  | [], [] => by simp [fillsB]
  | [], _ :: _ => by simp [fillsB]
  | _ :: _, [] => by simp [fillsB]
  | p :: ps, x :: xs => by
    rw [fillsB, fillsB_iff (ps := ps)]
    simp only [List.length_cons, List.zip_cons_cons, List.all_cons, Bool.and_eq_true, List.mem_cons, forall_eq_or_imp, Nat.add_right_cancel_iff]
    show (x ∈ names ∧ cov1 (p, x) = true) ∧ _ ↔ _
    constructor
    · rintro ⟨⟨h1, h2⟩, h3, h4, h5⟩; exact ⟨h3, ⟨h2, h4⟩, h1, h5⟩
    · rintro ⟨h3, ⟨h2, h4⟩, h1, h5⟩; exact ⟨⟨h1, h2⟩, h3, h4, h5⟩
theorem mem_factsOf {names : List Txt} {w : Txt} {ps f : List Txt} : f ∈ factsOf names (w :: ps) ↔ cov (w :: ps) f = true ∧ ∀ x ∈ f.tail, x ∈ names := by
  show f ∈ oF.asc _ ↔ _
  rw [oF.mem_asc, mem_growAll]
  constructor
  · rintro ⟨row, xs, h1, h2, rfl⟩
    rw [List.mem_singleton.mp h1]
    obtain ⟨h3, h4, h5⟩ := fillsB_iff.mp h2
    refine ⟨?_, by simpa using h5⟩
    show cov (w :: ps) (w :: xs) = true
    rw [cov_cons, decide_eq_true h3, decide_eq_true rfl, h4]; rfl
  · rintro ⟨h1, h2⟩
    cases f with
    | nil => cases h1
    | cons a xs =>
      rw [cov_cons, Bool.and_eq_true, Bool.and_eq_true, decide_eq_true_eq, decide_eq_true_eq] at h1
      refine ⟨[w], xs, List.mem_singleton.mpr rfl, fillsB_iff.mpr ⟨h1.1.1, h1.2, by simpa using h2⟩, by rw [h1.1.2]; rfl⟩
theorem factsOf_asc (names : List Txt) (w : Txt) (ps : List Txt) : oF.Asc (factsOf names (w :: ps)) := oF.asc_asc _
/-- what fits both fits the common pattern, and the other way round -/
theorem zip_both : ∀ {r s xs : List Txt}, r.length = s.length → s.length = xs.length →
    (((r.zip xs).all cov1 = true ∧ (s.zip xs).all cov1 = true) ↔ ((r.zip s).all fun x => !clash x) = true ∧ (((r.zip s).map pick).zip xs).all cov1 = true)
  | [], [], [], _, _ => by simp
  | [], _ :: _, _, h, _ => by cases h
  | _ :: _, [], _, h, _ => by cases h
  | [], [], _ :: _, _, h => by cases h
  | _ :: _, _ :: _, [], _, h => by cases h
  | a :: r, b :: s, x :: xs, h1, h2 => by
    have ih := zip_both (r := r) (s := s) (xs := xs) (by simpa using h1) (by simpa using h2)
    simp only [List.zip_cons_cons, List.all_cons, List.map_cons, Bool.and_eq_true]
    have one : (cov1 (a, x) = true ∧ cov1 (b, x) = true) ↔ ((!clash (a, b)) = true ∧ cov1 (pick (a, b), x) = true) := by
      simp only [cov1, clash, pick, Bool.or_eq_true, decide_eq_true_eq, Bool.not_eq_true', Bool.and_eq_false_iff, Bool.not_eq_false', decide_eq_false_iff_not]
      by_cases ha : a = []
      · subst ha; simp
      · by_cases hb : b = []
        · subst hb; simp [ha]
        · simp only [ha, hb, if_false, false_or]
          constructor
          · rintro ⟨h3, h4⟩; exact ⟨h3.trans h4.symm, h3⟩
          · rintro ⟨h3, h4⟩
            exact ⟨h4, h3 ▸ h4⟩
    constructor
    · rintro ⟨⟨h3, h4⟩, h5, h6⟩
      obtain ⟨k1, k2⟩ := one.mp ⟨h3, h5⟩
      obtain ⟨k3, k4⟩ := ih.mp ⟨h4, h6⟩
      exact ⟨⟨k1, k3⟩, k2, k4⟩
    · rintro ⟨⟨k1, k3⟩, k2, k4⟩
      obtain ⟨h3, h5⟩ := one.mpr ⟨k1, k2⟩
      obtain ⟨h4, h6⟩ := ih.mpr ⟨k3, k4⟩
      exact ⟨⟨h3, h4⟩, h5, h6⟩
theorem com_iff {a b : Txt} {r s f : List Txt} : (cov (a :: r) f = true ∧ cov (b :: s) f = true) ↔ ∃ c, com (a :: r) (b :: s) = some c ∧ cov c f = true := by
  cases f with
  | nil =>
    constructor
    · rintro ⟨h, _⟩; cases h
    · rintro ⟨c, h1, h2⟩
      rw [com_cons] at h1
      split at h1
      · cases h1; cases h2
      · cases h1
  | cons x xs =>
    rw [cov_cons, cov_cons, com_cons]
    simp only [Bool.and_eq_true, decide_eq_true_eq]
    constructor
    · rintro ⟨⟨⟨h1, h2⟩, h3⟩, ⟨h4, h5⟩, h6⟩
      obtain ⟨k1, k2⟩ := (zip_both (h1.trans h4.symm) h4).mp ⟨h3, h6⟩
      refine ⟨a :: (r.zip s).map pick, by rw [if_pos ⟨⟨h1.trans h4.symm, h2.trans h5.symm⟩, k1⟩], ?_⟩
      rw [cov_cons, decide_eq_true h2, k2, decide_eq_true (by rw [List.length_map, List.length_zip]; omega)]; rfl
    · rintro ⟨c, h1, h2⟩
      split at h1
      · rename_i hc
        obtain ⟨⟨h3, h4⟩, h5⟩ := hc
        cases h1
        rw [cov_cons, Bool.and_eq_true, Bool.and_eq_true, decide_eq_true_eq, decide_eq_true_eq, List.length_map, List.length_zip] at h2
        obtain ⟨⟨k1, k2⟩, k3⟩ := h2
        obtain ⟨m1, m2⟩ := (zip_both h3 (by omega)).mpr ⟨h5, k3⟩
        exact ⟨⟨⟨by omega, k2⟩, m1⟩, ⟨by omega, h4.symm.trans k2⟩, m2⟩
      · cases h1
/-- the facts that fit both -/
theorem both_of {a b : Txt} {r s wide : List Txt} {c : List Txt} (h : com (a :: r) (b :: s) = some c) : (factsOf wide (a :: r)).filter (fun f => cov (b :: s) f) = factsOf wide c := by
  obtain ⟨w, ps, rfl⟩ : ∃ w ps, c = w :: ps := by
    rw [com_cons] at h
    split at h
    · cases h; exact ⟨_, _, rfl⟩
    · cases h
  refine oF.asc_eq ((factsOf_asc wide a r).sublist List.filter_sublist) (factsOf_asc wide w ps) fun f => ?_
  rw [List.mem_filter, mem_factsOf, mem_factsOf]
  have q := com_iff (a := a) (b := b) (r := r) (s := s) (f := f)
  rw [h] at q
  constructor
  · rintro ⟨⟨h1, h2⟩, h3⟩
    obtain ⟨c', e, k⟩ := q.mp ⟨h1, h3⟩
    cases e
    exact ⟨k, h2⟩
  · rintro ⟨h1, h2⟩
    obtain ⟨h3, h4⟩ := q.mpr ⟨_, rfl, h1⟩
    exact ⟨⟨h3, h2⟩, h4⟩
theorem both_none {a b : Txt} {r s wide : List Txt} (h : com (a :: r) (b :: s) = none) : (factsOf wide (a :: r)).filter (fun f => cov (b :: s) f) = [] := by
  rw [List.filter_eq_nil_iff]
  intro f hf h2
  have q := com_iff.mp ⟨(mem_factsOf.mp hf).1, h2⟩
  obtain ⟨c, e, _⟩ := q
  rw [h] at e; cases e
theorem com_parts {a b : Txt} {r s : List Txt} {c : List Txt} (h : com (a :: r) (b :: s) = some c) : ∃ ps, c = a :: ps ∧ ps.length = r.length ∧ ∀ x ∈ ps, x = [] ∨ x ∈ r ∨ x ∈ s := by
  rw [com_cons] at h
  split at h
  · rename_i hc
    cases h
    rw [Bool.and_eq_true, Bool.and_eq_true, decide_eq_true_eq] at hc
    refine ⟨_, rfl, by rw [List.length_map, List.length_zip]; omega, fun x hx => ?_⟩
    obtain ⟨⟨u, v⟩, h1, rfl⟩ := List.mem_map.mp hx
    have := List.of_mem_zip h1
    unfold pick
    split
    · exact .inr (.inr this.2)
    · exact .inr (.inl this.1)
  · cases h
theorem facts_some {w : Txt} {ps wide : List Txt} (z : Txt) (hz : z ∈ wide) (h : ∀ x ∈ ps, x = [] ∨ x ∈ wide) : factsOf wide (w :: ps) ≠ [] := by
  intro e
  have : w :: ps.map (fun x => if x = [] then z else x) ∈ factsOf wide (w :: ps) := by
    rw [mem_factsOf]
    refine ⟨?_, fun x hx => ?_⟩
    · rw [cov_cons, decide_eq_true (by rw [List.length_map]), decide_eq_true rfl, Bool.true_and, Bool.true_and, List.all_eq_true]
      rintro ⟨u, v⟩ hx
      rw [List.zip_map_right] at hx
      obtain ⟨⟨u', v'⟩, h1, h2⟩ := List.mem_map.mp hx
      have e2 : u' = v' := by
        obtain ⟨i, hi, e⟩ := List.mem_iff_getElem.mp h1
        rw [List.getElem_zip] at e
        cases e; rfl
      cases h2
      subst e2
      simp only [cov1, id, Prod.map_fst, Prod.map_snd, Bool.or_eq_true, decide_eq_true_eq]
      by_cases c : u' = []
      · exact .inl c
      · exact .inr (by rw [if_neg c])
    · obtain ⟨y, hy, rfl⟩ := List.mem_map.mp (show x ∈ ps.map (fun x => if x = [] then z else x) from hx)
      by_cases c : y = []
      · rw [if_pos c]; exact hz
      · rw [if_neg c]; exact (h y hy).resolve_left c
  rw [e] at this; cases this
/-! ### data to be compared -/
theorem depth_TSs (xs : List (List Txt)) : D.depth (.lst (xs.map TS)) ≤ 2 := by
  show D.depths (xs.map TS) + 1 ≤ 2
  have : D.depths (xs.map TS) ≤ 1 := tup_depth oF (fun p => by
    show D.depths (p.map D.str) + 1 ≤ 1
    have := tup_depth oS (n := 0) (fun _ => Nat.le_refl 0) p
    have : D.depths (p.map D.str) ≤ 0 := this
    omega) xs
  omega
theorem small_strs (xs : List Txt) : smalls (xs.map D.str) := smalls_of fun x hx => by
  obtain ⟨_, _, rfl⟩ := List.mem_map.mp hx
  trivial
theorem small_TS {p : List Txt} (h : p.length ≤ 8000000) : small (TS p) := by
  show small (.tup _)
  rw [small]
  exact ⟨by rw [List.length_map]; exact h, small_strs p⟩
theorem small_TSs {xs : List (List Txt)} (h : xs.length ≤ 8000000) (h2 : ∀ p ∈ xs, p.length ≤ 8000000) : small (.lst (xs.map TS)) := by
  rw [small]
  refine ⟨by rw [List.length_map]; exact h, smalls_of fun x hx => ?_⟩
  obtain ⟨p, hp, rfl⟩ := List.mem_map.mp hx
  exact small_TS (h2 p hp)
theorem small_lst {xs : List Txt} (h : xs.length ≤ 8000000) : small (.lst (xs.map D.str)) := by
  rw [small]
  exact ⟨by rw [List.length_map]; exact h, small_strs xs⟩
theorem growAll_len {names : List Txt} (hn : names.length ≤ 200) : ∀ {ps : List Txt} {rows : List (List Txt)}, ps.length ≤ 3 → rows.length ≤ 200 ^ (3 - ps.length) → (growAll names ps rows).length ≤ 8000000
  | [], rows, _, h => pow_top (m := 0) h
  | p :: ps, rows, h1, h2 => by
    rw [growAll]
    rw [List.length_cons] at h1 h2
    exact growAll_len hn (by omega) (pow_next h1 hn h2 (grow_len names p rows))
theorem asc_len {α : Type} [DecidableEq α] (o : OE α) (xs : List α) : (o.asc xs).length ≤ xs.length := by
  have go : ∀ (xs r : List α), (xs.foldl (fun r a => o.ins a r) r).length ≤ r.length + xs.length := by
    intro xs
    induction xs with
    | nil => intro r; simp
    | cons x xs ih =>
      intro r
      have h1 := ih (o.ins x r)
      have h2 : ∀ r : List α, (o.ins x r).length ≤ r.length + 1 := by
        intro r
        induction r with
        | nil => simp [OE.ins]
        | cons y r ih2 =>
          unfold OE.ins
          split
          · simp
          · split
            · simp
            · simp only [List.length_cons]; omega
      have h3 := h2 r
      rw [List.foldl_cons, List.length_cons]; omega
  simpa [OE.asc] using go xs []
theorem factsOf_len {names : List Txt} {w : Txt} {ps : List Txt} (hn : names.length ≤ 200) (hp : ps.length ≤ 3) : (factsOf names (w :: ps)).length ≤ 8000000 :=
  Nat.le_trans (asc_len oF _) (growAll_len hn hp (Nat.one_le_pow _ _ (by decide)))
theorem factsOf_mem_len {names : List Txt} {w : Txt} {ps f : List Txt} (h : f ∈ factsOf names (w :: ps)) : ∃ xs, f = w :: xs ∧ xs.length = ps.length := by
  have h1 := (mem_factsOf.mp h).1
  cases f with
  | nil => cases h1
  | cons a xs =>
    rw [cov_cons, Bool.and_eq_true, Bool.and_eq_true, decide_eq_true_eq, decide_eq_true_eq] at h1
    exact ⟨xs, by rw [h1.1.2], h1.1.1.symm⟩
end Lw

/-! linked facts, plainly; dicts that are sets of keys -/
namespace Lw
open PySem L2 Iv
abbrev Fact := List Txt
theorem nodup_le {α : Type} [DecidableEq α] : ∀ {l m : List α}, l.Nodup → (∀ a ∈ l, a ∈ m) → l.length ≤ m.length
  | [], m, _, _ => Nat.zero_le _
  | a :: l, m, nd, h => by
    rw [List.nodup_cons] at nd
    have ha := h a List.mem_cons_self
    have := nodup_le (l := l) (m := m.erase a) nd.2 fun b hb => (List.mem_erase_of_ne (fun e => nd.1 (by rw [← e]; exact hb))).mpr (h b (List.mem_cons_of_mem _ hb))
    have e := List.length_erase_of_mem ha
    have := List.length_pos_of_mem ha
    rw [List.length_cons]; omega
/-- a name that is linked with S by the facts -/
inductive Rch (fs : List Fact) (S : List Txt) : Txt → Prop
  | base {x : Txt} : x ∈ S → Rch fs S x
  | step {f : Fact} {x y : Txt} : f ∈ fs → y ∈ f.tail → Rch fs S y → x ∈ f.tail → Rch fs S x
def Lnk (fs : List Fact) (S : List Txt) (f : Fact) : Prop := ∃ y ∈ f.tail, Rch fs S y
noncomputable instance (fs : List Fact) (S : List Txt) (f : Fact) : Decidable (Lnk fs S f) := Classical.propDecidable _
noncomputable def lnkd (fs : List Fact) (S : List Txt) : List Fact := fs.filter fun f => decide (Lnk fs S f)
theorem mem_lnkd {fs : List Fact} {S : List Txt} {f : Fact} : f ∈ lnkd fs S ↔ f ∈ fs ∧ Lnk fs S f := by
  unfold lnkd
  rw [List.mem_filter, decide_eq_true_eq]
theorem Rch.mono {fs gs : List Fact} {S T : List Txt} (h1 : ∀ f ∈ fs, f ∈ gs) (h2 : ∀ x ∈ S, x ∈ T) {x : Txt} (r : Rch fs S x) : Rch gs T x := by
  induction r with
  | base h => exact .base (h2 _ h)
  | step a b _ c ih => exact .step (h1 _ a) b ih c
/-- what the walk has found when nothing more comes -/
structure Clo (fs : List Fact) (S : List Txt) (found : List Fact) (R : List Txt) : Prop where
  sub : ∀ f ∈ found, f ∈ fs
  base : ∀ x ∈ S, x ∈ R
  tails : ∀ f ∈ found, ∀ x ∈ f.tail, x ∈ R
  rch : ∀ x ∈ R, Rch fs S x
  lnk : ∀ f ∈ found, Lnk fs S f
theorem Clo.iff {fs : List Fact} {S : List Txt} {found : List Fact} {R : List Txt} (c : Clo fs S found R) (fin : ∀ f ∈ fs, f ∈ found ∨ ∀ y ∈ f.tail, y ∉ R) {f : Fact} (hf : f ∈ fs) : f ∈ found ↔ Lnk fs S f := by
  refine ⟨c.lnk f, fun ⟨y, hy, r⟩ => ?_⟩
  have all : ∀ x, Rch fs S x → x ∈ R := fun x r => by
    induction r with
    | base h => exact c.base _ h
    | step a b _ d ih =>
      rcases fin _ a with k | k
      · exact c.tails _ k _ d
      · exact absurd ih (k _ b)
  rcases fin f hf with k | k
  · exact k
  · exact absurd (all y r) (k y hy)
theorem Clo.filter {fs : List Fact} {S : List Txt} {found : List Fact} {R : List Txt} (c : Clo fs S found R) (fin : ∀ f ∈ fs, f ∈ found ∨ ∀ y ∈ f.tail, y ∉ R) : fs.filter (fun f => decide (f ∈ found)) = lnkd fs S := by
  unfold lnkd
  refine List.filter_congr fun f hf => ?_
  have := c.iff fin hf
  by_cases k : f ∈ found
  · rw [decide_eq_true k, decide_eq_true (this.mp k)]
  · rw [decide_eq_false k, decide_eq_false fun z => k (this.mpr z)]
/-! ### sets of keys as dicts -/
def addN {α : Type} [DecidableEq α] (R : List α) (y : α) : List α := if y ∈ R then R else R ++ [y]
section
variable {α : Type} [DecidableEq α]
theorem mem_addN {R : List α} {y x : α} : x ∈ addN R y ↔ x ∈ R ∨ x = y := by
  unfold addN
  split
  · rename_i h
    exact ⟨.inl, fun q => q.elim id fun e => e ▸ h⟩
  · simp
theorem addN_nodup {R : List α} {y : α} (h : R.Nodup) : (addN R y).Nodup := by
  unfold addN
  split
  · exact h
  · rename_i n
    rw [List.nodup_append]
    exact ⟨h, by simp, fun a ha b hb => by simp at hb; subst hb; intro e; subst e; exact n ha⟩
theorem addN_len {R : List α} {y : α} : R.length ≤ (addN R y).length := by
  unfold addN
  split
  · exact Nat.le_refl _
  · simp
theorem putDK_map {e : α → D} (inj : ∀ a b, e a = e b → a = b) (R : List α) (y : α) : putDK (R.map e) (e y) = (addN R y).map e := by
  induction R with
  | nil => rfl
  | cons a R ih =>
    rw [List.map_cons, putDK]
    by_cases c : a = y
    · subst c
      rw [if_pos rfl]
      unfold addN
      rw [if_pos List.mem_cons_self]; rfl
    · rw [if_neg (fun z => c (inj _ _ z)), ih]
      unfold addN
      by_cases m : y ∈ R
      · rw [if_pos m, if_pos (List.mem_cons_of_mem _ m)]; rfl
      · rw [if_neg m, if_neg (fun z => (List.mem_cons.mp z).elim (fun e => c e.symm) m)]; rfl
theorem putDV_map {e : α → D} (inj : ∀ a b, e a = e b → a = b) (v : D) (R : List α) (y : α) : putDV (R.map e) (R.map fun _ => v) (e y) v = (addN R y).map fun _ => v := by
  induction R with
  | nil => rfl
  | cons a R ih =>
    rw [List.map_cons, List.map_cons, putDV]
    by_cases c : a = y
    · subst c
      rw [if_pos rfl]
      unfold addN
      rw [if_pos List.mem_cons_self]; rfl
    · rw [if_neg (fun z => c (inj _ _ z)), ih]
      unfold addN
      by_cases m : y ∈ R
      · rw [if_pos m, if_pos (List.mem_cons_of_mem _ m)]; rfl
      · rw [if_neg m, if_neg (fun z => (List.mem_cons.mp z).elim (fun e => c e.symm) m)]; rfl
theorem lookD_map {e : α → D} (inj : ∀ a b, e a = e b → a = b) (v : D) (R : List α) (y : α) : (lookD (R.map e) (R.map fun _ => v) (e y)).isSome = decide (y ∈ R) := by
  induction R with
  | nil => rfl
  | cons a R ih =>
    rw [List.map_cons, List.map_cons, lookD]
    by_cases c : a = y
    · subst c
      rw [if_pos rfl]; simp
    · rw [if_neg (fun z => c (inj _ _ z)), ih]
      simp [Ne.symm c]
end
theorem str_inj : ∀ a b : Txt, D.str a = D.str b → a = b := fun a b e => by cases e; rfl
theorem TS_inj : ∀ a b : Fact, TS a = TS b → a = b := fun a b e => by
  replace e : a.map D.str = b.map D.str := D.tup.inj e
  induction a generalizing b with
  | nil => cases b <;> first | rfl | simp at e
  | cons x a ih =>
    cases b with
    | nil => simp at e
    | cons y b =>
      simp only [List.map_cons, List.cons.injEq] at e
      rw [str_inj _ _ e.1, ih b e.2]
theorem keyT_TS (f : Fact) : keyOk true (TS f) = true := by
  show (f.map D.str).all keyB = true
  rw [List.all_eq_true]
  intro x hx
  obtain ⟨a, _, rfl⟩ := List.mem_map.mp hx
  rfl
theorem lookS (v : D) (R : List Txt) (y : Txt) : (lookD (R.map D.str) (R.map fun _ => v) (.str y)).isSome = decide (y ∈ R) := (lookD_map str_inj v R y).trans (decide_eq_decide.mpr Iff.rfl)
theorem lookT (v : D) (R : List Fact) (y : Fact) : (lookD (R.map TS) (R.map fun _ => v) (TS y)).isSome = decide (y ∈ R) := (lookD_map TS_inj v R y).trans (decide_eq_decide.mpr Iff.rfl)
/-- a dict of keys alone -/
abbrev SetS (R : List Txt) : Cell := .dct false (R.map D.str) (R.map fun _ => .bl true)
abbrev SetT (R : List Fact) : Cell := .dct true (R.map TS) (R.map fun _ => .bl true)
end Lw

/-! facts, checked; stores, made -/
namespace Lw
open PySem L2 Iv Fn
variable {fns : Prog} {h h' : IH} {K : D → IH → Prop} {Y : Nat → List D → IH → Prop} {n : Nat}
structure Good (f : Fact) : Prop where
  w : wordB (f.headD []) = true
  len : f.tail.length = 1 ∨ f.tail.length = 2
  ne : f ≠ []
  nm : ∀ x ∈ f.tail, nameB x = true
theorem Good.cons {f : Fact} (g : Good f) : ∃ w r, f = w :: r ∧ wordB w = true ∧ (r.length = 1 ∨ r.length = 2) ∧ ∀ x ∈ r, nameB x = true := by
  cases f with
  | nil => exact absurd rfl g.ne
  | cons w r => exact ⟨w, r, rfl, g.w, g.len, g.nm⟩
theorem fact_ok {f : Fact} (g : Good f) (hF : fns.lookup 347 = some f347) (hW : fns.lookup 24 = some f24) (hN : fns.lookup 25 = some f25) (q : K (.bl true) h) : (callI fns (n + 2) 347 [TS f] h).post K Y := by
  obtain ⟨w, r, rfl, g1, g2, g3⟩ := g.cons
  refine call_def hF rfl ?_
  show (evSs (cfgI fns (n + 1)) b347 [.val (TS (w :: r)), .no] h).post _ NoX
  unfold b347
  repeat walk_at "iv"
  refine o_ninT ?_ ?_
  · rfl
  repeat walk_at "iv"
  have em : memD (.int ((w :: r).map D.str).length) [.int 2, .int 3] = true := by
    simp only [memD, List.any_cons, List.any_nil, D.eqv, List.length_map, Bool.or_false, List.length_cons]
    rcases g2 with e | e <;> rw [e] <;> rfl
  rw [em]
  repeat walk_at "iv"
  refine word_ok hW ?_
  rw [g1]
  repeat walk_at "iv"
  rw [show ((1 : Int)) = ((1 : Nat) : Int) from rfl, cut_from]
  refine w_compA D.str (fun x => .bl true) (zs := r) ?_ ?_
  · refine fun d hd => ⟨_, rfl, ?_⟩
    repeat walk_at "iv"
    refine name_ok hN ?_
    rw [g3 d hd]
    exact ⟨rfl, rfl⟩
  repeat walk_at "iv"
  refine o_all (bs := r.map fun x => true) (by rw [List.map_map]; rfl) ?_
  repeat walk_at "iv"
  have : (r.map fun x => true).all id = true := by simp
  rw [this]
  exact q
theorem check_ok {f : Fact} (g : Good f) (hC : fns.lookup 346 = some f346) (hF : fns.lookup 347 = some f347) (hW : fns.lookup 24 = some f24) (hN : fns.lookup 25 = some f25) (q : K (TS f) h) : (callI fns (n + 3) 346 [TS f] h).post K Y := by
  refine call_def hC rfl ?_
  show (evSs (cfgI fns (n + 2)) b346 [.val (TS f)] h).post _ NoX
  unfold b346
  repeat walk_at "iv"
  refine fact_ok g hF hW hN ?_
  repeat walk_at "iv"
  exact q
/-- the store of these facts -/
abbrev TT (fs : List Fact) : D := .tup (fs.map TS)
abbrev stD (fs : List Fact) : D := .ins 0 [TT fs]
structure StP (fns : Prog) (cd : ClsD) : Prop where
  c : fns.ct.lookup 0 = some cd
  f : fIx cd.ns 30 = some 0
  z : cd.frz = true
  i : cd.init = some 341
  it : cd.it = some 30
  of : cd.ss.lookup 28 = some 337
  l337 : fns.lookup 337 = some f337
  l341 : fns.lookup 341 = some f341
  l346 : fns.lookup 346 = some f346
  l347 : fns.lookup 347 = some f347
  l21 : fns.lookup 21 = some f21
  l23 : fns.lookup 23 = some f23
  l24 : fns.lookup 24 = some f24
  l25 : fns.lookup 25 = some f25
variable {cd : ClsD}
theorem init_ok {r : Nat} {fs : List Fact} (S : StP fns cd) (e : h[r]? = some (.ins 0 [])) (hl : fs.length ≤ 8000000) (g : ∀ f ∈ fs, Good f) (q : K .non (h.set r (.ins 0 [TT (oF.asc fs)]))) : (callI fns (n + 4) 341 (.ref r :: fs.map TS) h).post K Y := by
  refine call_star S.l341 rfl (by decide) (by show 2 ≤ _; simp) (by show (_ + 1) + 1 - 2 ≤ _; rw [List.length_map]; omega) ?_
  refine run_def ?_
  show (evSs (cfgI fns (n + 3)) b341 [.val (.ref r), .val (.tup (fs.map TS)), .no] h).post _ NoX
  unfold b341
  repeat walk_at "iv"
  refine f_forR TS (fun zs env h1 => h1 = h ∧ (∀ f ∈ zs, Good f) ∧ ∃ s2, env = [.val (.ref r), .val (.tup (fs.map TS)), s2]) ?_ ?_ ⟨rfl, g, _, rfl⟩
  · rintro f zs env h1 ⟨rfl, gz, s2, rfl⟩
    refine ⟨_, rfl, ?_⟩
    repeat walk_at "iv"
    refine check_ok (gz f List.mem_cons_self) S.l346 S.l347 S.l24 S.l25 ?_
    repeat walk_at "iv"
    exact ⟨rfl, fun x hx => gz x (List.mem_cons_of_mem _ hx), _, rfl⟩
  · rintro env h1 ⟨rfl, _, s2, rfl⟩
    repeat walk_at "iv"
    refine ascending_okD oF (rows := fs) (fun _ => rfl) S.l21 S.l23 hl ?_
    repeat walk_at "iv"
    refine as_of e S.c S.f ?_ (Nat.le_refl _)
    repeat walk_at "iv"
    exact q
theorem mk_ok {fs : List Fact} (S : StP fns cd) (hl : fs.length ≤ 8000000) (g : ∀ f ∈ fs, Good f) (q : K (stD (oF.asc fs)) (h ++ [.dead])) : (mkD cd.frz 0 ((cfgI fns (n + 4)).call 341) (fs.map TS) h).post K Y := by
  rw [S.z]
  refine mkd_f ?_
  have e : (h ++ [Cell.ins 0 []])[h.length]? = some (.ins 0 []) := by rw [List.getElem?_append_right (Nat.le_refl _)]; simp
  have e2 : ∀ c : Cell, (h ++ [Cell.ins 0 []]).set h.length c = h ++ [c] := fun c => by
    rw [List.set_append_right _ _ (Nat.le_refl _)]; simp
  refine init_ok S e hl g ⟨rfl, [TT (oF.asc fs)], ?_, ?_⟩
  · rw [e2, List.getElem?_append_right (Nat.le_refl _)]; simp
  · rw [e2, List.set_append_right _ _ (Nat.le_refl _)]
    have q : K (D.ins 0 [TT (oF.asc fs)]) (h ++ [.dead]) := q
    simpa using q
theorem of_ok {fs : List Fact} {d0 : D} (S : StP fns cd) (hd : ∀ h, seqH h d0 = some (fs.map TS)) (hl : fs.length ≤ 8000000) (g : ∀ f ∈ fs, Good f) (q : K (stD (oF.asc fs)) (h ++ [.dead])) : (callI fns (n + 5) 337 [d0] h).post K Y := by
  refine call_def S.l337 rfl ?_
  show (evSs (cfgI fns (n + 4)) b337 [.val d0] h).post _ NoX
  unfold b337
  repeat walk_at "iv"
  refine x_mk S.c S.i ?_
  repeat walk_at "iv"
  refine ⟨_, hd h, ?_⟩
  repeat walk_at "iv"
  rw [List.append_nil]
  refine mk_ok S hl g ?_
  repeat walk_at "iv"
  exact q
end Lw

/-! linked facts: the program's way -/
namespace Lw
open PySem L2 Iv Fn
variable {fns : Prog} {h h' : IH} {K : D → IH → Prop} {Y : Nat → List D → IH → Prop} {n : Nat}
theorem rch_pool {fs : List Fact} {S : List Txt} {x : Txt} (r : Rch fs S x) : x ∈ S ++ fs.flatMap List.tail := by
  cases r with
  | base h => exact List.mem_append_left _ h
  | step a _ _ c => exact List.mem_append_right _ (List.mem_flatMap.mpr ⟨_, a, c⟩)
theorem flat_len {fs : List Fact} (ht : ∀ f ∈ fs, f.tail.length ≤ 2) : (fs.flatMap List.tail).length ≤ 2 * fs.length := by
  induction fs with
  | nil => simp
  | cons f fs ih =>
    rw [List.flatMap_cons, List.length_append, List.length_cons]
    have := ht f List.mem_cons_self
    have := ih fun g hg => ht g (List.mem_cons_of_mem _ hg)
    omega
theorem rch_len {fs : List Fact} {S R : List Txt} (nd : R.Nodup) (rch : ∀ x ∈ R, Rch fs S x) (ht : ∀ f ∈ fs, f.tail.length ≤ 2) : R.length ≤ S.length + 2 * fs.length := by
  have := nodup_le nd fun x hx => rch_pool (rch x hx)
  rw [List.length_append] at this
  have := flat_len ht
  omega
theorem tail_map (f : Fact) : cutD (f.map D.str) (some 1) none = f.tail.map D.str := by
  rw [show ((1 : Int)) = ((1 : Nat) : Int) from rfl, cut_from, List.drop_one, List.map_tail]
theorem linked_ok {fs : List Fact} {S : List Txt} {d0 d1 : D} (hd : ∀ h, walkD h d0 = some (none, fs.map TS)) (hd1 : ∀ h, walkD h d1 = some (none, S.map D.str)) (hF : fns.lookup 342 = some f342)
    (hl : fs.length ≤ 100000) (hs : S.length ≤ 100000) (ht : ∀ f ∈ fs, f.tail.length ≤ 2) (q : K (.lst ((lnkd fs S).map TS)) h) : (callI fns (n + 1) 342 [d0, d1] h).post K Y := by
  refine call_def hF rfl ?_
  show (evSs (cfgI fns n) b342 [.val d0, .val d1, .no, .no, .no, .no, .no] h).post _ NoX
  unfold b342
  repeat walk_at "iv"
  refine ⟨_, hd1 h, ?_⟩
  repeat walk_at "iv"
  refine f_forR D.str (fun zs env h1 => h1 = h ∧ ∃ pre R s3, S = pre ++ zs ∧ env = [.val d0, .val d1, .no, s3, .ow (SetS R), .no, .no] ∧ R.Nodup ∧ (∀ x, x ∈ R ↔ x ∈ pre) ∧ R.length ≤ pre.length) ?_ ?_ ⟨rfl, [], [], _, rfl, rfl, List.nodup_nil, fun _ => Iff.rfl, Nat.le_refl _⟩
  · rintro z zs env h1 ⟨rfl, pre, R, s3, e, rfl, nd, m, l⟩
    have el : S.length = pre.length + (zs.length + 1) := by rw [e, List.length_append, List.length_cons]
    refine ⟨_, rfl, ?_⟩
    repeat walk_at "iv"
    refine ⟨⟨rfl, by rw [List.length_map]; omega⟩, ?_⟩
    rw [putDK_map str_inj, putDV_map str_inj]
    repeat walk_at "iv"
    refine ⟨rfl, pre ++ [z], addN R z, _, by rw [e]; simp, rfl, addN_nodup nd, fun x => ?_, ?_⟩
    · rw [mem_addN, m]; simp
    · unfold addN
      split
      · rw [List.length_append]; omega
      · rw [List.length_append, List.length_append]; simpa using l
  rintro env h1 ⟨rfl, pre, R0, s3, e, rfl, nd0, m0, _⟩
  rw [List.append_nil] at e
  subst e
  repeat walk_at "iv"
  refine w_cut (fun x h2 => h2 = h1 ∧ ∃ found R s2 s3 s6, x = (.nx, [.val d0, .val d1, s2, s3, .ow (SetS R), .ow (SetT found), s6]) ∧ Clo fs S found R ∧ ∀ f ∈ fs, f ∈ found ∨ ∀ y ∈ f.tail, y ∉ R) ?_ ?_
  · refine y_whlN (fun m env h2 => h2 = h1 ∧ ∃ (found : List Fact) (R : List Txt) (g : Bool) (s2 s3 : Sl), env = [.val d0, .val d1, s2, s3, .ow (SetS R), .ow (SetT found), .val (.bl g)] ∧ Clo fs S found R ∧ found.Nodup ∧ R.Nodup ∧ (g = false → ∀ f ∈ fs, f ∈ found ∨ ∀ y ∈ f.tail, y ∉ R) ∧ m = if g = true then fs.length + 1 - found.length else 0)
      (fs.length + 1) ⟨rfl, [], R0, true, _, _, rfl, ⟨(fun f h => by cases h), fun x hx => (m0 x).mpr hx, (fun f h => by cases h), fun x hx => .base ((m0 x).mp hx), fun f h => by cases h⟩, List.nodup_nil, nd0, (fun z => by cases z), by simp⟩ ?_
    rintro m env h2 ⟨rfl, found, R, g, s2, s3, rfl, c, nf, nr, fin, rfl⟩
    repeat walk_at "iv"
    refine ⟨fun cg => ?_, fun cg => ?_⟩
    · subst cg
      have lf := nodup_le nf c.sub
      repeat walk_at "iv"
      refine ⟨_, hd h2, ?_⟩
      repeat walk_at "iv"
      refine f_forR TS (fun zs env h3 => h3 = h2 ∧ ∃ (pre found' : List Fact) (R' : List Txt) (g' : Bool) (s2 s3 : Sl), fs = pre ++ zs ∧ env = [.val d0, .val d1, s2, s3, .ow (SetS R'), .ow (SetT found'), .val (.bl g')] ∧ Clo fs S found' R' ∧ found'.Nodup ∧ R'.Nodup ∧
        (g' = false → found' = found ∧ R' = R ∧ ∀ f ∈ pre, f ∈ found ∨ ∀ y ∈ f.tail, y ∉ R) ∧ (g' = true → found.length < found'.length)) ?_ ?_ ⟨rfl, [], found, R, false, _, _, rfl, rfl, c, nf, nr, (fun _ => ⟨rfl, rfl, fun f h => by cases h⟩), fun z => by cases z⟩
      · rintro f zs env h3 ⟨rfl, pre, found', R', g', s2, s3, e, rfl, c', nf', nr', q1, q2⟩
        have hf : f ∈ fs := by rw [e]; simp
        have lf' := nodup_le nf' c'.sub
        refine ⟨_, rfl, ?_⟩
        repeat walk_at "iv"
        refine o_ninD (keyT_TS f) ?_
        rw [lookT]
        repeat walk_at "iv"
        refine ⟨fun c1 => ?_, fun c1 => ?_⟩
        · have c1 : f ∉ found' := fun z => by rw [decide_eq_true z] at c1; cases c1
          repeat walk_at "iv"
          rw [tail_map]
          refine w_compA D.str (fun y => .bl (decide (y ∈ R'))) (zs := f.tail) ?_ ?_
          · refine fun y hy => ⟨_, rfl, ?_⟩
            repeat walk_at "iv"
            rw [lookS]
            exact ⟨rfl, rfl⟩
          repeat walk_at "iv"
          refine o_any (bs := f.tail.map fun y => decide (y ∈ R')) (by rw [List.map_map]; rfl) ?_
          repeat walk_at "iv"
          refine ⟨fun c2 => ?_, fun c2 => ?_⟩
          · obtain ⟨y, hy, hy2⟩ : ∃ y ∈ f.tail, y ∈ R' := by
              rw [List.any_map, List.any_eq_true] at c2
              obtain ⟨y, h1, h2⟩ := c2
              exact ⟨y, h1, of_decide_eq_true h2⟩
            have lk : Lnk fs S f := ⟨y, hy, c'.rch y hy2⟩
            repeat walk_at "iv"
            refine ⟨⟨keyT_TS f, by rw [List.length_map]; omega⟩, ?_⟩
            rw [putDK_map TS_inj, putDV_map TS_inj]
            repeat walk_at "iv"
            rw [tail_map]
            refine f_forR D.str (fun ys env h4 => h4 = h3 ∧ ∃ pr R'' s3, f.tail = pr ++ ys ∧ env = [.val d0, .val d1, .val (TS f), s3, .ow (SetS R''), .ow (SetT (addN found' f)), .val (.bl g')] ∧ R''.Nodup ∧ (∀ x, x ∈ R'' ↔ x ∈ R' ∨ x ∈ pr)) ?_ ?_ ⟨rfl, [], R', _, rfl, rfl, nr', fun x => by simp⟩
            · rintro z ys env h4 ⟨rfl, pr, R'', s3, e2, rfl, nd'', m''⟩
              have hz : z ∈ f.tail := by rw [e2]; simp
              have rc : ∀ x ∈ R'', Rch fs S x := fun x hx => by
                rcases (m'' x).mp hx with k | k
                · exact c'.rch x k
                · exact .step hf hy (c'.rch y hy2) (by rw [e2]; exact List.mem_append_left _ k)
              have bd := rch_len nd'' rc ht
              refine ⟨_, rfl, ?_⟩
              repeat walk_at "iv"
              refine ⟨⟨rfl, by rw [List.length_map]; omega⟩, ?_⟩
              rw [putDK_map str_inj, putDV_map str_inj]
              repeat walk_at "iv"
              refine ⟨rfl, pr ++ [z], addN R'' z, _, by rw [e2]; simp, rfl, addN_nodup nd'', fun x => ?_⟩
              rw [mem_addN, m'']; simp [or_assoc]
            · rintro env h4 ⟨rfl, pr, R'', s3, e2, rfl, nd'', m''⟩
              rw [List.append_nil] at e2
              subst e2
              repeat walk_at "iv"
              have ea : addN found' f = found' ++ [f] := by unfold addN; rw [if_neg c1]
              refine ⟨rfl, pre ++ [f], addN found' f, R'', true, _, _, by rw [e]; simp, rfl, ⟨fun g hg => ?_, fun x hx => (m'' x).mpr (.inl (c'.base x hx)), fun g hg x hx => ?_, fun x hx => ?_, fun g hg => ?_⟩, addN_nodup nf', nd'', (fun z => by cases z), fun _ => ?_⟩
              · rcases mem_addN.mp hg with k | k
                · exact c'.sub g k
                · rw [k]; exact hf
              · rcases mem_addN.mp hg with k | k
                · exact (m'' x).mpr (.inl (c'.tails g k x hx))
                · rw [k] at hx; exact (m'' x).mpr (.inr hx)
              · rcases (m'' x).mp hx with k | k
                · exact c'.rch x k
                · exact .step hf hy (c'.rch y hy2) k
              · rcases mem_addN.mp hg with k | k
                · exact c'.lnk g k
                · rw [k]; exact lk
              · rw [ea, List.length_append]
                cases g' with
                | true => have := q2 rfl; simp; omega
                | false => rw [(q1 rfl).1]; simp
          · have no : ∀ y ∈ f.tail, y ∉ R' := fun y hy z => by
              have : (f.tail.map fun y => decide (y ∈ R')).any id = true := by
                rw [List.any_map, List.any_eq_true]
                exact ⟨y, hy, decide_eq_true z⟩
              rw [this] at c2; cases c2
            repeat walk_at "iv"
            refine ⟨rfl, pre ++ [f], found', R', g', _, _, by rw [e]; simp, rfl, c', nf', nr', fun z => ?_, q2⟩
            obtain ⟨k1, k2, k3⟩ := q1 z
            subst k1 k2
            refine ⟨rfl, rfl, fun g hg => ?_⟩
            rcases List.mem_append.mp hg with k | k
            · exact k3 g k
            · rw [List.mem_singleton.mp k]; exact .inr no
        · have c1 : f ∈ found' := by
            refine Classical.byContradiction fun z => ?_
            rw [decide_eq_false z] at c1; cases c1
          repeat walk_at "iv"
          refine ⟨rfl, pre ++ [f], found', R', g', _, _, by rw [e]; simp, rfl, c', nf', nr', fun z => ?_, q2⟩
          obtain ⟨k1, k2, k3⟩ := q1 z
          subst k1 k2
          refine ⟨rfl, rfl, fun g hg => ?_⟩
          rcases List.mem_append.mp hg with k | k
          · exact k3 g k
          · rw [List.mem_singleton.mp k]; exact .inl c1
      · rintro env h3 ⟨rfl, pre, found', R', g', s2, s3, e, rfl, c', nf', nr', q1, q2⟩
        rw [List.append_nil] at e
        subst e
        have lf' := nodup_le nf' c'.sub
        repeat walk_at "iv"
        refine ⟨_, ?_, rfl, found', R', g', _, _, rfl, c', nf', nr', fun z => ?_, rfl⟩
        · cases g' with
          | true => have := q2 rfl; simp; omega
          | false => simp; omega
        · obtain ⟨k1, k2, k3⟩ := q1 z
          subst k1 k2
          exact k3
    · subst cg
      refine ⟨rfl, found, R, s2, s3, _, rfl, c, fin rfl⟩
  rintro x h2 ⟨rfl, found, R, s2, s3, s6, rfl, c, fin⟩
  repeat walk_at "iv"
  refine ⟨_, hd h2, ?_⟩
  repeat walk_at "iv"
  refine w_compZ TS TS (fun f => decide (f ∈ found)) (zs := fs) ?_ ?_
  · refine fun f hf => ⟨_, rfl, ?_, fun _ => ?_⟩
    · repeat walk_at "iv"
      refine o_inD (keyT_TS f) ?_
      rw [lookT]
      repeat walk_at "iv"
      exact ⟨rfl, rfl⟩
    · repeat walk_at "iv"
      exact ⟨rfl, rfl⟩
  repeat walk_at "iv"
  rw [c.filter fin]
  exact q
end Lw

/-! linked facts: the law's way -/
namespace Lw
open PySem L2 Iv Fn
variable {fns : Prog} {h h' : IH} {K : D → IH → Prop} {Y : Nat → List D → IH → Prop} {n : Nat}
theorem ends_of {f : Fact} (ht : f.tail.length = 1 ∨ f.tail.length = 2) : ∃ a b, atI (f.map D.str) 1 = some (.str a) ∧ atI (f.map D.str) (-1) = some (.str b) ∧ ∀ x, x ∈ f.tail ↔ x = a ∨ x = b := by
  match f, ht with
  | [w, a], _ => exact ⟨a, a, rfl, rfl, fun x => by simp⟩
  | [w, a, b], _ => exact ⟨a, b, rfl, rfl, fun x => by simp⟩
  | [], h => simp at h
  | [w], h => simp at h
  | _ :: _ :: _ :: _ :: _, h => simp at h
theorem lawlinked_ok {fs : List Fact} {S : List Txt} {d1 : D} (hd1 : ∀ h, walkD h d1 = some (none, S.map D.str)) (hF : fns.lookup 64 = some f64) (hA : fns.lookup 15 = some f15)
    (hl : fs.length ≤ 100000) (hs : S.length ≤ 100000) (ht : ∀ f ∈ fs, f.tail.length = 1 ∨ f.tail.length = 2) (q : K (.lst ((oF.asc (lnkd fs S)).map TS)) h) : (callI fns (n + 2) 64 [.lst (fs.map TS), d1] h).post K Y := by
  have ht2 : ∀ f ∈ fs, f.tail.length ≤ 2 := fun f hf => by rcases ht f hf with k | k <;> omega
  refine call_def hF rfl ?_
  show (evSs (cfgI fns (n + 1)) b64 [.val (.lst (fs.map TS)), .val d1, .no, .no, .no, .no, .no, .no] h).post _ NoX
  unfold b64
  repeat walk_at "iv"
  refine ⟨_, hd1 h, ?_⟩
  repeat walk_at "iv"
  refine f_forR D.str (fun zs env h1 => h1 = h ∧ ∃ (pre R : List Txt) (s4 : Sl), S = pre ++ zs ∧ env = [.val (.lst (fs.map TS)), .val d1, .no, .ow (SetS R), s4, .no, .no, .no] ∧ R.Nodup ∧ (∀ x, x ∈ R ↔ x ∈ pre) ∧ R.length ≤ pre.length) ?_ ?_ ⟨rfl, [], [], _, rfl, rfl, List.nodup_nil, fun _ => Iff.rfl, Nat.le_refl _⟩
  · rintro z zs env h1 ⟨rfl, pre, R, s3, e, rfl, nd, m, l⟩
    have el : S.length = pre.length + (zs.length + 1) := by rw [e, List.length_append, List.length_cons]
    refine ⟨_, rfl, ?_⟩
    repeat walk_at "iv"
    refine ⟨⟨rfl, by rw [List.length_map]; omega⟩, ?_⟩
    rw [putDK_map str_inj, putDV_map str_inj]
    repeat walk_at "iv"
    refine ⟨rfl, pre ++ [z], addN R z, _, by rw [e]; simp, rfl, addN_nodup nd, fun x => ?_, ?_⟩
    · rw [mem_addN, m]; simp
    · unfold addN
      split
      · rw [List.length_append]; omega
      · rw [List.length_append, List.length_append]; simpa using l
  rintro env h1 ⟨eh, pre, R0, s3, e, ee, nd0, m0, _⟩
  subst eh
  subst ee
  rw [List.append_nil] at e
  subst e
  repeat walk_at "iv"
  refine o_rg1 ⟨by rw [List.length_map]; omega, by rw [List.length_map]; omega⟩ ?_
  refine wk_no ?_
  refine w_cut (fun x h2 => h2 = h1 ∧ ∃ (found : List Fact) (R : List Txt) (s2 s4 s6 s7 : Sl), x = (.nx, [.val (.lst (fs.map TS)), .val d1, s2, .ow (SetS R), s4, .ow (SetT found), s6, s7]) ∧ Clo fs S found R ∧ ∀ f ∈ fs, f ∈ found ∨ ∀ y ∈ f.tail, y ∉ R) ?_ ?_
  · refine f_for (fun pre env h2 => h2 = h1 ∧ ∃ (found : List Fact) (R : List Txt) (s2 s4 s6 s7 : Sl), env = [.val (.lst (fs.map TS)), .val d1, s2, .ow (SetS R), s4, .ow (SetT found), s6, s7] ∧ Clo fs S found R ∧ found.Nodup ∧ R.Nodup ∧ pre.length ≤ found.length)
      ⟨rfl, [], R0, _, _, _, _, rfl, ⟨(fun f h => by cases h), (fun x hx => (m0 x).mpr hx), (fun f h => by cases h), (fun x hx => .base ((m0 x).mp hx)), fun f h => by cases h⟩, List.nodup_nil, nd0, Nat.le_refl _⟩ ?_ ?_
    · rintro pre d post env h2 e ⟨rfl, found, R, s2, s4, s6, s7, rfl, c, nf, nr, l⟩
      refine ⟨_, rfl, ?_⟩
      have lf := nodup_le nf c.sub
      repeat walk_at "iv"
      refine f_forR TS (fun zs env h3 => h3 = h2 ∧ ∃ (pr found' : List Fact) (R' : List Txt) (s2 : Sl), fs = pr ++ zs ∧ env = [.val (.lst (fs.map TS)), .val d1, s2, .ow (SetS R'), s4, .ow (SetT found'), .val d, .val (.int (List.map TS found).length)] ∧ Clo fs S found' R' ∧ found'.Nodup ∧ R'.Nodup ∧
        ((found' = found ∧ R' = R ∧ ∀ f ∈ pr, f ∈ found ∨ ∀ y ∈ f.tail, y ∉ R) ∨ found.length < found'.length)) ?_ ?_ ⟨rfl, [], found, R, _, rfl, rfl, c, nf, nr, .inl ⟨rfl, rfl, fun f h => by cases h⟩⟩
      · rintro f zs env h3 ⟨rfl, pr, found', R', s2, e3, rfl, c', nf', nr', q1⟩
        have hf : f ∈ fs := by rw [e3]; simp
        have lf' := nodup_le nf' c'.sub
        obtain ⟨a, b, ea, eb, mm⟩ := ends_of (ht f hf)
        refine ⟨_, rfl, ?_⟩
        repeat walk_at "iv"
        refine o_ninD (keyT_TS f) ?_
        rw [lookT]
        repeat walk_at "iv"
        have no : ∀ s2 : Sl, (f ∈ found' ∨ ∀ y ∈ f.tail, y ∉ R') → ∃ (pr found'' : List Fact) (R'' : List Txt) (s2' : Sl), fs = pr ++ zs ∧ [Sl.val (.lst (fs.map TS)), .val d1, s2, .ow (SetS R'), s4, .ow (SetT found'), .val d, .val (.int (List.map TS found).length)] = [.val (.lst (fs.map TS)), .val d1, s2', .ow (SetS R''), s4, .ow (SetT found''), .val d, .val (.int (List.map TS found).length)] ∧ Clo fs S found'' R'' ∧ found''.Nodup ∧ R''.Nodup ∧
            ((found'' = found ∧ R'' = R ∧ ∀ f ∈ pr, f ∈ found ∨ ∀ y ∈ f.tail, y ∉ R) ∨ found.length < found''.length) := fun s2 hn => by
          refine ⟨pr ++ [f], found', R', s2, by rw [e3]; simp, rfl, c', nf', nr', ?_⟩
          rcases q1 with ⟨k1, k2, k3⟩ | k
          · subst k1 k2
            refine .inl ⟨rfl, rfl, fun g hg => ?_⟩
            rcases List.mem_append.mp hg with k | k
            · exact k3 g k
            · rw [List.mem_singleton.mp k]; exact hn
          · exact .inr k
        have yes : (∃ y ∈ f.tail, y ∈ R') → f ∉ found' → Clo fs S (addN found' f) (addN (addN R' a) b) ∧ found.length < (addN found' f).length := fun ⟨y, hy, hy2⟩ c1 => by
          have lk : Lnk fs S f := ⟨y, hy, c'.rch y hy2⟩
          have mr : ∀ x, x ∈ addN (addN R' a) b ↔ x ∈ R' ∨ x ∈ f.tail := fun x => by rw [mem_addN, mem_addN, mm x, or_assoc]
          refine ⟨⟨fun g hg => ?_, fun x hx => (mr x).mpr (.inl (c'.base x hx)), fun g hg x hx => ?_, fun x hx => ?_, fun g hg => ?_⟩, ?_⟩
          · rcases mem_addN.mp hg with k | k
            · exact c'.sub g k
            · rw [k]; exact hf
          · rcases mem_addN.mp hg with k | k
            · exact (mr x).mpr (.inl (c'.tails g k x hx))
            · rw [k] at hx; exact (mr x).mpr (.inr hx)
          · rcases (mr x).mp hx with k | k
            · exact c'.rch x k
            · exact .step hf hy (c'.rch y hy2) k
          · rcases mem_addN.mp hg with k | k
            · exact c'.lnk g k
            · rw [k]; exact lk
          · have ea : addN found' f = found' ++ [f] := by unfold addN; rw [if_neg c1]
            rw [ea, List.length_append]
            rcases q1 with ⟨k1, _, _⟩ | k
            · rw [k1]; simp
            · simp; omega
        have bR := rch_len nr' c'.rch ht2
        have bA : (addN R' a).length ≤ R'.length + 1 := by
          unfold addN
          split
          · omega
          · rw [List.length_append]; simp
        have go : (a ∈ R' ∨ b ∈ R') → f ∉ found' → ∀ s2 : Sl, _ := fun c2 c1 s2 => yes (c2.elim (fun k => ⟨a, (mm a).mpr (.inl rfl), k⟩) fun k => ⟨b, (mm b).mpr (.inr rfl), k⟩) c1
        refine ⟨fun c1 => ?_, fun c1 => ?_⟩
        · have c1 : f ∉ found' := fun z => by rw [decide_eq_true z] at c1; cases c1
          repeat walk_at "iv"
          refine o_ixT ea ?_
          repeat walk_at "iv"
          rw [lookS]
          have fin2 : (a ∈ R' ∨ b ∈ R') → h3 = h3 ∧ ∃ (pr found'' : List Fact) (R'' : List Txt) (s2' : Sl), fs = pr ++ zs ∧ [Sl.val (.lst (fs.map TS)), .val d1, .val (TS f), .ow (SetS (addN (addN R' a) b)), s4, .ow (SetT (addN found' f)), .val d, .val (.int (List.map TS found).length)] = [.val (.lst (fs.map TS)), .val d1, s2', .ow (SetS R''), s4, .ow (SetT found''), .val d, .val (.int (List.map TS found).length)] ∧ Clo fs S found'' R'' ∧ found''.Nodup ∧ R''.Nodup ∧
            ((found'' = found ∧ R'' = R ∧ ∀ f ∈ pr, f ∈ found ∨ ∀ y ∈ f.tail, y ∉ R) ∨ found.length < found''.length) := fun c2 => by
            obtain ⟨g1, g2⟩ := go c2 c1 .no
            exact ⟨rfl, pr ++ [f], addN found' f, addN (addN R' a) b, _, by rw [e3]; simp, rfl, g1, addN_nodup nf', addN_nodup (addN_nodup nr'), .inr g2⟩
          refine ⟨fun c2 => ?_, fun c2 => ?_⟩
          · have c2 := of_decide_eq_true c2
            repeat walk_at "iv"
            refine ⟨⟨keyT_TS f, by rw [List.length_map]; omega⟩, ?_⟩
            rw [putDK_map TS_inj, putDV_map TS_inj]
            repeat walk_at "iv"
            refine o_ixT ea ?_
            refine ⟨⟨rfl, by rw [List.length_map]; omega⟩, ?_⟩
            rw [putDK_map str_inj, putDV_map str_inj]
            repeat walk_at "iv"
            refine o_ixT eb ?_
            refine ⟨⟨rfl, by rw [List.length_map]; omega⟩, ?_⟩
            rw [putDK_map str_inj, putDV_map str_inj]
            repeat walk_at "iv"
            exact fin2 (.inl c2)
          · have c2 := of_decide_eq_false c2
            repeat walk_at "iv"
            refine o_ixT eb ?_
            repeat walk_at "iv"
            rw [lookS]
            refine ⟨fun c3 => ?_, fun c3 => ?_⟩
            · have c3 := of_decide_eq_true c3
              repeat walk_at "iv"
              refine ⟨⟨keyT_TS f, by rw [List.length_map]; omega⟩, ?_⟩
              rw [putDK_map TS_inj, putDV_map TS_inj]
              repeat walk_at "iv"
              refine o_ixT ea ?_
              refine ⟨⟨rfl, by rw [List.length_map]; omega⟩, ?_⟩
              rw [putDK_map str_inj, putDV_map str_inj]
              repeat walk_at "iv"
              refine o_ixT eb ?_
              refine ⟨⟨rfl, by rw [List.length_map]; omega⟩, ?_⟩
              rw [putDK_map str_inj, putDV_map str_inj]
              repeat walk_at "iv"
              exact fin2 (.inr c3)
            · have c3 := of_decide_eq_false c3
              repeat walk_at "iv"
              exact ⟨rfl, no _ (.inr fun y hy z => by
                rcases (mm y).mp hy with k | k
                · rw [k] at z; exact c2 z
                · rw [k] at z; exact c3 z)⟩
        · have c1 : f ∈ found' := by
            refine Classical.byContradiction fun z => ?_
            rw [decide_eq_false z] at c1; cases c1
          repeat walk_at "iv"
          exact ⟨rfl, no _ (.inl c1)⟩
      · rintro env h3 ⟨eh, pr, found', R', s2, e3, ee, c', nf', nr', q1⟩
        subst eh
        subst ee
        rw [List.append_nil] at e3
        subst e3
        repeat walk_at "iv"
        refine ⟨fun c1 => ?_, fun c1 => ?_⟩
        · have c1 : found'.length = found.length := by
            have := beq_iff_eq.mp c1
            rw [List.length_map, List.length_map] at this
            omega
          repeat walk_at "iv"
          rcases q1 with ⟨k1, k2, k3⟩ | k
          · subst k1 k2
            exact ⟨rfl, found', R', _, _, _, _, rfl, c', k3⟩
          · omega
        · have c1 : found'.length ≠ found.length := fun z => by
            rw [List.length_map, List.length_map, z] at c1
            simp at c1
          repeat walk_at "iv"
          refine ⟨rfl, found', R', _, _, _, _, rfl, c', nf', nr', ?_⟩
          rcases q1 with ⟨k1, _, _⟩ | k
          · rw [k1] at c1; exact absurd rfl c1
          · rw [List.length_append]; simp; omega
    · rintro env h2 ⟨rfl, found, R, s2, s4, s6, s7, rfl, c, nf, nr, l⟩
      exfalso
      have lf := nodup_le nf c.sub
      rw [rng_len, List.length_map] at l
      omega
  rintro x h2 ⟨rfl, found, R, s2, s4, s6, s7, rfl, c, fin⟩
  repeat walk_at "iv"
  refine w_compZ TS TS (fun f => decide (f ∈ found)) (zs := fs) ?_ ?_
  · refine fun f hf => ⟨_, rfl, ?_, fun _ => ?_⟩
    · repeat walk_at "iv"
      refine o_inD (keyT_TS f) ?_
      rw [lookT]
      repeat walk_at "iv"
      exact ⟨rfl, rfl⟩
    · repeat walk_at "iv"
      exact ⟨rfl, rfl⟩
  repeat walk_at "iv"
  rw [c.filter fin]
  refine lawasc_ok oF (rows := lnkd fs S) hA (Nat.le_trans (List.length_filter_le _ _) (by omega)) ?_
  repeat walk_at "iv"
  exact q
end Lw

/-! drawn facts; the names of facts -/
namespace Lw
open PySem L2 Iv Fn
variable {fns : Prog} {h h' : IH} {K : D → IH → Prop} {Y : Nat → List D → IH → Prop} {n r : Nat}
theorem good_of {w : Txt} {ps : List Txt} (hw : wordB w = true) (hl : ps.length = 1 ∨ ps.length = 2) (hn : ∀ x ∈ ps, nameB x = true) : Good (w :: ps) := ⟨hw, hl, by simp, hn⟩
theorem namesof_ok {fs : List Fact} (hF : fns.lookup 63 = some f63) (hA : fns.lookup 15 = some f15) (hl : fs.length ≤ 100000) (ht : ∀ f ∈ fs, f.tail.length ≤ 2) (q : K (.lst ((oS.asc (fs.flatMap List.tail)).map D.str)) h) : (callI fns (n + 2) 63 [.lst (fs.map TS)] h).post K Y := by
  refine call_def hF rfl ?_
  show (evSs (cfgI fns (n + 1)) b63 [.val (.lst (fs.map TS)), .no, .no] h).post _ NoX
  unfold b63
  have fl := flat_len ht
  repeat walk_at "iv"
  refine f_forR TS (fun zs env h1 => h1 = h ∧ ∃ (pre : List Fact) (s2 : Sl), fs = pre ++ zs ∧ env = [.val (.lst (fs.map TS)), .val (.lst ((pre.flatMap List.tail).map D.str)), s2]) ?_ ?_ ⟨rfl, [], _, rfl, rfl⟩
  · rintro f zs env h1 ⟨rfl, pre, s2, e, rfl⟩
    have hf : f ∈ fs := by rw [e]; simp
    have l1 := flat_len (fs := pre) fun g hg => ht g (by rw [e]; exact List.mem_append_left _ hg)
    have l2 := ht f hf
    have el : fs.length = pre.length + (zs.length + 1) := by rw [e, List.length_append, List.length_cons]
    refine ⟨_, rfl, ?_⟩
    repeat walk_at "iv"
    rw [tail_map]
    refine o_addL (by rw [List.length_map, List.length_map]; omega) ?_
    repeat walk_at "iv"
    have em : (pre ++ [f]).flatMap List.tail = pre.flatMap List.tail ++ f.tail := by rw [List.flatMap_append, List.flatMap_singleton]
    refine ⟨rfl, pre ++ [f], .val (TS f), by rw [e]; simp, ?_⟩
    rw [em, List.map_append]
    rfl
  · rintro env h1 ⟨rfl, pre, s2, e, rfl⟩
    rw [List.append_nil] at e
    subst e
    repeat walk_at "iv"
    refine lawasc_ok oS (rows := fs.flatMap List.tail) hA (by omega) ?_
    repeat walk_at "iv"
    exact q
theorem chain_ok {names : List Txt} (hF : fns.lookup 33 = some f33) (hD : fns.lookup 5 = some f5) (hn : 1 ≤ names.length) (hn2 : names.length ≤ 1000) (hg : ∀ x ∈ names, nameB x = true) (s : Src r h)
    (q : ∀ (fs : List Fact) h', Src r h' → Oth r h h' → fs.length ≤ 2000 → (∀ f ∈ fs, Good f) → K (.lst (fs.map TS)) h') : (callI fns (n + 2) 33 [.ref r, .lst (names.map D.str)] h).post K Y := by
  refine call_def hF rfl ?_
  show (evSs (cfgI fns (n + 1)) b33 [.val (.ref r), .val (.lst (names.map D.str)), .no, .no, .no] h).post _ NoX
  unfold b33
  repeat walk_at "iv"
  refine o_rg1 ⟨by rw [List.length_map]; omega, by rw [List.length_map]; omega⟩ ?_
  refine wk_no ?_
  refine f_for (fun pre env h1 => Src r h1 ∧ Oth r h h1 ∧ ∃ (fs : List Fact) (s3 s4 : Sl), env = [.val (.ref r), .val (.lst (names.map D.str)), .own (fs.map TS), s3, s4] ∧ fs.length ≤ 2 * pre.length ∧ ∀ f ∈ fs, Good f) ⟨s, Oth.refl r h, [], _, _, rfl, Nat.le_refl _, fun f h => by cases h⟩ ?_ ?_
  · rintro pre d post env h1 e ⟨s1, o1, fs, s3, s4, rfl, l, g⟩
    obtain ⟨rfl, hp⟩ := rng0_split e
    rw [List.length_map] at hp
    have k0 : pre.length < names.length := by omega
    have k1 : pre.length + 1 < names.length := by omega
    have e0 : atI (names.map D.str) (pre.length : Int) = some (.str names[pre.length]) := atI_pos (by omega) (by simp [k0])
    have e1 : atI (names.map D.str) ((pre.length : Int) + 1) = some (.str names[pre.length + 1]) := atI_pos (by omega) (by
      rw [show ((pre.length : Int) + 1).toNat = pre.length + 1 by omega]; simp [k1])
    have gg : ∀ a b : Txt, a ∈ names → b ∈ names → Good [[69, 100, 103, 101], a, b] := fun a b ha hb => good_of (by decide +kernel) (.inr rfl) fun x hx => by
      simp only [List.mem_cons, List.not_mem_nil, or_false] at hx
      rcases hx with e | e <;> rw [e]
      · exact hg a ha
      · exact hg b hb
    have m0 := List.getElem_mem k0
    have m1 := List.getElem_mem k1
    have ap : ∀ (fs : List Fact) (f : Fact), fs.map TS ++ [TS f] = (fs ++ [f]).map TS := fun fs f => by rw [List.map_append]; rfl
    have add : ∀ (fs : List Fact) (f : Fact), (∀ f ∈ fs, Good f) → Good f → ∀ g ∈ fs ++ [f], Good g := fun fs f h1 h2 g hg => by
      rcases List.mem_append.mp hg with k | k
      · exact h1 g k
      · rw [List.mem_singleton.mp k]; exact h2
    have ll : fs.length ≤ 2 * 1000 := by omega
    refine ⟨_, rfl, ?_⟩
    repeat walk_at "iv"
    refine draw_ok hD (by decide) s1 fun d1 h2 a1 b1 s2 o2 => ?_
    repeat walk_at "iv"
    refine ⟨fun c => ?_, fun c => ?_⟩
    · repeat walk_at "iv"
      refine o_ixL e0 ?_
      repeat walk_at "iv"
      refine o_ixL e1 ?_
      repeat walk_at "iv"
      refine ⟨by rw [List.length_map]; omega, ?_⟩
      have ea : fs.map TS ++ [.tup [.str [69, 100, 103, 101], .str names[pre.length], .str names[pre.length + 1]]] = (fs ++ [[[69, 100, 103, 101], names[pre.length], names[pre.length + 1]]]).map TS := ap fs [[69, 100, 103, 101], names[pre.length], names[pre.length + 1]]
      rw [ea]
      repeat walk_at "iv"
      refine ⟨fun c => ?_, fun c => ?_⟩
      · repeat walk_at "iv"
        refine o_ixL e1 ?_
        repeat walk_at "iv"
        refine o_ixL e0 ?_
        repeat walk_at "iv"
        refine ⟨by rw [List.length_map, List.length_append]; simp; omega, ?_⟩
        have eb : (fs ++ [[[69, 100, 103, 101], names[pre.length], names[pre.length + 1]]]).map TS ++ [.tup [.str [69, 100, 103, 101], .str names[pre.length + 1], .str names[pre.length]]] = (fs ++ [[[69, 100, 103, 101], names[pre.length], names[pre.length + 1]]] ++ [[[69, 100, 103, 101], names[pre.length + 1], names[pre.length]]]).map TS := ap (fs ++ [[[69, 100, 103, 101], names[pre.length], names[pre.length + 1]]]) [[69, 100, 103, 101], names[pre.length + 1], names[pre.length]]
        rw [eb]
        repeat walk_at "iv"
        exact ⟨s2, o1.trans o2, _, _, _, rfl, by simp; omega, add _ _ (add _ _ g (gg _ _ m0 m1)) (gg _ _ m1 m0)⟩
      · repeat walk_at "iv"
        exact ⟨s2, o1.trans o2, _, _, _, rfl, by simp; omega, add _ _ g (gg _ _ m0 m1)⟩
    · repeat walk_at "iv"
      refine ⟨fun c => ?_, fun c => ?_⟩
      · repeat walk_at "iv"
        refine o_ixL e1 ?_
        repeat walk_at "iv"
        refine o_ixL e0 ?_
        repeat walk_at "iv"
        refine ⟨by rw [List.length_map]; omega, ?_⟩
        have eb : fs.map TS ++ [.tup [.str [69, 100, 103, 101], .str names[pre.length + 1], .str names[pre.length]]] = (fs ++ [[[69, 100, 103, 101], names[pre.length + 1], names[pre.length]]]).map TS := ap fs [[69, 100, 103, 101], names[pre.length + 1], names[pre.length]]
        rw [eb]
        repeat walk_at "iv"
        exact ⟨s2, o1.trans o2, _, _, _, rfl, by simp; omega, add _ _ g (gg _ _ m1 m0)⟩
      · repeat walk_at "iv"
        exact ⟨s2, o1.trans o2, _, _, _, rfl, by simp; omega, g⟩
  · rintro env h1 ⟨s1, o1, fs, s3, s4, rfl, l, g⟩
    rw [rng_len, List.length_map] at l
    repeat walk_at "iv"
    exact q fs h1 s1 o1 (by omega) g
theorem lawfacts_ok {rs : List Rel} {names : List Txt} {most : Int} (hF : fns.lookup 30 = some f30) (h8 : fns.lookup 8 = some f8) (hD : fns.lookup 5 = some f5) (hr : rs ≠ []) (hr2 : rs.length ≤ 1000) (hn : names ≠ []) (hn2 : names.length ≤ 1000) (hc : ∀ p ∈ rs, p ∈ poolL) (hg : ∀ x ∈ names, nameB x = true) (hm : 0 ≤ most ∧ most ≤ 1000) (s : Src r h)
    (q : ∀ (fs : List Fact) h', Src r h' → Oth r h h' → fs.length ≤ most.toNat → (∀ f ∈ fs, Good f) → K (.lst (fs.map TS)) h') : (callI fns (n + 3) 30 [.ref r, .lst (rs.map relD), .lst (names.map D.str), .int most] h).post K Y := by
  refine call_def hF rfl ?_
  show (evSs (cfgI fns (n + 2)) b30 [.val (.ref r), .val (.lst (rs.map relD)), .val (.lst (names.map D.str)), .val (.int most), .no] h).post _ NoX
  unfold b30
  repeat walk_at "iv"
  refine draw_ok hD (by omega) s fun d1 h1 a1 b1 s1 o1 => ?_
  repeat walk_at "iv"
  refine o_rg1 ⟨by omega, by omega⟩ ?_
  refine wk_no ?_
  refine w_comp (fun pre acc h2 => Src r h2 ∧ Oth r h h2 ∧ acc.length = pre.length ∧ ∀ x ∈ acc, ∃ f : Fact, Good f ∧ x = TS f) ⟨s1, o1, rfl, fun _ h => by cases h⟩ ?_ ?_
  · rintro pre d post acc h2 e ⟨s2, o2, l, g⟩
    refine ⟨_, rfl, ?_⟩
    repeat walk_at "iv"
    refine atom_ok h8 hD hr hr2 hn hn2 (fun p hp => (pool_ok p (hc p hp)).2) s2 fun p ps h3 s3 o3 hp hl hx => ?_
    refine ⟨s3, o2.trans o3, by simp [l], fun x hx2 => ?_⟩
    rcases List.mem_append.mp hx2 with k | k
    · exact g x k
    · have := pool_ok p (hc p hp)
      exact ⟨p.1 :: ps, good_of this.1 (by rw [hl]; exact this.2) fun y hy => hg y (hx y hy), List.mem_singleton.mp k⟩
  · rintro acc h2 ⟨s2, o2, l, g⟩
    obtain ⟨fs, rfl, gf⟩ := maps_of g
    rw [rng_len, List.length_map] at l
    repeat walk_at "iv"
    exact q fs h2 s2 o2 (by omega) gf
end Lw

/-! the parts of a row of facts, plainly -/
namespace Lw
open PySem L2 Iv
def outB (p : List Fact) (g : Fact) : Bool := !decide (g ∈ p)
theorem memT (x : Fact) (xs : List Fact) : memD (TS x) (xs.map TS) = decide (x ∈ xs) := (oF.mem (a := x) (xs := xs)).trans (decide_eq_decide.mpr Iff.rfl)
theorem outB_in {p : List Fact} {g : Fact} (h : g ∈ p) : outB p g = false := by unfold outB; rw [decide_eq_true h]; rfl
theorem outB_out {p : List Fact} {g : Fact} (h : g ∉ p) : outB p g = true := by unfold outB; rw [decide_eq_false h]; rfl
noncomputable def parts : Nat → List Fact → List (List Fact)
  | 0, _ => []
  | _ + 1, [] => []
  | n + 1, f :: r => lnkd (f :: r) f.tail :: parts n ((f :: r).filter (outB (lnkd (f :: r) f.tail)))
structure PartsOk (fs : List Fact) (ps : List (List Fact)) : Prop where
  each : ∀ p ∈ ps, ∃ f r, p = f :: r ∧ oF.Asc p ∧ lnkd p f.tail = p ∧ ∀ g ∈ p, g ∈ fs
  mem : ∀ f ∈ fs, ∃ p ∈ ps, f ∈ p
  len : (ps.map List.length).sum = fs.length
  dis : ps.Pairwise fun p q => ∀ g ∈ p, ∀ k ∈ q, ∀ x ∈ g.tail, x ∉ k.tail
  heads : oF.Asc (ps.map fun p => p.headD [])
theorem lnkd_sub (fs : List Fact) (S : List Txt) : (lnkd fs S).Sublist fs := List.filter_sublist
theorem lnkd_in {fs : List Fact} {S : List Txt} {x : Txt} (h : Rch fs S x) : Rch (lnkd fs S) S x := by
  induction h with
  | base h => exact .base h
  | step a b r c ih => exact .step (mem_lnkd.mpr ⟨a, _, b, r⟩) b ih c
theorem lnkd_lnkd (fs : List Fact) (S : List Txt) : lnkd (lnkd fs S) S = lnkd fs S := by
  have : ∀ f ∈ lnkd fs S, Lnk (lnkd fs S) S f := fun f hf => by
    obtain ⟨_, y, hy, r⟩ := mem_lnkd.mp hf
    exact ⟨y, hy, lnkd_in r⟩
  show (lnkd fs S).filter _ = _
  exact List.filter_eq_self.mpr fun f hf => decide_eq_true (this f hf)
theorem lnkd_head {f : Fact} {r : List Fact} (ht : f.tail ≠ []) : ∃ t, lnkd (f :: r) f.tail = f :: t ∧ t.Sublist r := by
  have l : Lnk (f :: r) f.tail f := by
    cases e : f.tail with
    | nil => exact absurd e ht
    | cons y ys => exact ⟨y, by rw [e]; exact List.mem_cons_self, .base List.mem_cons_self⟩
  refine ⟨r.filter fun g => decide (Lnk (f :: r) f.tail g), ?_, List.filter_sublist⟩
  unfold lnkd
  exact List.filter_cons_of_pos (p := fun g => decide (Lnk (f :: r) f.tail g)) (decide_eq_true l)
theorem filter_len {α : Type} (p : α → Bool) (xs : List α) : (xs.filter p).length + (xs.filter fun x => !p x).length = xs.length := by
  induction xs with
  | nil => rfl
  | cons x xs ih =>
    cases c : p x with
    | true => rw [List.filter_cons_of_pos c, List.filter_cons_of_neg (by rw [c]; exact Bool.false_ne_true)]; simp; omega
    | false => rw [List.filter_cons_of_neg (by rw [c]; exact Bool.false_ne_true), List.filter_cons_of_pos (by rw [c]; rfl)]; simp; omega
theorem lnkd_mem_filter (fs : List Fact) (S : List Txt) : fs.filter (fun g => decide (g ∈ lnkd fs S)) = lnkd fs S := by
  show _ = fs.filter _
  refine List.filter_congr fun g hg => ?_
  by_cases k : Lnk fs S g
  · rw [decide_eq_true k, decide_eq_true (mem_lnkd.mpr ⟨hg, k⟩)]
  · rw [decide_eq_false k, decide_eq_false fun z => k (mem_lnkd.mp z).2]
theorem parts_ok : ∀ (n : Nat) (fs : List Fact), fs.length ≤ n → oF.Asc fs → (∀ f ∈ fs, f.tail ≠ []) → PartsOk fs (parts n fs)
  | 0, fs, hl, ha, ht => by
    have : fs = [] := List.length_eq_zero_iff.mp (by omega)
    subst this
    exact ⟨(fun p h => by cases h), (fun f h => by cases h), rfl, .nil, .nil⟩
  | n + 1, [], hl, ha, ht => ⟨(fun p h => by cases h), (fun f h => by cases h), rfl, .nil, .nil⟩
  | n + 1, f :: r, hl, ha, ht => by
    have htf := ht f List.mem_cons_self
    obtain ⟨t, et, st⟩ := lnkd_head (r := r) htf
    have hp : f ∈ lnkd (f :: r) f.tail := by rw [et]; exact List.mem_cons_self
    have hf : ((f :: r).filter (outB (lnkd (f :: r) f.tail))) = r.filter (outB (lnkd (f :: r) f.tail)) := List.filter_cons_of_neg (by rw [outB_in hp]; exact Bool.false_ne_true)
    have sr : ((f :: r).filter (outB (lnkd (f :: r) f.tail))).Sublist (f :: r) := List.filter_sublist
    have ih := parts_ok n ((f :: r).filter (outB (lnkd (f :: r) f.tail))) (by rw [hf]; have := List.length_filter_le (outB (lnkd (f :: r) f.tail)) r; rw [List.length_cons] at hl; omega) (ha.sublist sr) fun g hg => ht g (sr.subset hg)
    have out : ∀ k ∈ ((f :: r).filter (outB (lnkd (f :: r) f.tail))), ∀ g ∈ lnkd (f :: r) f.tail, ∀ x ∈ g.tail, x ∉ k.tail := fun k hk g hg x hx hx2 => by
      obtain ⟨k1, k2⟩ := List.mem_filter.mp hk
      obtain ⟨g1, y, hy, ry⟩ := mem_lnkd.mp hg
      have : k ∈ lnkd (f :: r) f.tail := mem_lnkd.mpr ⟨k1, x, hx2, .step g1 hy ry hx⟩
      rw [outB_in this] at k2
      cases k2
    show PartsOk (f :: r) (lnkd (f :: r) f.tail :: parts n _)
    refine ⟨fun p h => ?_, fun g hg => ?_, ?_, ?_, ?_⟩
    · rcases List.mem_cons.mp h with e | h
      · subst e
        exact ⟨f, t, et, ha.sublist (lnkd_sub _ _), lnkd_lnkd _ _, fun g hg => (lnkd_sub _ _).subset hg⟩
      · obtain ⟨f', r', h1, h2, h3, h4⟩ := ih.each p h
        exact ⟨f', r', h1, h2, h3, fun g hg => sr.subset (h4 g hg)⟩
    · by_cases c : g ∈ lnkd (f :: r) f.tail
      · exact ⟨_, List.mem_cons_self, c⟩
      · obtain ⟨p, h1, h2⟩ := ih.mem g (List.mem_filter.mpr ⟨hg, outB_out c⟩)
        exact ⟨p, List.mem_cons_of_mem _ h1, h2⟩
    · rw [List.map_cons, List.sum_cons, ih.len]
      have := filter_len (fun g => decide (g ∈ lnkd (f :: r) f.tail)) (f :: r)
      rw [lnkd_mem_filter] at this
      exact this
    · refine List.pairwise_cons.mpr ⟨fun q hq g hg k hk x hx => ?_, ih.dis⟩
      obtain ⟨_, _, _, _, _, h4⟩ := ih.each q hq
      exact out k (h4 k hk) g hg x hx
    · show List.Pairwise _ (_ :: _)
      refine List.pairwise_cons.mpr ⟨fun a ha2 => ?_, ih.heads⟩
      obtain ⟨q, hq, rfl⟩ := List.mem_map.mp ha2
      obtain ⟨f', r', h1, _, _, h4⟩ := ih.each q hq
      have m := h4 f' (by rw [h1]; exact List.mem_cons_self)
      rw [hf] at m
      have m2 := (List.mem_filter.mp m).1
      rw [et, h1]
      exact (List.pairwise_cons.mp ha).1 f' m2
end Lw

/-! pieces, linked: the stores that they return -/
namespace Lw
open PySem L2 Iv Fn
variable {fns : Prog} {h h' : IH} {K : D → IH → Prop} {Y : Nat → List D → IH → Prop} {n r : Nat} {cd : ClsD}
/-- what stood there stands there still -/
def Low (h h' : IH) : Prop := h.length ≤ h'.length ∧ ∀ j, j < h.length → h'[j]? = h[j]?
theorem Low.refl (h : IH) : Low h h := ⟨Nat.le_refl _, fun _ _ => rfl⟩
theorem Low.trans {h h1 h2 : IH} (a : Low h h1) (b : Low h1 h2) : Low h h2 := ⟨Nat.le_trans a.1 b.1, fun j hj => (b.2 j (Nat.lt_of_lt_of_le hj a.1)).trans (a.2 j hj)⟩
theorem Low.add (h t : IH) : Low h (h ++ t) := ⟨by simp, fun j hj => List.getElem?_append_left hj⟩
theorem Low.set {h h1 : IH} {r : Nat} {c : Cell} (a : Low h h1) (hr : h.length ≤ r) : Low h (h1.set r c) := ⟨by rw [List.length_set]; exact a.1, fun j hj => by rw [List.getElem?_set_ne (by omega)]; exact a.2 j hj⟩
theorem Src.low {r : Nat} {h h1 : IH} (s : Src r h) (a : Low h h1) : Src r h1 := by
  obtain ⟨ns, i, z, e, hi⟩ := s
  exact ⟨ns, i, z, by rw [a.2 r (List.getElem?_eq_some_iff.mp e).1]; exact e, hi⟩
theorem Oth.low_at {r : Nat} {h h1 : IH} (a : Oth r h h1) {j : Nat} (hj : j ≠ r) : h1[j]? = h[j]? := a.2 j hj
theorem good_tail {f : Fact} (g : Good f) : f.tail ≠ [] := fun e => by have := g.len; rw [e] at this; simp at this
theorem good_tail2 {f : Fact} (g : Good f) : f.tail.length ≤ 2 := by rcases g.len with k | k <;> omega
theorem pieces_ok {fs : List Fact} (S : StP fns cd) (hF : fns.lookup 338 = some f338) (hL : fns.lookup 342 = some f342) (hl : fs.length ≤ 10000) (ha : oF.Asc fs) (g : ∀ f ∈ fs, Good f)
    (q : ∀ h', Low h h' → h'[h.length]? = some (.lst ((parts fs.length fs).map stD)) → K (.ref h.length) h') : (callI fns (n + 6) 338 [stD fs] h).post K Y := by
  have hc := S.c
  have hf := S.f
  refine call_def hF rfl ?_
  show (evSs (cfgI fns (n + 5)) b338 [.val (stD fs), .no, .no, .no, .no] h).post _ NoX
  unfold b338
  repeat walk_at "iv"
  refine w_cut (fun x h2 => ∃ (s1 s3 s4 : Sl), x = (.nx, [.val (stD fs), s1, .val (.ref h.length), s3, s4]) ∧ Low h h2 ∧ h2[h.length]? = some (.lst ((parts fs.length fs).map stD))) ?_ ?_
  · refine y_whlN (fun m env h2 => ∃ (rest : List Fact) (done : List (List Fact)) (s1 s4 : Sl), env = [.val (stD fs), s1, .val (.ref h.length), .val (.lst (rest.map TS)), s4] ∧ m = rest.length ∧ Low h h2 ∧ h2[h.length]? = some (.lst (done.map stD)) ∧
      (∃ k, rest.length ≤ k ∧ parts fs.length fs = done ++ parts k rest) ∧ oF.Asc rest ∧ (∀ f ∈ rest, f ∈ fs) ∧ done.length + rest.length ≤ fs.length) fs.length
      ⟨fs, [], _, _, rfl, rfl, Low.add _ _, by rw [List.getElem?_append_right (Nat.le_refl _)]; simp, ⟨fs.length, Nat.le_refl _, rfl⟩, ha, fun f h => h, by simp⟩ ?_
    rintro m env h2 ⟨rest, done, s1, s4, rfl, rfl, lo, ec, ⟨k, hk, ek⟩, ra, rs, dl⟩
    repeat walk_at "iv"
    refine ⟨fun c1 => ?_, fun c1 => ?_⟩
    · cases rest with
      | nil => cases c1
      | cons f rr =>
        have gf := g f (rs f List.mem_cons_self)
        repeat walk_at "iv"
        rw [tail_map]
        refine linked_ok (fs := f :: rr) (S := f.tail) (fun _ => rfl) (fun _ => rfl) hL (by omega) (by have := good_tail2 gf; omega) (fun x hx => good_tail2 (g x (rs x hx))) ?_
        repeat walk_at "iv"
        have lr : h.length < h2.length := (List.getElem?_eq_some_iff.mp ec).1
        refine ⟨isL_of ec, ?_⟩
        refine x_scall S.c S.of ?_
        repeat walk_at "iv"
        refine of_ok (fs := lnkd (f :: rr) f.tail) S (fun _ => rfl) (Nat.le_trans (List.length_filter_le _ _) (by omega)) (fun x hx => g x (rs x ((lnkd_sub _ _).subset hx))) ?_
        have ec2 : (h2 ++ [Cell.dead])[h.length]? = some (.lst (done.map stD)) := by rw [List.getElem?_append_left lr]; exact ec
        refine o_appR ec2 (by rw [List.length_map]; omega) ?_
        repeat walk_at "iv"
        refine w_compZ (ζ := Fact) TS TS (outB (lnkd (f :: rr) f.tail)) (zs := f :: rr) ?_ ?_
        · refine fun x hx => ⟨_, rfl, ?_, fun _ => ?_⟩
          · repeat walk_at "iv"
            refine o_ninL (oF.inOk (a := x) (xs := lnkd (f :: rr) f.tail)) ?_
            exact ⟨_, rfl, rfl, congrArg (fun b => !b) (memT x _)⟩
          · repeat walk_at "iv"
            exact ⟨rfl, rfl⟩
        repeat walk_at "iv"
        obtain ⟨t, et, st⟩ := lnkd_head (r := rr) (good_tail gf)
        have hp : f ∈ lnkd (f :: rr) f.tail := by rw [et]; exact List.mem_cons_self
        have hfl : ((f :: rr).filter (outB (lnkd (f :: rr) f.tail))) = rr.filter (outB (lnkd (f :: rr) f.tail)) := List.filter_cons_of_neg (by rw [outB_in hp]; exact Bool.false_ne_true)
        have ll : ((f :: rr).filter (outB (lnkd (f :: rr) f.tail))).length ≤ rr.length := by rw [hfl]; exact List.length_filter_le _ _
        have sr : ((f :: rr).filter (outB (lnkd (f :: rr) f.tail))).Sublist (f :: rr) := List.filter_sublist
        have ea : oF.asc (lnkd (f :: rr) f.tail) = lnkd (f :: rr) f.tail := oF.asc_id (ra.sublist (lnkd_sub _ _))
        rw [ea]
        refine ⟨_, Nat.lt_succ_of_le ll, _, done ++ [lnkd (f :: rr) f.tail], _, _, rfl, rfl, (lo.trans (Low.add _ _)).set (Nat.le_refl _), ?_, ?_, ra.sublist sr, fun x hx => rs x (sr.subset hx), ?_⟩
        · rw [List.getElem?_set_self (by rw [List.length_append]; omega), List.map_append]; rfl
        · cases k with
          | zero => simp at hk
          | succ k =>
            refine ⟨k, by rw [List.length_cons] at hk; omega, ?_⟩
            rw [ek, List.append_assoc]
            rfl
        · rw [List.length_append, List.length_singleton]
          rw [List.length_cons] at dl
          omega
    · cases rest with
      | cons f rr => 
        exfalso
        have := of_decide_eq_false c1
        rw [List.length_map, List.length_cons] at this
        omega
      | nil =>
        refine ⟨_, _, _, rfl, lo, ?_⟩
        have : parts k [] = [] := by cases k <;> rfl
        rw [ek, this, List.append_nil]
        exact ec
  rintro x h2 ⟨s1, s3, s4, rfl, lo, ec⟩
  repeat walk_at "iv"
  exact q h2 lo ec
theorem linkedm_ok {fs : List Fact} {Sn : List Txt} {d1 : D} (S : StP fns cd) (hF : fns.lookup 345 = some f345) (hL : fns.lookup 342 = some f342) (hd1 : ∀ h, walkD h d1 = some (none, Sn.map D.str)) (hs : Sn.length ≤ 10000) (hl : fs.length ≤ 10000) (g : ∀ f ∈ fs, Good f)
    (q : K (stD (oF.asc (lnkd fs Sn))) (h ++ [.dead])) : (callI fns (n + 6) 345 [stD fs, d1] h).post K Y := by
  have hc := S.c
  have hf := S.f
  refine call_def hF rfl ?_
  show (evSs (cfgI fns (n + 5)) b345 [.val (stD fs), .val d1] h).post _ NoX
  unfold b345
  repeat walk_at "iv"
  refine x_scall S.c S.of ?_
  repeat walk_at "iv"
  refine linked_ok (fs := fs) (S := Sn) (fun _ => rfl) hd1 hL (by omega) (by omega) (fun x hx => good_tail2 (g x hx)) ?_
  repeat walk_at "iv"
  refine of_ok (fs := lnkd fs Sn) S (fun _ => rfl) (Nat.le_trans (List.length_filter_le _ _) (by omega)) (fun x hx => g x ((lnkd_sub _ _).subset hx)) ?_
  repeat walk_at "iv"
  exact q
theorem len_ok {fs : List Fact} (S : StP fns cd) (hF : fns.lookup 343 = some f343) (q : K (.int fs.length) h) : (callI fns (n + 1) 343 [stD fs] h).post K Y := by
  have hc := S.c
  have hf := S.f
  refine call_def hF rfl ?_
  show (evSs (cfgI fns n) b343 [.val (stD fs)] h).post _ NoX
  unfold b343
  repeat walk_at "iv"
  rw [List.length_map]
  exact q
end Lw

/-! what the law asks of the pieces, of the linked ones -/
namespace Lw
open PySem L2 Iv Fn
variable {fns : Prog} {h h' : IH} {K : D → IH → Prop} {Y : Nat → List D → IH → Prop} {n r : Nat} {cd : ClsD}
def nmsOf (p : List Fact) : List Txt := oS.asc (p.flatMap List.tail)
theorem mem_nmsOf {p : List Fact} {x : Txt} : x ∈ nmsOf p ↔ ∃ f ∈ p, x ∈ f.tail := by
  unfold nmsOf
  rw [oS.mem_asc, List.mem_flatMap]
theorem nmsOf_len {p : List Fact} (ht : ∀ f ∈ p, f.tail.length ≤ 2) : (nmsOf p).length ≤ 2 * p.length := Nat.le_trans (asc_len oS _) (flat_len ht)
theorem dat_TS (f : Fact) : (TS f).dat = true := by
  show D.dats (f.map D.str) = true
  exact oS.dats
theorem dats_TS (fs : List Fact) : D.dats (fs.map TS) = true := oF.dats (xs := fs)
theorem depths_TS (fs : List Fact) : D.depths (fs.map TS) ≤ 1 := by
  have := depth_TSs fs
  have e : D.depth (.lst (fs.map TS)) = D.depths (fs.map TS) + 1 := rfl
  omega
theorem sameL_ok {fs : List Fact} (hF : fns.lookup 10 = some f10) (hl : fs.length ≤ 100000) (ht : ∀ f ∈ fs, f.length ≤ 100) (q : K (.bl true) h) : (callI fns (n + 4) 10 [.lst (fs.map TS), .lst (fs.map TS)] h).post K Y :=
  same_ok (n := n) hF 3 (.lst (fs.map TS)) (dats_TS fs) (by have := depth_TSs fs; omega) (small_TSs (by omega) fun f hf => by have := ht f hf; omega) q
theorem sameT_ok {fs : List Fact} (hF : fns.lookup 10 = some f10) (hl : fs.length ≤ 100000) (ht : ∀ f ∈ fs, f.length ≤ 100) (q : K (.bl true) h) : (callI fns (n + 4) 10 [TT fs, TT fs] h).post K Y :=
  same_ok (n := n) hF 3 (TT fs) (dats_TS fs) (by have := depths_TS fs; show D.depths (fs.map TS) + 1 ≤ 3; omega) (by
    show small (.tup (fs.map TS))
    rw [small]
    refine ⟨by rw [List.length_map]; omega, smalls_of fun x hx => ?_⟩
    obtain ⟨p, hp, rfl⟩ := List.mem_map.mp hx
    exact small_TS (by have := ht p hp; omega)) q
theorem good_len {f : Fact} (g : Good f) : f.length ≤ 100 := by
  have := good_tail2 g
  rw [List.length_tail] at this
  omega
theorem sum_app (a b : List (List Fact)) : ((a ++ b).map List.length).sum = (a.map List.length).sum + (b.map List.length).sum := by simp
theorem flat_sum (a : List (List Fact)) : a.flatten.length = (a.map List.length).sum := by simp [List.length_flatten]
theorem fit_ok {fs : List Fact} {ps : List (List Fact)} {t : Nat} (S : StP fns cd) (m0 : cd.ms.lookup 0 = some 343) (l343 : fns.lookup 343 = some f343) (hF : fns.lookup 339 = some f339) (h10 : fns.lookup 10 = some f10) (h15 : fns.lookup 15 = some f15) (h63 : fns.lookup 63 = some f63) (h64 : fns.lookup 64 = some f64)
    (hl : fs.length ≤ 10000) (ha : oF.Asc fs) (g : ∀ f ∈ fs, Good f) (P : PartsOk fs ps) (e : h[t]? = some (.lst (ps.map stD))) (q : K (.bl true) h) : (callI fns (n + 8) 339 [.ref t, .lst (fs.map TS)] h).post K Y := by
  have hc := S.c
  have hf := S.f
  refine call_def hF rfl ?_
  show (evSs (cfgI fns (n + 7)) b339 [.val (.ref t), .val (.lst (fs.map TS)), .no, .no, .no, .no, .no, .no, .no] h).post _ NoX
  unfold b339
  repeat walk_at "iv"
  refine wk_yes ?_
  refine f_forG (fun pre env h1 => h1 = h ∧ ∃ (done todo : List (List Fact)) (s2 s6 s7 s8 : Sl), ps = done ++ todo ∧ pre = done.map stD ∧ env = [.val (.ref t), .val (.lst (fs.map TS)), s2, .val (.lst (done.flatten.map TS)), .val (.lst ((done.flatMap nmsOf).map D.str)), .own ((done.map fun p => p.headD []).map TS), s6, s7, s8])
    ⟨rfl, [], ps, _, _, _, _, rfl, rfl, rfl⟩ (fun pre env h1 ⟨eh, _⟩ => by rw [eh]; exact e) ?_ ?_
  · rintro pre d post env h1 ed ⟨rfl, done, todo, s2, s6, s7, s8, ep, rfl, rfl⟩
    rw [ep, List.map_append] at ed
    have ed := List.append_cancel_left ed
    cases todo with
    | nil => cases ed
    | cons p todo =>
      have e1 : stD p = d := (List.cons.inj ed).1
      subst e1
      have hp : p ∈ ps := by rw [ep]; simp
      obtain ⟨f0, r0, ef, pa, pl, pm⟩ := P.each p hp
      have gp : ∀ f ∈ p, Good f := fun f hf => g f (pm f hf)
      have hsum : (done.map List.length).sum + (p.length + (todo.map List.length).sum) = fs.length := by
        rw [← P.len, ep, sum_app]; simp
      have lp : p.length ≤ fs.length := by omega
      have g0 : Good f0 := gp f0 (by rw [ef]; exact List.mem_cons_self)
      have lnil : p ≠ [] := by rw [ef]; simp
      have ld : done.flatten.length ≤ fs.length := by rw [flat_sum]; omega
      have lns : (done.flatMap nmsOf).length ≤ 2 * fs.length := by
        have : ∀ (a : List (List Fact)), (∀ p ∈ a, ∀ f ∈ p, f.tail.length ≤ 2) → (a.flatMap nmsOf).length ≤ 2 * (a.map List.length).sum := by
          intro a
          induction a with
          | nil => intro _; simp
          | cons x a ih =>
            intro hx
            rw [List.flatMap_cons, List.length_append, List.map_cons, List.sum_cons]
            have := nmsOf_len (hx x List.mem_cons_self)
            have := ih fun p hp => hx p (List.mem_cons_of_mem _ hp)
            omega
        have := this done fun p hp f hf => good_tail2 (g f (by
          obtain ⟨_, _, _, _, _, h4⟩ := P.each p (by rw [ep]; exact List.mem_append_left _ hp)
          exact h4 f hf))
        omega
      have lnp := nmsOf_len fun f hf => good_tail2 (gp f hf)
      have lh : (done.map fun p => p.headD []).length ≤ fs.length := by
        rw [List.length_map]
        have : ∀ (a : List (List Fact)), (∀ p ∈ a, p ≠ []) → a.length ≤ (a.map List.length).sum := by
          intro a
          induction a with
          | nil => intro _; simp
          | cons x a ih =>
            intro hx
            rw [List.length_cons, List.map_cons, List.sum_cons]
            have := List.length_pos_iff.mpr (hx x List.mem_cons_self)
            have := ih fun p hp => hx p (List.mem_cons_of_mem _ hp)
            omega
        have := this done fun p hp => by
          obtain ⟨_, _, e, _⟩ := P.each p (by rw [ep]; exact List.mem_append_left _ hp)
          rw [e]; simp
        omega
      have dis : ∀ x ∈ nmsOf p, x ∉ done.flatMap nmsOf := fun x hx hx2 => by
        obtain ⟨f, hf, hxf⟩ := mem_nmsOf.mp hx
        obtain ⟨p2, hp2, hx3⟩ := List.mem_flatMap.mp hx2
        obtain ⟨f2, hf2, hxf2⟩ := mem_nmsOf.mp hx3
        have pw := P.dis
        rw [ep] at pw
        exact (List.pairwise_append.mp pw).2.2 p2 hp2 p List.mem_cons_self f2 hf2 f hf x hxf2 hxf
      refine ⟨_, rfl, ?_⟩
      repeat walk_at "iv"
      refine ln_of (C := callI fns (n + 7)) (ct := (cfgI fns (n + 7)).ct) rfl hc m0 (len_ok (fs := p) S l343 ⟨_, rfl, ⟨by omega, by omega⟩, ?_⟩)
      repeat walk_at "iv"
      have z0 : ((p.length : Int) == 0) = false := by
        have := List.length_pos_iff.mpr lnil
        rw [beq_eq_false_iff_ne]; omega
      rw [z0]
      repeat walk_at "iv"
      refine ls_of (C := callI fns (n + 7)) (ct := (cfgI fns (n + 7)).ct) rfl hc m0 S.it hf rfl (len_ok (fs := p) S l343 ⟨_, rfl, ⟨by omega, by omega⟩, ?_⟩)
      repeat walk_at "iv"
      refine sameT_ok (n := n + 3) h10 (by omega) (fun f hf => good_len (gp f hf)) ?_
      repeat walk_at "iv"
      subst ef
      repeat walk_at "iv"
      rw [tail_map]
      repeat walk_at "iv"
      refine lawlinked_ok (fs := f0 :: r0) (S := f0.tail) (fun _ => rfl) h64 h15 (by omega) (by have := good_tail2 g0; omega) (fun f hf => (gp f hf).len) ?_
      rw [pl, oF.asc_id pa]
      repeat walk_at "iv"
      refine sameL_ok (n := n + 3) h10 (by omega) (fun f hf => good_len (gp f hf)) ?_
      repeat walk_at "iv"
      refine namesof_ok (fs := f0 :: r0) h63 h15 (by omega) (fun f hf => good_tail2 (gp f hf)) ?_
      repeat walk_at "iv"
      refine w_compZ (ζ := Txt) D.str D.str (fun x => decide (x ∈ done.flatMap nmsOf)) (zs := nmsOf (f0 :: r0)) ?_ ?_
      · refine fun x hx => ⟨_, rfl, ?_, fun _ => ?_⟩
        · repeat walk_at "iv"
          refine oS.o_inL (a := x) (xs := done.flatMap nmsOf) ?_
          exact ⟨_, rfl, rfl, decide_eq_decide.mpr Iff.rfl⟩
        · repeat walk_at "iv"
          exact ⟨rfl, rfl⟩
      repeat walk_at "iv"
      have ez : (nmsOf (f0 :: r0)).filter (fun x => decide (x ∈ done.flatMap nmsOf)) = [] := List.filter_eq_nil_iff.mpr fun x hx => by
        rw [decide_eq_false (dis x hx)]; exact Bool.false_ne_true
      rw [ez]
      repeat walk_at "iv"
      refine ⟨fun c => absurd c (by simp), fun _ => ?_⟩
      repeat walk_at "iv"
      refine o_addL (by rw [List.length_map, List.length_map]; show (done.flatMap nmsOf).length + (nmsOf (f0 :: r0)).length ≤ _; omega) ?_
      repeat walk_at "iv"
      refine o_addL (by rw [List.length_map, List.length_map]; omega) ?_
      repeat walk_at "iv"
      refine ⟨by rw [List.length_map]; omega, ?_⟩
      repeat walk_at "iv"
      have e1 : ((done ++ [f0 :: r0]).flatten).map TS = done.flatten.map TS ++ (f0 :: r0).map TS := by simp
      have e2 : ((done ++ [f0 :: r0]).flatMap nmsOf).map D.str = (done.flatMap nmsOf).map D.str ++ (nmsOf (f0 :: r0)).map D.str := by simp
      have e3 : ((done ++ [f0 :: r0]).map fun p => p.headD []).map TS = (done.map fun p => p.headD []).map TS ++ [TS f0] := by simp
      refine ⟨rfl, done ++ [f0 :: r0], todo, s2, .val (stD (f0 :: r0)), .val (.lst (List.map TS (f0 :: r0))), .val (.lst (List.map D.str (nmsOf (f0 :: r0)))), by rw [ep]; simp, by rw [List.map_append]; rfl, ?_⟩
      rw [e1, e2, e3]
      rfl
  · rintro env h1 ⟨rfl, done, todo, s2, s6, s7, s8, ep, ed, rfl⟩
    have et : todo = [] := by
      have := congrArg List.length ed
      rw [List.length_map, List.length_map, ep, List.length_append] at this
      exact List.length_eq_zero_iff.mp (by omega)
    subst et
    rw [List.append_nil] at ep
    subst ep
    have lf : ps.flatten.length = fs.length := by rw [flat_sum, P.len]
    have inn : ∀ p ∈ ps, ∀ f ∈ p, f ∈ fs := fun p hp f hf => by
      obtain ⟨_, _, _, _, _, h4⟩ := P.each p hp
      exact h4 f hf
    have ea : oF.asc ps.flatten = fs := (oF.asc_of ha fun a => ⟨fun h => by
      obtain ⟨p, hp, h2⟩ := P.mem a h
      exact List.mem_flatten.mpr ⟨p, hp, h2⟩, fun h => by
      obtain ⟨p, hp, h2⟩ := List.mem_flatten.mp h
      exact inn p hp a h2⟩).symm
    have lh : (ps.map fun p => p.headD []).length ≤ 10000 := by
      rw [List.length_map]
      have : ∀ (a : List (List Fact)), (∀ p ∈ a, p ≠ []) → a.length ≤ (a.map List.length).sum := by
        intro a
        induction a with
        | nil => intro _; simp
        | cons x a ih =>
          intro hx
          rw [List.length_cons, List.map_cons, List.sum_cons]
          have := List.length_pos_iff.mpr (hx x List.mem_cons_self)
          have := ih fun p hp => hx p (List.mem_cons_of_mem _ hp)
          omega
      have := this ps fun p hp => by
        obtain ⟨_, _, e, _⟩ := P.each p hp
        rw [e]; simp
      rw [P.len] at this
      omega
    have gh : ∀ f ∈ ps.map (fun p => p.headD []), f.length ≤ 100 := fun f hf => by
      obtain ⟨p, hp, rfl⟩ := List.mem_map.mp hf
      obtain ⟨f0, r0, e, _⟩ := P.each p hp
      subst e
      exact good_len (g f0 (inn _ hp f0 List.mem_cons_self))
    repeat walk_at "iv"
    have en : (!(((ps.flatten.map TS).length : Int) == ((fs.map TS).length : Int))) = false := by
      rw [List.length_map, List.length_map, lf]; simp
    rw [en]
    repeat walk_at "iv"
    refine lawasc_ok oF (rows := ps.flatten) h15 (by omega) ?_
    rw [ea]
    repeat walk_at "iv"
    refine sameL_ok (n := n + 3) h10 (by omega) (fun f hf => good_len (g f hf)) ?_
    repeat walk_at "iv"
    refine lawasc_ok oF (rows := ps.map fun p => p.headD []) h15 (by omega) ?_
    rw [oF.asc_id P.heads]
    repeat walk_at "iv"
    refine sameL_ok (n := n + 3) h10 (by omega) gh ?_
    repeat walk_at "iv"
    exact q
theorem linkfit_ok {fs : List Fact} {row : List Txt} (S : StP fns cd) (m31 : cd.ms.lookup 31 = some 345) (l345 : fns.lookup 345 = some f345) (l342 : fns.lookup 342 = some f342) (hF : fns.lookup 340 = some f340) (h10 : fns.lookup 10 = some f10) (h15 : fns.lookup 15 = some f15) (h64 : fns.lookup 64 = some f64)
    (hl : fs.length ≤ 10000) (ha : oF.Asc fs) (g : ∀ f ∈ fs, Good f) (hs : row.length ≤ 10000) (q : ∀ h', Low h h' → K (.bl true) h') : (callI fns (n + 8) 340 [stD fs, .lst (fs.map TS), .lst (row.map D.str)] h).post K Y := by
  have hc := S.c
  have hf := S.f
  refine call_def hF rfl ?_
  show (evSs (cfgI fns (n + 7)) b340 [.val (stD fs), .val (.lst (fs.map TS)), .val (.lst (row.map D.str)), .no, .no, .no] h).post _ NoX
  unfold b340
  have lk : oF.asc (lnkd fs row) = lnkd fs row := oF.asc_id (ha.sublist (lnkd_sub _ _))
  have ll : (lnkd fs row).length ≤ 10000 := Nat.le_trans (List.length_filter_le _ _) hl
  repeat walk_at "iv"
  refine lawlinked_ok (fs := fs) (S := row) (fun _ => rfl) h64 h15 (by omega) (by omega) (fun f hf => (g f hf).len) ?_
  rw [lk]
  repeat walk_at "iv"
  refine md_of (ct := (cfgI fns (n + 7)).ct) (x := stD fs) (fs := [TT fs]) rfl hc m31 ?_
  repeat walk_at "iv"
  refine linkedm_ok (n := n + 1) (fs := fs) (Sn := row) S l345 l342 (fun _ => rfl) hs hl g ?_
  rw [lk]
  repeat walk_at "iv"
  refine md_of (ct := (cfgI fns (n + 7)).ct) (x := stD fs) (fs := [TT fs]) rfl hc m31 ?_
  repeat walk_at "iv"
  refine linkedm_ok (n := n + 1) (fs := fs) (Sn := row) S l345 l342 (fun _ => rfl) hs hl g ?_
  rw [lk]
  repeat walk_at "iv"
  refine f_for (fun pre env h1 => h1 = h ++ [.dead] ++ [.dead] ∧ ∃ s5, env = [.val (stD fs), .val (.lst (fs.map TS)), .val (.lst (row.map D.str)), .val (.lst ((lnkd fs row).map TS)), .val (.lst (row.map D.str)), s5]) ⟨rfl, _, rfl⟩ ?_ ?_
  · rintro pre d post env h1 ed ⟨rfl, s5, rfl⟩
    have hd : d ∈ [stD (lnkd fs row), stD (lnkd fs row)] := by rw [ed]; simp
    simp only [List.mem_cons, List.not_mem_nil, or_false, or_self] at hd
    subst hd
    refine ⟨_, rfl, ?_⟩
    repeat walk_at "iv"
    refine sameT_ok (n := n + 3) h10 (by omega) (fun f hf => good_len (g f ((lnkd_sub _ _).subset hf))) ?_
    repeat walk_at "iv"
    exact ⟨rfl, _, rfl⟩
  · rintro env h1 ⟨rfl, s5, rfl⟩
    repeat walk_at "iv"
    refine same_ok (n := n + 3) h10 3 (.lst (row.map D.str)) oS.dats (by
      have := tup_depth oS (n := 0) (fun _ => Nat.le_refl 0) row
      have : D.depths (row.map D.str) ≤ 0 := this
      show D.depths (row.map D.str) + 1 ≤ 3
      omega) (small_lst (by omega)) ?_
    repeat walk_at "iv"
    exact q _ ((Low.add _ _).trans (Low.add _ _))
end Lw

namespace W
open PySem L2 Iv Fn Lw
theorem law_of {fns : Prog} {k i : Nat} (p : ∀ ns : List Int, ns.length ≤ 63 → (callI fns k i [.lst (ns.map D.int)] []).post (fun d _ => d = .bl true) NoX) : LawV fns k i := fun ns hl => by
  have q := p ns hl
  cases e : callI fns k i [.lst (ns.map D.int)] [] with
  | ok d h' =>
    rw [e] at q
    have q : d = .bl true := q
    exact ⟨h', by rw [q]⟩
  | ex => rw [e] at q; exact q.elim
  | bad => rw [e] at q; exact q.elim
theorem stp : StP fns cd0 := ⟨rfl, rfl, rfl, rfl, rfl, rfl, rfl, rfl, rfl, rfl, rfl, rfl, rfl, rfl⟩
abbrev rowD (row : List Txt) : D := .lst (row.map D.str)
theorem law_true : LawV fns 51 336 := by
  refine law_of fun ns hl => ?_
  have S := stp
  have hc := S.c
  have hf := S.f
  refine call_def rfl rfl ?_
  show (evSs (cfgI fns 50) b336 [.val (.lst (ns.map D.int)), .no, .no, .no, .no, .no, .no, .no, .no, .no, .no] []).post _ NoX
  unfold b336
  repeat walk_at "iv"
  refine source_ok (fns := fns) (n := 49) rfl fun h1 s1 l1 => ?_
  repeat walk_at "iv"
  refine draw_ok (fns := fns) (n := 49) rfl (by decide) s1 fun d2 h2 a2 b2 s2 o2 => ?_
  repeat walk_at "iv"
  refine names_ok (fns := fns) (n := 48) rfl rfl (by omega) (by omega) s2 fun names h3 s3 o3 ln gn => ?_
  have ln1 : 1 ≤ names.length := by omega
  have ln2 : names.length ≤ 8 := by omega
  repeat walk_at "iv"
  refine chain_ok (fns := fns) (n := 48) rfl rfl ln1 (by omega) gn s3 fun fs1 h4 s4 o4 l4 g4 => ?_
  repeat walk_at "iv"
  refine relations_ok (fns := fns) (n := 48) rfl rfl s4 fun rs h5 s5 o5 lr1 lr2 rok => ?_
  repeat walk_at "iv"
  refine lawfacts_ok (fns := fns) (n := 47) rfl rfl rfl (by intro e; rw [e] at lr1; simp at lr1) (by omega) (by intro e; rw [e] at ln1; simp at ln1) (by omega) rok gn (by omega) s5 fun fs2 h6 s6 o6 l6 g6 => ?_
  have l6 : fs2.length ≤ 6 := l6
  refine o_addL (by rw [List.length_map, List.length_map]; omega) ?_
  rw [← List.map_append]
  have g : ∀ f ∈ fs1 ++ fs2, Good f := fun f hf => by
    rcases List.mem_append.mp hf with k | k
    · exact g4 f k
    · exact g6 f k
  have lf : (fs1 ++ fs2).length ≤ 3000 := by rw [List.length_append]; omega
  generalize fs1 ++ fs2 = facts at g lf ⊢
  repeat walk_at "iv"
  refine lawasc_ok oF (fns := fns) (n := 49) (rows := facts) rfl (by omega) ?_
  repeat walk_at "iv"
  refine x_scall hc S.of ?_
  repeat walk_at "iv"
  refine of_ok (fns := fns) (n := 45) (fs := facts) S (fun _ => rfl) (by omega) g ?_
  have ga : ∀ f ∈ oF.asc facts, Good f := fun f hf => g f (oF.mem_asc.mp hf)
  have la : (oF.asc facts).length ≤ 3000 := Nat.le_trans (asc_len oF facts) lf
  have aa := oF.asc_asc facts
  generalize oF.asc facts = fs at ga la aa ⊢
  have P := parts_ok fs.length fs (Nat.le_refl _) aa fun f hf => good_tail (ga f hf)
  have sA : Src ([] : IH).length (h6 ++ [Cell.dead]) := s6.low (Low.add _ _)
  generalize h6 ++ [Cell.dead] = hA at sA ⊢
  repeat walk_at "iv"
  refine md_of (ct := (cfgI fns 50).ct) (x := stD fs) (fs := [TT fs]) rfl hc rfl ?_
  repeat walk_at "iv"
  refine pieces_ok (fns := fns) (n := 44) S rfl rfl (by omega) aa ga fun h7 lo7 e7 => ?_
  repeat walk_at "iv"
  refine fit_ok (fns := fns) (n := 42) S rfl rfl rfl rfl rfl rfl rfl (by omega) aa ga P e7 ?_
  repeat walk_at "iv"
  have pl : (parts fs.length fs).length ≤ 10000 := by
    have : ∀ (a : List (List Fact)), (∀ p ∈ a, p ≠ []) → a.length ≤ (a.map List.length).sum := by
      intro a
      induction a with
      | nil => intro _; simp
      | cons x a ih =>
        intro hx
        rw [List.length_cons, List.map_cons, List.sum_cons]
        have := List.length_pos_iff.mpr (hx x List.mem_cons_self)
        have := ih fun p hp => hx p (List.mem_cons_of_mem _ hp)
        omega
    have := this _ fun p hp => by
      obtain ⟨_, _, e, _⟩ := P.each p hp
      rw [e]; simp
    rw [P.len] at this
    omega
  refine ⟨isL_of e7, ?_⟩
  repeat walk_at "iv"
  refine o_appR e7 (by rw [List.length_map]; omega) ?_
  have s8 : Src ([] : IH).length (h7.set hA.length (.lst ((parts fs.length fs).map stD ++ [stD fs]))) := sA.low (lo7.set (Nat.le_refl _))
  generalize h7.set hA.length (.lst ((parts fs.length fs).map stD ++ [stD fs])) = h8 at s8 ⊢
  repeat walk_at "iv"
  refine md_of (ct := (cfgI fns 50).ct) (x := stD fs) (fs := [TT fs]) rfl hc rfl ?_
  repeat walk_at "iv"
  refine pieces_ok (fns := fns) (n := 44) S rfl rfl (by omega) aa ga fun h9 lo9 e9 => ?_
  repeat walk_at "iv"
  refine fit_ok (fns := fns) (n := 42) S rfl rfl rfl rfl rfl rfl rfl (by omega) aa ga P e9 ?_
  repeat walk_at "iv"
  refine names_ok (fns := fns) (n := 48) rfl rfl (by omega) (by omega) (s8.low lo9) fun more h10 s10 o10 lm gm => ?_
  have lm : more.length = 2 := lm
  refine o_addL (by rw [List.length_map, List.length_map]; omega) ?_
  rw [← List.map_append]
  have lp : (names ++ more).length ≤ 10 := by rw [List.length_append]; omega
  generalize names ++ more = pool at lp ⊢
  repeat walk_at "iv"
  refine w_comp (fun pre acc h11 => Src ([] : IH).length h11 ∧ acc.length ≤ pre.length ∧ ∀ x ∈ acc, ∃ z : Txt, True ∧ x = D.str z) ⟨s10, Nat.le_refl _, fun _ h => by cases h⟩ ?_ ?_
  · rintro pre d post acc h11 e ⟨s11, la2, hm⟩
    have hd : d ∈ pool.map D.str := by rw [e]; simp
    obtain ⟨z, _, rfl⟩ := List.mem_map.mp hd
    refine ⟨_, rfl, ?_⟩
    repeat walk_at "iv"
    refine draw_ok (fns := fns) (n := 49) rfl (by decide) s11 fun d2 h12 a2 b2 s12 o12 => ?_
    repeat walk_at "iv"
    refine ⟨fun _ => ?_, fun _ => ?_⟩
    · repeat walk_at "iv"
      refine ⟨s12, by simp; omega, fun x hx => ?_⟩
      rcases List.mem_append.mp hx with k | k
      · exact hm x k
      · exact ⟨z, trivial, List.mem_singleton.mp k⟩
    · exact ⟨s12, by simp; omega, hm⟩
  rintro acc h11 ⟨s11, la2, hm⟩
  obtain ⟨some_, rfl, _⟩ := maps_of hm
  rw [List.length_map, List.length_map] at la2
  repeat walk_at "iv"
  refine w_compA (C := cfgI fns 50) D.str (fun z => rowD [z]) (zs := pool) ?_ ?_
  · refine fun z hz => ⟨_, rfl, ?_⟩
    repeat walk_at "iv"
    exact ⟨rfl, rfl⟩
  refine o_addL (by rw [List.length_map]; show 3 + _ ≤ _; omega) ?_
  have er : [D.lst (some_.map D.str), D.lst (names.map D.str), D.lst []] ++ pool.map (fun z => rowD [z]) = ([some_, names, []] ++ pool.map fun z => [z]).map rowD := by
    rw [List.map_append, List.map_map]; rfl
  rw [er]
  have lrow : ∀ row ∈ ([some_, names, []] ++ pool.map fun z => [z]), row.length ≤ 10000 := fun row hr => by
    rcases List.mem_append.mp hr with k | k
    · simp only [List.mem_cons, List.not_mem_nil, or_false] at k
      rcases k with k | k | k <;> rw [k] <;> first | omega | simp
    · obtain ⟨z, _, rfl⟩ := List.mem_map.mp k
      simp
  generalize ([some_, names, []] ++ pool.map fun z => [z]) = rows at lrow ⊢
  repeat walk_at "iv"
  refine f_forR rowD (fun zs env h12 => (∀ row ∈ zs, row.length ≤ 10000) ∧ ∃ s10, env = [.val (.lst (ns.map D.int)), .no, .val (.ref ([] : IH).length), .val (.lst (names.map D.str)), .val (.lst (facts.map TS)), .val (.lst (fs.map TS)), .val (stD fs), .val (.ref hA.length), .val (.lst (pool.map D.str)), .val (.lst (some_.map D.str)), s10]) ?_ ?_ ⟨lrow, _, rfl⟩
  · rintro row zs env h12 ⟨lz, s10, rfl⟩
    refine ⟨_, rfl, ?_⟩
    repeat walk_at "iv"
    refine linkfit_ok (fns := fns) (n := 42) S rfl rfl rfl rfl rfl rfl rfl (by omega) aa ga (lz row List.mem_cons_self) fun h13 _ => ?_
    repeat walk_at "iv"
    exact ⟨fun r hr => lz r (List.mem_cons_of_mem _ hr), _, rfl⟩
  · rintro env h12 ⟨_, s10, rfl⟩
    repeat walk_at "iv"
    refine sameT_ok (fns := fns) (n := 46) rfl (by omega) (fun f hf => good_len (ga f hf)) ?_
    repeat walk_at "iv"
    rfl
end W

open PySem PySem.W PySem.Calls PyProof.Rows
theorem PySem.Challenge.cw_noticesheard_k07_whole_pieces_part_a_sto_holds : PySem.Challenge.rw_noticesheard_k07_whole_pieces_part_a_sto.Holds := by
  w_on; o_law
  refine HandSHeadRun.head_any (r := W.R) (q := view W.R.prog [46]) (H := W.hk) (ob := W.ob) (M := 4000) (loose := W.loose) (d := HandSHeadRun.topDef W.R.prog 46) (kwd := []) W.ob_eq
    (by kernel_rfl) (fun s => by kernel_rfl) W.run (by kernel_rfl) (by kernel_rfl) (by kernel_rfl) (by rfl) (by first | assumption | decide +kernel) (by decide +kernel) ⟨rfl, rfl, rfl, rfl, rfl, by decide +kernel⟩ ?hw ?hc
  case hw => w_witness2
  case hc => exact Iv.law_end (k := 50) (i := 336) (F := W.f336) rfl (by kernel_rfl) ⟨rfl, by decide, by decide⟩ (fun w h Y => Y) W.text rfl rfl rfl rfl (by kernel_rfl) W.law_true
