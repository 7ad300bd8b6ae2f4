import PyProof.Rows.All
import HandS.ForMost
import HandS.TupAny
import HandS.ExcSuper
import KE.KExcSuper
import HandS.ExcInit
import HandS.ExcField
import HandS.ExcIs
import HandS.ExcValue
import HandS.MakeKwOnly
import HandS.HeadEnd
import HandS.Defaults
import PyProof.ReprLen
import HandS.Evl
import PySem.Challenge.RW_meetbehind_k26_errors_of_all_classes
import HandS.HeadHook1
import HandS.HeadHook2
import HandS.Head0
import HandS.Head1
import HandS.Head2
set_option Elab.async false
set_option linter.all false
set_option maxRecDepth 100000
set_option maxHeartbeats 1000000
/-! Dc0: plain data D, how it lies in the abstract heap (At), environments of data (En) over slots and heap (EnvOk). -/
namespace Dc
open PySem PySem.Spec PyProof.Rows L2

/-- plain data; ins: an instance of an own class; exc: an exception; pen: the one list that draws -/
inductive D where
  | non | bl (b : Bool) | int (i : Int) | str (x : Str)
  | tup (xs : List D) | lst (xs : List D)
  | dct (ks vs : List D)
  | ins (c : Str) (ns : List Str) (vs : List D)
  | exc (c : Str) (ns : List Str) (vs : List D)
  | pen

/-- what is fixed: the written part, where the classes stand, where the pen lies, its cells -/
structure Tab where
  K : PySem.W.Frag
  ca : Str → Addr
  P : Option Addr
  cs : List Int

/-- an exception object of the class at C with the own dict at d -/
def ExcA (C d a : Addr) : HO := .ext fun h => ∃ (oe : Obj) (vs : Array Value), h.get? a = some oe ∧ oe.cls = .ref C ∧ oe.dict = some d ∧ oe.data = .fields vs

def kD : Key → D
  | .inl i => .int i
  | .inr s => .str s

mutual
inductive At (T : Tab) (H : Hp) : V → D → Prop
  | non : At T H .non .non
  | bl (b : Bool) : At T H (.bl b) (.bl b)
  | int (i : Int) : At T H (.int i) (.int i)
  | str (x : Str) : At T H (.str x) (.str x)
  | lst {a : Addr} {vs : List V} {ds : List D} : H a = some (.lst vs) → AtAll T H vs ds → At T H (.ref a) (.lst ds)
  | tup {a : Addr} {vs : List V} {ds : List D} : SqT T.K H a vs → AtAll T H vs ds → At T H (.ref a) (.tup ds)
  | dK {a : Addr} {kvs : List (Key × V)} {ds : List D} : H a = some (.dK kvs) → AtAll T H (kvs.map (·.2)) ds → At T H (.ref a) (.dct (kvs.map fun p => kD p.1) ds)
  | dT {a : Addr} {kvs : List (List Key × V)} {ds : List D} : H a = some (.dT kvs) → AtAll T H (kvs.map (·.2)) ds → At T H (.ref a) (.dct (kvs.map fun p => .tup (p.1.map kD)) ds)
  | ins {a dx : Addr} {c : Str} {fs : List (Str × V)} {ds : List D} : H a = some (.ins (T.ca c) dx fs) → AtAll T H (fs.map (·.2)) ds → At T H (.ref a) (.ins c (fs.map (·.1)) ds)
  | exc {a d : Addr} {c : Str} {fs : List (Str × V)} {ds : List D} : H a = some (ExcA (T.ca c) d a) → H d = some (.xd fs) → AtAll T H (fs.map (·.2)) ds → At T H (.ref a) (.exc c (fs.map (·.1)) ds)
  | pen {a : Addr} : T.P = some a → At T H (.ref a) .pen
inductive AtAll (T : Tab) (H : Hp) : List V → List D → Prop
  | nil : AtAll T H [] []
  | cons {v : V} {vs : List V} {d : D} {ds : List D} : At T H v d → AtAll T H vs ds → AtAll T H (v :: vs) (d :: ds)
end

/-- what H tracks is tracked alike in H' -/
def Ex (H H' : Hp) : Prop := ∀ (a : Addr) (o : HO), H a = some o → H' a = some o
theorem Ex.refl (H : Hp) : Ex H H := fun _ _ z => z
theorem Ex.trans {H H1 H2 : Hp} (x : Ex H H1) (y : Ex H1 H2) : Ex H H2 := fun a o z => y a o (x a o z)
theorem Ex.new {H : Hp} {p : Addr} {o : HO} (hp : H p = none) : Ex H (upd H p o) := fun a u e => by
  rw [upd_ne (ne_of_none e hp)]
  exact e
theorem Ex.rd {H H' : Hp} {a : Addr} {u : HO} (e : Ex H H') (h : Rd H a u) : Rd H' a u := by
  rcases h with h | ⟨o, h⟩
  · exact .inl (e a _ h)
  · exact .inr ⟨o, e a _ h⟩
theorem Ex.l {K : PySem.W.Frag} {H H' : Hp} {a : Addr} {xs : List V} (e : Ex H H') (h : SqL K H a xs) : SqL K H' a xs := h.elim (fun h => .inl (e.rd h)) .inr
theorem Ex.t {K : PySem.W.Frag} {H H' : Hp} {a : Addr} {xs : List V} (e : Ex H H') (h : SqT K H a xs) : SqT K H' a xs := h.elim (fun h => .inl (e.rd h)) .inr
theorem Ex.free {H H' : Hp} {p : Addr} (e : Ex H H') (h : H' p = none) : H p = none := by
  cases h1 : H p with
  | none => rfl
  | some o =>
    rw [e p o h1] at h
    cases h

theorem At.mono {T : Tab} {H H' : Hp} (e : Ex H H') {v : V} {d : D} (h : At T H v d) : At T H' v d :=
  At.rec (motive_1 := fun v d _ => At T H' v d) (motive_2 := fun vs ds _ => AtAll T H' vs ds)
    .non .bl .int .str (fun s _ ih => .lst (e _ _ s) ih) (fun s _ ih => .tup (e.t s) ih) (fun s _ ih => .dK (e _ _ s) ih) (fun s _ ih => .dT (e _ _ s) ih)
    (fun s _ ih => .ins (e _ _ s) ih) (fun s t _ ih => .exc (e _ _ s) (e _ _ t) ih) (fun p => .pen p) .nil (fun _ _ i1 i2 => .cons i1 i2) h
theorem AtAll.mono {T : Tab} {H H' : Hp} (e : Ex H H') : ∀ {vs : List V} {ds : List D}, AtAll T H vs ds → AtAll T H' vs ds
  | _, _, .nil => .nil
  | _, _, .cons a b => .cons (a.mono e) (b.mono e)
theorem AtAll.length {T : Tab} {H : Hp} : ∀ {vs : List V} {ds : List D}, AtAll T H vs ds → vs.length = ds.length
  | _, _, .nil => rfl
  | _, _, .cons _ b => congrArg Nat.succ b.length
theorem AtAll.append {T : Tab} {H : Hp} : ∀ {vs ws : List V} {ds es : List D}, AtAll T H vs ds → AtAll T H ws es → AtAll T H (vs ++ ws) (ds ++ es)
  | _, _, _, _, .nil, s => s
  | _, _, _, _, .cons r t, s => .cons r (t.append s)
theorem AtAll.get {T : Tab} {H : Hp} : ∀ {vs : List V} {ds : List D} {i : Nat} {d : D}, AtAll T H vs ds → ds[i]? = some d → ∃ v, vs[i]? = some v ∧ At T H v d
  | _, _, _, _, .nil, z => by cases z
  | _, _, 0, _, .cons r _, z => ⟨_, rfl, by cases z; exact r⟩
  | _, _, i + 1, d, .cons _ t, e => by
    obtain ⟨v, h1, h2⟩ := AtAll.get (i := i) (d := d) t (by simpa using e)
    exact ⟨v, by simpa using h1, h2⟩
theorem AtAll.get' {T : Tab} {H : Hp} : ∀ {vs : List V} {ds : List D} {i : Nat} {v : V}, AtAll T H vs ds → vs[i]? = some v → ∃ d, ds[i]? = some d ∧ At T H v d
  | _, _, _, _, .nil, z => by cases z
  | _, _, 0, _, .cons r _, z => ⟨_, rfl, by cases z; exact r⟩
  | _, _, i + 1, d, .cons _ t, e => by
    obtain ⟨v, h1, h2⟩ := AtAll.get' (i := i) (v := d) t (by simpa using e)
    exact ⟨v, by simpa using h1, h2⟩
theorem AtAll.set {T : Tab} {H : Hp} {v : V} {d : D} (r : At T H v d) : ∀ {vs : List V} {ds : List D} (i : Nat), AtAll T H vs ds → AtAll T H (vs.set i v) (ds.set i d)
  | _, _, _, .nil => .nil
  | _, _, 0, .cons _ tl => .cons r tl
  | _, _, i + 1, .cons q t => .cons q (AtAll.set r i t)
theorem AtAll.take {T : Tab} {H : Hp} : ∀ {vs : List V} {ds : List D} (n : Nat), AtAll T H vs ds → AtAll T H (vs.take n) (ds.take n)
  | _, _, 0, _ => .nil
  | _, _, _ + 1, .nil => .nil
  | _, _, n + 1, .cons r t => .cons r (t.take n)
theorem AtAll.drop {T : Tab} {H : Hp} : ∀ {vs : List V} {ds : List D} (n : Nat), AtAll T H vs ds → AtAll T H (vs.drop n) (ds.drop n)
  | _, _, 0, r => r
  | _, _, _ + 1, .nil => .nil
  | _, _, n + 1, .cons _ t => t.drop n
theorem AtAll.eraseIdx {T : Tab} {H : Hp} : ∀ {vs : List V} {ds : List D} (n : Nat), AtAll T H vs ds → AtAll T H (vs.eraseIdx n) (ds.eraseIdx n)
  | _, _, _, .nil => .nil
  | _, _, 0, .cons _ t => t
  | _, _, n + 1, .cons r t => .cons r (t.eraseIdx n)
theorem AtAll.reverse {T : Tab} {H : Hp} : ∀ {vs : List V} {ds : List D}, AtAll T H vs ds → AtAll T H vs.reverse ds.reverse
  | _, _, .nil => .nil
  | _, _, .cons r t => by
    rw [List.reverse_cons, List.reverse_cons]; exact t.reverse.append (.cons r .nil)

/-- sizes -/
def szB (n : Nat) : Bool := Nat.ble n 16777216
theorem szB_ok {n : Nat} (h : szB n = true) : n ≤ sizeLine := by
  rw [sizeLine_eq]
  exact Nat.le_of_ble_eq_true h
/-! ### hidden addresses -/
def hide (H : Hp) (A : List Addr) : Hp := fun a => if a ∈ A then none else H a
theorem hide_ne {H : Hp} {A : List Addr} {a : Addr} (h : a ∉ A) : hide H A a = H a := if_neg h
theorem hide_in {H : Hp} {A : List Addr} {a : Addr} (h : a ∈ A) : hide H A a = none := if_pos h
theorem hide_some {H : Hp} {A : List Addr} {a : Addr} {o : HO} (h : hide H A a = some o) : a ∉ A ∧ H a = some o := by
  by_cases m : a ∈ A
  · rw [hide_in m] at h
    cases h
  · rw [hide_ne m] at h
    exact ⟨m, h⟩
theorem ex_hide (H : Hp) (A : List Addr) : Ex (hide H A) H := fun _ _ h => (hide_some h).2
theorem ex_hide_le {H : Hp} {A A' : List Addr} (h : ∀ a, a ∈ A' → a ∈ A) : Ex (hide H A) (hide H A') := fun a o e => by
  obtain ⟨m, e⟩ := hide_some e
  rw [hide_ne fun z => m (h a z)]
  exact e
theorem ex_hide_ex {H H' : Hp} {A : List Addr} (e : Ex H H') : Ex (hide H A) (hide H' A) := fun a o h => by
  obtain ⟨m, h⟩ := hide_some h
  rw [hide_ne m]
  exact e a o h

/-! ### environments of data -/
/-- a slot's content: data, or a list that this def alone holds -/
inductive Cell where
  | p (d : D)
  | l (xs : List D)
/-- the slots; the number of draws so far -/
structure En where
  s : List (Option Cell)
  n : Nat
/-- what is the entry's: the heap there, the addresses hidden there -/
structure C0 where
  H0 : Hp
  A0 : List Addr

/-- the pen, n draws done at most: its cells, the next one's number, what is left of a great one -/
def PenAt (T : Tab) (Hh H : Hp) (p : Addr) (n : Nat) : Prop := ∃ (c : Addr) (i r : Int), H p = some (.lst [.ref c, .int i, .int r]) ∧ Hh c = some (.lst (T.cs.map V.int)) ∧ 0 ≤ i ∧ i ≤ n ∧ 0 ≤ r
def PenOk (T : Tab) (H : Hp) (A : List Addr) (n : Nat) : Prop := ∀ p, T.P = some p → p ∈ A ∧ PenAt T (hide H A) H p n

/-- a is the list that a slot holds alone -/
def Own (σ : L2.St) (ρ : En) (a : Addr) : Prop := ∃ (i : Nat) (xs : List D), ρ.s[i]? = some (some (.l xs)) ∧ σ[i]? = some (some (.ref a))

inductive CellOk (T : Tab) (C : C0) (H : Hp) (A : List Addr) : V → Cell → Prop
  | p {v : V} {d : D} : At T (hide H A) v d → CellOk T C H A v (.p d)
  | l {a : Addr} {vs : List V} {xs : List D} : H a = some (.lst vs) → AtAll T (hide H A) vs xs → a ∈ A → C.H0 a = none → T.P ≠ some a → CellOk T C H A (.ref a) (.l xs)

structure EnvOk (T : Tab) (C : C0) (A : List Addr) (σ : L2.St) (H : Hp) (ρ : En) : Prop where
  ext : ∀ a o, C.H0 a = some o → T.P ≠ some a → H a = some o
  sub : ∀ (a : Addr), a ∈ C.A0 → a ∈ A
  dom0 : ∀ a, a ∈ C.A0 → C.H0 a ≠ none
  dom : ∀ a, a ∈ A → H a ≠ none
  len : σ.length = ρ.s.length
  cell : ∀ (i : Nat) (c : Cell), ρ.s[i]? = some (some c) → ∃ v, σ[i]? = some (some v) ∧ CellOk T C H A v c
  inj : ∀ (i j : Nat) (a : Addr) (xs ys : List D), ρ.s[i]? = some (some (.l xs)) → ρ.s[j]? = some (some (.l ys)) → σ[i]? = some (some (.ref a)) → σ[j]? = some (some (.ref a)) → i = j
  pen : PenOk T H A ρ.n

/-- what an expression may do: pure things stay, lists held alone may change or be given away, new ones may come -/
structure Post (T : Tab) (C : C0) (A : List Addr) (σ : L2.St) (H : Hp) (ρ : En) (A' : List Addr) (H' : Hp) (ρ' : En) : Prop where
  ok : EnvOk T C A' σ H' ρ'
  le : ∀ a, a ∈ A' → a ∈ A ∨ H a = none
  gone : ∀ a, a ∈ A → a ∉ A' → Own σ ρ a
  keep : ∀ a o, H a = some o → ¬ Own σ ρ a → T.P ≠ some a → H' a = some o
  own : ∀ (i : Nat) (xs : List D), ρ'.s[i]? = some (some (.l xs)) → ∃ ys, ρ.s[i]? = some (some (.l ys))
  th : ∀ a, H' a = none → H a = none

section
variable {T : Tab} {C : C0} {A A1 A2 : List Addr} {σ : L2.St} {H H1 H2 : Hp} {ρ ρ1 ρ2 : En}
theorem EnvOk.own_in (e : EnvOk T C A σ H ρ) {a : Addr} (h : Own σ ρ a) : a ∈ A ∧ C.H0 a = none ∧ T.P ≠ some a ∧ ∃ (i : Nat) (xs : List D) (vs : List V), ρ.s[i]? = some (some (.l xs)) ∧ σ[i]? = some (some (.ref a)) ∧ H a = some (.lst vs) ∧ AtAll T (hide H A) vs xs := by
  obtain ⟨i, xs, h1, h2⟩ := h
  obtain ⟨v, h3, h4⟩ := e.cell i _ h1
  rw [h2] at h3
  cases h3
  cases h4 with
  | l g1 g2 g3 g4 g5 => exact ⟨g3, g4, g5, i, xs, _, h1, h2, g1, g2⟩
theorem EnvOk.not_own (e : EnvOk T C A σ H ρ) {a : Addr} (h : a ∉ A) : ¬ Own σ ρ a := fun z => h (e.own_in z).1
theorem EnvOk.not_pen (e : EnvOk T C A σ H ρ) {a : Addr} (h : a ∉ A) : T.P ≠ some a := fun z => h (e.pen a z).1
theorem Post.refl (e : EnvOk T C A σ H ρ) : Post T C A σ H ρ A H ρ := ⟨e, fun _ h => .inl h, fun _ h z => absurd h z, fun _ _ h _ _ => h, fun _ xs h => ⟨xs, h⟩, fun _ h => h⟩
/-- pure things stay -/
theorem Post.ex (e : EnvOk T C A σ H ρ) (p : Post T C A σ H ρ A1 H1 ρ1) : Ex (hide H A) (hide H1 A1) := fun a o h => by
  obtain ⟨m, h⟩ := hide_some h
  have m1 : a ∉ A1 := fun z => by
    rcases p.le a z with z | z
    · exact m z
    · rw [h] at z
      cases z
  rw [hide_ne m1]
  exact p.keep a o h (e.not_own m) (e.not_pen m)
theorem Post.own_back (p : Post T C A σ H ρ A1 H1 ρ1) {a : Addr} (h : Own σ ρ1 a) : Own σ ρ a := by
  obtain ⟨i, xs, h1, h2⟩ := h
  obtain ⟨ys, h3⟩ := p.own i xs h1
  exact ⟨i, ys, h3, h2⟩
theorem Post.trans (p : Post T C A σ H ρ A1 H1 ρ1) (q : Post T C A1 σ H1 ρ1 A2 H2 ρ2) : Post T C A σ H ρ A2 H2 ρ2 where
  ok := q.ok
  le := fun a h => (q.le a h).elim (p.le a) fun z => .inr (p.th a z)
  gone := fun a h n => by
    by_cases m : a ∈ A1
    · exact p.own_back (q.gone a m n)
    · exact p.gone a h m
  keep := fun a o h n np => q.keep a o (p.keep a o h n np) (fun z => n (p.own_back z)) np
  own := fun i xs h => by
    obtain ⟨ys, h⟩ := q.own i xs h
    exact p.own i ys h
  th := fun a h => p.th a (q.th a h)
theorem PenOk.mono {n : Nat} (e : Ex H H1) (h : PenOk T H A n) : PenOk T H1 A n := fun p hp => by
  obtain ⟨m, c, i, r, h1, h2, h3⟩ := h p hp
  exact ⟨m, c, i, r, e _ _ h1, ex_hide_ex e _ _ h2, h3⟩
theorem CellOk.mono {v : V} {c : Cell} (e : Ex H H1) (h : CellOk T C H A v c) : CellOk T C H1 A v c := by
  cases h with
  | p h => exact .p (h.mono (ex_hide_ex e))
  | l h1 h2 h3 h4 h5 => exact .l (e _ _ h1) (h2.mono (ex_hide_ex e)) h3 h4 h5
/-- the heap grows -/
theorem EnvOk.mono (e : EnvOk T C A σ H ρ) (x : Ex H H1) : EnvOk T C A σ H1 ρ where
  ext := fun a o h n => x a o (e.ext a o h n)
  sub := e.sub
  dom0 := e.dom0
  dom := fun a h z => e.dom a h (x.free z)
  len := e.len
  cell := fun i c h => by
    obtain ⟨v, h1, h2⟩ := e.cell i c h
    exact ⟨v, h1, h2.mono x⟩
  inj := e.inj
  pen := e.pen.mono x
theorem EnvOk.post_ex (e : EnvOk T C A σ H ρ) (x : Ex H H1) : Post T C A σ H ρ A H1 ρ := ⟨e.mono x, fun _ h => .inl h, fun _ h z => absurd h z, fun a o h _ _ => x a o h, fun _ xs h => ⟨xs, h⟩, fun _ h => x.free h⟩
/-- more is hidden, all of it new -/
theorem EnvOk.more (e : EnvOk T C A σ H ρ) (x : Ex H H1) (s : ∀ a, a ∈ A → a ∈ A1) (n : ∀ a, a ∈ A1 → a ∈ A ∨ H a = none) (d : ∀ a, a ∈ A1 → H1 a ≠ none) : EnvOk T C A1 σ H1 ρ := by
  have x1 : Ex (hide H A) (hide H1 A1) := fun a o h => by
    obtain ⟨m, h⟩ := hide_some h
    rw [hide_ne fun z => (n a z).elim m fun q => by rw [h] at q; cases q]
    exact x a o h
  refine ⟨fun a o h n => x a o (e.ext a o h n), fun a h => s a (e.sub a h), e.dom0, d, e.len, fun i c h => ?_, e.inj, fun p hp => ?_⟩
  · obtain ⟨v, h1, h2⟩ := e.cell i c h
    refine ⟨v, h1, ?_⟩
    cases h2 with
    | p g => exact .p (g.mono x1)
    | l g1 g2 g3 g4 g5 => exact .l (x _ _ g1) (g2.mono x1) (s _ g3) g4 g5
  · obtain ⟨m, c, i, r, h1, h2, h3⟩ := e.pen p hp
    exact ⟨s _ m, c, i, r, x _ _ h1, x1 _ _ h2, h3⟩
theorem EnvOk.post_more (e : EnvOk T C A σ H ρ) (x : Ex H H1) (s : ∀ a, a ∈ A → a ∈ A1) (n : ∀ a, a ∈ A1 → a ∈ A ∨ H a = none) (d : ∀ a, a ∈ A1 → H1 a ≠ none) : Post T C A σ H ρ A1 H1 ρ :=
  ⟨e.more x s n d, n, fun a h z => absurd (s a h) z, fun a o h _ _ => x a o h, fun _ xs h => ⟨xs, h⟩, fun _ h => x.free h⟩
/-- a is hidden no more -/
def unh (A : List Addr) (a : Addr) : List Addr := A.filter fun b => b ≠ a
theorem mem_unh {a b : Addr} : b ∈ unh A a ↔ b ∈ A ∧ b ≠ a := by simp [unh]
theorem EnvOk.unhide (e : EnvOk T C A σ H ρ) {a : Addr} (h0 : C.H0 a = none) (hp : T.P ≠ some a) (ho : ¬ Own σ ρ a) : EnvOk T C (unh A a) σ H ρ := by
  have x1 : Ex (hide H A) (hide H (unh A a)) := ex_hide_le fun b h => (mem_unh.mp h).1
  refine ⟨e.ext, fun b h => mem_unh.mpr ⟨e.sub b h, fun z => e.dom0 b h (z ▸ h0)⟩, e.dom0, fun b h => e.dom b (mem_unh.mp h).1, e.len, fun i c h => ?_, e.inj, fun p hp1 => ?_⟩
  · obtain ⟨v, h1, h2⟩ := e.cell i c h
    refine ⟨v, h1, ?_⟩
    cases h2 with
    | p g => exact .p (g.mono x1)
    | l g1 g2 g3 g4 g5 => exact .l g1 (g2.mono x1) (mem_unh.mpr ⟨g3, fun z => ho ⟨i, _, h, z ▸ h1⟩⟩) g4 g5
  · obtain ⟨m, c, i, r, h1, h2, h3⟩ := e.pen p hp1
    exact ⟨mem_unh.mpr ⟨m, fun z => hp (z ▸ hp1)⟩, c, i, r, h1, x1 _ _ h2, h3⟩
theorem EnvOk.new0 (e : EnvOk T C A σ H ρ) {a : Addr} (h : H a = none) : C.H0 a = none ∧ T.P ≠ some a := by
  have np : T.P ≠ some a := fun z => e.dom a (e.pen a z).1 h
  refine ⟨?_, np⟩
  cases q : C.H0 a with
  | none => rfl
  | some o =>
    rw [e.ext a o q np] at h
    cases h

/-! ### slots -/
def En.set (ρ : En) (i : Nat) (c : Cell) : En := { ρ with s := ρ.s.set i (some c) }
theorem EnvOk.setP (e : EnvOk T C A σ H ρ) {i : Nat} {v : V} {d : D} (h : At T (hide H A) v d) : EnvOk T C A (σ.set i (some v)) H (ρ.set i (.p d)) := by
  have key : ∀ (j : Nat) (c : Cell), (ρ.s.set i (some (.p d)))[j]? = some (some c) → (j = i ∧ c = .p d ∧ (σ.set i (some v))[j]? = some (some v)) ∨ (j ≠ i ∧ ρ.s[j]? = some (some c) ∧ (σ.set i (some v))[j]? = σ[j]?) := fun j c h => by
    by_cases q : j = i
    · subst q
      have l : j < ρ.s.length := by
        have := (List.getElem?_eq_some_iff.mp h).1
        simpa using this
      rw [List.getElem?_set_self l] at h
      cases h
      exact .inl ⟨rfl, rfl, List.getElem?_set_self (by rw [e.len]; exact l)⟩
    · rw [List.getElem?_set_ne (Ne.symm q)] at h
      exact .inr ⟨q, h, List.getElem?_set_ne (Ne.symm q)⟩
  refine ⟨e.ext, e.sub, e.dom0, e.dom, by simpa [En.set] using e.len, fun j c h => ?_, fun j k a xs ys h1 h2 h3 h4 => ?_, e.pen⟩
  · rcases key j c h with ⟨rfl, rfl, g⟩ | ⟨q, g, g2⟩
    · exact ⟨v, g, .p ‹_›⟩
    · rw [g2]
      exact e.cell j c g
  · rcases key j _ h1 with ⟨_, z, _⟩ | ⟨_, g1, g2⟩
    · cases z
    · rcases key k _ h2 with ⟨_, z, _⟩ | ⟨_, g3, g4⟩
      · cases z
      · rw [g2] at h3
        rw [g4] at h4
        exact e.inj j k a xs ys g1 g3 h3 h4
theorem EnvOk.setL (e : EnvOk T C A σ H ρ) {i : Nat} {a : Addr} {vs : List V} {xs : List D} (h : H a = some (.lst vs)) (hs : AtAll T (hide H A) vs xs) (ha : a ∈ A) (h0 : C.H0 a = none) (hp : T.P ≠ some a) (ho : ¬ Own σ ρ a) :
    EnvOk T C A (σ.set i (some (.ref a))) H (ρ.set i (.l xs)) := by
  have key : ∀ (j : Nat) (c : Cell), (ρ.s.set i (some (.l xs)))[j]? = some (some c) → (j = i ∧ c = .l xs ∧ (σ.set i (some (.ref a)))[j]? = some (some (.ref a))) ∨ (j ≠ i ∧ ρ.s[j]? = some (some c) ∧ (σ.set i (some (.ref a)))[j]? = σ[j]?) := fun j c h => by
    by_cases q : j = i
    · subst q
      have l : j < ρ.s.length := by
        have := (List.getElem?_eq_some_iff.mp h).1
        simpa using this
      rw [List.getElem?_set_self l] at h
      cases h
      exact .inl ⟨rfl, rfl, List.getElem?_set_self (by rw [e.len]; exact l)⟩
    · rw [List.getElem?_set_ne (Ne.symm q)] at h
      exact .inr ⟨q, h, List.getElem?_set_ne (Ne.symm q)⟩
  refine ⟨e.ext, e.sub, e.dom0, e.dom, by simpa [En.set] using e.len, fun j c h => ?_, fun j k b ys zs h1 h2 h3 h4 => ?_, e.pen⟩
  · rcases key j c h with ⟨rfl, rfl, g⟩ | ⟨q, g, g2⟩
    · exact ⟨_, g, .l ‹_› hs ha h0 hp⟩
    · rw [g2]
      exact e.cell j c g
  · rcases key j _ h1 with ⟨q1, _, g1⟩ | ⟨q1, g1, g2⟩
    · rcases key k _ h2 with ⟨q2, _, _⟩ | ⟨q2, g3, g4⟩
      · exact q1.trans q2.symm
      · rw [g1] at h3
        rw [g4] at h4
        cases h3
        exact absurd ⟨k, zs, g3, h4⟩ ho
    · rcases key k _ h2 with ⟨q2, _, g3⟩ | ⟨q2, g3, g4⟩
      · rw [g3] at h4
        rw [g2] at h3
        cases h4
        exact absurd ⟨j, ys, g1, h3⟩ ho
      · rw [g2] at h3
        rw [g4] at h4
        exact e.inj j k b ys zs g1 g3 h3 h4
/-- a slot's list is given away: from now on it is data -/
theorem EnvOk.freeze (e : EnvOk T C A σ H ρ) {i : Nat} {a : Addr} {xs : List D} (h : ρ.s[i]? = some (some (.l xs))) (hs : σ[i]? = some (some (.ref a))) :
    Post T C A σ H ρ (unh A a) H (ρ.set i (.p (.lst xs))) ∧ At T (hide H (unh A a)) (.ref a) (.lst xs) := by
  obtain ⟨hA, h0, hp, j, ys, vs, g1, g2, g3, g4⟩ := e.own_in ⟨i, xs, h, hs⟩
  have ji : j = i := e.inj j i a ys xs g1 h g2 hs
  subst ji
  rw [h] at g1
  cases g1
  have x1 : Ex (hide H A) (hide H (unh A a)) := ex_hide_le fun b h => (mem_unh.mp h).1
  have li : j < ρ.s.length := (List.getElem?_eq_some_iff.mp h).1
  have at1 : At T (hide H (unh A a)) (.ref a) (.lst xs) := .lst (by rw [hide_ne fun z => (mem_unh.mp z).2 rfl]; exact g3) (g4.mono x1)
  have key : ∀ (k : Nat) (c : Cell), (ρ.s.set j (some (.p (.lst xs))))[k]? = some (some c) → (k = j ∧ c = .p (.lst xs)) ∨ (k ≠ j ∧ ρ.s[k]? = some (some c)) := fun k c z => by
    by_cases q : k = j
    · subst q
      rw [List.getElem?_set_self li] at z
      cases z
      exact .inl ⟨rfl, rfl⟩
    · rw [List.getElem?_set_ne (Ne.symm q)] at z
      exact .inr ⟨q, z⟩
  refine ⟨⟨⟨e.ext, fun b z => mem_unh.mpr ⟨e.sub b z, fun q => e.dom0 b z (q ▸ h0)⟩, e.dom0, fun b z => e.dom b (mem_unh.mp z).1, by simpa [En.set] using e.len, fun k c z => ?_, fun k m b ys zs z1 z2 z3 z4 => ?_, fun p hp1 => ?_⟩, fun b z => .inl (mem_unh.mp z).1, fun b z1 z2 => ?_, fun _ _ z _ _ => z, fun k ys z => ?_, fun _ z => z⟩, at1⟩
  · rcases key k c z with ⟨rfl, rfl⟩ | ⟨q, z⟩
    · exact ⟨_, hs, .p at1⟩
    · obtain ⟨v, w1, w2⟩ := e.cell k c z
      refine ⟨v, w1, ?_⟩
      cases w2 with
      | p w => exact .p (w.mono x1)
      | @l b us ys u1 u2 u3 u4 u5 =>
        refine .l u1 (u2.mono x1) (mem_unh.mpr ⟨u3, fun y => q ?_⟩) u4 u5
        subst y
        exact e.inj k j _ _ _ z h w1 hs
  · rcases key k _ z1 with ⟨_, y⟩ | ⟨_, y1⟩
    · cases y
    · rcases key m _ z2 with ⟨_, y⟩ | ⟨_, y2⟩
      · cases y
      · exact e.inj k m b ys zs y1 y2 z3 z4
  · obtain ⟨m, c, i, r, h1, h2, h3⟩ := e.pen p hp1
    exact ⟨mem_unh.mpr ⟨m, fun z => hp (z ▸ hp1)⟩, c, i, r, h1, x1 _ _ h2, h3⟩
  · have : b = a := Classical.byContradiction fun q => z2 (mem_unh.mpr ⟨z1, q⟩)
    subst this
    exact ⟨j, xs, h, hs⟩
  · rcases key k _ z with ⟨_, y⟩ | ⟨_, y⟩
    · cases y
    · exact ⟨ys, y⟩
end
end Dc

set_option maxHeartbeats 1000000
/-! Dc1: expressions, tests and argument lists as transformers of data. -/
namespace Dc
open PySem PySem.Spec PyProof.Rows L2

/-- a result: data; the content of a slot; a new list that nobody else holds -/
inductive RV where
  | d (x : D)
  | o (i : Nat)
  | n (xs : List D)

/-- Hs: the heap where the expression began -/
inductive RvOk (T : Tab) (C : C0) (Hs : Hp) (A : List Addr) (σ : L2.St) (H : Hp) (ρ : En) : V → RV → Prop
  | d {v : V} {x : D} : At T (hide H A) v x → RvOk T C Hs A σ H ρ v (.d x)
  | o {v : V} {i : Nat} : σ[i]? = some (some v) → RvOk T C Hs A σ H ρ v (.o i)
  | n {p : Addr} {vs : List V} {xs : List D} : H p = some (.lst vs) → AtAll T (hide H A) vs xs → p ∈ A → Hs p = none → C.H0 p = none → T.P ≠ some p → ¬ Own σ ρ p → RvOk T C Hs A σ H ρ (.ref p) (.n xs)

def rdC : Option (Option Cell) → (D → Prop) → Prop
  | some (some (.p d)), k => k d
  | some (some (.l xs)), k => k (.lst xs)
  | _, _ => False
/-- read, its content at hand: k is told the data -/
def rd : RV → En → (D → Prop) → Prop
  | .d x, _, k => k x
  | .n xs, _, k => k (.lst xs)
  | .o i, ρ, k => rdC ρ.s[i]? k
def escC (i : Nat) (ρ : En) : Option (Option Cell) → (D → En → Prop) → Prop
  | some (some (.p d)), k => k d ρ
  | some (some (.l xs)), k => k (.lst xs) (ρ.set i (.p (.lst xs)))
  | _, _ => False
/-- handed on: a list that is held alone is given away -/
def esc : RV → En → (D → En → Prop) → Prop
  | .d x, ρ, k => k x ρ
  | .n xs, ρ, k => k (.lst xs) ρ
  | .o i, ρ, k => escC i ρ ρ.s[i]? k

/-- v bears x, perhaps by a list that is hidden -/
def Sh (T : Tab) (H : Hp) (A : List Addr) (v : V) (x : D) : Prop := At T (hide H A) v x ∨ ∃ (a : Addr) (vs : List V) (ds : List D), v = .ref a ∧ x = .lst ds ∧ H a = some (.lst vs) ∧ AtAll T (hide H A) vs ds
inductive ShAll (T : Tab) (H : Hp) (A : List Addr) : List V → List D → Prop
  | nil : ShAll T H A [] []
  | cons {v : V} {x : D} {vs : List V} {xs : List D} : Sh T H A v x → ShAll T H A vs xs → ShAll T H A (v :: vs) (x :: xs)

section
variable {T : Tab} {C : C0} {A A1 A2 : List Addr} {σ : L2.St} {Hs H H1 H2 : Hp} {ρ ρ1 ρ2 : En} {v : V} {r : RV}
theorem Sh.full {x : D} (h : Sh T H A v x) : At T H v x := by
  rcases h with h | ⟨a, vs, ds, rfl, rfl, h1, h2⟩
  · exact h.mono (ex_hide H A)
  · exact .lst h1 (h2.mono (ex_hide H A))
theorem Sh.lst {xs : List D} (h : Sh T H A v (.lst xs)) : ∃ a vs, v = .ref a ∧ H a = some (.lst vs) ∧ AtAll T (hide H A) vs xs := by
  rcases h with h | ⟨a, vs, ds, rfl, e, h1, h2⟩
  · cases h with
    | lst s t => exact ⟨_, _, rfl, ex_hide H A _ _ s, t⟩
  · cases e
    exact ⟨_, _, rfl, h1, h2⟩
theorem Sh.pure {x : D} (h : Sh T H A v x) (n : ∀ ds, x ≠ .lst ds) : At T (hide H A) v x := by
  rcases h with h | ⟨a, vs, ds, rfl, e, h1, h2⟩
  · exact h
  · exact absurd e (n ds)
theorem RvOk.post (e : EnvOk T C A σ H ρ) (p : Post T C A σ H ρ A1 H1 ρ1) (h : RvOk T C Hs A σ H ρ v r) : RvOk T C Hs A1 σ H1 ρ1 v r := by
  cases h with
  | d h => exact .d (h.mono (p.ex e))
  | o h => exact .o h
  | n h1 h2 h3 hs h4 h5 h6 =>
    refine .n (p.keep _ _ h1 h6 h5) (h2.mono (p.ex e)) (Classical.byContradiction fun q => h6 (p.gone _ h3 q)) hs h4 h5 fun q => h6 (p.own_back q)
theorem RvOk.back (p : Post T C A σ H ρ A1 H1 ρ1) (h : RvOk T C H1 A2 σ H2 ρ2 v r) : RvOk T C H A2 σ H2 ρ2 v r := by
  cases h with
  | d h => exact .d h
  | o h => exact .o h
  | n h1 h2 h3 hs h4 h5 h6 => exact .n h1 h2 h3 (p.th _ hs) h4 h5 h6
theorem rd_ok {k : D → Prop} (e : EnvOk T C A σ H ρ) (h : RvOk T C Hs A σ H ρ v r) (q : rd r ρ k) : ∃ x, Sh T H A v x ∧ k x := by
  cases h with
  | d h => exact ⟨_, .inl h, q⟩
  | n h1 h2 h3 hs h4 h5 h6 => exact ⟨_, .inr ⟨_, _, _, rfl, rfl, h1, h2⟩, q⟩
  | @o _ i h =>
    have q : rdC ρ.s[i]? k := q
    cases hc : ρ.s[i]? with
    | none => rw [hc] at q; exact q.elim
    | some c =>
      rw [hc] at q
      cases c with
      | none => exact q.elim
      | some c =>
        obtain ⟨v', h1, h2⟩ := e.cell i c hc
        rw [h] at h1
        cases h1
        cases h2 with
        | p g => exact ⟨_, .inl g, q⟩
        | l g1 g2 _ _ _ => exact ⟨_, .inr ⟨_, _, _, rfl, rfl, g1, g2⟩, q⟩
theorem esc_ok {k : D → En → Prop} (e : EnvOk T C A σ H ρ) (P : Post T C A σ H ρ A1 H1 ρ1) (h : RvOk T C H A1 σ H1 ρ1 v r) (q : esc r ρ1 k) : ∃ A' x ρ', Post T C A σ H ρ A' H1 ρ' ∧ At T (hide H1 A') v x ∧ k x ρ' := by
  cases h with
  | d h => exact ⟨_, _, _, P, h, q⟩
  | @n p vs xs h1 h2 h3 hs h4 h5 h6 =>
    have x1 : Ex (hide H1 A1) (hide H1 (unh A1 p)) := ex_hide_le fun b h => (mem_unh.mp h).1
    refine ⟨unh A1 p, _, _, ⟨P.ok.unhide h4 h5 h6, fun a h => P.le a (mem_unh.mp h).1, fun a z1 z2 => ?_, P.keep, P.own, P.th⟩, .lst (by rw [hide_ne fun z => (mem_unh.mp z).2 rfl]; exact h1) (h2.mono x1), q⟩
    refine P.gone a z1 fun m => z2 (mem_unh.mpr ⟨m, fun y => ?_⟩)
    subst y
    exact e.dom a z1 hs
  | @o _ i h =>
    have q : escC i ρ1 ρ1.s[i]? k := q
    cases hc : ρ1.s[i]? with
    | none => rw [hc] at q; exact q.elim
    | some c =>
      rw [hc] at q
      cases c with
      | none => exact q.elim
      | some c =>
        obtain ⟨v', h1, h2⟩ := P.ok.cell i c hc
        rw [h] at h1
        cases h1
        cases h2 with
        | p g => exact ⟨_, _, _, P, g, q⟩
        | l g1 g2 g3 g4 g5 =>
          obtain ⟨P1, P2⟩ := P.ok.freeze hc h
          exact ⟨_, _, _, P.trans P1, P2, q⟩
theorem Sh.post {x : D} (e : EnvOk T C A σ H ρ) (x1 : Ex H H1) (h : Sh T H A v x) : Sh T H1 A v x := by
  rcases h with h | ⟨a, vs, ds, rfl, rfl, h1, h2⟩
  · exact .inl (h.mono (ex_hide_ex x1))
  · exact .inr ⟨_, _, _, rfl, rfl, x1 _ _ h1, h2.mono (ex_hide_ex x1)⟩
end

/-! ### judgements -/
abbrev WE := En → (RV → En → Prop) → Prop
abbrev WT := En → (Bool → En → Prop) → Prop
/-- arguments: handed on -/
abbrev WA := En → (List D → En → Prop) → Prop
/-- arguments: read -/
abbrev WR := En → (List RV → En → Prop) → Prop
def Pe (T : Tab) (te : TE) (w : WE) : Prop := ∀ (C : C0) (A : List Addr) (σ : L2.St) (H : Hp) (ρ : En) (Q : RV → En → Prop) (K : VK), EnvOk T C A σ H ρ → w ρ Q →
  (∀ v H' A' r ρ', Post T C A σ H ρ A' H' ρ' → RvOk T C H A' σ H' ρ' v r → Q r ρ' → K v H') → te σ H K
def Pt (T : Tab) (tt : TT) (w : WT) : Prop := ∀ (C : C0) (A : List Addr) (σ : L2.St) (H : Hp) (ρ : En) (Q : Bool → En → Prop) (K : Bool → Hp → Prop), EnvOk T C A σ H ρ → w ρ Q →
  (∀ b H' A' ρ', Post T C A σ H ρ A' H' ρ' → Q b ρ' → K b H') → tt σ H K
def Pa (T : Tab) (ta : TA) (w : WA) : Prop := ∀ (C : C0) (A : List Addr) (σ : L2.St) (H : Hp) (ρ : En) (Q : List D → En → Prop) (K : List V → Hp → Prop), EnvOk T C A σ H ρ → w ρ Q →
  (∀ vs H' A' xs ρ', Post T C A σ H ρ A' H' ρ' → AtAll T (hide H' A') vs xs → Q xs ρ' → K vs H') → ta σ H K
inductive RvAll (T : Tab) (C : C0) (Hs : Hp) (A : List Addr) (σ : L2.St) (H : Hp) (ρ : En) : List V → List RV → Prop
  | nil : RvAll T C Hs A σ H ρ [] []
  | cons {v : V} {r : RV} {vs : List V} {rs : List RV} : RvOk T C Hs A σ H ρ v r → RvAll T C Hs A σ H ρ vs rs → RvAll T C Hs A σ H ρ (v :: vs) (r :: rs)
def Par (T : Tab) (ta : TA) (w : WR) : Prop := ∀ (C : C0) (A : List Addr) (σ : L2.St) (H : Hp) (ρ : En) (Q : List RV → En → Prop) (K : List V → Hp → Prop), EnvOk T C A σ H ρ → w ρ Q →
  (∀ vs H' A' rs ρ', Post T C A σ H ρ A' H' ρ' → RvAll T C H A' σ H' ρ' vs rs → Q rs ρ' → K vs H') → ta σ H K
def rdAll : List RV → En → (List D → Prop) → Prop
  | [], _, k => k []
  | r :: rs, ρ, k => rd r ρ fun x => rdAll rs ρ fun xs => k (x :: xs)

/-- what an operation on values leaves: the heap grows, a new list perhaps hidden -/
structure VP (H : Hp) (A : List Addr) (H' : Hp) (A' : List Addr) : Prop where
  ex : Ex H H'
  sub : ∀ a, a ∈ A → a ∈ A'
  new : ∀ a, a ∈ A' → a ∈ A ∨ H a = none
  dom : ∀ a, a ∈ A' → H' a ≠ none
inductive ROk (T : Tab) (H H' : Hp) (A' : List Addr) : V → RV → Prop
  | d {v : V} {x : D} : At T (hide H' A') v x → ROk T H H' A' v (.d x)
  | n {p : Addr} {vs : List V} {xs : List D} : H p = none → H' p = some (.lst vs) → AtAll T (hide H' A') vs xs → p ∈ A' → ROk T H H' A' (.ref p) (.n xs)
def VEnd (T : Tab) (H : Hp) (A : List Addr) (Q : RV → Prop) : VK := fun z H' => ∃ A' q, VP H A H' A' ∧ ROk T H H' A' z q ∧ Q q
abbrev F1 := D → (RV → Prop) → Prop
abbrev F2 := D → D → (RV → Prop) → Prop
abbrev FL := List D → (RV → Prop) → Prop
def Op1 (T : Tab) (r : V → Hp → VK → Prop) (f : F1) : Prop := ∀ (H : Hp) (A : List Addr) (x : V) (u : D) (Q : RV → Prop) (K : VK), (∀ a, a ∈ A → H a ≠ none) → Sh T H A x u → f u Q → (∀ z H', VEnd T H A Q z H' → K z H') → r x H K
def Op2 (T : Tab) (r : R2) (f : F2) : Prop := ∀ (H : Hp) (A : List Addr) (x y : V) (u v : D) (Q : RV → Prop) (K : VK), (∀ a, a ∈ A → H a ≠ none) → Sh T H A x u → Sh T H A y v → f u v Q → (∀ z H', VEnd T H A Q z H' → K z H') → r x y H K
def OpL (T : Tab) (r : List V → Hp → VK → Prop) (f : FL) : Prop := ∀ (H : Hp) (A : List Addr) (xs : List V) (us : List D) (Q : RV → Prop) (K : VK), (∀ a, a ∈ A → H a ≠ none) → ShAll T H A xs us → f us Q → (∀ z H', VEnd T H A Q z H' → K z H') → r xs H K

section
variable {T : Tab} {C : C0} {A A1 A2 : List Addr} {σ : L2.St} {Hs H H1 H2 : Hp} {ρ ρ1 ρ2 : En} {v : V} {r : RV}
theorem VP.refl (d : ∀ a, a ∈ A → H a ≠ none) : VP H A H A := ⟨Ex.refl H, fun _ h => h, fun _ h => .inl h, d⟩
theorem VP.grow (d : ∀ a, a ∈ A → H a ≠ none) (x : Ex H H1) : VP H A H1 A := ⟨x, fun _ h => h, fun _ h => .inl h, fun a h z => d a h (x.free z)⟩
theorem vend_d {Q : RV → Prop} {x : D} (d : ∀ a, a ∈ A → H a ≠ none) (h : At T (hide H A) v x) (q : Q (.d x)) : VEnd T H A Q v H := ⟨A, _, .refl d, .d h, q⟩
/-- a new list -/
theorem vend_n {Q : RV → Prop} {p : Addr} {vs : List V} {xs : List D} (d : ∀ a, a ∈ A → H a ≠ none) (hp : H p = none) (h : AtAll T (hide H A) vs xs) (q : Q (.n xs)) : VEnd T H A Q (.ref p) (upd H p (.lst vs)) := by
  have pA : p ∉ A := fun z => d p z hp
  have x1 : Ex (hide H A) (hide (upd H p (.lst vs)) (p :: A)) := fun a o e => by
    obtain ⟨m, e⟩ := hide_some e
    have ap : a ≠ p := ne_of_none e hp
    rw [hide_ne (fun z => by exact (List.mem_cons.mp z).elim ap m), upd_ne ap]
    exact e
  refine ⟨p :: A, _, ⟨Ex.new hp, fun a h => List.mem_cons_of_mem _ h, fun a h => ?_, fun a h => ?_⟩, .n hp upd_same (h.mono x1) List.mem_cons_self, q⟩
  · rcases (List.mem_cons.mp h : a = p ∨ a ∈ A) with z | z
    · exact .inr (z ▸ hp)
    · exact .inl z
  · rcases (List.mem_cons.mp h : a = p ∨ a ∈ A) with z | h
    · rw [z, upd_same]; simp
    · have ap : a ≠ p := fun z => pA (z ▸ h)
      rw [upd_ne ap]
      exact d a h
/-- a new tuple -/
theorem vend_t {Q : RV → Prop} {p : Addr} {vs : List V} {xs : List D} (d : ∀ a, a ∈ A → H a ≠ none) (hp : H p = none) (h : AtAll T (hide H A) vs xs) (q : Q (.d (.tup xs))) : VEnd T H A Q (.ref p) (upd H p (.tup vs)) := by
  have pA : p ∉ A := fun z => d p z hp
  have x0 : Ex H (upd H p (.tup vs)) := Ex.new hp
  refine ⟨A, _, .grow d x0, .d (.tup (SqT.of ?_) (h.mono (ex_hide_ex x0))), q⟩
  rw [hide_ne pA]
  exact upd_same
theorem vp_post (e : EnvOk T C A σ H ρ) (p : VP H A H1 A1) : Post T C A σ H ρ A1 H1 ρ := e.post_more p.ex p.sub p.new p.dom
theorem rok_rv (e : EnvOk T C A σ H ρ) (p : VP H A H1 A1) (h : ROk T H H1 A1 v r) : RvOk T C H A1 σ H1 ρ v r := by
  cases h with
  | d h => exact .d h
  | n h0 h1 h2 h3 =>
    obtain ⟨n1, n2⟩ := e.new0 h0
    exact .n h1 h2 h3 h0 n1 n2 fun z => e.dom _ (e.own_in z).1 h0
/-- the end of an operation, within an expression that began at the first heap -/
theorem fin_v {Q : RV → En → Prop} (P : Post T C A σ H ρ A1 H1 ρ1) {z : V} (h : VEnd T H1 A1 (fun q => Q q ρ1) z H2) : ∃ A' r ρ', Post T C A σ H ρ A' H2 ρ' ∧ RvOk T C H A' σ H2 ρ' z r ∧ Q r ρ' := by
  obtain ⟨A', q, p, h, hq⟩ := h
  exact ⟨A', q, ρ1, P.trans (vp_post P.ok p), (rok_rv P.ok p h).back P, hq⟩
/-! ### leaves -/
def wC (x : D) : WE := fun ρ Q => Q (.d x) ρ
theorem pe_c {v : V} {x : D} (h : ∀ H, At T H v x) : Pe T (tC v) (wC x) := fun C A σ H ρ Q K e q k => k _ _ _ _ _ (.refl e) (.d (h _)) q
theorem pe_cint {i : Int} : Pe T (tC (.int i)) (wC (.int i)) := pe_c fun _ => .int i
theorem pe_cbl {b : Bool} : Pe T (tC (.bl b)) (wC (.bl b)) := pe_c fun _ => .bl b
theorem pe_cstr {x : Str} : Pe T (tC (.str x)) (wC (.str x)) := pe_c fun _ => .str x
theorem pe_cnon : Pe T (tC .non) (wC .non) := pe_c fun _ => .non
def wVarC (i : Nat) (ρ : En) (Q : RV → En → Prop) : Option (Option Cell) → Prop
  | some (some (.p d)) => Q (.d d) ρ
  | some (some (.l _)) => Q (.o i) ρ
  | _ => False
def wVar (i : Nat) : WE := fun ρ Q => wVarC i ρ Q ρ.s[i]?
theorem pe_v (i : Nat) : Pe T (tVar i) (wVar i) := fun C A σ H ρ Q K e q k => by
  have q : wVarC i ρ Q ρ.s[i]? := q
  cases hc : ρ.s[i]? with
  | none => rw [hc] at q; exact q.elim
  | some c =>
    rw [hc] at q
    cases c with
    | none => exact q.elim
    | some c =>
      obtain ⟨v, h1, h2⟩ := e.cell i c hc
      refine ⟨v, h1, ?_⟩
      cases h2 with
      | p g => exact k _ _ _ _ _ (.refl e) (.d g) q
      | l g1 g2 g3 g4 g5 => exact k _ _ _ _ _ (.refl e) (.o h1) q

/-! ### operations -/
def wOp (f : F2) (wa wb : WE) : WE := fun ρ Q => wa ρ fun r ρ1 => wb ρ1 fun s ρ2 => rd r ρ2 fun x => rd s ρ2 fun y => f x y fun q => Q q ρ2
theorem pe_o {r : R2} {f : F2} {ta tb : TE} {wa wb : WE} (h : Op2 T r f) (ha : Pe T ta wa) (hb : Pe T tb wb) : Pe T (tOp r ta tb) (wOp f wa wb) := fun C A σ H ρ Q K e q k =>
  ha C A σ H ρ _ _ e q fun v1 H1 A1 r1 ρ1 P1 R1 q1 => hb C A1 σ H1 ρ1 _ _ P1.ok q1 fun v2 H2 A2 r2 ρ2 P2 R2 q2 => by
    have P := P1.trans P2
    obtain ⟨x, S1, q3⟩ := rd_ok P.ok (R1.post P1.ok P2) q2
    obtain ⟨y, S2, q4⟩ := rd_ok P.ok (R2.back P1) q3
    exact h H2 A2 v1 v2 x y _ _ P.ok.dom S1 S2 q4 fun z H' hv => by
      obtain ⟨A', r', ρ', P', R', q'⟩ := fin_v P hv
      exact k _ _ _ _ _ P' R' q'
def wUn (f : F1) (wa : WE) : WE := fun ρ Q => wa ρ fun r ρ1 => rd r ρ1 fun x => f x fun q => Q q ρ1
theorem pe_u {r : V → Hp → VK → Prop} {f : F1} {ta : TE} {wa : WE} (h : Op1 T r f) (ha : Pe T ta wa) : Pe T (tUn r ta) (wUn f wa) := fun C A σ H ρ Q K e q k =>
  ha C A σ H ρ _ _ e q fun v1 H1 A1 r1 ρ1 P R q1 => by
    obtain ⟨x, S, q2⟩ := rd_ok P.ok R q1
    exact h H1 A1 v1 x _ _ P.ok.dom S q2 fun z H' hv => by
      obtain ⟨A', r', ρ', P', R', q'⟩ := fin_v P hv
      exact k _ _ _ _ _ P' R' q'

/-! ### arguments -/
def wNil : WA := fun ρ Q => Q [] ρ
def wCons (wa : WE) (wr : WA) : WA := fun ρ Q => wa ρ fun r ρ1 => esc r ρ1 fun x ρ2 => wr ρ2 fun xs ρ3 => Q (x :: xs) ρ3
theorem pa_n : Pa T tNil wNil := fun C A σ H ρ Q K e q k => k _ _ _ _ _ (.refl e) .nil q
theorem pa_c {ta : TE} {tr : TA} {wa : WE} {wr : WA} (ha : Pe T ta wa) (hr : Pa T tr wr) : Pa T (tCons ta tr) (wCons wa wr) := fun C A σ H ρ Q K e q k =>
  ha C A σ H ρ _ _ e q fun v1 H1 A1 r1 ρ1 P1 R1 q1 => by
    obtain ⟨A2, x, ρ2, P2, S2, q2⟩ := esc_ok e P1 R1 q1
    exact hr C A2 σ H1 ρ2 _ _ P2.ok q2 fun vs H3 A3 xs ρ3 P3 S3 q3 => k _ _ _ _ _ (P2.trans P3) (.cons (S2.mono (P3.ex P2.ok)) S3) q3
def wNilR : WR := fun ρ Q => Q [] ρ
def wConsR (wa : WE) (wr : WR) : WR := fun ρ Q => wa ρ fun r ρ1 => wr ρ1 fun rs ρ2 => Q (r :: rs) ρ2
theorem RvAll.post (e : EnvOk T C A σ H ρ) (p : Post T C A σ H ρ A1 H1 ρ1) : ∀ {vs : List V} {rs : List RV}, RvAll T C Hs A σ H ρ vs rs → RvAll T C Hs A1 σ H1 ρ1 vs rs
  | _, _, .nil => .nil
  | _, _, .cons a b => .cons (a.post e p) (b.post e p)
theorem RvAll.back (p : Post T C A σ H ρ A1 H1 ρ1) : ∀ {vs : List V} {rs : List RV}, RvAll T C H1 A2 σ H2 ρ2 vs rs → RvAll T C H A2 σ H2 ρ2 vs rs
  | _, _, .nil => .nil
  | _, _, .cons a b => .cons (a.back p) (b.back p)
theorem par_n : Par T tNil wNilR := fun C A σ H ρ Q K e q k => k _ _ _ _ _ (.refl e) .nil q
theorem par_c {ta : TE} {tr : TA} {wa : WE} {wr : WR} (ha : Pe T ta wa) (hr : Par T tr wr) : Par T (tCons ta tr) (wConsR wa wr) := fun C A σ H ρ Q K e q k =>
  ha C A σ H ρ _ _ e q fun v1 H1 A1 r1 ρ1 P1 R1 q1 => hr C A1 σ H1 ρ1 _ _ P1.ok q1 fun vs H2 A2 rs ρ2 P2 R2 q2 => k _ _ _ _ _ (P1.trans P2) (.cons (R1.post P1.ok P2) (R2.back P1)) q2
theorem rdAll_ok (e : EnvOk T C A σ H ρ) : ∀ {vs : List V} {rs : List RV} {k : List D → Prop}, RvAll T C Hs A σ H ρ vs rs → rdAll rs ρ k → ∃ xs, ShAll T H A vs xs ∧ k xs
  | _, _, _, .nil, q => ⟨_, .nil, q⟩
  | _, _, _, .cons a b, q => by
    obtain ⟨x, h1, q⟩ := rd_ok e a q
    obtain ⟨xs, h2, q⟩ := rdAll_ok e b q
    exact ⟨_, .cons h1 h2, q⟩
/-- a built-in's call -/
def wCB (f : FL) (wa : WR) : WE := fun ρ Q => wa ρ fun rs ρ1 => rdAll rs ρ1 fun xs => f xs fun q => Q q ρ1
theorem pe_cb {r : List V → Hp → VK → Prop} {f : FL} {ta : TA} {wa : WR} (h : OpL T r f) (ha : Par T ta wa) : Pe T (tCB r ta) (wCB f wa) := fun C A σ H ρ Q K e q k =>
  ha C A σ H ρ _ _ e q fun vs H1 A1 rs ρ1 P R q1 => by
    obtain ⟨xs, S, q2⟩ := rdAll_ok P.ok R q1
    exact h H1 A1 vs xs _ _ P.ok.dom S q2 fun z H' hv => by
      obtain ⟨A', r', ρ', P', R', q'⟩ := fin_v P hv
      exact k _ _ _ _ _ P' R' q'

/-! ### displays -/
def wLst (wa : WA) : WE := fun ρ Q => wa ρ fun xs ρ1 => szB xs.length = true ∧ Q (.n xs) ρ1
def wTup (wa : WA) : WE := fun ρ Q => wa ρ fun xs ρ1 => szB xs.length = true ∧ Q (.d (.tup xs)) ρ1
theorem pe_l {ta : TA} {wa : WA} (ha : Pa T ta wa) : Pe T (tLst ta) (wLst wa) := fun C A σ H ρ Q K e q k =>
  ha C A σ H ρ _ _ e q fun vs H1 A1 xs ρ1 P S ⟨q1, q2⟩ => ⟨by rw [S.length]; exact szB_ok q1, fun p hp => by
    obtain ⟨A', r', ρ', P', R', q'⟩ := fin_v (Q := Q) P (vend_n P.ok.dom hp S q2)
    exact k _ _ _ _ _ P' R' q'⟩
theorem pe_t {ta : TA} {wa : WA} (ha : Pa T ta wa) : Pe T (tTup ta) (wTup wa) := fun C A σ H ρ Q K e q k =>
  ha C A σ H ρ _ _ e q fun vs H1 A1 xs ρ1 P S ⟨q1, q2⟩ => ⟨by rw [S.length]; exact szB_ok q1, fun p hp => by
    obtain ⟨A', r', ρ', P', R', q'⟩ := fin_v (Q := Q) P (vend_t P.ok.dom hp S q2)
    exact k _ _ _ _ _ P' R' q'⟩

/-! ### tests -/
/-- a value's truth -/
def tru : D → (Bool → Prop) → Prop
  | .non, k => k false
  | .bl b, k => k b
  | .int i, k => k (i != 0)
  | .str y, k => szB y.length = true ∧ k ((y.length : Int) != 0)
  | .lst xs, k => k (!xs.isEmpty)
  | .tup xs, k => k (!xs.isEmpty)
  | _, _ => False
theorem empty_of {vs : List V} {xs : List D} (h : AtAll T H vs xs) : (!vs.isEmpty) = !xs.isEmpty := by
  cases h <;> rfl
theorem tru_ok {x : D} {v : V} {k : Bool → Prop} (h : Sh T H A v x) (q : tru x k) : ∃ b, TruV T.K v H b ∧ k b := by
  have hf := h.full
  cases hf with
  | non => exact ⟨_, rfl, q⟩
  | bl b => exact ⟨_, rfl, q⟩
  | int i => exact ⟨_, rfl, q⟩
  | str y => exact ⟨_, ⟨szB_ok q.1, rfl⟩, q.2⟩
  | lst s t => exact ⟨_, .inl ⟨_, SqL.of s, rfl⟩, by rw [empty_of t]; exact q⟩
  | tup s t => exact ⟨_, .inr (.inl ⟨_, s, rfl⟩), by rw [empty_of t]; exact q⟩
  | dK _ _ => exact q.elim
  | dT _ _ => exact q.elim
  | ins _ _ => exact q.elim
  | exc _ _ _ => exact q.elim
  | pen _ => exact q.elim
def wTru (wa : WE) : WT := fun ρ Q => wa ρ fun r ρ1 => rd r ρ1 fun x => tru x fun b => Q b ρ1
theorem pt_tru {ta : TE} {wa : WE} (ha : Pe T ta wa) : Pt T (fun σ H Q => ta σ H fun x H' => ∃ k, TruV T.K x H' k ∧ Q k H') (wTru wa) := fun C A σ H ρ Q K e q k =>
  ha C A σ H ρ _ _ e q fun v1 H1 A1 r1 ρ1 P R q1 => by
    obtain ⟨x, S, q2⟩ := rd_ok P.ok R q1
    obtain ⟨b, h1, h2⟩ := tru_ok S q2
    exact ⟨b, h1, k _ _ _ _ P h2⟩
def wTest (wa : WE) : WT := fun ρ Q => wa ρ fun r ρ1 => rd r ρ1 fun x => ∃ b, x = .bl b ∧ Q b ρ1
theorem pt_t {ta : TE} {wa : WE} (ha : Pe T ta wa) : Pt T (tTest ta) (wTest wa) := fun C A σ H ρ Q K e q k =>
  ha C A σ H ρ _ _ e q fun v1 H1 A1 r1 ρ1 P R q1 => by
    obtain ⟨x, S, b, rfl, q2⟩ := rd_ok P.ok R q1
    have hf := S.full
    cases hf
    exact ⟨b, rfl, k _ _ _ _ P q2⟩
def wAnd (t u : WT) : WT := fun ρ Q => t ρ fun b ρ1 => if b = true then u ρ1 Q else Q false ρ1
def wOr (t u : WT) : WT := fun ρ Q => t ρ fun b ρ1 => if b = true then Q true ρ1 else u ρ1 Q
def wNot (t : WT) : WT := fun ρ Q => t ρ fun b ρ1 => Q (!b) ρ1
theorem pt_and {ta tb : TT} {t u : WT} (ha : Pt T ta t) (hb : Pt T tb u) : Pt T (tAnd ta tb) (wAnd t u) := fun C A σ H ρ Q K e q k =>
  ha C A σ H ρ _ _ e q fun b H1 A1 ρ1 P q1 => by
    cases b with
    | true => exact hb C A1 σ H1 ρ1 Q K P.ok q1 fun b H' A' ρ' P' q' => k _ _ _ _ (P.trans P') q'
    | false => exact k _ _ _ _ P q1
theorem pt_or {ta tb : TT} {t u : WT} (ha : Pt T ta t) (hb : Pt T tb u) : Pt T (tOr ta tb) (wOr t u) := fun C A σ H ρ Q K e q k =>
  ha C A σ H ρ _ _ e q fun b H1 A1 ρ1 P q1 => by
    cases b with
    | false => exact hb C A1 σ H1 ρ1 Q K P.ok q1 fun b H' A' ρ' P' q' => k _ _ _ _ (P.trans P') q'
    | true => exact k _ _ _ _ P q1
theorem pt_n {ta : TT} {t : WT} (ha : Pt T ta t) : Pt T (tNot ta) (wNot t) := fun C A σ H ρ Q K e q k =>
  ha C A σ H ρ _ _ e q fun b H1 A1 ρ1 P q1 => k _ _ _ _ P q1
def wIf (t : WT) (wa wb : WE) : WE := fun ρ Q => t ρ fun b ρ1 => if b = true then wa ρ1 Q else wb ρ1 Q
theorem pe_if {tc : TT} {ta tb : TE} {t : WT} {wa wb : WE} (hc : Pt T tc t) (ha : Pe T ta wa) (hb : Pe T tb wb) : Pe T (tIf tc ta tb) (wIf t wa wb) := fun C A σ H ρ Q K e q k =>
  hc C A σ H ρ _ _ e q fun b H1 A1 ρ1 P q1 => by
    cases b with
    | true => exact ha C A1 σ H1 ρ1 Q K P.ok q1 fun v H' A' r ρ' P' R' q' => k _ _ _ _ _ (P.trans P') (R'.back P) q'
    | false => exact hb C A1 σ H1 ρ1 Q K P.ok q1 fun v H' A' r ρ' P' R' q' => k _ _ _ _ _ (P.trans P') (R'.back P) q'
end
end Dc

set_option maxHeartbeats 1000000
/-! Dc2: statements as transformers of data. -/
namespace Dc
open PySem PySem.Spec PyProof.Rows L2

/-! ### what is walked -/
abbrev WI := En → (List D → En → Prop) → Prop
/-- J yields the data xs, one after another, as long as pure things stay -/
structure Walk (T : Tab) (A : List Addr) (H : Hp) (J : It) (xs : List D) : Prop where
  go : ∀ (A2 : List Addr) (H2 : Hp) (i : Nat), Ex (hide H A) (hide H2 A2) → i < xs.length → J.go i H2
  stop : ∀ (A2 : List Addr) (H2 : Hp), Ex (hide H A) (hide H2 A2) → J.stop xs.length H2
  yld : ∀ (A2 : List Addr) (H2 : Hp) (i : Nat) (d : D) (v : V) (H3 : Hp), Ex (hide H A) (hide H2 A2) → (∀ a, a ∈ A2 → H2 a ≠ none) → xs[i]? = some d → J.yld i H2 v H3 → Ex H2 H3 ∧ At T (hide H3 A2) v d
def Pi (T : Tab) (wi : TI) (w : WI) : Prop := ∀ (C : C0) (A : List Addr) (σ : L2.St) (H : Hp) (ρ : En) (Q : List D → En → Prop) (K : It → Hp → Prop), EnvOk T C A σ H ρ → w ρ Q →
  (∀ J H' A' xs ρ', Post T C A σ H ρ A' H' ρ' → Walk T A' H' J xs → Q xs ρ' → K J H') → wi σ H K

/-! ### targets: of data alone -/
abbrev WG := D → En → (En → Prop) → Prop
abbrev WGs := List D → En → (En → Prop) → Prop
/-- all but the slots js is as it was; what is stored at these is data -/
structure Sto (js : List Nat) (σ : L2.St) (ρ : En) (σ' : L2.St) (ρ' : En) : Prop where
  n : ρ'.n = ρ.n
  len : σ'.length = σ.length
  out : ∀ i, i ∉ js → σ'[i]? = σ[i]? ∧ ρ'.s[i]? = ρ.s[i]?
  own : ∀ (i : Nat) (xs : List D), ρ'.s[i]? = some (some (.l xs)) → ρ.s[i]? = some (some (.l xs)) ∧ σ'[i]? = σ[i]?
theorem Sto.refl {js : List Nat} {σ : L2.St} {ρ : En} : Sto js σ ρ σ ρ := ⟨rfl, rfl, fun _ _ => ⟨rfl, rfl⟩, fun _ _ h => ⟨h, rfl⟩⟩
theorem Sto.trans {js : List Nat} {σ σ1 σ2 : L2.St} {ρ ρ1 ρ2 : En} (a : Sto js σ ρ σ1 ρ1) (b : Sto js σ1 ρ1 σ2 ρ2) : Sto js σ ρ σ2 ρ2 :=
  ⟨b.n.trans a.n, b.len.trans a.len, fun i h => ⟨(b.out i h).1.trans (a.out i h).1, (b.out i h).2.trans (a.out i h).2⟩, fun i xs h => ⟨(a.own i xs (b.own i xs h).1).1, (b.own i xs h).2.trans (a.own i xs (b.own i xs h).1).2⟩⟩
theorem Sto.le {js ks : List Nat} {σ σ' : L2.St} {ρ ρ' : En} (a : Sto js σ ρ σ' ρ') (h : ∀ i, i ∈ js → i ∈ ks) : Sto ks σ ρ σ' ρ' := ⟨a.n, a.len, fun i q => a.out i fun z => q (h i z), a.own⟩
def Pg (T : Tab) (js : List Nat) (g : TG) (w : WG) : Prop := ∀ (C : C0) (A : List Addr) (σ : L2.St) (H : Hp) (ρ : En) (v : V) (x : D) (Q : En → Prop) (K : L2.St → Hp → Prop), EnvOk T C A σ H ρ → At T (hide H A) v x → w x ρ Q →
  (∀ σ' ρ', EnvOk T C A σ' H ρ' → Sto js σ ρ σ' ρ' → Q ρ' → K σ' H) → g v σ H K
def Pgs (T : Tab) (js : List Nat) (g : TGs) (w : WGs) : Prop := ∀ (C : C0) (A : List Addr) (σ : L2.St) (H : Hp) (ρ : En) (vs : List V) (xs : List D) (Q : En → Prop) (K : L2.St → Hp → Prop), EnvOk T C A σ H ρ → AtAll T (hide H A) vs xs → w xs ρ Q →
  (∀ σ' ρ', EnvOk T C A σ' H ρ' → Sto js σ ρ σ' ρ' → Q ρ' → K σ' H) → g vs σ H K
section
variable {T : Tab}
def wgN (i : Nat) : WG := fun x ρ Q => Q (ρ.set i (.p x))
theorem pg_n (i : Nat) : Pg T [i] (gName i) (wgN i) := fun C A σ H ρ v x Q K e h q k => k _ _ (e.setP h) ⟨rfl, by simp, fun j hj => by
  have q : i ≠ j := fun z => hj (by simp [z])
  exact ⟨List.getElem?_set_ne q, List.getElem?_set_ne q⟩, fun j xs hj => by
  have hj : (ρ.s.set i (some (.p x)))[j]? = some (some (.l xs)) := hj
  by_cases q : i = j
  · subst q
    have l : i < ρ.s.length := by simpa using (List.getElem?_eq_some_iff.mp hj).1
    rw [List.getElem?_set_self l] at hj
    cases hj
  · rw [List.getElem?_set_ne q] at hj
    exact ⟨hj, List.getElem?_set_ne q⟩⟩ q
def wgNil : WGs := fun xs ρ Q => xs = [] ∧ Q ρ
def wgCons (a : WG) (r : WGs) : WGs := fun xs ρ Q => ∃ x ys, xs = x :: ys ∧ a x ρ fun ρ1 => r ys ρ1 Q
theorem pgs_n : Pgs T [] gNil wgNil := fun C A σ H ρ vs xs Q K e h ⟨q1, q2⟩ k => by
  subst q1
  cases h
  exact ⟨rfl, k _ _ e .refl q2⟩
theorem pgs_c {js ks : List Nat} {g : TG} {gs : TGs} {a : WG} {r : WGs} (hg : Pg T js g a) (hr : Pgs T ks gs r) : Pgs T (js ++ ks) (gCons g gs) (wgCons a r) := fun C A σ H ρ vs xs Q K e h ⟨x, ys, q1, q2⟩ k => by
  subst q1
  cases h with
  | cons h1 h2 => exact ⟨_, _, rfl, hg C A σ H ρ _ x _ _ e h1 q2 fun σ1 ρ1 e1 n1 q3 => hr C A σ1 H ρ1 _ ys _ _ e1 h2 q3 fun σ2 ρ2 e2 n2 q4 => k _ _ e2 ((n1.le fun i z => List.mem_append_left _ z).trans (n2.le fun i z => List.mem_append_right _ z)) q4⟩
def wgTup (n : Nat) (r : WGs) : WG := fun x ρ Q => ∃ xs, x = .tup xs ∧ xs.length = n ∧ r xs ρ Q
theorem pg_t {n : Nat} {js : List Nat} {gs : TGs} {r : WGs} (hr : Pgs T js gs r) : Pg T js (gTup T.K n gs) (wgTup n r) := fun C A σ H ρ v x Q K e h ⟨xs, q1, q2, q3⟩ k => by
  subst q1
  cases h with
  | tup s t => exact ⟨_, _, rfl, (ex_hide H A).t s, t.length.trans q2, hr C A σ H ρ _ xs Q K e t q3 k⟩
end

/-! ### statements -/
/-- what is wanted: behind it, of what is returned (with the draws), at a break, at a continue -/
structure DE where
  nx : En → Prop
  rt : RV → Nat → Prop
  bk : En → Prop := fun _ => False
  ct : En → Prop := fun _ => False
abbrev WS := DE → En → Prop
inductive RetOk (T : Tab) (C : C0) (A : List Addr) (H : Hp) : V → RV → Prop
  | d {v : V} {x : D} : At T (hide H A) v x → RetOk T C A H v (.d x)
  | n {p : Addr} {vs : List V} {xs : List D} : H p = some (.lst vs) → AtAll T (hide H A) vs xs → p ∈ A → C.H0 p = none → T.P ≠ some p → RetOk T C A H (.ref p) (.n xs)
/-- B: the pure things that must stay -/
structure Lk (T : Tab) (C : C0) (B : Hp) (E : DE) (F : Ends) : Prop where
  nx : ∀ A σ H ρ, EnvOk T C A σ H ρ → Ex B (hide H A) → E.nx ρ → F.nx σ H
  bk : ∀ A σ H ρ, EnvOk T C A σ H ρ → Ex B (hide H A) → E.bk ρ → F.bk σ H
  ct : ∀ A σ H ρ, EnvOk T C A σ H ρ → Ex B (hide H A) → E.ct ρ → F.ct σ H
  rt : ∀ A σ H ρ v r, EnvOk T C A σ H ρ → Ex B (hide H A) → RetOk T C A H v r → E.rt r ρ.n → F.rt v H
def Ps (T : Tab) (ts : TS) (w : WS) : Prop := ∀ (C : C0) (A : List Addr) (σ : L2.St) (H : Hp) (ρ : En) (B : Hp) (E : DE) (F : Ends), EnvOk T C A σ H ρ → Ex B (hide H A) → Lk T C B E F → w E ρ → ts F σ H

section
variable {T : Tab} {C : C0} {A A1 A2 : List Addr} {σ : L2.St} {Hs H H1 H2 B B1 : Hp} {ρ ρ1 ρ2 : En} {v : V} {r : RV} {E : DE} {F : Ends}
theorem Lk.next (l : Lk T C B E F) {N : En → Prop} {M : L2.St → Hp → Prop} (h : ∀ A σ H ρ, EnvOk T C A σ H ρ → Ex B (hide H A) → N ρ → M σ H) : Lk T C B { E with nx := N } { F with nx := M } := ⟨h, l.bk, l.ct, l.rt⟩
def wNext : WS := fun E ρ => E.nx ρ
def wSeq (a b : WS) : WS := fun E ρ => a { E with nx := b E } ρ
theorem ps_next : Ps T tNext wNext := fun C A σ H ρ B E F e x l w => l.nx _ _ _ _ e x w
theorem ps_seq {t u : TS} {a b : WS} (h1 : Ps T t a) (h2 : Ps T u b) : Ps T (tSeq t u) (wSeq a b) := fun C A σ H ρ B E F e x l w =>
  h1 C A σ H ρ B _ _ e x (l.next fun A' σ' H' ρ' e' x' w' => h2 C A' σ' H' ρ' B E F e' x' l w') w
def wBrk : WS := fun E ρ => E.bk ρ
def wCnt : WS := fun E ρ => E.ct ρ
theorem ps_brk : Ps T tBreak wBrk := fun C A σ H ρ B E F e x l w => l.bk _ _ _ _ e x w
theorem ps_cnt : Ps T tCont wCnt := fun C A σ H ρ B E F e x l w => l.ct _ _ _ _ e x w
def wIfS (t : WT) (a b : WS) : WS := fun E ρ => t ρ fun c ρ1 => if c = true then a E ρ1 else b E ρ1
theorem ps_if {tc : TT} {t u : TS} {w : WT} {a b : WS} (hc : Pt T tc w) (h1 : Ps T t a) (h2 : Ps T u b) : Ps T (tIfS tc t u) (wIfS w a b) := fun C A σ H ρ B E F e x l q =>
  hc C A σ H ρ _ _ e q fun c H1 A1 ρ1 P q1 => by
    cases c with
    | true => exact h1 C A1 σ H1 ρ1 B E F P.ok (x.trans (P.ex e)) l q1
    | false => exact h2 C A1 σ H1 ρ1 B E F P.ok (x.trans (P.ex e)) l q1
def wDrop (a : WE) : WS := fun E ρ => a ρ fun _ ρ1 => E.nx ρ1
theorem ps_drop {te : TE} {a : WE} (h : Pe T te a) : Ps T (tDrop te) (wDrop a) := fun C A σ H ρ B E F e x l q =>
  h C A σ H ρ _ _ e q fun v H1 A1 r ρ1 P R q1 => l.nx _ _ _ _ P.ok (x.trans (P.ex e)) q1
/-! returned -/
def normC : Option (Option Cell) → (RV → Prop) → Prop
  | some (some (.p d)), k => k (.d d)
  | some (some (.l xs)), k => k (.n xs)
  | _, _ => False
def norm : RV → En → (RV → Prop) → Prop
  | .d x, _, k => k (.d x)
  | .n xs, _, k => k (.n xs)
  | .o i, ρ, k => normC ρ.s[i]? k
theorem norm_ok {k : RV → Prop} (e : EnvOk T C A σ H ρ) (h : RvOk T C Hs A σ H ρ v r) (q : norm r ρ k) : ∃ r', RetOk T C A H v r' ∧ k r' := by
  cases h with
  | d h => exact ⟨_, .d h, q⟩
  | n h1 h2 h3 hs h4 h5 h6 => exact ⟨_, .n h1 h2 h3 h4 h5, q⟩
  | @o _ i h =>
    have q : normC ρ.s[i]? k := q
    cases hc : ρ.s[i]? with
    | none => rw [hc] at q; exact q.elim
    | some c =>
      rw [hc] at q
      cases c with
      | none => exact q.elim
      | some c =>
        obtain ⟨v', h1, h2⟩ := e.cell i c hc
        rw [h] at h1
        cases h1
        cases h2 with
        | p g => exact ⟨_, .d g, q⟩
        | l g1 g2 g3 g4 g5 => exact ⟨_, .n g1 g2 g3 g4 g5, q⟩
def wRet (a : WE) : WS := fun E ρ => a ρ fun r ρ1 => norm r ρ1 fun r' => E.rt r' ρ1.n
theorem ps_ret {te : TE} {a : WE} (h : Pe T te a) : Ps T (tRet te) (wRet a) := fun C A σ H ρ B E F e x l q =>
  h C A σ H ρ _ _ e q fun v H1 A1 r ρ1 P R q1 => by
    obtain ⟨r', R', q2⟩ := norm_ok P.ok R q1
    exact l.rt _ _ _ _ _ _ P.ok (x.trans (P.ex e)) R' q2
def wRetN : WS := fun E ρ => E.rt (.d .non) ρ.n
theorem ps_retN : Ps T tRetN wRetN := fun C A σ H ρ B E F e x l q => l.rt _ _ _ _ _ _ e x (.d .non) q
/-! stored -/
def asg (i : Nat) (N : En → Prop) : RV → En → Prop
  | .d x, ρ => N (ρ.set i (.p x))
  | .n xs, ρ => N (ρ.set i (.l xs))
  | .o j, ρ => esc (.o j) ρ fun x ρ1 => N (ρ1.set i (.p x))
def wAsg (i : Nat) (a : WE) : WS := fun E ρ => a ρ fun r ρ1 => asg i E.nx r ρ1
theorem ps_asg {i : Nat} {te : TE} {a : WE} (h : Pe T te a) : Ps T (tAsg te (gName i)) (wAsg i a) := fun C A σ H ρ B E F e x l q =>
  h C A σ H ρ _ _ e q fun v H1 A1 r ρ1 P R q1 => by
    show F.nx (σ.set i (some v)) H1
    cases r with
    | d y =>
      cases R with
      | d h => exact l.nx _ _ _ _ (P.ok.setP h) (x.trans (P.ex e)) q1
    | n xs =>
      cases R with
      | n h1 h2 h3 hs h4 h5 h6 => exact l.nx _ _ _ _ (P.ok.setL h1 h2 h3 h4 h5 h6) (x.trans (P.ex e)) q1
    | o j =>
      obtain ⟨A2, y, ρ2, P2, S2, q2⟩ := esc_ok e P R (show esc (.o j) ρ1 _ from q1)
      exact l.nx _ _ _ _ (P2.ok.setP S2) (x.trans (P2.ex e)) q2
/-- any other target, of data -/
def wAsgG (a : WE) (g : WG) : WS := fun E ρ => a ρ fun r ρ1 => esc r ρ1 fun x ρ2 => g x ρ2 E.nx
theorem ps_asgG {js : List Nat} {te : TE} {g : TG} {a : WE} {w : WG} (h : Pe T te a) (hg : Pg T js g w) : Ps T (tAsg te g) (wAsgG a w) := fun C A σ H ρ B E F e x l q =>
  h C A σ H ρ _ _ e q fun v H1 A1 r ρ1 P R q1 => by
    obtain ⟨A2, y, ρ2, P2, S2, q2⟩ := esc_ok e P R q1
    exact hg C A2 σ H1 ρ2 v y _ _ P2.ok S2 q2 fun σ' ρ' e' _ q' => l.nx _ _ _ _ e' (x.trans (P2.ex e)) q'
/-- a, b = x, y -/
def wPar (i j : Nat) (a : WA) : WS := fun E ρ => a ρ fun xs ρ1 => ∃ x y, xs = [x, y] ∧ E.nx ((ρ1.set i (.p x)).set j (.p y))
theorem ps_par {i j : Nat} {ta : TA} {a : WA} (h : Pa T ta a) : Ps T (tPar i j ta) (wPar i j a) := fun C A σ H ρ B E F e x l q =>
  h C A σ H ρ _ _ e q fun vs H1 A1 xs ρ1 P S ⟨y, z, q1, q2⟩ => by
    subst q1
    cases S with
    | cons s1 s2 =>
      cases s2 with
      | cons s2 s3 =>
        cases s3
        exact ⟨_, _, rfl, l.nx _ _ _ _ ((P.ok.setP s1).setP s2) (x.trans (P.ex e)) q2⟩
/-- x op= e of scalars -/
def wAug (i : Nat) (f : F2) (a : WE) : WS := fun E ρ => rd (.o i) ρ fun x => a ρ fun r ρ1 => rd r ρ1 fun y => f x y fun q => ∃ z, q = .d z ∧ E.nx (ρ1.set i (.p z))

/-! ### loops -/
def wLoop (g : WG) (b : WS) (E : DE) : List D → En → Prop
  | [], ρ => E.nx ρ
  | x :: xs, ρ => g x ρ fun ρ1 => b { E with nx := wLoop g b E xs, ct := wLoop g b E xs, bk := E.nx } ρ1
def wFor (i : WI) (g : WG) (b : WS) : WS := fun E ρ => i ρ fun xs ρ1 => wLoop g b E xs ρ1
theorem ps_for {wi : TI} {g : TG} {tb : TS} {js : List Nat} {i : WI} {w : WG} {b : WS} (hi : Pi T wi i) (hg : Pg T js g w) (hb : Ps T tb b) : Ps T (tFor wi g tb) (wFor i w b) := fun C A σ H ρ B E F e x l q =>
  hi C A σ H ρ _ _ e q fun J H1 A1 xs ρ1 P wk q1 => by
    have x1 : Ex B (hide H1 A1) := x.trans (P.ex e)
    refine ⟨fun k m σ' H' => m = xs.length - k ∧ k ≤ xs.length ∧ ∃ A' ρ', EnvOk T C A' σ' H' ρ' ∧ Ex (hide H1 A1) (hide H' A') ∧ wLoop w b E (xs.drop k) ρ', ⟨xs.length, rfl, Nat.zero_le _, A1, ρ1, P.ok, Ex.refl _, q1⟩, ?_⟩
    rintro k m σ' H' ⟨rfl, hk, A', ρ', e', x', q'⟩
    by_cases hlt : k < xs.length
    · have hd : xs.drop k = xs[k] :: xs.drop (k + 1) := List.drop_eq_getElem_cons hlt
      rw [hd] at q'
      refine .inr ⟨wk.go A' H' k x' hlt, fun σ2 H2 => k + 1 ≤ xs.length ∧ ∃ A2 ρ2, EnvOk T C A2 σ2 H2 ρ2 ∧ Ex (hide H1 A1) (hide H2 A2) ∧ wLoop w b E (xs.drop (k + 1)) ρ2, fun σ2 H2 ⟨_, p⟩ => ⟨_, by omega, rfl, hlt, p⟩, fun y H3 hy => ?_⟩
      obtain ⟨g1, g2⟩ := wk.yld A' H' k xs[k] y H3 x' e'.dom (List.getElem?_eq_getElem hlt) hy
      have e3 := e'.mono g1
      have x3 : Ex (hide H1 A1) (hide H3 A') := x'.trans (ex_hide_ex g1)
      refine hg C A' σ' H3 ρ' y xs[k] _ _ e3 g2 q' fun σ4 ρ4 e4 _ q4 => ?_
      exact hb C A' σ4 H3 ρ4 (hide H1 A1) { E with nx := wLoop w b E (xs.drop (k + 1)), ct := wLoop w b E (xs.drop (k + 1)), bk := E.nx } _ e4 x3 ⟨fun A5 σ5 H5 ρ5 e5 x5 q5 => ⟨hlt, A5, ρ5, e5, x5, q5⟩, fun A5 σ5 H5 ρ5 e5 x5 q5 => l.nx _ _ _ _ e5 (x1.trans x5) q5, fun A5 σ5 H5 ρ5 e5 x5 q5 => ⟨hlt, A5, ρ5, e5, x5, q5⟩, fun A5 σ5 H5 ρ5 v5 r5 e5 x5 R5 q5 => l.rt _ _ _ _ _ _ e5 (x1.trans x5) R5 q5⟩ q4
    · have hk2 : k = xs.length := by omega
      subst hk2
      rw [List.drop_length] at q'
      exact .inl ⟨wk.stop A' H' x', l.nx _ _ _ _ e' (x1.trans x') q'⟩
/-- while: so many turns at most -/
def wTurns (t : WT) (b : WS) (E : DE) : Nat → En → Prop
  | 0, _ => False
  | k + 1, ρ => t ρ fun c ρ1 => if c = true then b { E with nx := wTurns t b E k, ct := wTurns t b E k, bk := E.nx } ρ1 else E.nx ρ1
def wWhile (t : WT) (b : WS) : WS := fun E ρ => ∃ k, wTurns t b E k ρ
theorem ps_while {tc : TT} {tb : TS} {t : WT} {b : WS} (hc : Pt T tc t) (hb : Ps T tb b) : Ps T (tWhile tc tb) (wWhile t b) := fun C A σ H ρ B E F e x l q => by
  obtain ⟨k, q⟩ := q
  refine ⟨fun m σ' H' => ∃ A' ρ', EnvOk T C A' σ' H' ρ' ∧ Ex B (hide H' A') ∧ wTurns t b E m ρ', ⟨k, A, ρ, e, x, q⟩, ?_⟩
  rintro m σ' H' ⟨A', ρ', e', x', q'⟩
  cases m with
  | zero => exact q'.elim
  | succ m =>
    refine hc C A' σ' H' ρ' _ _ e' q' fun c H1 A1 ρ1 P q1 => ?_
    cases c with
    | false => exact l.nx _ _ _ _ P.ok (x'.trans (P.ex e')) q1
    | true =>
      refine ⟨fun σ2 H2 => ∃ A2 ρ2, EnvOk T C A2 σ2 H2 ρ2 ∧ Ex B (hide H2 A2) ∧ wTurns t b E m ρ2, fun σ2 H2 p => ⟨m, Nat.lt_succ_self m, p⟩, ?_⟩
      exact hb C A1 σ' H1 ρ1 B { E with nx := wTurns t b E m, ct := wTurns t b E m, bk := E.nx } _ P.ok (x'.trans (P.ex e')) ⟨fun A5 σ5 H5 ρ5 e5 x5 q5 => ⟨A5, ρ5, e5, x5, q5⟩, fun A5 σ5 H5 ρ5 e5 x5 q5 => l.nx _ _ _ _ e5 x5 q5, fun A5 σ5 H5 ρ5 e5 x5 q5 => ⟨A5, ρ5, e5, x5, q5⟩, fun A5 σ5 H5 ρ5 v5 r5 e5 x5 R5 q5 => l.rt _ _ _ _ _ _ e5 x5 R5 q5⟩ q1
end

/-! ### iterators -/
section
variable {T : Tab}
/-- a list or a tuple -/
def iSq (K : PySem.W.Frag) (tl : TE) : TI := fun σ H R => tl σ H fun x H1 => ∃ a, x = .ref a ∧ (((∃ xs, SqL K H1 a xs) ∧ R (Itl K a) H1) ∨ ((∃ xs, SqT K H1 a xs) ∧ R (Itt K a) H1))
theorem pi_sq {X : Cx} {tg l : Expr} {tl : TE} (hl : PE X l tl) : PI X tg l (iSq X.K tl) := by
  constructor
  intro pins s σ H R I h
  refine thn (hl.run pins s σ H _ I h) fun v s1 hv => ?_
  obtain ⟨x, H1, I1, r1, a, rfl, hq⟩ := hv
  cases r1
  have nw : ∀ b, b ∈ [s1.heap.objs.size] → FpOk X pins H1 b := fun b hb => by
    rw [List.mem_singleton.mp hb]
    exact (I1.fpOk (Nat.le_refl s1.heap.objs.size)) (I1.hok.fresh (Nat.le_refl s1.heap.objs.size))
  rcases hq with ⟨⟨xs, hx⟩, q⟩ | ⟨⟨xs, hx⟩, q⟩
  · obtain ⟨its, rv, p, hz⟩ := I1.list hx
    exact wpAny_pyIter_list p.isList ⟨_, [s1.heap.objs.size], _, _, H1, rfl, I1.kept (t' := s1.toks) (fun b o e => Heap.get?_push_of_some _ e), turn_list a _, ⟨_, Heap.get?_push_size _ rfl, rfl, rfl⟩, nw, q⟩
  · obtain ⟨its, rv, p, hz⟩ := I1.tuple hx
    exact wpAny_pyIter_tuple (show s1.heap.IsTuple a its.toArray from p) ⟨_, [s1.heap.objs.size], _, _, H1, rfl, I1.kept (t' := s1.toks) (fun b o e => Heap.get?_push_of_some _ e), turn_tuple a _, ⟨_, Heap.get?_push_size _ rfl, rfl, rfl⟩, nw, q⟩
theorem walk_l {A : List Addr} {H : Hp} {a : Addr} {vs : List V} {xs : List D} (h : hide H A a = some (.lst vs)) (hs : AtAll T (hide H A) vs xs) : Walk T A H (Itl T.K a) xs where
  go := fun A2 H2 i x hi => ⟨vs, _, SqL.of (hide_some (x _ _ h)).2, List.getElem?_eq_getElem (by rw [hs.length]; exact hi)⟩
  stop := fun A2 H2 x => ⟨vs, SqL.of (hide_some (x _ _ h)).2, by rw [hs.length]; exact Nat.le_refl _⟩
  yld := fun A2 H2 i d v H3 x dm hd hy => by
    obtain ⟨rfl, hy⟩ := hy
    obtain ⟨v', h1, h2⟩ := (hs.mono x).get hd
    have e := hy vs (SqL.of (hide_some (x _ _ h)).2)
    rw [h1] at e
    cases e
    exact ⟨Ex.refl _, h2⟩
theorem walk_t {A : List Addr} {H : Hp} {a : Addr} {vs : List V} {xs : List D} (h : SqT T.K (hide H A) a vs) (hs : AtAll T (hide H A) vs xs) : Walk T A H (Itt T.K a) xs where
  go := fun A2 H2 i x hi => ⟨vs, _, (ex_hide _ _).t (x.t h), List.getElem?_eq_getElem (by rw [hs.length]; exact hi)⟩
  stop := fun A2 H2 x => ⟨vs, (ex_hide _ _).t (x.t h), by rw [hs.length]; exact Nat.le_refl _⟩
  yld := fun A2 H2 i d v H3 x dm hd hy => by
    obtain ⟨rfl, hy⟩ := hy
    obtain ⟨v', h1, h2⟩ := (hs.mono x).get hd
    have e := hy vs ((ex_hide _ _).t (x.t h))
    rw [h1] at e
    cases e
    exact ⟨Ex.refl _, h2⟩
def seqD : D → (List D → Prop) → Prop
  | .lst xs, k => k xs
  | .tup xs, k => k xs
  | _, _ => False
def wiSq (a : WE) : WI := fun ρ Q => a ρ fun r ρ1 => esc r ρ1 fun x ρ2 => seqD x fun xs => Q xs ρ2
theorem pi_s {te : TE} {a : WE} (h : Pe T te a) : Pi T (iSq T.K te) (wiSq a) := fun C A σ H ρ Q K e q k =>
  h C A σ H ρ _ _ e q fun v H1 A1 r ρ1 P R q1 => by
    obtain ⟨A2, y, ρ2, P2, S2, q2⟩ := esc_ok e P R q1
    cases y with
    | lst xs =>
      cases S2 with
      | lst s t => exact ⟨_, rfl, .inl ⟨⟨_, SqL.of (hide_some s).2⟩, k _ _ _ _ _ P2 (walk_l s t) q2⟩⟩
    | tup xs =>
      cases S2 with
      | tup s t => exact ⟨_, rfl, .inr ⟨⟨_, (ex_hide _ _).t s⟩, k _ _ _ _ _ P2 (walk_t s t) q2⟩⟩
    | _ => exact q2.elim
/-- range(n) -/
def intsFrom (lo : Int) : Nat → List D
  | 0 => []
  | n + 1 => .int lo :: intsFrom (lo + 1) n
theorem intsFrom_len : ∀ (n : Nat) (lo : Int), (intsFrom lo n).length = n
  | 0, _ => rfl
  | n + 1, lo => congrArg Nat.succ (intsFrom_len n (lo + 1))
theorem intsFrom_get : ∀ (n : Nat) (lo : Int) (i : Nat) (d : D), (intsFrom lo n)[i]? = some d → d = .int (lo + i)
  | 0, _, _, _, h => by simp [intsFrom] at h
  | n + 1, lo, 0, d, h => by
    have e : D.int lo = d := Option.some.inj h
    rw [← e]
    simp
  | n + 1, lo, i + 1, d, h => by
    have e := intsFrom_get n (lo + 1) i d h
    rw [e]
    congr 1
    omega
theorem walk_r {A : List Addr} {H : Hp} {lo : Int} {n : Nat} : Walk T A H (Itr lo n) (intsFrom lo n) where
  go := fun A2 H2 i x hi => by
    rw [intsFrom_len] at hi
    exact hi
  stop := fun A2 H2 x => by
    rw [intsFrom_len]
    exact Nat.le_refl n
  yld := fun A2 H2 i d v H3 x dm hd hy => by
    obtain ⟨rfl, rfl⟩ := hy
    rw [intsFrom_get n lo i d hd]
    exact ⟨Ex.refl _, .int _⟩
def wRng1 (a : WR) : WI := fun ρ Q => a ρ fun rs ρ1 => rdAll rs ρ1 fun xs => ∃ j : Int, xs = [.int j] ∧ (-(2 ^ 62) ≤ j ∧ j < 2 ^ 62) ∧ Q (intsFrom 0 j.toNat) ρ1
theorem pi_r1 {ta : TA} {a : WR} (h : Par T ta a) : Pi T (iRng1 ta) (wRng1 a) := fun C A σ H ρ Q K e q k =>
  h C A σ H ρ _ _ e q fun vs H1 A1 rs ρ1 P R q1 => by
    obtain ⟨xs, S, j, rfl, hj, q2⟩ := rdAll_ok P.ok R q1
    cases S with
    | cons s1 s2 =>
      cases s2
      have f := s1.full
      cases f
      exact ⟨j, rfl, hj.1, hj.2, k _ _ _ _ _ P walk_r q2⟩
def wRng2 (a : WR) : WI := fun ρ Q => a ρ fun rs ρ1 => rdAll rs ρ1 fun xs => ∃ i j : Int, xs = [.int i, .int j] ∧ (-(2 ^ 62) ≤ i ∧ i < 2 ^ 62 ∧ -(2 ^ 62) ≤ j ∧ j < 2 ^ 62) ∧ Q (intsFrom i (j - i).toNat) ρ1
theorem pi_r2 {ta : TA} {a : WR} (h : Par T ta a) : Pi T (iRng2 ta) (wRng2 a) := fun C A σ H ρ Q K e q k =>
  h C A σ H ρ _ _ e q fun vs H1 A1 rs ρ1 P R q1 => by
    obtain ⟨xs, S, i, j, rfl, hj, q2⟩ := rdAll_ok P.ok R q1
    cases S with
    | cons s1 s2 =>
      cases s2 with
      | cons s2 s3 =>
        cases s3
        have f := s1.full
        cases f
        have f2 := s2.full
        cases f2
        exact ⟨i, j, rfl, hj, k _ _ _ _ _ P walk_r q2⟩
end
end Dc

set_option maxHeartbeats 1000000
/-! Dc3: comprehensions; lists that a slot holds alone. -/
namespace Dc
open PySem PySem.Spec PyProof.Rows L2

/-! ### slots forgotten -/
def wp (s : List (Option Cell)) : List Nat → List (Option Cell)
  | [] => s
  | v :: vs => (wp s vs).set v none
def En.wipe (ρ : En) (vs : List Nat) : En := { ρ with s := wp ρ.s vs }
theorem wp_len (s : List (Option Cell)) : ∀ vs : List Nat, (wp s vs).length = s.length
  | [] => rfl
  | v :: vs => by
    unfold wp
    rw [List.length_set, wp_len s vs]
theorem wp_in {s : List (Option Cell)} {i : Nat} {c : Cell} : ∀ {vs : List Nat}, (wp s vs)[i]? = some (some c) → s[i]? = some (some c) ∧ i ∉ vs
  | [], h => ⟨h, by simp⟩
  | v :: vs, h => by
    unfold wp at h
    by_cases q : v = i
    · subst q
      by_cases l : v < (wp s vs).length
      · rw [List.getElem?_set_self l] at h
        cases h
      · rw [List.getElem?_eq_none (by simpa using l)] at h
        cases h
    · rw [List.getElem?_set_ne q] at h
      obtain ⟨h1, h2⟩ := wp_in h
      exact ⟨h1, fun z => by rcases List.mem_cons.mp z with z | z; exact q z.symm; exact h2 z⟩
theorem wp_out {s : List (Option Cell)} {i : Nat} : ∀ {vs : List Nat}, i ∉ vs → (wp s vs)[i]? = s[i]?
  | [], _ => rfl
  | v :: vs, h => by
    unfold wp
    rw [List.getElem?_set_ne fun z => h (by simp [z])]
    exact wp_out fun z => h (List.mem_cons_of_mem _ z)
theorem wipe_o {σ : L2.St} {i : Nat} : ∀ {vs : List Nat}, i ∉ vs → (wipe σ vs)[i]? = σ[i]?
  | [], _ => rfl
  | v :: vs, h => by
    unfold wipe
    rw [List.getElem?_set_ne fun z => h (by simp [z])]
    exact wipe_o fun z => h (List.mem_cons_of_mem _ z)
theorem wipe_i {σ : L2.St} {i : Nat} (hi : i < σ.length) : ∀ {vs : List Nat}, i ∈ vs → (wipe σ vs)[i]? = some none
  | [], h => by cases h
  | v :: vs, h => by
    unfold wipe
    by_cases q : v = i
    · subst q
      exact List.getElem?_set_self (by rw [wipe_length]; exact hi)
    · rw [List.getElem?_set_ne q]
      exact wipe_i hi ((List.mem_cons.mp h).elim (fun z => absurd z.symm q) id)
theorem wipe_eq {σ σ' : L2.St} {vs : List Nat} (hl : σ'.length = σ.length) (h : ∀ i, i ∉ vs → σ'[i]? = σ[i]?) : wipe σ' vs = wipe σ vs := by
  apply List.ext_getElem?
  intro i
  by_cases m : i ∈ vs
  · by_cases l : i < σ.length
    · rw [wipe_i l m, wipe_i (by omega) m]
    · rw [List.getElem?_eq_none (by rw [wipe_length]; omega), List.getElem?_eq_none (by rw [wipe_length]; omega)]
  · rw [wipe_o m, wipe_o m, h i m]
theorem wipe_wipe {σ : L2.St} {vs : List Nat} : wipe (wipe σ vs) vs = wipe σ vs := wipe_eq (wipe_length σ vs) fun i h => wipe_o h

section
variable {T : Tab} {C : C0} {A A1 A2 : List Addr} {σ σ' : L2.St} {Hs H H1 H2 B B1 : Hp} {ρ ρ' ρ1 ρ2 : En} {v : V} {r : RV} {E : DE} {F : Ends} {vs : List Nat}
theorem EnvOk.wipe (e : EnvOk T C A σ H ρ) : EnvOk T C A (wipe σ vs) H (ρ.wipe vs) where
  ext := e.ext
  sub := e.sub
  dom0 := e.dom0
  dom := e.dom
  len := by
    show (L2.wipe σ vs).length = (wp ρ.s vs).length
    rw [wipe_length, wp_len, e.len]
  cell := fun i c h => by
    obtain ⟨h1, h2⟩ := wp_in h
    obtain ⟨v, h3, h4⟩ := e.cell i c h1
    exact ⟨v, by rw [wipe_o h2]; exact h3, h4⟩
  inj := fun i j a xs ys h1 h2 h3 h4 => by
    obtain ⟨g1, n1⟩ := wp_in h1
    obtain ⟨g2, n2⟩ := wp_in h2
    rw [wipe_o n1] at h3
    rw [wipe_o n2] at h4
    exact e.inj i j a xs ys g1 g2 h3 h4
  pen := e.pen
theorem own_wipe {a : Addr} (h : Own (wipe σ vs) (ρ.wipe vs) a) : Own σ ρ a := by
  obtain ⟨i, xs, h1, h2⟩ := h
  obtain ⟨g1, n1⟩ := wp_in h1
  rw [wipe_o n1] at h2
  exact ⟨i, xs, g1, h2⟩
/-- the outer slots again -/
def pureC : Option Cell → Option Cell
  | some (.p d) => some (.p d)
  | _ => none
def bkN (vs : List Nat) : Nat → List (Option Cell) → List (Option Cell) → List (Option Cell)
  | _, [], _ => []
  | k, s :: ss, se => (if k ∈ vs then pureC s else se.head?.join) :: bkN vs (k + 1) ss se.tail
def bk (s se : List (Option Cell)) (vs : List Nat) : List (Option Cell) := bkN vs 0 s se
def En.back (ρ ρe : En) (vs : List Nat) : En := ⟨bk ρ.s ρe.s vs, ρe.n⟩
theorem bkN_len : ∀ (k : Nat) (s se : List (Option Cell)), (bkN vs k s se).length = s.length
  | _, [], _ => rfl
  | k, _ :: ss, se => congrArg Nat.succ (bkN_len (k + 1) ss se.tail)
theorem bkN_in {c : Cell} : ∀ (k : Nat) (s se : List (Option Cell)) (i : Nat), (bkN vs k s se)[i]? = some (some c) → (k + i ∈ vs ∧ s[i]? = some (some c) ∧ ∃ d, c = .p d) ∨ (k + i ∉ vs ∧ se[i]? = some (some c))
  | _, [], _, i, h => by simp [bkN] at h
  | k, s :: ss, se, 0, h => by
    have h : (if k ∈ vs then pureC s else se.head?.join) = some c := Option.some.inj h
    by_cases m : k ∈ vs
    · rw [if_pos m] at h
      left
      cases s with
      | none => cases h
      | some c' =>
        cases c' with
        | p d =>
          have h : some (Cell.p d) = some c := h
          cases h
          exact ⟨m, rfl, d, rfl⟩
        | l xs => cases h
    · rw [if_neg m] at h
      right
      refine ⟨m, ?_⟩
      cases se with
      | nil => cases h
      | cons e es =>
        have h : e = some c := h
        rw [h]
        rfl
  | k, s :: ss, se, i + 1, h => by
    have h : (bkN vs (k + 1) ss se.tail)[i]? = some (some c) := h
    rcases bkN_in (k + 1) ss se.tail i h with ⟨m, h1, h2⟩ | ⟨m, h1⟩
    · exact .inl ⟨by rw [show k + (i + 1) = k + 1 + i by omega]; exact m, h1, h2⟩
    · refine .inr ⟨by rw [show k + (i + 1) = k + 1 + i by omega]; exact m, ?_⟩
      cases se with
      | nil => simp at h1
      | cons e es => exact h1
theorem bk_in {s se : List (Option Cell)} {i : Nat} {c : Cell} (h : (bk s se vs)[i]? = some (some c)) : (i ∈ vs ∧ s[i]? = some (some c) ∧ ∃ d, c = .p d) ∨ (i ∉ vs ∧ se[i]? = some (some c)) := by
  have q := bkN_in 0 s se i h
  rw [Nat.zero_add] at q
  exact q
/-- behind a block that ran on wiped slots -/
theorem Post.unwipe (e : EnvOk T C A σ H ρ) (p : Post T C A (wipe σ vs) H (ρ.wipe vs) A1 H1 ρ1) : Post T C A σ H ρ A1 H1 (ρ.back ρ1 vs) where
  ok := {
    ext := p.ok.ext
    sub := p.ok.sub
    dom0 := p.ok.dom0
    dom := p.ok.dom
    len := by
      show σ.length = (bkN vs 0 ρ.s ρ1.s).length
      rw [bkN_len]
      exact e.len
    cell := fun i c h => by
      rcases bk_in h with ⟨m, h, d, rfl⟩ | ⟨m, h⟩
      · obtain ⟨v, h1, h2⟩ := e.cell i _ h
        refine ⟨v, h1, ?_⟩
        cases h2 with
        | p g => exact .p (g.mono (p.ex (e.wipe (vs := vs))))
      · obtain ⟨v, h1, h2⟩ := p.ok.cell i c h
        rw [wipe_o m] at h1
        exact ⟨v, h1, h2⟩
    inj := fun i j a xs ys h1 h2 h3 h4 => by
      rcases bk_in h1 with ⟨_, _, d, z⟩ | ⟨m1, g1⟩
      · cases z
      · rcases bk_in h2 with ⟨_, _, d, z⟩ | ⟨m2, g2⟩
        · cases z
        · exact p.ok.inj i j a xs ys g1 g2 (by rw [wipe_o m1]; exact h3) (by rw [wipe_o m2]; exact h4)
    pen := p.ok.pen }
  le := p.le
  gone := fun a h1 h2 => own_wipe (p.gone a h1 h2)
  keep := fun a o h n np => p.keep a o h (fun z => n (own_wipe z)) np
  own := fun i xs h => by
    rcases bk_in h with ⟨_, _, d, z⟩ | ⟨m, h⟩
    · cases z
    · obtain ⟨ys, h⟩ := p.own i xs h
      exact ⟨ys, (wp_in h).1⟩
  th := p.th
/-- from slots where a target has been stored, back to the wiped ones -/
theorem Post.rewipe (e : EnvOk T C A (wipe σ vs) H ρ) (s : Sto vs (wipe σ vs) ρ σ' ρ') (e' : EnvOk T C A σ' H ρ') (p : Post T C A σ' H ρ' A1 H1 ρ1) : Post T C A (wipe σ vs) H ρ A1 H1 (ρ1.wipe vs) := by
  have ws : L2.wipe σ' vs = L2.wipe σ vs := (wipe_eq s.len fun i h => (s.out i h).1).trans wipe_wipe
  have ob : ∀ a, Own σ' ρ' a → Own (L2.wipe σ vs) ρ a := fun a ⟨i, xs, h1, h2⟩ => by
    obtain ⟨g1, g2⟩ := s.own i xs h1
    exact ⟨i, xs, g1, by rw [← g2]; exact h2⟩
  have ok := p.ok.wipe (vs := vs)
  rw [ws] at ok
  refine ⟨ok, p.le, fun a h1 h2 => ob a (p.gone a h1 h2), fun a o h n np => p.keep a o h (fun z => n (ob a z)) np, fun i xs h => ?_, p.th⟩
  obtain ⟨h, m⟩ := wp_in h
  obtain ⟨ys, h⟩ := p.own i xs h
  exact ⟨ys, (s.own i ys h).1⟩

/-! ### list comprehensions -/
def wComp (g : WG) (t : WT) (e : WE) (vs : List Nat) (K : List D → En → Prop) : List D → List D → En → Prop
  | [], acc, ρ => K acc ρ
  | x :: xs, acc, ρ => g x ρ fun ρ1 => t ρ1 fun b ρ2 => if b = true then e ρ2 fun r ρ3 => esc r ρ3 fun y ρ4 => szB (acc.length + 1) = true ∧ wComp g t e vs K xs (acc ++ [y]) (ρ4.wipe vs)
    else wComp g t e vs K xs acc (ρ2.wipe vs)
def wLc (i : WI) (g : WG) (t : WT) (e : WE) (vs : List Nat) : WE := fun ρ Q => i ρ fun xs ρ1 => wComp g t e vs (fun acc ρ' => Q (.n acc) (ρ1.back ρ' vs)) xs [] (ρ1.wipe vs)
theorem pt_yes : Pt T tYes (fun ρ Q => Q true ρ) := fun C A σ H ρ Q K e q k => k _ _ _ _ (.refl e) q
theorem pe_lcD {wi : TI} {g : TG} {tt : TT} {te : TE} {i : WI} {w : WG} {t : WT} {a : WE} {js : List Nat} (hi : Pi T wi i) (hg : Pg T js g w) (ht : Pt T tt t) (he : Pe T te a) (hj : ∀ j, j ∈ js → j ∈ vs) : Pe T (tLc wi g tt te vs) (wLc i w t a vs) := fun C A σ H ρ Q K e q k =>
  hi C A σ H ρ _ _ e q fun J H1 A1 xs ρ1 P wk q1 Dl hD => by
    have e1 := P.ok
    -- the list so far lies hidden at Dl
    have DnA : Dl ∉ A1 := fun z => e1.dom Dl z hD
    have x0 : Ex H1 (upd H1 Dl (.lst [])) := Ex.new hD
    have Pm : Post T C A1 (L2.wipe σ vs) H1 (ρ1.wipe vs) (Dl :: A1) (upd H1 Dl (.lst [])) (ρ1.wipe vs) := (e1.wipe (vs := vs)).post_more x0 (fun a h => List.mem_cons_of_mem _ h) (fun a h => by
        rcases (List.mem_cons.mp h : a = Dl ∨ a ∈ A1) with z | z
        · exact .inr (z ▸ hD)
        · exact .inl z) fun a h => by
        rcases (List.mem_cons.mp h : a = Dl ∨ a ∈ A1) with z | z
        · rw [z, upd_same]
          simp
        · exact fun q => e1.dom a z (x0.free q)
    have nD := e1.new0 hD
    have oD : ∀ {A' H' ρ'}, Post T C A1 (L2.wipe σ vs) H1 (ρ1.wipe vs) A' H' ρ' → ¬ Own (L2.wipe σ vs) ρ' Dl := fun p z => by
      obtain ⟨i, ys, h1, h2⟩ := own_wipe (p.own_back z)
      exact e1.dom Dl (e1.own_in ⟨i, ys, h1, h2⟩).1 hD
    refine ⟨fun n m H' => m = xs.length - n ∧ n ≤ xs.length ∧ ∃ A' ρ' acc ys, Post T C A1 (L2.wipe σ vs) H1 (ρ1.wipe vs) A' H' ρ' ∧ Dl ∈ A' ∧ H' Dl = some (.lst acc) ∧ AtAll T (hide H' A') acc ys ∧
      wComp w t a vs (fun acc ρ' => Q (.n acc) (ρ1.back ρ' vs)) (xs.drop n) ys ρ', ⟨xs.length, rfl, Nat.zero_le _, _, _, [], [], Pm, List.mem_cons_self, upd_same, .nil, q1⟩, ?_⟩
    rintro n m H' ⟨rfl, hn, A', ρ', acc, ys, P', dA, hDl, hs, q'⟩
    have x' : Ex (hide H1 A1) (hide H' A') := P'.ex e1.wipe
    by_cases hlt : n < xs.length
    · have hd : xs.drop n = xs[n] :: xs.drop (n + 1) := List.drop_eq_getElem_cons hlt
      rw [hd] at q'
      refine .inr ⟨wk.go A' H' n x' hlt, fun H5 => n + 1 ≤ xs.length ∧ ∃ A5 ρ5 acc ys, Post T C A1 (L2.wipe σ vs) H1 (ρ1.wipe vs) A5 H5 ρ5 ∧ Dl ∈ A5 ∧ H5 Dl = some (.lst acc) ∧ AtAll T (hide H5 A5) acc ys ∧
        wComp w t a vs (fun acc ρ' => Q (.n acc) (ρ1.back ρ' vs)) (xs.drop (n + 1)) ys ρ5, fun H5 ⟨_, p⟩ => ⟨_, by omega, rfl, hlt, p⟩, fun y H3 hy => ?_⟩
      obtain ⟨g1, g2⟩ := wk.yld A' H' n xs[n] y H3 x' P'.ok.dom (List.getElem?_eq_getElem hlt) hy
      have P3 := P'.trans (P'.ok.post_ex g1)
      have e3 := P3.ok
      refine hg C A' (L2.wipe σ vs) H3 ρ' y xs[n] _ _ e3 g2 q' fun σ2 ρ2 e2 st q2 => ?_
      have st' : Sto vs (L2.wipe σ vs) ρ' σ2 ρ2 := st.le hj
      refine ⟨(wipe_eq st'.len fun i h => (st'.out i h).1).trans wipe_wipe, ?_⟩
      refine ht C A' σ2 H3 ρ2 _ _ e2 q2 fun b H4 A4 ρ4 P4 q4 => ?_
      have noD : ¬ Own σ2 ρ2 Dl := fun ⟨i, zs, h1, h2⟩ => oD P3 ⟨i, zs, (st'.own i zs h1).1, by rw [← (st'.own i zs h1).2]; exact h2⟩
      cases b with
      | false =>
        have P5 := Post.rewipe e3 st' e2 P4
        exact ⟨hlt, A4, _, acc, ys, P3.trans P5, Classical.byContradiction fun z => noD (P4.gone Dl dA z), P4.keep Dl _ (g1 _ _ hDl) noD nD.2, (hs.mono (ex_hide_ex g1)).mono (P4.ex e2), q4⟩
      | true =>
        refine he C A4 σ2 H4 ρ4 _ _ P4.ok q4 fun y2 H5 A5 r5 ρ5 P5 R5 q5 => ?_
        obtain ⟨A6, z, ρ6, P6, S6, q6, q7⟩ := esc_ok P4.ok P5 R5 q5
        have P46 := P4.trans P6
        have dA6 : Dl ∈ A6 := Classical.byContradiction fun z => noD (P46.gone Dl dA z)
        have hD6 : H5 Dl = some (.lst acc) := P46.keep Dl _ (g1 _ _ hDl) noD nD.2
        have s6 : AtAll T (hide H5 A6) acc ys := (hs.mono (ex_hide_ex g1)).mono (P46.ex e2)
        refine ⟨acc, hD6, by rw [s6.length]; exact szB_ok q6, hlt, A6, ρ6.wipe vs, acc ++ [y2], ys ++ [z], ?_, dA6, upd_same, ?_, q7⟩
        · -- the list so far has grown
          have P7 := P3.trans (Post.rewipe e3 st' e2 P46)
          have e7 := P7.ok
          have hid : hide (upd H5 Dl (.lst (acc ++ [y2]))) A6 = hide H5 A6 := by
            funext b
            by_cases m : b ∈ A6
            · rw [hide_in m, hide_in m]
            · rw [hide_ne m, hide_ne m, upd_ne fun z => m (by rw [z]; exact dA6)]
          have nO : ¬ Own (L2.wipe σ vs) (ρ6.wipe vs) Dl := oD P7
          refine ⟨⟨fun b o h n => ?_, e7.sub, e7.dom0, fun b h => ?_, e7.len, fun i c h => ?_, e7.inj, fun p hp => ?_⟩, P7.le, P7.gone, fun b o h n np => ?_, P7.own, fun b h => ?_⟩
          · have nb : b ≠ Dl := fun z => by
              rw [z, nD.1] at h
              cases h
            rw [upd_ne nb]
            exact e7.ext b o h n
          · by_cases z : b = Dl
            · rw [z, upd_same]
              simp
            · rw [upd_ne z]
              exact e7.dom b h
          · obtain ⟨v, h1, h2⟩ := e7.cell i c h
            refine ⟨v, h1, ?_⟩
            cases h2 with
            | p g => exact .p (by rw [hid]; exact g)
            | @l b us zs u1 u2 u3 u4 u5 =>
              have nb : b ≠ Dl := fun z => nO ⟨i, _, h, z ▸ h1⟩
              exact .l (by rw [upd_ne nb]; exact u1) (by rw [hid]; exact u2) u3 u4 u5
          · obtain ⟨m, c, i, r, h1, h2, h3⟩ := e7.pen p hp
            have nb : p ≠ Dl := fun z => nD.2 (z ▸ hp)
            exact ⟨m, c, i, r, by rw [upd_ne nb]; exact h1, by rw [hid]; exact h2, h3⟩
          · have nb : b ≠ Dl := fun z => by
              rw [z, hD] at h
              cases h
            rw [upd_ne nb]
            exact P7.keep b o h n np
          · by_cases z : b = Dl
            · rw [z]
              exact hD
            · rw [upd_ne z] at h
              exact P7.th b h
        · have hid : hide (upd H5 Dl (.lst (acc ++ [y2]))) A6 = hide H5 A6 := by
            funext b
            by_cases m : b ∈ A6
            · rw [hide_in m, hide_in m]
            · rw [hide_ne m, hide_ne m, upd_ne fun z => m (by rw [z]; exact dA6)]
          rw [hid]
          exact s6.append (.cons S6 .nil)
    · have hk2 : n = xs.length := by omega
      subst hk2
      rw [List.drop_length] at q'
      refine .inl ⟨wk.stop A' H' x', ?_⟩
      have P8 := Post.unwipe e1 P'
      have nO : ¬ Own σ (ρ1.back ρ' vs) Dl := fun ⟨i, zs, h1, h2⟩ => by
        rcases bk_in h1 with ⟨_, _, d, z⟩ | ⟨m, h⟩
        · cases z
        · exact oD P' ⟨i, zs, h, by rw [wipe_o m]; exact h2⟩
      exact k _ _ _ _ _ (P.trans P8) (RvOk.n hDl hs dA (P.th _ hD) nD.1 nD.2 nO) q'
end
end Dc

set_option maxHeartbeats 1000000
/-! Dc4: operations on data. -/
namespace Dc
open PySem PySem.Spec PyProof.Rows L2
section
variable {T : Tab} {A : List Addr} {H H1 : Hp}
/-! ### ints -/
def fI (C : Int → Int → Prop) (g : Int → Int → D) : F2
  | .int i, .int j, k => C i j ∧ k (.d (g i j))
  | _, _, _ => False
def fI0 (g : Int → Int → D) : F2
  | .int i, .int j, k => k (.d (g i j))
  | _, _, _ => False
theorem Sh.int {v : V} {i : Int} (h : Sh T H A v (.int i)) : v = .int i := by
  have f := h.full
  cases f
  rfl
theorem Sh.bl {v : V} {b : Bool} (h : Sh T H A v (.bl b)) : v = .bl b := by
  have f := h.full
  cases f
  rfl
theorem Sh.str {v : V} {z : Str} (h : Sh T H A v (.str z)) : v = .str z := by
  have f := h.full
  cases f
  rfl
theorem Sh.non {v : V} (h : Sh T H A v .non) : v = .non := by
  have f := h.full
  cases f
  rfl
theorem op_rI {C : Int → Int → Prop} {g : Int → Int → V} {gd : Int → Int → D} (hg : ∀ i j H, At T H (g i j) (gd i j)) : Op2 T (rI C g) (fI C gd) := fun H A x y u v Q K d hx hy q k => by
  cases u with
  | int i =>
    cases v with
    | int j => exact ⟨i, j, hx.int, hy.int, q.1, k _ _ (vend_d d (hg i j _) q.2)⟩
    | _ => exact q.elim
  | _ => exact q.elim
theorem op_rI0 {g : Int → Int → V} {gd : Int → Int → D} (hg : ∀ i j H, At T H (g i j) (gd i j)) : Op2 T (rI0 g) (fI0 gd) := fun H A x y u v Q K d hx hy q k => by
  cases u with
  | int i =>
    cases v with
    | int j => exact ⟨i, j, hx.int, hy.int, k _ _ (vend_d d (hg i j _) q)⟩
    | _ => exact q.elim
  | _ => exact q.elim
theorem o_add : Op2 T (rI0 fun i j => .int (i + j)) (fI0 fun i j => .int (i + j)) := op_rI0 fun _ _ _ => .int _
theorem o_sub : Op2 T (rI0 fun i j => .int (i - j)) (fI0 fun i j => .int (i - j)) := op_rI0 fun _ _ _ => .int _
theorem o_mul : Op2 T (rI CMul fun i j => .int (i * j)) (fI CMul fun i j => .int (i * j)) := op_rI fun _ _ _ => .int _
theorem o_div : Op2 T (rI CDiv fun i j => .int (i / j)) (fI CDiv fun i j => .int (i / j)) := op_rI fun _ _ _ => .int _
theorem o_mod : Op2 T (rI (fun _ j => 0 < j) fun i j => .int (i % j)) (fI (fun _ j => 0 < j) fun i j => .int (i % j)) := op_rI fun _ _ _ => .int _
theorem o_pow : Op2 T (rI CPow fun i j => .int (i ^ j.toNat)) (fI CPow fun i j => .int (i ^ j.toNat)) := op_rI fun _ _ _ => .int _
theorem o_lt : Op2 T (rI0 fun i j => .bl (decide (i < j))) (fI0 fun i j => .bl (decide (i < j))) := op_rI0 fun _ _ _ => .bl _
theorem o_le : Op2 T (rI0 fun i j => .bl (decide (i ≤ j))) (fI0 fun i j => .bl (decide (i ≤ j))) := op_rI0 fun _ _ _ => .bl _
theorem o_gt : Op2 T (rI0 fun i j => .bl (decide (j < i))) (fI0 fun i j => .bl (decide (j < i))) := op_rI0 fun _ _ _ => .bl _
theorem o_ge : Op2 T (rI0 fun i j => .bl (decide (j ≤ i))) (fI0 fun i j => .bl (decide (j ≤ i))) := op_rI0 fun _ _ _ => .bl _
/-! ### put together -/
def fCatL : F2
  | .lst xs, .lst ys, k => szB (xs.length + ys.length) = true ∧ k (.n (xs ++ ys))
  | _, _, _ => False
theorem o_cat : Op2 T rCat fCatL := fun H A x y u v Q K d hx hy q k => by
  cases u with
  | lst xs =>
    cases v with
    | lst ys =>
      obtain ⟨a, vs, rfl, h1, s1⟩ := hx.lst
      obtain ⟨b, ws, rfl, h2, s2⟩ := hy.lst
      exact ⟨a, b, vs, ws, rfl, rfl, h1, h2, by rw [s1.length, s2.length]; exact szB_ok q.1, fun p hp => k _ _ (vend_n d hp (s1.append s2) q.2)⟩
    | _ => exact q.elim
  | _ => exact q.elim
def fCatS : F2
  | .str x, .str y, k => szB (x.length + y.length) = true ∧ k (.d (.str (x ++ y)))
  | _, _, _ => False
theorem o_catS : Op2 T (fun x y H Q => ∃ i j, x = .str i ∧ y = .str j ∧ i.length + j.length ≤ sizeLine ∧ Q (.str (i ++ j)) H) fCatS := fun H A x y u v Q K d hx hy q k => by
  cases u with
  | str i =>
    cases v with
    | str j => exact ⟨i, j, hx.str, hy.str, szB_ok q.1, k _ _ (vend_d d (.str _) q.2)⟩
    | _ => exact q.elim
  | _ => exact q.elim
theorem Sh.tup {v : V} {xs : List D} (h : Sh T H A v (.tup xs)) : ∃ a vs, v = .ref a ∧ SqT T.K H a vs ∧ AtAll T (hide H A) vs xs := by
  have f := h.pure fun _ z => nomatch z
  cases f with
  | tup s t => exact ⟨_, _, rfl, (ex_hide H A).t s, t⟩
def fCatT : F2
  | .tup xs, .tup ys, k => szB (xs.length + ys.length) = true ∧ k (.d (.tup (xs ++ ys)))
  | _, _, _ => False
theorem rep_at {vs : List V} {xs : List D} (h : AtAll T H vs xs) : ∀ n : Nat, AtAll T H (List.replicate n vs).flatten (List.replicate n xs).flatten
  | 0 => .nil
  | n + 1 => by
    rw [List.replicate_succ, List.replicate_succ, List.flatten_cons, List.flatten_cons]; exact h.append (rep_at h n)
def fRep : F2
  | .lst xs, .int j, k => (decide (-(2 ^ 63) ≤ j ∧ j < 2 ^ 63) && szB (xs.length * j.toNat)) = true ∧ k (.n (List.replicate j.toNat xs).flatten)
  | _, _, _ => False
theorem o_rep : Op2 T rRep fRep := fun H A x y u v Q K d hx hy q k => by
  cases u with
  | lst xs =>
    cases v with
    | int j =>
      obtain ⟨a, vs, rfl, h1, s1⟩ := hx.lst
      obtain ⟨q1, q2⟩ := q
      obtain ⟨q3, q4⟩ := Bool.and_eq_true_iff.mp q1
      have q5 := of_decide_eq_true q3
      exact ⟨a, j, vs, rfl, hy.int, h1, q5.1, q5.2, by rw [s1.length]; exact szB_ok q4, fun p hp => k _ _ (vend_n d hp (rep_at s1 _) q2)⟩
    | _ => exact q.elim
  | _ => exact q.elim
/-! ### by place -/
@[irreducible] def atK (xs : List D) (i : Int) (k : RV → Prop) : Prop := match atI xs i with
  | some d => k (.d d)
  | none => False
def fIx : F2
  | .lst xs, .int i, k => atK xs i k
  | .tup xs, .int i, k => atK xs i k
  | .str z, .int i, k => szB z.length = true ∧ (match atI z.cps.toList i with
    | some c => k (.d (.str ⟨#[c]⟩))
    | none => False)
  | _, _, _ => False
theorem atI_get {vs : List V} {xs : List D} {i : Int} {d : D} (s : AtAll T H vs xs) (e : atI xs i = some d) : ∃ v, atI vs i = some v ∧ At T H v d := by
  unfold atI at e ⊢
  rw [← s.length] at e
  cases z : ixN vs.length i with
  | none =>
    rw [z] at e
    cases e
  | some j =>
    rw [z] at e
    exact s.get e
theorem o_ix : Op2 T (rIx T.K) fIx := fun H A x y u v Q K d hx hy q k => by
  cases u with
  | lst xs =>
    cases v with
    | int i =>
      obtain ⟨a, vs, rfl, h1, s1⟩ := hx.lst
      have q : atK xs i Q := q
      unfold atK at q
      cases e : atI xs i with
      | none => rw [e] at q; exact q.elim
      | some z =>
        rw [e] at q
        obtain ⟨v, e1, h2⟩ := atI_get s1 e
        exact .inl ⟨a, vs, i, v, rfl, hy.int, SqL.of h1, e1, k _ _ (vend_d d h2 q)⟩
    | _ => exact q.elim
  | tup xs =>
    cases v with
    | int i =>
      obtain ⟨a, vs, rfl, h1, s1⟩ := hx.tup
      have q : atK xs i Q := q
      unfold atK at q
      cases e : atI xs i with
      | none => rw [e] at q; exact q.elim
      | some z =>
        rw [e] at q
        obtain ⟨v, e1, h2⟩ := atI_get s1 e
        exact .inr (.inl ⟨a, vs, i, v, rfl, hy.int, h1, e1, k _ _ (vend_d d h2 q)⟩)
    | _ => exact q.elim
  | str z =>
    cases v with
    | int i =>
      obtain ⟨q1, q⟩ := q
      cases e : atI z.cps.toList i with
      | none => rw [e] at q; exact q.elim
      | some c =>
        rw [e] at q
        exact .inr (.inr ⟨z, i, c, hx.str, hy.int, szB_ok q1, e, k _ _ (vend_d d (.str _) q)⟩)
    | _ => exact q.elim
  | _ => exact q.elim
/-! ### equality of data -/
mutual
def D.py : D → Option PyData
  | .non => some .none
  | .bl b => some (.bool b)
  | .int i => some (.int i)
  | .str x => some (.str x)
  | .lst xs => (D.pyAll xs).map .list
  | .tup xs => (D.pyAll xs).map .tuple
  | _ => none
def D.pyAll : List D → Option (List PyData)
  | [] => some []
  | x :: xs => match D.py x, D.pyAll xs with
    | some y, some ys => some (y :: ys)
    | _, _ => none
end
theorem py_all {v : V} {d : D} {xs : List D} {ys : List PyData} {y : PyData} (hy : D.pyAll (d :: xs) = some ys) : ∃ z zs, D.py d = some z ∧ D.pyAll xs = some zs ∧ ys = z :: zs := by
  unfold D.pyAll at hy
  cases e1 : D.py d with
  | none =>
    rw [e1] at hy
    cases hy
  | some z =>
    cases e2 : D.pyAll xs with
    | none =>
      rw [e1, e2] at hy
      cases hy
    | some zs =>
      rw [e1, e2] at hy
      cases hy
      exact ⟨z, zs, rfl, rfl, rfl⟩
mutual
theorem At.dp {K : PySem.W.Frag} (hK : T.K = K) : ∀ {v : V} {d : D} {e : PyData}, At T H v d → D.py d = some e → Dp K H v e
  | _, _, _, .non, q => by cases q; exact .non
  | _, _, _, .bl b, q => by cases q; exact .bl b
  | _, _, _, .int i, q => by cases q; exact .int i
  | _, _, _, .str x, q => by cases q; exact .str x
  | _, _, _, @At.lst _ _ a vs ds s t, q => by
    unfold D.py at q
    cases e1 : D.pyAll ds with
    | none => rw [e1] at q; cases q
    | some zs =>
      rw [e1] at q
      cases q
      exact .lst (SqL.of s) (AtAll.dp hK t e1)
  | _, _, _, @At.tup _ _ a vs ds s t, q => by
    unfold D.py at q
    cases e1 : D.pyAll ds with
    | none => rw [e1] at q; cases q
    | some zs =>
      rw [e1] at q
      cases q
      exact .tup (hK ▸ s) (AtAll.dp hK t e1)
  | _, _, _, .dK _ _, q => by unfold D.py at q; cases q
  | _, _, _, .dT _ _, q => by unfold D.py at q; cases q
  | _, _, _, .ins _ _, q => by unfold D.py at q; cases q
  | _, _, _, .exc _ _ _, q => by unfold D.py at q; cases q
  | _, _, _, .pen _, q => by unfold D.py at q; cases q
theorem AtAll.dp {K : PySem.W.Frag} (hK : T.K = K) : ∀ {vs : List V} {ds : List D} {es : List PyData}, AtAll T H vs ds → D.pyAll ds = some es → DpAll K H vs es
  | _, _, _, .nil, q => by cases q; exact .nil
  | _, _, _, @AtAll.cons _ _ v vs d ds a b, q => by
    obtain ⟨z, zs, e1, e2, rfl⟩ := py_all (v := .non) (y := .none) q
    exact .cons (At.dp hK a e1) (AtAll.dp hK b e2)
end
@[irreducible] def eqK (g : Bool → Bool) : F2 := fun x y k => match D.py x, D.py y with
  | some d, some e => (SeqAt.shaped d && SeqAt.shaped e) = true ∧ k (.d (.bl (g (PyData.eqv d e))))
  | _, _ => False
theorem eqK_ok {g : Bool → Bool} {u v : D} {k : RV → Prop} (q : eqK g u v k) : ∃ d e, D.py u = some d ∧ D.py v = some e ∧ SeqAt.shaped d = true ∧ SeqAt.shaped e = true ∧ k (.d (.bl (g (PyData.eqv d e)))) := by
  unfold eqK at q
  cases e1 : D.py u with
  | none => rw [e1] at q; exact q.elim
  | some d =>
    cases e2 : D.py v with
    | none => rw [e1, e2] at q; exact q.elim
    | some e =>
      rw [e1, e2] at q
      obtain ⟨q1, q2⟩ := q
      obtain ⟨q3, q4⟩ := Bool.and_eq_true_iff.mp q1
      exact ⟨d, e, rfl, rfl, q3, q4, q2⟩
theorem o_eq : Op2 T (rEqD T.K) (eqK id) := fun H A x y u v Q K d hx hy q k => by
  obtain ⟨d1, d2, e1, e2, s1, s2, q⟩ := eqK_ok q
  exact ⟨d1, d2, At.dp rfl hx.full e1, At.dp rfl hy.full e2, s1, s2, k _ _ (vend_d d (.bl _) q)⟩
theorem o_ne : Op2 T (rNeD T.K) (eqK not) := fun H A x y u v Q K d hx hy q k => by
  obtain ⟨d1, d2, e1, e2, s1, s2, q⟩ := eqK_ok q
  exact ⟨d1, d2, At.dp rfl hx.full e1, At.dp rfl hy.full e2, s1, s2, k _ _ (vend_d d (.bl _) q)⟩
/-! ### built-ins -/
def fLen : FL
  | [.lst xs], k => k (.d (.int (xs.length : Nat)))
  | [.tup xs], k => k (.d (.int (xs.length : Nat)))
  | [.str z], k => szB z.length = true ∧ k (.d (.int (z.length : Nat)))
  | _, _ => False
theorem sh1 {vs : List V} {x : D} (h : ShAll T H A vs [x]) : ∃ v, vs = [v] ∧ Sh T H A v x := by
  cases h with
  | cons a b =>
    cases b
    exact ⟨_, rfl, a⟩
theorem o_len : OpL T (fun xs H Q => ∃ x n, xs = [x] ∧ LenV T.K x H n ∧ Q (.int n) H) fLen := fun H A vs us Q K d hs q k => by
  match us, q with
  | [.lst xs], q =>
    obtain ⟨v, rfl, h⟩ := sh1 hs
    obtain ⟨a, ws, rfl, h1, s1⟩ := h.lst
    exact ⟨_, _, rfl, .inl ⟨ws, SqL.of h1, rfl⟩, k _ _ (vend_d d (.int _) (by rw [s1.length]; exact q))⟩
  | [.tup xs], q =>
    obtain ⟨v, rfl, h⟩ := sh1 hs
    obtain ⟨a, ws, rfl, h1, s1⟩ := h.tup
    exact ⟨_, _, rfl, .inr ⟨ws, h1, rfl⟩, k _ _ (vend_d d (.int _) (by rw [s1.length]; exact q))⟩
  | [.str z], q =>
    obtain ⟨v, rfl, h⟩ := sh1 hs
    rw [h.str]
    exact ⟨_, _, rfl, ⟨szB_ok q.1, rfl⟩, k _ _ (vend_d d (.int _) q.2)⟩
def fInt : FL
  | [.int i], k => k (.d (.int i))
  | [.bl b], k => k (.d (.int (if b then 1 else 0)))
  | _, _ => False
theorem o_int : OpL T (fun xs H Q => (∃ i, xs = [.int i] ∧ Q (.int i) H) ∨ ∃ k, xs = [.bl k] ∧ Q (.int (if k then 1 else 0)) H) fInt := fun H A vs us Q K d hs q k => by
  match us, q with
  | [.int i], q =>
    obtain ⟨v, rfl, h⟩ := sh1 hs
    rw [h.int]
    exact .inl ⟨i, rfl, k _ _ (vend_d d (.int _) q)⟩
  | [.bl b], q =>
    obtain ⟨v, rfl, h⟩ := sh1 hs
    rw [h.bl]
    exact .inr ⟨b, rfl, k _ _ (vend_d d (.int _) q)⟩
end
/-! ### calls -/
/-- at a def's entry -/
structure PreD (T : Tab) (A : List Addr) (H : Hp) (n : Nat) (vs : List V) (ds : List D) : Prop where
  dom : ∀ a, a ∈ A → H a ≠ none
  pen : PenOk T H A n
  args : AtAll T (hide H A) vs ds
/-- behind it: a result -/
structure PostD (T : Tab) (A : List Addr) (H : Hp) (H' : Hp) (n' : Nat) (v : V) (r : RV) : Prop where
  ex : ∃ A' : List Addr, (∀ a, a ∈ A → a ∈ A') ∧ (∀ a, a ∈ A' → a ∈ A ∨ H a = none) ∧ (∀ a, a ∈ A' → H' a ≠ none) ∧ PenOk T H' A' n' ∧ RetOk T ⟨H, A⟩ A' H' v r
  ext : ∀ a o, H a = some o → T.P ≠ some a → H' a = some o
  th : ∀ a, H' a = none → H a = none
/-- a def's promise: what it asks of its arguments and the draws so far, and what of it all it then gives -/
abbrev RD := List D → Nat → (RV → Nat → Prop) → Prop
def SpD (T : Tab) (R : RD) : Sp := fun vs H Q _ => ∃ (A : List Addr) (ds : List D) (n : Nat) (K : RV → Nat → Prop), PreD T A H n vs ds ∧ R ds n K ∧ ∀ v H' r n', PostD T A H H' n' v r → K r n' → Q v H'
def wCall (R : RD) (wa : WA) : WE := fun ρ Q => wa ρ fun xs ρ1 => R xs ρ1.n fun r n' => Q r ⟨ρ1.s, n'⟩
section
variable {T : Tab} {C : C0} {A A1 A2 : List Addr} {σ : L2.St} {Hs H H1 H2 : Hp} {ρ ρ1 ρ2 : En} {v : V} {r : RV}
theorem EnvOk.called (e : EnvOk T C A σ H ρ) {n' : Nat} (p : PostD T A H H1 n' v r) : ∃ A1, Post T C A σ H ρ A1 H1 ⟨ρ.s, n'⟩ ∧ RvOk T C H A1 σ H1 ⟨ρ.s, n'⟩ v r := by
  obtain ⟨A1, hsub, hnew, hdom, hpen, hr⟩ := p.ex
  have np : ∀ a, a ∉ A → T.P ≠ some a := fun a m z => m (e.pen a z).1
  have x1 : Ex (hide H A) (hide H1 A1) := fun a o h => by
    obtain ⟨m, h⟩ := hide_some h
    rw [hide_ne fun z => (hnew a z).elim m fun q => by rw [h] at q; cases q]
    exact p.ext a o h (np a m)
  have ok : EnvOk T C A1 σ H1 ⟨ρ.s, n'⟩ := by
    refine ⟨fun a o h n => p.ext a o (e.ext a o h n) n, fun a h => hsub a (e.sub a h), e.dom0, hdom, e.len, fun i c h => ?_, e.inj, hpen⟩
    obtain ⟨v, h1, h2⟩ := e.cell i c h
    refine ⟨v, h1, ?_⟩
    cases h2 with
    | p g => exact .p (g.mono x1)
    | l g1 g2 g3 g4 g5 => exact .l (p.ext _ _ g1 g5) (g2.mono x1) (hsub _ g3) g4 g5
  refine ⟨A1, ⟨ok, hnew, fun a h z => absurd (hsub a h) z, fun a o h _ n => p.ext a o h n, fun i xs h => ⟨xs, h⟩, p.th⟩, ?_⟩
  cases hr with
  | d h => exact .d h
  | n h1 h2 h3 h4 h5 =>
    have h4 : H _ = none := h4
    exact .n h1 h2 h3 h4 (e.new0 h4).1 h5 fun z => e.dom _ (e.own_in (show Own σ ρ _ from z)).1 h4
theorem pe_callD {R : RD} {ta : TA} {wa : WA} (ha : Pa T ta wa) : Pe T (tCall (SpD T R) [] E0 ta) (wCall R wa) := fun C A σ H ρ Q K e q k =>
  ha C A σ H ρ _ _ e q fun vs H1 A1 xs ρ1 P S q1 => by
    rw [List.append_nil]
    refine ⟨A1, xs, ρ1.n, _, ⟨P.ok.dom, P.ok.pen, S⟩, q1, fun v H' r n' p q2 => ?_⟩
    obtain ⟨A2, P2, R2⟩ := P.ok.called p
    exact k _ _ _ _ _ (P.trans P2) (R2.back P) q2
/-- the slots at the entry -/
def st0 (k : Nat) (ds : List D) : List (Option Cell) := ds.map (fun d => some (.p d)) ++ List.replicate k none
theorem st0_get {k : Nat} {ds : List D} {i : Nat} {c : Cell} (h : (st0 k ds)[i]? = some (some c)) : ∃ d, c = .p d ∧ ds[i]? = some d := by
  unfold st0 at h
  by_cases q : i < ds.length
  · rw [List.getElem?_append_left (by simpa using q), List.getElem?_map] at h
    cases e : ds[i]? with
    | none =>
      rw [e] at h
      cases h
    | some d =>
      rw [e] at h
      have h : some (some (Cell.p d)) = some (some c) := h
      cases h
      exact ⟨d, rfl, rfl⟩
  · rw [List.getElem?_append_right (by simpa using q)] at h
    rw [List.getElem?_replicate] at h
    split at h <;> cases h
theorem pre_env {n : Nat} {vs : List V} {ds : List D} {N : List Str} (p : PreD T A H n vs ds) : EnvOk T ⟨H, A⟩ A (start N vs) H ⟨st0 (N.length - vs.length) ds, n⟩ where
  ext := fun a o h _ => h
  sub := fun a h => h
  dom0 := p.dom
  dom := p.dom
  len := by
    show (vs.map some ++ List.replicate (N.length - vs.length) none).length = (st0 (N.length - vs.length) ds).length
    simp [st0, p.args.length]
  cell := fun i c h => by
    obtain ⟨d, rfl, e⟩ := st0_get h
    obtain ⟨v, h1, h2⟩ := p.args.get e
    refine ⟨v, ?_, .p h2⟩
    show (vs.map some ++ List.replicate (N.length - vs.length) none)[i]? = _
    have l : i < vs.length := (List.getElem?_eq_some_iff.mp h1).1
    rw [List.getElem?_append_left (by simpa using l), List.getElem?_map, h1]
    rfl
  inj := fun i j a xs ys h1 h2 h3 h4 => by
    obtain ⟨d, z, _⟩ := st0_get h1
    cases z
  pen := p.pen
/-- a def's body keeps the def's promise -/
theorem body_ok {ts : TS} {w : WS} {R : RD} {N : List Str} {m : Nat} (h : Ps T ts w) (hR : ∀ ds n K, R ds n K → ds.length = m ∧ w { nx := fun ρ => K (.d .non) ρ.n, rt := fun r n' => K r n' } ⟨st0 (N.length - m) ds, n⟩)
    {vs : List V} {Q : VK} {E : XK} (hs : SpD T R vs H Q E) : ts { nx := fun _ H' => Q .non H', rt := Q } (start N vs) H := by
  obtain ⟨A, ds, n, K, p, hr, fin⟩ := hs
  obtain ⟨hl, hw⟩ := hR ds n K hr
  have e := pre_env (N := N) p
  have hv : vs.length = m := p.args.length.trans hl
  rw [hv] at e
  have back : ∀ A' σ H' ρ v r, EnvOk T ⟨H, A⟩ A' σ H' ρ → RetOk T ⟨H, A⟩ A' H' v r → Ex (hide H A) (hide H' A') → K r ρ.n → Q v H' := fun A' σ H' ρ v r e' r' x' k' => by
    refine fin v H' r ρ.n ⟨⟨A', e'.sub, fun a ha => ?_, e'.dom, e'.pen, r'⟩, e'.ext, fun a ha => ?_⟩ k'
    · by_cases q : a ∈ A
      · exact .inl q
      · refine .inr ?_
        cases z : H a with
        | none => rfl
        | some o =>
          have q1 := x' a o (by rw [hide_ne q]; exact z)
          rw [hide_in ha] at q1
          cases q1
    · cases z : H a with
      | none => rfl
      | some o =>
        by_cases q : T.P = some a
        · exact absurd ha (e'.dom a (e'.pen a q).1)
        · rw [e'.ext a o z q] at ha
          cases ha
  refine h ⟨H, A⟩ A (start N vs) H _ (hide H A) { nx := fun ρ => K (.d .non) ρ.n, rt := fun r n' => K r n' } { nx := fun _ H' => Q .non H', rt := Q } e (Ex.refl _) ⟨fun A' σ H' ρ e' x' k' => back A' σ H' ρ .non (.d .non) e' (.d .non) x' k', fun _ _ _ _ _ _ z => False.elim z, fun _ _ _ _ _ _ z => False.elim z, fun A' σ H' ρ v r e' x' r' k' => back A' σ H' ρ v r e' r' x' k'⟩ hw
end
end Dc

set_option maxHeartbeats 4000000
/-! Ex0: an own exception class with an own __init__ is called, also with keywords. -/
namespace PySem
namespace ExZ
open PySem.W PySem.Calls PyProof.Rows PySem.HandSPX
/-- the class object at C: its row of bases behind itself, what makes its instances -/
def ClsAt (h : Heap) (C : Addr) (nId : String) (bm : List Value) : Prop :=
  ∃ (nm q : Str) (N : Addr) (bs sub : List Value) (hd ab : Bool) (sn : List Str) (col : Option Bool) (dd : Option Addr) (k0 k1 k2 k3 k5 : Option Value), h.get? C = some (excClassObj nm q C N bs bm hd sn sub ab col dd k0 k1 k2 k3 k5 nId)
/-- what the making asks of the row of bases -/
structure NewT (B : String) (bm bmB : List Value) : Prop where
  b : bm.contains (.type B) = bmB.contains (.type B)
  a : bm.contains (.type "AttributeError") = bmB.contains (.type "AttributeError")
  n : bm.contains (.type "NameError") = bmB.contains (.type "NameError")
/-- what the built-in __init__ wants -/
structure InitF (B iId : String) : Prop where
  sl : Slot B "__init__" iId
  en : entryFor table iId = some Builtin.«BaseException.__init__»
  ki : builtinKind iId = some .slot
  ro : Manifest.signature? iId = some ⟨.positional, "*", B, .self, [⟨"args", .varPos, false⟩]⟩
  st : (B != "*") = true
theorem InitF.of {B nId iId : String} (F : ExcCallFacts B nId iId) : InitF B iId := ⟨F.init, F.initEntry, F.initKind, F.initRow, F.noStar⟩
section
variable {P : Program} {w : World} {M : Model} {A : Around} {E : Value → Shared → Prop} {R : Result → Shared → Prop} {s : Shared}
variable {C : Addr} {bm bmB : List Value} {B nId iId : String} {us : List Value} {kw : List (Str × Value)}
theorem NewT.has (T : NewT B bm bmB) (F : ExcBaseFacts B nId iId bmB) : (Value.ref C :: bm).contains (.type B) = true ∧ (Value.ref C :: bm).contains (.type "AttributeError") = false ∧ (Value.ref C :: bm).contains (.type "NameError") = false := by
  refine ⟨?_, ?_, ?_⟩ <;> rw [List.contains_cons]
  · rw [T.b, F.hasB, Bool.or_true]
  · rw [T.a, F.noAttr]; rfl
  · rw [T.n, F.noName]; rfl
theorem chk_new (F : ExcBaseFacts B nId iId bmB) (T : NewT B bm bmB) (c : ClsAt s.heap C nId bm) {Q : Unit → Shared → Prop} (k : Q () s) : wpAny M A (checkBuiltinCall nId ⟨.ref C :: us, kw⟩) Q E s := by
  obtain ⟨h, g, d, t, os⟩ := s
  obtain ⟨nm, q, N, bs, sub, hd, ab, sn, col, dd, k0, k1, k2, k3, k5, hC⟩ := c
  have st := F.noStar
  have hb := (T.has (C := C) F).1
  simp only [F.newRow, F.newSplit, F.newKind, checkBuiltinCall]
  repeat (first | refine wpAny_madeBy_exc hC ?_ | refine wpAny_staticBase_exc hC ?_ | (refine wpAny_isSubtype_exc hC ?_; rw [hb]) | refine wpAny_loadPart_at hC ?_ | simp only [Bool.false_eq_true, if_false, bne_self_eq_false] | wp_step)
  exact k
/-- the new object, its arguments as given by place -/
abbrev newH (h : Heap) (C : Addr) (us : List Value) : Heap := (h.push (kdv_tup us)).push (excO C h.objs.size)
theorem run_new (F : ExcBaseFacts B nId iId bmB) (T : NewT B bm bmB) (c : ClsAt s.heap C nId bm) (hz : us.length ≤ sizeLine) (k : R (.ok (.ret (.ref (s.heap.objs.size + 1)))) { s with heap := newH s.heap C us }) :
    codeAny (model P w) A (.builtin nId ⟨.ref C :: us, kw⟩) R s := by
  obtain ⟨h, g, d, t, os⟩ := s
  obtain ⟨nm, q, N, bs, sub, hd, ab, sn, col, dd, k0, k1, k2, k3, k5, hC⟩ := c
  have en := F.ends
  obtain ⟨b1, b2, b3⟩ := T.has (C := C) F
  refine codeAny_builtinAt F.entry (by
    unfold Builtin.«BaseException.__new__»; refine PySem.wpAt_bind (show PySem.wpAt _ _ _ (stack >>= _) _ _ _ from PySem.wpAt_bind (PySem.wpAt_stack fun p below => PySem.wpAt_of_wpAny ?_))
    wp_walk
    refine PySem.wpAt_of_wpAny ?_
    rw [F.owner]
    repeat (first | (with_reducible refine wpAny_isSubtype_exc hC ?_; first | rw [b1] | rw [b2] | rw [b3]) | with_reducible refine wpAny_loadPart_at hC ?_ | with_reducible refine wpAny_madeHere_exc F.canon hC ?_ | wp_step)
    show R (.ok (.ret (.ref (h.push _).objs.size))) _
    rw [Heap.size_push]
    exact k)
theorem new_at {h : Heap} : (newH h C us).get? (h.objs.size + 1) = some (excO C h.objs.size) := by heap_get
theorem new_old {h : Heap} {b : Addr} {o : Obj} (e : h.get? b = some o) : (newH h C us).get? b = some o := Heap.get?_push_of_some _ (Heap.get?_push_of_some _ e)
/-- what is wanted behind __init__ -/
abbrev InitQ (h : Heap) (E : Value → Shared → Prop) (Q : Fin → Shared → Prop) : Result → Shared → Prop := fun r s' => match r with
  | .ok (.ret v) => v = .none ∧ Q (.done (.ret (.ref (h.objs.size + 1)))) s'
  | .ok _ => False
  | .error e => E e s'
theorem run_type (F : ExcBaseFacts B nId iId bmB) (T : NewT B bm bmB) (c : ClsAt s.heap C nId bm) {fI : Addr} {Q : Fin → Shared → Prop} (hi : Looks (model P w) s.heap (typeLookup (.ref C) "__init__") (some (.ref fI)))
    (hb : ∀ x, Looks (model P w) s.heap (bindSpecial (.ref fI) x) (.ref fI, [x])) (hz : us.length ≤ sizeLine)
    (k : codeAny (model P w) A (.call (.ref fI) ⟨.ref (s.heap.objs.size + 1) :: us, kw⟩) (InitQ s.heap E Q) { s with heap := newH s.heap C us }) : wpAny (model P w) A (Builtin.«type.__call__» ⟨.ref C :: us, kw⟩) Q E s := by
  have c0 := c
  obtain ⟨h, g, d, t, os⟩ := s
  obtain ⟨nm, q, N, bs, sub, hd, ab, sn, col, dd, k0, k1, k2, k3, k5, hC⟩ := c
  unfold Builtin.«type.__call__»; repeat (first | with_reducible refine wpAny_madeBy_exc hC ?_ | with_reducible refine wpAny_loadPart_at hC ?_ | wp_step)
  refine codeAny_call_builtin_code (Code.quiet_builtin _ F.quiet) (chk_new F T c0 (run_new F T c0 hz (show wpAny _ _ _ _ _ _ from ?_)))
  have hn := new_old (C := C) (us := us) hC
  have hx : (newH h C us).get? (h.objs.size + 1) = some (excO C h.objs.size) := new_at
  have own : (Value.ref C :: bm).contains (.ref C) = true := by rw [List.contains_cons, beq_self_eq_true, Bool.true_or]
  have li := hi.keeps fun b o e => new_old (C := C) (us := us) e
  have lb := (hb (.ref (h.objs.size + 1))).keeps fun b o e => new_old (C := C) (us := us) e
  unfold isInstance
  repeat (first | (with_reducible refine wpAny_isSubtype_exc hn ?_; rw [own]) | with_reducible refine wpAny_loadPart_at hx ?_ | wp_step)
  refine (show wpAny _ _ (typeLookup (.ref C) _) _ _ _ from li.at (wpAny_holding (wpAny_bind (lb.at (wpAny_bind (wpAny_call (codeAny_mono k fun r s' z => ?_)))))))
  match r, z with
  | .error _, z => exact z
  | .ok (.ret v), ⟨ev, z⟩ =>
    subst ev
    first | exact wpAny_pure (wpAny_pure z) | (wp_walk; exact z)
/-- C(..): the object, then __init__ -/
theorem call_ownK (F : ExcBaseFacts B nId iId bmB) (T : NewT B bm bmB) (c : ClsAt s.heap C nId bm) {fI : Addr} (hi : Looks (model P w) s.heap (typeLookup (.ref C) "__init__") (some (.ref fI)))
    (hb : ∀ x, Looks (model P w) s.heap (bindSpecial (.ref fI) x) (.ref fI, [x])) (hz : us.length ≤ sizeLine)
    (k : codeAny (model P w) (A.under (.builtin "type.__call__" ⟨.ref C :: us, kw⟩)) (.call (.ref fI) ⟨.ref (s.heap.objs.size + 1) :: us, kw⟩) (InitBack (s.heap.objs.size + 1) R) { s with heap := newH s.heap C us }) :
    codeAny (model P w) A (.call (.ref C) ⟨us, kw⟩) R s := by
  have c0 := c
  obtain ⟨h, g, d, t, os⟩ := s
  obtain ⟨nm, q, N, bs, sub, hd, ab, sn, col, dd, k0, k1, k2, k3, k5, hC⟩ := c
  have f1 := tc_lookup
  have f2 := tc_bind (.ref C)
  have ty : Shared.TypeIs ⟨h, g, d, t, os⟩ (.ref C) "type" := ⟨_, hC, rfl⟩
  refine codeAny_of_tree (show wpAny _ _ (callAny (.ref C) ⟨us, kw⟩) _ _ _ from ?_)
  repeat (any_goals (first | with_reducible refine wpAny_loadPart_at hC ?_ | assumption | wp_step))
  exact ⟨rfl, codeAny_call_builtin_at (Code.quiet_builtin _ (by decide +kernel)) entry_typeCall (wpAny_check_type_call_sub hC (run_type F T c0 hi hb hz (codeAny_mono k fun r s' z => by
    match r, z with
    | .error _, z => exact z
    | .ok (.ret _), z => exact z)))⟩
/-! ### super().__init__(..), the built-in one bound to the new exception -/
theorem chk_mw (F : InitF B iId) (c : ClsAt s.heap C nId bm) {e : Addr} {oe : Obj} (he : s.heap.get? e = some oe) (hc : oe.cls = .ref C) {Q : Unit → Shared → Prop} (k : Q () s) : wpAny M A (checkBoundCall iId ⟨.ref e :: us, []⟩) Q E s := by
  obtain ⟨h, g, d, t, os⟩ := s
  obtain ⟨nm, q, N, bs, sub, hd, ab, sn, col, dd, k0, k1, k2, k3, k5, hC⟩ := c
  have st := F.st
  have free : ∀ (a b : String) (n : Nat), Bind.check ⟨.positional, "*", B, .self, [⟨"args", .varPos, false⟩]⟩ a b n (List.map (·.1) ({ pos := Value.ref e :: us } : Args).kw) = pure () := fun a b n => check_star_args "*" B a b .self n
  simp only [F.ro, F.ki, checkBoundCall]
  repeat (first | with_reducible refine wpAny_loadPart_at hC ?_ | (with_reducible refine wpAny_loadPart_at he ?_; rw [hc]) | wp_step)
  refine wpAny_onRaise (by rw [free]; exact wpAny_pure k)
theorem call_mw (F : InitF B iId) (c : ClsAt s.heap C nId bm) {u e t0 : Addr} (he : s.heap.get? e = some (excO C t0)) (hm : s.heap.get? u = some (kxs_mw iId e)) (hz : us.length ≤ sizeLine) {Q : Value → Shared → Prop}
    (k : ∀ h' t1, (∀ b o, b ≠ e → s.heap.get? b = some o → h'.get? b = some o) → h'.get? e = some (excO C t1) → Q .none { s with heap := h' }) : wpAny (model P w) A (call (.ref u) us) Q E s := by
  have c0 := c
  obtain ⟨h, g, d, t, os⟩ := s
  have wrap : (Value.type "method-wrapper" == Value.type "method" || Value.type "method-wrapper" == Value.type "builtin_function_or_method" || Value.type "method-wrapper" == Value.type "method-wrapper") = true := by decide
  refine wpAny_call (codeAny_of_tree (show wpAny _ A.in1 (callAny (.ref u) ⟨us, []⟩) _ _ _ from ?_))
  simp only [callAny]; refine wpAny_bind (wpAny_load hm ?_); simp only [if_true, wrap]
  exact KFB.if_so (by decide) (wpAny_bind (chk_mw F c0 he rfl (wpAny_bind (wpAny_pure (wpAny_pure ⟨plainId_quiet F.sl.plain _, codeAny_builtin F.en (exc_init_tree (cls := .ref C) (t0 := t0) (dv := none) (c2 := .none) (c3 := .none) (b4 := .bool false) he hz fun h' q e' _ => k h' _ q e')⟩)))))
end
end ExZ
end PySem

set_option maxHeartbeats 4000000
/-! Ex1: facts of the built-in bases. -/
namespace PySem
namespace ExZ
open PySem.W PySem.Calls PyProof.Rows PySem.HandSPX
theorem osa_slot {B : String} (h1 : typeLookup (.type B) "__setattr__" = pure (some (.builtin "object.__setattr__"))) (h2 : isSubtype (.type B) (.type "object") = pure true) : Slot B "__setattr__" "object.__setattr__" :=
  .of (owner := "object") (n := "__setattr__") h1 (by decide +kernel) (by decide +kernel) (by decide +kernel) (by first | exact .inr (by decide +kernel) | exact .inl (by decide +kernel)) h2
theorem osa_args (a b c : Value) : argsOk "object.__setattr__" ⟨[a, b, c], []⟩ := by
  unfold argsOk
  kernel_rfl
theorem st_KeyError : StoreFacts "KeyError" [.type "KeyError", .type "LookupError", .type "Exception", .type "BaseException", .type "object"] "object.__setattr__" "object" :=
  ⟨by kernel_rfl, osa_slot (by rw [typeLookup_type, builtinLookup_eq_fast]; kernel_rfl) (by rw [isSubtype_type]; kernel_rfl), F.entry_object_sa, by decide +kernel, by decide +kernel, by decide +kernel, osa_args, fun x => by kernel_rfl⟩
theorem st_IndexError : StoreFacts "IndexError" [.type "IndexError", .type "LookupError", .type "Exception", .type "BaseException", .type "object"] "object.__setattr__" "object" :=
  ⟨by kernel_rfl, osa_slot (by rw [typeLookup_type, builtinLookup_eq_fast]; kernel_rfl) (by rw [isSubtype_type]; kernel_rfl), F.entry_object_sa, by decide +kernel, by decide +kernel, by decide +kernel, osa_args, fun x => by kernel_rfl⟩
theorem st_LookupError : StoreFacts "LookupError" [.type "LookupError", .type "Exception", .type "BaseException", .type "object"] "object.__setattr__" "object" :=
  ⟨by kernel_rfl, osa_slot (by rw [typeLookup_type, builtinLookup_eq_fast]; kernel_rfl) (by rw [isSubtype_type]; kernel_rfl), F.entry_object_sa, by decide +kernel, by decide +kernel, by decide +kernel, osa_args, fun x => by kernel_rfl⟩
theorem st_RuntimeError : StoreFacts "RuntimeError" [.type "RuntimeError", .type "Exception", .type "BaseException", .type "object"] "object.__setattr__" "object" :=
  ⟨by kernel_rfl, osa_slot (by rw [typeLookup_type, builtinLookup_eq_fast]; kernel_rfl) (by rw [isSubtype_type]; kernel_rfl), F.entry_object_sa, by decide +kernel, by decide +kernel, by decide +kernel, osa_args, fun x => by kernel_rfl⟩
theorem st_OverflowError : StoreFacts "OverflowError" [.type "OverflowError", .type "ArithmeticError", .type "Exception", .type "BaseException", .type "object"] "object.__setattr__" "object" :=
  ⟨by kernel_rfl, osa_slot (by rw [typeLookup_type, builtinLookup_eq_fast]; kernel_rfl) (by rw [isSubtype_type]; kernel_rfl), F.entry_object_sa, by decide +kernel, by decide +kernel, by decide +kernel, osa_args, fun x => by kernel_rfl⟩
theorem if_KeyError : InitF "KeyError" "KeyError.__init__" :=
  ⟨.of (owner := "KeyError") (n := "__init__") (by rw [typeLookup_type, builtinLookup_eq_fast]; kernel_rfl) (by decide +kernel) (by decide +kernel) (by decide +kernel) (by first | exact .inr (by decide +kernel) | exact .inl (by decide +kernel)) (by rw [isSubtype_type]; kernel_rfl),
    entryFor_alias (id' := "BaseException.__init__") (by rw [fastTable_eq_tree]; kernel_rfl) (by first | decide +kernel | rfl) (by decide +kernel) (by rw [fastTable_eq_tree]; kernel_rfl), by kernel_rfl, by kernel_rfl, by decide +kernel⟩
theorem kx_KeyError : KxsFacts "KeyError" "KeyError.__init__" := ⟨show builtinType _ = _ by rw [builtinType_eq_fast]; kernel_rfl, by first | rfl | kernel_rfl⟩
end ExZ
end PySem

set_option maxHeartbeats 4000000
/-! Ex2: an own exception's __init__ that says super().__init__(..) and keeps its fields. -/
namespace PySem
namespace ExZ
open PySem.W PySem.Calls PyProof.Rows PySem.HandSPX
/-- a built-in base -/
structure BaseF (iB initId newId : String) (bmI : List Value) : Prop where
  ini : InitF iB initId
  kxs : KxsFacts iB initId
  st : StoreFacts iB bmI "object.__setattr__" "object"
  new : ∃ B iN bmB, ExcBaseFacts B newId iN bmB ∧ ∀ bm : List Value, (∀ X : String, bm.contains (.type X) = bmI.contains (.type X)) → NewT B bm bmB
theorem newT_same {B : String} {bm bmB : List Value} (h : ∀ X : String, bm.contains (.type X) = bmB.contains (.type X)) : NewT B bm bmB := ⟨h _, h _, h _⟩
theorem bf_ValueError : BaseF "ValueError" "ValueError.__init__" "ValueError.__new__" [.type "ValueError", .type "Exception", .type "BaseException", .type "object"] :=
  ⟨.of F.excBase_ValueError.toExcCallFacts, kxs_ValueError, F.store_ValueError, _, _, _, F.excBase_ValueError, fun _ h => newT_same h⟩
theorem bf_LookupError : BaseF "LookupError" "LookupError.__init__" "LookupError.__new__" [.type "LookupError", .type "Exception", .type "BaseException", .type "object"] :=
  ⟨.of F.excBase_LookupError.toExcCallFacts, kxs_LookupError, st_LookupError, _, _, _, F.excBase_LookupError, fun _ h => newT_same h⟩
theorem bf_IndexError : BaseF "IndexError" "IndexError.__init__" "IndexError.__new__" [.type "IndexError", .type "LookupError", .type "Exception", .type "BaseException", .type "object"] :=
  ⟨.of F.excBase_IndexError.toExcCallFacts, kxs_IndexError, st_IndexError, _, _, _, F.excBase_IndexError, fun _ h => newT_same h⟩
theorem bf_RuntimeError : BaseF "RuntimeError" "RuntimeError.__init__" "RuntimeError.__new__" [.type "RuntimeError", .type "Exception", .type "BaseException", .type "object"] :=
  ⟨.of F.excBase_RuntimeError.toExcCallFacts, kxs_RuntimeError, st_RuntimeError, _, _, _, F.excBase_RuntimeError, fun _ h => newT_same h⟩
theorem bf_OverflowError : BaseF "OverflowError" "OverflowError.__init__" "OverflowError.__new__" [.type "OverflowError", .type "ArithmeticError", .type "Exception", .type "BaseException", .type "object"] :=
  ⟨.of F.excBase_OverflowError.toExcCallFacts, kxs_OverflowError, st_OverflowError, _, _, _, F.excBase_OverflowError, fun _ h => newT_same h⟩
theorem bf_KeyError : BaseF "KeyError" "KeyError.__init__" "LookupError.__new__" [.type "KeyError", .type "LookupError", .type "Exception", .type "BaseException", .type "object"] :=
  ⟨if_KeyError, kx_KeyError, st_KeyError, _, _, _, F.excBase_LookupError, fun _ h => ⟨by rw [h]; decide +kernel, by rw [h]; decide +kernel, by rw [h]; decide +kernel⟩⟩

/-- what the written part says of an own exception class at C with its __init__ at fI -/
structure XcTxt (P : Program) (K : Frag) (C fI cda cc : Addr) (iB initId newId : String) (bmI : List Value) (fs : List Str) : Prop where
  bf : BaseF iB initId newId bmI
  qi : excInitIn K C bmI newId = true
  ov : excOver K C bmI = true
  hd : hasDictIn K C = true
  aS : findIn K (.ref C) "__setattr__" = some (some (.builtin "object.__setattr__"))
  aG : findIn K (.ref C) "__getattribute__" = some (some (.builtin "BaseException.__getattribute__"))
  aH : findIn K (.ref C) "__getattr__" = some none
  noN : ∀ p ∈ fs, findIn K (.ref C) p = some none
  aI : findIn K (.ref C) "__init__" = some (some (.ref fI))
  fnI : isFn K (.ref fI) = true
  sup : ks_superIn K C C "__init__" = some (some (.builtin initId))
  subB : subIn K (.ref C) (.type iB) = some true
  subC : mroIn K C (.ref C) = some true
  any : nsIn K cStatics "thirdparty.any" = some none
  kC : keepIn K (.ref C) = true
  eB : subIn K (.ref C) (.type "BaseException") = some true
  tB : typeIn K (.ref C) = some (.type "type")
  code : ∃ ccl cdd ccs vs file tf, K.lookup cda = some ⟨ccl, cdd, .fields vs, ccs⟩ ∧ vs[2]? = some (.str file tf) ∧ ((P.main.file : Str) == file) = true
  cell : ∃ cl cld csl, K.lookup cc = some ⟨cl, cld, .cell (some (.ref C)), csl⟩
  top : (P.main.scope.names.lookup ("super" : Str)).isSome = false
theorem take_none {K : Frag} {C : Addr} {f : Str} (h : findIn K (.ref C) f = some none) : takerIn K C f = some none := by
  unfold takerIn
  rw [h]
  rfl
section
variable {P : Program} {w : World} {A : Around} {E : Value → Shared → Prop} {R : Result → Shared → Prop} {h : Heap} {g : Array GenState} {d : Drawn} {t : Nat} {os : OsState}
variable {K : Frag} {C fI cda cc x t0 L : Addr} {iB initId newId : String} {bmI : List Value} {fs : List Str} {mg : Str → Option Value} {base : Heap} {m : Str → Option Value}

/-- super().__init__(..) -/
theorem sup_call (T : XcTxt P K C fI cda cc iB initId newId bmI fs) (Md : L2.Mod K mg base) (hsup : mg "super" = none) (hk0 : ∀ b o, base.get? b = some o → h.get? b = some o)
    {qual : Str} {pa : Arguments} {body : List Stmt} {sc : Scope} {dV kV doc pm ct : Value} {an od : Option Addr} {oc : Value} {osl : Array (Option Value)} {ar : Arg}
    (lk : K.lookup fI = some ⟨oc, od, .func (ksFn "__init__" qual pa body sc dV kV doc pm an (.ref cda) ct cc), osl⟩)
    (har : (pa.posonlyargs ++ pa.args).head? = some ar) (has : ar.arg = "self")
    (hn : h.Ns L m) (hms : m "self" = some (.ref x)) (hx : h.get? x = some (excO C t0)) (hxC : x ≠ C)
    (hks : sc.names.lookup ("super" : Str) = some .globalImplicit) (hkc : sc.names.lookup ("__class__" : Str) = some .free) (hka : sc.names.lookup ("self" : Str) = some .local) (hk : sc.kind = .function)
    {e : Expr} {rest : List Expr} {us : List Value} {p0 p1 p2 pos : Pos} {Q : Value → Shared → Prop}
    (hargs : ∀ (h' : Heap) (t' : Nat) (Q' : List Value → Shared → Prop), h'.Ns L m → Q' us ⟨h', g, d, t', os⟩ → wpAny (model P w) A (spliced (backTo pos (starEach (e :: rest) (ksEnv qual sc L fI (.ref cda) cc)))) Q' E ⟨h', g, d, t', os⟩) (hz : us.length ≤ sizeLine)
    (hst : starEach (e :: rest) (ksEnv qual sc L fI (.ref cda) cc) = (false, eval e (ksEnv qual sc L fI (.ref cda) cc)) :: starEach rest (ksEnv qual sc L fI (.ref cda) cc)) (hpl : (backTo pos (starEach rest (ksEnv qual sc L fI (.ref cda) cc))).any (·.1) = false)
    {pl : Sem Bool} (he : eval (.Call (.Attribute (.Call (.Name "super" p0) [] [] p1) "__init__" p2) (e :: rest) [] pos) (ksEnv qual sc L fI (.ref cda) cc) = (do
      let ov ← attributeBase (.Call (.Name "super" p0) [] [] p1) "__init__" (ksEnv qual sc L fI (.ref cda) cc) (eval (.Call (.Name "super" p0) [] [] p1) (ksEnv qual sc L fI (.ref cda) cc))
      standAt p2.atName
      let (f1, as1) ← holding [ov] (getMethod ov "__init__" pl)
      callWith pos f1 as1 (backTo pos (starEach (e :: rest) (ksEnv qual sc L fI (.ref cda) cc))) []))
    (hq : ∀ h' t1 tk, (∀ b o, b ≠ x → h.get? b = some o → h'.get? b = some o) → h'.get? x = some (excO C t1) → Q .none ⟨h', g, d, tk, os⟩) :
    _root_.PySem.wpAt (model P w) A (.func body (ksEnv qual sc L fI (.ref cda) cc)) (eval (.Call (.Attribute (.Call (.Name "super" p0) [] [] p1) "__init__" p2) (e :: rest) [] pos) (ksEnv qual sc L fI (.ref cda) cc)) Q E ⟨h, g, d, t, os⟩ := by
  have X : K.In h := Md.kin.keeps hk0
  obtain ⟨ccl, cdd, ccs, vs, file, tf, hcode, hvs, hfile⟩ := T.code
  obtain ⟨cl, cld, csl, hce⟩ := T.cell
  obtain ⟨nm, N', qn, bs, bm, hdct, sn, sub, ab, col, dd, k0, k1', k2', k3, k5, hC, hT⟩ := excInit_of X T.qi
  obtain ⟨mb, hb1, hb2⟩ := Md.blt
  have hsd : mb "super" = some (.type "super") := (hb2 "super" (by decide)).trans (by decide +kernel)
  refine ks_wpAt_MethodCall ?_ he
  refine ks_wpAt_super_base (env := ksEnv qual sc L fI (.ref cda) cc) hks hkc rfl rfl (X _ _ lk) rfl har rfl (X _ _ hcode) rfl hvs hfile T.top ?_
  refine ks_loadName_global hk hks (loadGlobal_builtin (env := ksEnv qual sc L fI (.ref cda) cc) (Md.glob.keeps hk0) hsup (hb1.keeps hk0) hsd ⟨rfl, ?_⟩)
  refine wpAny_loadName_free hk hkc rfl ⟨_, X _ _ hce, rfl⟩ ?_
  rw [has]
  refine wpAny_loadName_local hk hka hn hms ?_
  refine ks_wpAny_isType_cls hC rfl ⟨rfl, ?_⟩
  refine ks_wpAny_call_super hC rfl hx rfl (fun c e => by cases e) (looks_mroIn X T.subC) (fun h1 e1 k1 => ?_)
  have X1 : K.In h1 := X.keeps k1
  have I1 : InstAt h1 x (excO C t0) C none := ⟨k1 _ _ hx, rfl, rfl, trivial⟩
  have hI : Looks (model P w) h1 (isInstance (.ref x) (.type iB)) true := I1.type.andThen (looks_subIn X1 T.subB)
  have hsp := T.sup
  have hxs : h.objs.size ≠ x := fun z => absurd (Heap.lt_size hx) (by rw [z]; exact Nat.lt_irrefl _)
  cases hc : clsIn K C with
  | none => unfold ks_superIn at hsp; rw [hc] at hsp; cases hsp
  | some cd =>
    unfold ks_superIn at hsp
    rw [hc] at hsp
    refine kxs_getMethod T.bf.kxs e1 (looks_opaque X1 T.any) (l₀ := cd.mro) (fun A Q E s k q => wpAny_bind ((looks_clsIn X1 hc) A _ E s k (wpAny_pure q))) rfl X1 hsp hI hxC rfl ?_
    have k2 : ∀ b o, h1.get? b = some o → (h1.push (kxs_mw initId x)).get? b = some o := fun b o e => Heap.get?_push_of_some _ e
    have hu : (h1.push (kxs_mw initId x)).get? h1.objs.size = some (kxs_mw initId x) := Heap.get?_push_at rfl rfl
    show wpAny _ _ (callWith pos (.ref h1.objs.size) [] (backTo pos (starEach (e :: rest) (ksEnv qual sc L fI (.ref cda) cc))) []) _ _ _
    have hargs2 := hargs (h1.push (kxs_mw initId x)) (t + 1) (fun vs s₁ => KxsAt initId h1.objs.size x s₁.heap ∧ wpAny (model P w) A (call (.ref h1.objs.size) ([] ++ vs)) Q E s₁) ((hn.keeps k1).keeps k2) ⟨hu, call_mw T.bf.ini ⟨nm, qn, N', bs, sub, hdct, ab, sn, col, dd, k0, k1', k2', k3, k5, k2 _ _ (k1 _ _ hC)⟩ (k2 _ _ (k1 _ _ hx)) hu hz fun h' t1 k' e' => hq h' t1 _ (fun b o hb e => k' b o hb (k2 b o (k1 b o e))) e'⟩
    rw [hst] at hargs2 ⊢
    refine kxs_callWith (i := initId) (x := x) (by show (false || (backTo pos (starEach rest (ksEnv qual sc L fI (.ref cda) cc))).any (·.1)) = false; rw [hpl]; rfl) ?_
    exact evalArgs_plain hargs2
end
end ExZ
end PySem

set_option maxHeartbeats 4000000
/-! Ex3: fields kept, the whole __init__, the class called. -/
namespace PySem
namespace ExZ
open PySem.W PySem.Calls PyProof.Rows PySem.HandSPX
section
open Builtin Builtin.ObjectAttr
variable {P : Program} {w : World} {A : Around} {E : Value → Shared → Prop} {R : Result → Shared → Prop} {h : Heap} {g : Array GenState} {d : Drawn} {t : Nat} {os : OsState}
variable {K : Frag} {C fI cda cc x t0 L : Addr} {iB initId newId : String} {bmI : List Value} {fs : List Str} {mg : Str → Option Value} {base : Heap} {m : Str → Option Value}
theorem ost_new (T : XcTxt P K C fI cda cc iB initId newId bmI fs) (X : K.In h) {f : Str} {v : Value} {fv : Array Value} (hx : h.get? x = some { cls := .ref C, data := .fields fv }) (ha : findIn K (.ref C) f = some none) {Q : Unit → Shared → Prop}
    (k : ∀ h' tk' dx, (∀ b o, b ≠ x → h.get? b = some o → h'.get? b = some o) → h.objs.size ≤ dx → dx ≠ x → h'.get? x = some { cls := .ref C, dict := some dx, data := .fields fv } → h'.Ns1 dx (fun y => if y = f then some v else none) → Q () ⟨h', g, d, tk', os⟩) :
    wpAny (model P w) A (setAttr (.ref x) f v) Q E ⟨h, g, d, t, os⟩ := by
  have xn : x ≠ h.objs.size := fun z => absurd (Heap.lt_size hx) (by rw [← z]; exact Nat.lt_irrefl _)
  have I : InstAt h x { cls := .ref C, data := .fields fv } C none := ⟨hx, rfl, rfl, trivial⟩
  obtain ⟨⟨c1, c2, c3, c4, c5, hd, c7, c8, c9, c10, c11⟩, ec, hh⟩ := any_some (show (clsIn K C).any (·.hasDict) = true from T.hd)
  have lc : Looks (model P w) h (classData C) _ := looks_clsIn X ec
  obtain rfl : hd = true := hh
  refine set_plain X I T.aS (osa_openX T.bf.st X I T.ov (take_none ha) fun b => show wpAny _ _ (storeInOwnDict (.ref x) (.ref C) _ f v b) _ _ _ from ?_)
  unfold storeInOwnDict ownDictForStores; repeat (first | with_reducible refine lc.at ?_ | with_reducible refine wpAny_loadPart_at hx ?_ | with_reducible refine HandSPX.store_in_new ?_ ?_ | wp_step)
  · refine ⟨_, #[], _, (Heap.get?_update_ne _ _ _ _ (Ne.symm xn)).trans (Heap.get?_push_at rfl rfl), rfl, ?_, fun _ => rfl⟩
    exact fun y hy => absurd hy (by simp)
  · intro h' tk' n1 sm
    have old : ∀ b o, b ≠ x → h.get? b = some o → h'.get? b = some o := fun b o hb ho => by
      rw [sm.2 b (Nat.ne_of_lt (Heap.lt_size ho)), Heap.get?_update_ne _ _ _ _ hb]; exact Heap.get?_push_of_some _ ho
    refine k h' tk' h.objs.size old (Nat.le_refl _) (Ne.symm xn) ?_ n1
    rw [sm.2 x xn]
    exact Heap.get?_update_self _ (Heap.get?_push_of_some _ hx) rfl
theorem ost_old (T : XcTxt P K C fI cda cc iB initId newId bmI fs) (X : K.In h) {f : Str} {v : Value} {fv : Array Value} {dx : Addr} {m0 : Str → Option Value} {nl : List Str} (hx : h.get? x = some { cls := .ref C, dict := some dx, data := .fields fv }) (n0 : h.Ns1 dx m0) (hw : Within m0 nl) (hz : nl.length ≤ 1000) (ha : findIn K (.ref C) f = some none) {Q : Unit → Shared → Prop}
    (k : ∀ h' tk', (∀ b o, b ≠ dx → h.get? b = some o → h'.get? b = some o) → h'.Ns1 dx (fun y => if y = f then some v else m0 y) → Q () ⟨h', g, d, tk', os⟩) : wpAny (model P w) A (setAttr (.ref x) f v) Q E ⟨h, g, d, t, os⟩ := by
  obtain ⟨oD, _, _, hoD, _, _⟩ := n0.count hw
  have I : InstAt h x { cls := .ref C, dict := some dx, data := .fields fv } C (some oD) := ⟨hx, rfl, rfl, hoD⟩
  obtain ⟨⟨c1, c2, c3, c4, c5, hd, c7, c8, c9, c10, c11⟩, ec, hh⟩ := any_some (show (clsIn K C).any (·.hasDict) = true from T.hd)
  have lc : Looks (model P w) h (classData C) _ := looks_clsIn X ec
  obtain rfl : hd = true := hh
  refine set_plain X I T.aS (osa_openX T.bf.st X I T.ov (take_none ha) fun b => show wpAny _ _ (storeInOwnDict (.ref x) (.ref C) _ f v b) _ _ _ from ?_)
  unfold storeInOwnDict ownDictForStores; repeat (first | with_reducible refine lc.at ?_ | with_reducible refine wpAny_loadPart_at hx ?_ | with_reducible refine PySem.OEX.store_in_old n0 hw hz ?_ | wp_step)
  exact fun h' tk' n1 sm => k h' tk' (fun b o hb e => (sm.2 b hb).trans e) n1
end

/-! ### what __init__ is written like -/
def iA1 (p : Str) (p1 p2 : Pos) : Arguments := { posonlyargs := [], args := [{ arg := "self", annotation := none, pos := p1 }, { arg := p, annotation := none, pos := p2 }], vararg := none, kwonlyargs := [], kw_defaults := [], kwarg := none, defaults := [] }
def iB1 (p : Str) (q1 q2 q3 q4 q5 q6 q7 q8 q9 q10 : Pos) : List Stmt :=
  [.Expr (.Call (.Attribute (.Call (.Name "super" q1) [] [] q2) "__init__" q3) [.Name p q4] [] q5) q6, .Assign [.Attribute (.Name "self" q7) p q8] (.Name p q9) q10]
def iA2 (p r : Str) (p1 p2 p3 : Pos) : Arguments := { posonlyargs := [], args := [{ arg := "self", annotation := none, pos := p1 }, { arg := p, annotation := none, pos := p2 }, { arg := r, annotation := none, pos := p3 }], vararg := none, kwonlyargs := [], kw_defaults := [], kwarg := none, defaults := [] }
def iB2 (p r : Str) (q1 q2 q3 q4 q5 q6 q7 q8 q9 q10 q11 q12 q13 q14 q15 : Pos) : List Stmt :=
  [.Expr (.Call (.Attribute (.Call (.Name "super" q1) [] [] q2) "__init__" q3) [.Name p q4, .Name r q5] [] q6) q7, .Assign [.Attribute (.Name "self" q8) p q9] (.Name p q10) q11, .Assign [.Attribute (.Name "self" q12) r q13] (.Name r q14) q15]
/-- the scope: self and the parameters are local, super global, __class__ free -/
abbrev HEv (q1 q2 q3 pos : Pos) (es : List Expr) (env : Env) : Prop := ∃ pl : Sem Bool, eval (.Call (.Attribute (.Call (.Name "super" q1) [] [] q2) "__init__" q3) es [] pos) env = (do
      let ov ← attributeBase (.Call (.Name "super" q1) [] [] q2) "__init__" env (eval (.Call (.Name "super" q1) [] [] q2) env)
      standAt q3.atName
      let (f1, as1) ← holding [ov] (getMethod ov "__init__" pl)
      callWith pos f1 as1 (backTo pos (starEach es env)) [])
structure IScp (sc : Scope) (fs : List Str) : Prop where
  ks : sc.names.lookup ("super" : Str) = some .globalImplicit
  kc : sc.names.lookup ("__class__" : Str) = some .free
  ka : sc.names.lookup ("self" : Str) = some .local
  kp : ∀ p ∈ fs, sc.names.lookup p = some .local
  cells : ∀ x ∈ sc.names, x.2 ≠ .cell
  kind : sc.kind = .function
  co : sc.isCoroutine = false
  gen : sc.isGenerator = false
/-- behind __init__ of the new exception at x -/
structure InitEnd (h h' : Heap) (x C dx t1 : Addr) (mA : Str → Option Value) : Prop where
  stay : ∀ b o, b ≠ x → h.get? b = some o → h'.get? b = some o
  at_x : h'.get? x = some { cls := .ref C, dict := some dx, data := .fields #[.ref t1, .none, .none, .none, .bool false, .none] }
  dbig : h.objs.size ≤ dx
  dne : dx ≠ x
  ns : h'.Ns1 dx mA
theorem inter_of {env : Env} (h : env.scope.kind = .function) : interactive env = false := by simp [interactive, h]
theorem ldC {M : Model} {A : Around} {s : Shared} {env : Env} {m : Str → Option Value} {x : Str} {pos : Pos} {v : Value} {Q : Value → Shared → Prop} {E : Value → Shared → Prop} (hn : s.heap.Ns env.locals m) (hv : m x = some v) (hk : env.scope.kind = .function) (hl : env.kindOf x = some .local) (h : Q v s)
    (hd : (x == ("__debug__" : Str)) = false) : wpAny M A (eval (.Name x pos) env) Q E s := wpAny_Name (wpAny_loadName_local hk hl hn hv h) hd
section
variable {P : Program} {w : World} {A : Around} {E : Value → Shared → Prop} {R : Result → Shared → Prop} {s : Shared}
variable {K : Frag} {C fI cda cc x t0 : Addr} {iB initId newId : String} {bmI : List Value} {mg : Str → Option Value} {base : Heap}
theorem init1 {p : Str} (T : XcTxt P K C fI cda cc iB initId newId bmI [p]) (Md : L2.Mod K mg base) (hsup : mg "super" = none) (hk0 : ∀ b o, base.get? b = some o → s.heap.get? b = some o)
    {qual : Str} {sc : Scope} {dV kV doc pm ct : Value} {an od : Option Addr} {oc : Value} {osl : Array (Option Value)} {p1 p2 q1 q2 q3 q4 q5 q6 q7 q8 q9 q10 : Pos}
    (lk : K.lookup fI = some ⟨oc, od, .func (ksFn "__init__" qual (iA1 p p1 p2) (iB1 p q1 q2 q3 q4 q5 q6 q7 q8 q9 q10) sc dV kV doc pm an (.ref cda) ct cc), osl⟩) (hcd : codeIn K (.ref cda) qual = true)
    (hE : ∀ L : Addr, HEv q1 q2 q3 q5 [.Name p q4] (ksEnv qual sc L fI (.ref cda) cc))
    (S : IScp sc [p]) (hps : p ≠ "self") (hpd : (p == ("__debug__" : Str)) = false) {v : Value} {args : Args}
    (hbind : BindsTo s (ksFn "__init__" qual (iA1 p p1 p2) (iB1 p q1 q2 q3 q4 q5 q6 q7 q8 q9 q10) sc dV kV doc pm an (.ref cda) ct cc) args [("self", .ref x), (p, v)])
    (hx : s.heap.get? x = some (excO C t0)) (hnx : K.lookup x = none) (hroom : A.depth < recursionLimit)
    (hq : ∀ h' tk dx t1, InitEnd s.heap h' x C dx t1 (fun y => if y = p then some v else none) → R (.ok (.ret .none)) { s with heap := h', toks := tk }) :
    codeAny (model P w) A (.call (.ref fI) args) R s := by
  have X : K.In s.heap := Md.kin.keeps hk0
  have hxC : x ≠ C := fun z => by
    obtain ⟨nm, N', qn, bs, bm, hdct, sn, sub, ab, col, dd, k0, k1, k2, k3, k5, hC, hT⟩ := excInit_of X T.qi
    rw [z, hC] at hx
    cases hx
  have bC : ∀ b o, base.get? b = some o → b ≠ x ∨ K.lookup b = none := fun b o e => by
    by_cases z : b = x
    · exact .inr (z ▸ hnx)
    · exact .inl z
  refine ks_codeAny_call_defAt (fd := ksFn "__init__" qual (iA1 p p1 p2) (iB1 p q1 q2 q3 q4 q5 q6 q7 q8 q9 q10) sc dV kV doc pm an (.ref cda) ct cc) (body := iB1 p q1 q2 q3 q4 q5 q6 q7 q8 q9 q10) hroom (X _ _ lk) rfl (Md.nolimit.keeps hk0) (codeRec_of X hcd) rfl hbind S.cells (fun y hy => ?_) (fun h₁ hns hk₁ => ?_) S.co S.gen S.kind
  · simp only [List.mem_cons, List.not_mem_nil, or_false] at hy
    rcases hy with z | z <;> subst z
    · exact S.ka
    · exact S.kp _ List.mem_cons_self
  obtain ⟨hp, gs, dr, tk, os⟩ := s
  have hms : (fun y => List.lookup y (List.reverse [(("self" : Str), Value.ref x), (p, v)])) "self" = some (Value.ref x) := by
    have e : (("self" : Str) == p) = false := by simpa using fun z : ("self" : Str) = p => hps z.symm
    show List.lookup ("self" : Str) [(p, v), ("self", Value.ref x)] = _
    simp [List.lookup, e]
  have hmp : (fun y => List.lookup y (List.reverse [(("self" : Str), Value.ref x), (p, v)])) p = some v := by
    show List.lookup p [(p, v), ("self", Value.ref x)] = _
    simp [List.lookup]
  have kp : sc.names.lookup p = some .local := S.kp p List.mem_cons_self
  show _root_.PySem.wpAt (model P w) _ (.func _ (ksEnv qual sc hp.objs.size fI (.ref cda) cc)) (execs _ (ksEnv qual sc hp.objs.size fI (.ref cda) cc)) _ _ _
  have hx1 := hk₁ _ _ hx
  have hxL : hp.objs.size ≠ x := Nat.ne_of_gt (Heap.lt_size hx)
  obtain ⟨pl, he⟩ := hE hp.objs.size
  refine ks_wpAt_execs_cons (ks_wpAt_Expr_any (sup_call T Md hsup (fun b o e => hk₁ b o (hk0 b o e)) lk rfl rfl hns hms hx1 hxC S.ks S.kc S.ka S.kind (us := [v]) (fun h' t' Q' hn' hq' => ?_) (by show 1 ≤ sizeLine; rw [sizeLine_eq]; decide) rfl rfl he (fun h2 t1 tk2 k2 e2 => ?_)) (inter_of S.kind))
  · refine Calls.spliced_cons (ldC hn' hmp S.kind kp ?_ hpd)
    exact Calls.spliced_nil hq'
  · have hns2 : h2.Ns hp.objs.size _ := hns.at fun o e => k2 _ o hxL e
    have X2 : K.In h2 := fun a o e => k2 a o (fun z => by rw [z, hnx] at e; cases e) (hk₁ a o (X a o e))
    refine wpAt_of_wpAny (wpAny_execs_cons (plainObj_wpAny_Assign_Attribute ?_))
    refine ldC hns2 hmp S.kind kp (ldC hns2 hms S.kind S.ka ?_ rfl) hpd
    refine ost_new T X2 e2 (T.noN p List.mem_cons_self) (fun h3 tk3 dx k3 dn dne hx3 hn3 => ?_)
    show wpAny _ _ (execs [] _) _ _ _
    have z : hp.objs.size ≤ dx := Nat.le_of_lt (Nat.lt_of_lt_of_le hns2.lt dn)
    exact wpAny_execs_nil (hq h3 tk3 dx t1 ⟨fun b o hb e => k3 b o hb (k2 b o hb (hk₁ b o e)), hx3, z, dne, hn3⟩)
theorem init2 {p r : Str} (T : XcTxt P K C fI cda cc iB initId newId bmI [p, r]) (Md : L2.Mod K mg base) (hsup : mg "super" = none) (hk0 : ∀ b o, base.get? b = some o → s.heap.get? b = some o)
    {qual : Str} {sc : Scope} {dV kV doc pm ct : Value} {an od : Option Addr} {oc : Value} {osl : Array (Option Value)} {p1 p2 p3 q1 q2 q3 q4 q5 q6 q7 q8 q9 q10 q11 q12 q13 q14 q15 : Pos}
    (lk : K.lookup fI = some ⟨oc, od, .func (ksFn "__init__" qual (iA2 p r p1 p2 p3) (iB2 p r q1 q2 q3 q4 q5 q6 q7 q8 q9 q10 q11 q12 q13 q14 q15) sc dV kV doc pm an (.ref cda) ct cc), osl⟩) (hcd : codeIn K (.ref cda) qual = true)
    (hE : ∀ L : Addr, HEv q1 q2 q3 q6 [.Name p q4, .Name r q5] (ksEnv qual sc L fI (.ref cda) cc))
    (S : IScp sc [p, r]) (hps : p ≠ "self") (hrs : r ≠ "self") (hpr : p ≠ r) (hpd : (p == ("__debug__" : Str)) = false) (hrd : (r == ("__debug__" : Str)) = false) {v u : Value} {args : Args}
    (hbind : BindsTo s (ksFn "__init__" qual (iA2 p r p1 p2 p3) (iB2 p r q1 q2 q3 q4 q5 q6 q7 q8 q9 q10 q11 q12 q13 q14 q15) sc dV kV doc pm an (.ref cda) ct cc) args [("self", .ref x), (p, v), (r, u)])
    (hx : s.heap.get? x = some (excO C t0)) (hnx : K.lookup x = none) (hroom : A.depth < recursionLimit)
    (hq : ∀ h' tk dx t1, InitEnd s.heap h' x C dx t1 (fun y => if y = r then some u else if y = p then some v else none) → R (.ok (.ret .none)) { s with heap := h', toks := tk }) :
    codeAny (model P w) A (.call (.ref fI) args) R s := by
  have X : K.In s.heap := Md.kin.keeps hk0
  have hxC : x ≠ C := fun z => by
    obtain ⟨nm, N', qn, bs, bm, hdct, sn, sub, ab, col, dd, k0, k1, k2, k3, k5, hC, hT⟩ := excInit_of X T.qi
    rw [z, hC] at hx
    cases hx
  refine ks_codeAny_call_defAt (fd := ksFn "__init__" qual (iA2 p r p1 p2 p3) (iB2 p r q1 q2 q3 q4 q5 q6 q7 q8 q9 q10 q11 q12 q13 q14 q15) sc dV kV doc pm an (.ref cda) ct cc) (body := iB2 p r q1 q2 q3 q4 q5 q6 q7 q8 q9 q10 q11 q12 q13 q14 q15) hroom (X _ _ lk) rfl (Md.nolimit.keeps hk0) (codeRec_of X hcd) rfl hbind S.cells (fun y hy => ?_) (fun h₁ hns hk₁ => ?_) S.co S.gen S.kind
  · simp only [List.mem_cons, List.not_mem_nil, or_false] at hy
    rcases hy with z | z | z <;> subst z
    · exact S.ka
    · exact S.kp _ List.mem_cons_self
    · exact S.kp _ (List.mem_cons_of_mem _ List.mem_cons_self)
  obtain ⟨hp, gs, dr, tk, os⟩ := s
  have hms : (fun y => List.lookup y (List.reverse [(("self" : Str), Value.ref x), (p, v), (r, u)])) "self" = some (Value.ref x) := by
    have e : (("self" : Str) == p) = false := by simpa using fun z : ("self" : Str) = p => hps z.symm
    have e2 : (("self" : Str) == r) = false := by simpa using fun z : ("self" : Str) = r => hrs z.symm
    show List.lookup ("self" : Str) [(r, u), (p, v), ("self", Value.ref x)] = _
    simp [List.lookup, e, e2]
  have hmp : (fun y => List.lookup y (List.reverse [(("self" : Str), Value.ref x), (p, v), (r, u)])) p = some v := by
    have e2 : (p == r) = false := by simpa using hpr
    show List.lookup p [(r, u), (p, v), ("self", Value.ref x)] = _
    simp [List.lookup, e2]
  have hmr : (fun y => List.lookup y (List.reverse [(("self" : Str), Value.ref x), (p, v), (r, u)])) r = some u := by
    show List.lookup r [(r, u), (p, v), ("self", Value.ref x)] = _
    simp [List.lookup]
  have kp : sc.names.lookup p = some .local := S.kp p List.mem_cons_self
  have kr : sc.names.lookup r = some .local := S.kp r (List.mem_cons_of_mem _ List.mem_cons_self)
  show _root_.PySem.wpAt (model P w) _ (.func _ (ksEnv qual sc hp.objs.size fI (.ref cda) cc)) (execs _ (ksEnv qual sc hp.objs.size fI (.ref cda) cc)) _ _ _
  have hx1 := hk₁ _ _ hx
  have hxL : hp.objs.size ≠ x := Nat.ne_of_gt (Heap.lt_size hx)
  obtain ⟨pl, he⟩ := hE hp.objs.size
  refine ks_wpAt_execs_cons (ks_wpAt_Expr_any (sup_call T Md hsup (fun b o e => hk₁ b o (hk0 b o e)) lk rfl rfl hns hms hx1 hxC S.ks S.kc S.ka S.kind (us := [v, u]) (fun h' t' Q' hn' hq' => ?_) (by show 2 ≤ sizeLine; rw [sizeLine_eq]; decide) rfl rfl he (fun h2 t1 tk2 k2 e2 => ?_)) (inter_of S.kind))
  · refine Calls.spliced_cons (ldC hn' hmp S.kind kp ?_ hpd)
    refine Calls.spliced_cons (ldC hn' hmr S.kind kr ?_ hrd)
    exact Calls.spliced_nil hq'
  · have hns2 : h2.Ns hp.objs.size _ := hns.at fun o e => k2 _ o hxL e
    have X2 : K.In h2 := fun a o e => k2 a o (fun z => by rw [z, hnx] at e; cases e) (hk₁ a o (X a o e))
    refine wpAt_of_wpAny (wpAny_execs_cons (plainObj_wpAny_Assign_Attribute ?_))
    refine ldC hns2 hmp S.kind kp (ldC hns2 hms S.kind S.ka ?_ rfl) hpd
    refine ost_new T X2 e2 (T.noN p List.mem_cons_self) (fun h3 tk3 dx k3 dn dne hx3 hn3 => ?_)
    have hns3 : h3.Ns hp.objs.size _ := hns2.at fun o e => k3 _ o hxL e
    have X3 : K.In h3 := fun a o e => k3 a o (fun z => by rw [z, hnx] at e; cases e) (X2 a o e)
    have z : hp.objs.size < dx := Nat.lt_of_lt_of_le hns2.lt dn
    refine wpAny_execs_cons (plainObj_wpAny_Assign_Attribute (ldC hns3 hmr S.kind kr (ldC hns3 hms S.kind S.ka ?_ rfl) hrd))
    refine ost_old T X3 hx3 hn3 (Within.cons p v Within.nil) (by show 1 ≤ 1000; decide) (T.noN r (List.mem_cons_of_mem _ List.mem_cons_self)) (fun h4 tk4 k4 hn4 => ?_)
    show wpAny _ _ (execs [] _) _ _ _
    have db : ∀ b o, hp.get? b = some o → b ≠ dx := fun b o e => Nat.ne_of_lt (Nat.lt_trans (Heap.lt_size e) z)
    exact wpAny_execs_nil (hq h4 tk4 dx t1 ⟨fun b o hb e => k4 b o (db b o e) (k3 b o hb (k2 b o hb (hk₁ b o e))), k4 x _ (Ne.symm dne) hx3, Nat.le_of_lt z, dne, hn4⟩)

/-- a new exception at e, its dict at d -/
structure Made (h h' : Heap) (e C d : Addr) (mA : Str → Option Value) : Prop where
  stay : ∀ b o, h.get? b = some o → h'.get? b = some o
  new : h.objs.size ≤ e
  obj : ∃ t1 : Addr, h'.get? e = some { cls := .ref C, dict := some d, data := .fields #[.ref t1, .none, .none, .none, .bool false, .none] }
  dnew : h.objs.size ≤ d
  dne : d ≠ e
  ns : h'.Ns1 d mA
theorem out_of {K : Frag} {h : Heap} {a : Addr} (X : K.In h) (ha : h.objs.size ≤ a) : K.lookup a = none :=
  Option.eq_none_iff_forall_ne_some.mpr fun o q => absurd (Heap.lt_size (X a o q)) (Nat.not_lt.mpr ha)
theorem made {fs : List Str} (T : XcTxt P K C fI cda cc iB initId newId bmI fs) (X : K.In s.heap) {us : List Value} {kw : List (Str × Value)} {mA : Str → Option Value} (hroom : A.depth + 1 < recursionLimit) (hz : us.length ≤ sizeLine)
    (hinit : ∀ (x t0 : Addr) (A' : Around) (s' : Shared) (R' : Result → Shared → Prop), (∀ b o, s.heap.get? b = some o → s'.heap.get? b = some o) → s'.heap.get? x = some (excO C t0) → K.lookup x = none → A'.depth < recursionLimit →
      (∀ h' tk dx t1, InitEnd s'.heap h' x C dx t1 mA → R' (.ok (.ret .none)) { s' with heap := h', toks := tk }) → codeAny (model P w) A' (.call (.ref fI) ⟨.ref x :: us, kw⟩) R' s')
    (hq : ∀ h' tk e d, Made s.heap h' e C d mA → R (.ok (.ret (.ref e))) { s with heap := h', toks := tk }) :
    codeAny (model P w) A (.call (.ref C) ⟨us, kw⟩) R s := by
  obtain ⟨nm, N', qn, bs, bm, hdct, sn, sub, ab, col, dd, k0, k1, k2, k3, k5, hC, hT⟩ := excInit_of X T.qi
  obtain ⟨B, iN, bmB, FB, hTn⟩ := T.bf.new
  obtain ⟨oI, lI, hcI⟩ := Option.map_eq_some_iff.mp (show (K.lookup fI).map (·.cls) = some (.type "function") from beq_iff_eq.mp T.fnI)
  refine call_ownK FB (hTn bm hT) ⟨nm, qn, N', bs, sub, hdct, ab, sn, col, dd, k0, k1, k2, k3, k5, hC⟩ (looks_findIn X T.aI) (fun x => exc_bind (X _ _ lI) hcI x) hz ?_
  refine hinit (s.heap.objs.size + 1) s.heap.objs.size _ { s with heap := newH s.heap C us } _ (fun b o q => new_old q) new_at (out_of X (Nat.le_succ _)) (show A.depth + 1 < recursionLimit from hroom) fun h' tk' dx t1 N => ⟨rfl, hq h' tk' _ dx ⟨fun b o q => ?_, Nat.le_succ _, ⟨_, N.at_x⟩, ?_, N.dne, N.ns⟩⟩
  · exact N.stay b o (Nat.ne_of_lt (Nat.lt_succ_of_lt (Heap.lt_size q))) (new_old q)
  · have z := N.dbig
    have e : (newH s.heap C us).objs.size = s.heap.objs.size + 1 + 1 := (Heap.size_push _ _).trans (congrArg Nat.succ (Heap.size_push _ _))
    have z2 : s.heap.objs.size + 1 + 1 ≤ dx := e ▸ z
    exact Nat.le_trans (Nat.le_trans (Nat.le_succ _) (Nat.le_succ _)) z2
end
end ExZ
end PySem

set_option maxHeartbeats 4000000
/-! Ex4: own exceptions as values, over the layer. -/
namespace PySem
namespace ExZ
open PySem.W PySem.Calls PyProof.Rows PySem.HandSPX
section
variable {prog : Program} {w : World} {A : Around} {E : Value → Shared → Prop} {s : Shared} {K : Frag} {x D : Addr} {ox : Obj} {od : Option Obj}
theorem obj_bind {C : Addr} {f : Str} {a g : Value} (hc : (clsIn K C).isSome = true) (ha : findIn K (.ref C) f = some (some a)) (hg : specialIn K a "__get__" = some (some g)) (ht : takesIn K a = some true) : findObj K C od f = some (.bind g a) := by
  unfold findObj
  obtain ⟨cd, ec⟩ := Option.isSome_iff_exists.mp hc
  simp [ec, ha, hg, ht]
theorem own_ga : (Value.builtin "BaseException.__getattribute__" == Value.builtin "object.__getattribute__") = false := by decide +kernel
theorem cls_of (Y : L2.ExcC K D) : ∃ c0 d0 cd sl, K.lookup D = some ⟨c0, d0, .cls cd, sl⟩ := by
  obtain ⟨cd, ec, _⟩ := any_some (show (clsIn K D).any (·.hasDict) = true from Y.hd)
  unfold clsIn at ec; split at ec
  · exact ⟨_, _, _, _, ‹_›⟩
  · cases ec
/-- e.__class__, e an exception that may have its dict -/
theorem class_read (Y : L2.ExcC K D) (X : K.In s.heap) (I : InstAt s.heap x ox D od) {Q : Option Value → Shared → Prop} (k : Q (some (.ref D)) { s with toks := s.toks + 1 }) : wpAny (model prog w) A (getAttr? (.ref x) "__class__") Q E s := by
  have some_cls : (clsIn K D).isSome = true := by
    obtain ⟨c0, d0, cd, sl, e⟩ := cls_of Y
    unfold clsIn; rw [e]; rfl
  have lt : Looks (model prog w) s.heap (typeOf (.ref x)) (.ref D) := I.type
  have lg : Looks (model prog w) s.heap (typeLookup (.ref D) "__getattribute__") (some (.builtin "BaseException.__getattribute__")) := looks_findIn X Y.hg
  have lh : Looks (model prog w) s.heap (typeLookup (.ref D) "__getattr__") none := looks_findIn X Y.hk
  have lf := looks_find (M := model prog w) X I (obj_bind (od := od) some_cls Y.ha Y.hn Y.ht)
  have li : Looks (model prog w) s.heap (isInstance (.ref x) (.type "BaseException")) true := lt.andThen (looks_subIn X Y.hs)
  have n1 : (onTheHeap (.ref D) && Value.builtin "BaseException.__getattribute__" == Value.builtin "object.__getattribute__") = false := by rw [own_ga, Bool.and_false]
  have n2 : (false && onTheHeap (.builtin "BaseException.__getattribute__")) = false := Bool.false_and _
  obtain ⟨hp, gs, dr, tk, os⟩ := s
  -- the built-in's body: the descriptor of object is called
  have body : ∀ (A' : Around) (R : Fin → Shared → Prop) (E' : Value → Shared → Prop), R (.done (.ret (.ref D))) ⟨hp, gs, dr, tk + 1, os⟩ → wpAny (model prog w) A' (Builtin.«object.__getattribute__» ⟨[.ref x, .str "__class__" tk], []⟩) R E' ⟨hp, gs, dr, tk + 1, os⟩ := fun A' R E' q => by
    unfold Builtin.«object.__getattribute__»; refine wpAny_bind (wpAny_of_eq (a := ((.ref x : Value), [.str "__class__" tk])) (by first | (simp only [slotArgs]; rfl) | rfl) ?_)
    refine wpAny_bind (wpAny_pure (wpAny_bind (lt.at (wpAny_bind (lf.at ?_ )))))
    have q1 : wpAny (model prog w) A' (call (.builtin "getset_descriptor.__get__") [.builtin "object.__class__", .ref x, .ref D]) (fun v s' => wpAny (model prog w) A' (ret v) R E' s') E' ⟨hp, gs, dr, tk + 1, os⟩ := wpAny_call (class_get (s := ⟨hp, gs, dr, tk + 1, os⟩) (ox := ox) (od := od) X I Y.hm (wpAny_pure q))
    exact wpAny_bind (wpAny_holding q1)
  unfold getAttr? getAttrBy? getAttrBy; refine wpAny_bind (wpAny_mkText (wpAny_bind (wpAny_attempt (wpAny_holding (wpAny_bind (lt.at (wpAny_bind (lg.at ?_))))))))
  refine (show wpAny _ _ (if (onTheHeap (.ref D) && Value.builtin "BaseException.__getattribute__" == Value.builtin "object.__getattribute__") = true then _ else _) _ _ _ from ?_); rw [n1, if_neg Bool.false_ne_true]; unfold getAttrByItsOwn hookBefore; refine wpAny_bind ?_
  have oh : onTheHeap (Value.ref D) = true := rfl
  rw [if_pos oh]; refine lh.at ?_; refine wpAny_bind (wpAny_attempt (wpAny_holding ?_)); unfold callGetattribute; rw [n2, if_neg Bool.false_ne_true]; unfold boundAndCalled; rw [F.excAttr_ValueError.ga.bind (.ref x)]
  refine wpAny_bind (wpAny_pure (show wpAny _ _ (call (.builtin "BaseException.__getattribute__") [.ref x, .str "__class__" tk]) _ _ _ from wpAny_call (codeAny_call_builtin F.excAttr_ValueError.ga.plain F.entry_bexc_ga ?_)))
  refine (@check_slot (model prog w) _ _ ⟨hp, gs, dr, tk + 1, os⟩ "BaseException.__getattribute__" "BaseException" "__getattribute__" (.ref x) [.str "__class__" tk] [] _ (by decide +kernel) (by decide +kernel) li (F.args_bexc_ga (.ref x) (.str "__class__" tk)) (body _ _ _ ?_))
  refine (show wpAny _ _ (handedOut (.ref D)) _ _ _ from ?_); rw [handedOut_of (v := .ref D) (by rfl)]
  first | exact wpAny_pure (wpAny_pure k) | exact wpAny_pure (wpAny_bind (wpAny_pure (wpAny_pure k))) | exact wpAny_pure k
/-- isinstance asks such an exception rightly -/
theorem kit_exc (Y : L2.ExcC K D) : KitX K (.ref x) (.ref D) (fun h => InstAt h x ox D od) := by
  obtain ⟨c0, d0, cd, sl, e⟩ := cls_of Y
  refine ⟨fun _ _ _ I => I.type, fun _ _ X _ A' Q' E' s' k q => ?_, fun h tp _ _ _ _ X ht => ?_, fun X I k => class_read Y X I k⟩
  · unfold isType loadHead; exact wpAny_bind (wpAny_loadPart (k _ _ (X _ _ e)) (wpAny_pure q))
  · by_cases z : D = tp
    · rw [← z, X _ _ e] at ht
      cases ht
    · simp [z]
end
end ExZ
end PySem
namespace L2
open PySem PySem.Spec PyProof.Rows PySem.ExZ
/-- what calls the class at C: n values by place | by name, kept as the fields ns -/
structure MkX (P : Program) (w : World) (K : PySem.W.Frag) (mg : Str → Option Value) (base : Heap) (C : Addr) (kw : Bool) (ns : List Str) : Prop where
  run : Mod K mg base → ∀ (A : Around) (s : Shared) (R : Result → Shared → Prop) (us : List Value) (vs : List V), (∀ b o, base.get? b = some o → s.heap.get? b = some o) → A.depth + 1 < recursionLimit → Vals vs us → vs.length = ns.length →
    (∀ h' tk e d mA, Made s.heap h' e C d mA → (∀ f, RelO ((ns.zip vs).lookup f) (mA f)) → R (.ok (.ret (.ref e))) { s with heap := h', toks := tk }) →
    codeAny (model P w) A (.call (.ref C) (bif kw then ⟨[], ns.zip us⟩ else ⟨us, []⟩)) R s
  keeps : PySem.W.keepIn K (.ref C) = true
def tMkX (C : Addr) (ns : List Str) (ta : TA) : TE := fun σ H Q => ta σ H fun vs H1 => vs.length = ns.length ∧ ∀ e d, H1 e = none → H1 d = none → d ≠ e → Q (.ref e) (upd (upd H1 d (.xd (ns.zip vs))) e (Dc.ExcA C d e))
section
variable {X : Cx} {pins : List (Addr × Obj)} {σ : St} {H : Hp} {s : Shared} {C : Addr} {ns : List Str} {Q : VK}
theorem Inv.madeX {h' : Heap} {tk : Nat} {e d : Addr} {mA : Str → Option Value} {fs : List (Str × V)} (I : Inv X pins σ H s) (M : Made s.heap h' e C d mA) (r : ∀ f, RelO (fs.lookup f) (mA f)) (q : ∀ e d, H e = none → H d = none → d ≠ e → Q (.ref e) (upd (upd H d (.xd fs)) e (Dc.ExcA C d e))) :
    EP X pins σ Q (.ref e) { s with heap := h', toks := tk } := by
  obtain ⟨hp, gs, dr, t0, os⟩ := s
  obtain ⟨t1, hoe⟩ := M.obj
  -- the dict first, in a heap without the exception itself
  obtain ⟨G, gIn, gOut⟩ := restrict h' fun b => !decide (b = e)
  have at_ : ∀ {b : Addr}, b ≠ e → G.get? b = h'.get? b := fun {b} hb => gIn b (by simp [hb])
  have Ge : G.get? e = none := gOut e (by simp)
  have up : ∀ b o, hp.get? b = some o → G.get? b = some o := fun b o z => by
    have lo : b < hp.objs.size := Heap.lt_size z
    have hi : hp.objs.size ≤ e := M.new
    rw [at_ (Nat.ne_of_lt (Nat.lt_of_lt_of_le lo hi))]
    exact M.stay b o z
  have od : ObjOk X.prog X.w (upd H d (.xd fs)) G d (.xd fs) := ⟨mA, M.ns.at (fun o z => (at_ M.dne).trans z), r⟩
  have J : Inv X pins σ (upd H d (.xd fs)) ⟨G, gs, dr, tk, os⟩ := I.laid (t' := tk) up M.dnew od
  have he : H e = none := I.hok.fresh M.new
  have hd : H d = none := I.hok.fresh M.dnew
  have he1 : upd H d (.xd fs) e = none := (upd_ne (Ne.symm M.dne)).trans he
  have back : ∀ b o, G.get? b = some o → h'.get? b = some o := fun b o z => by
    by_cases y : b = e
    · rw [y, Ge] at z
      cases z
    · rw [← at_ y]
      exact z
  have ox : ObjOk X.prog X.w (upd (upd H d (.xd fs)) e (Dc.ExcA C d e)) h' e (Dc.ExcA C d e) := ⟨⟨_, _, hoe, rfl, rfl, rfl⟩, ⟨_, hoe⟩, fun _ _ ⟨oe, vs, z1, z2⟩ k => ⟨oe, vs, k _ z1, z2⟩⟩
  exact ⟨.ref e, _, Inv.laidN (s := ⟨G, gs, dr, tk, os⟩) (h' := h') (t' := tk) J back Ge he1 ox, rfl, q e d he hd M.dne⟩
/-- the class c called by place -/
theorem pe_mkX {x : Str} {e : Expr} {es : List Expr} {ta : TA} {p pos : Pos} {k : Nat} (M : MkX X.prog X.w X.K X.mg X.base C false ns) (hr : Room k X.A) (hg : Gl X x) (hm : X.mg x = some (.ref C)) (ha : PA X (e :: es) ta)
    (hdb : (x == ("__debug__" : Str)) = false := by decide) (hst : starEach (e :: es) X.env = (false, eval e X.env) :: starEach es X.env := by rfl) (hnk : (backTo pos (starEach es X.env)).any (·.1) = false := by rfl) :
    PE X (.Call (.Name x p) (e :: es) [] pos) (tMkX C ns ta) := .mk fun pins s σ H Q I h =>
  wpAny_Call_Name_kw (ld_glob I hg hm (PySem.W.callWith_K (h₀ := X.base) I.ok.mod.kin M.keeps (thn (ha.run pos pins s σ H _ I h) fun us s1 ⟨vs, H1, J, r, hl, q⟩ =>
    ⟨J.kIn, show wpAny _ _ (call (.ref C) us) _ _ _ from wpAny_call (M.run J.ok.mod X.A s1 _ us vs J.bk (by have := hr.dp; omega) r hl fun h' tk e d mA Md rr => J.madeX (tk := tk) Md rr q)⟩) hst hnk) hdb)
/-- .. by name -/
theorem pe_mkXK {x : Str} {kws : List Keyword} {tk : TA} {p pos : Pos} {k : Nat} (M : MkX X.prog X.w X.K X.mg X.base C true ns) (hr : Room k X.A) (hg : Gl X x) (hm : X.mg x = some (.ref C)) (hkw : PK X kws tk)
    (hall : (backToKw pos (keywordEach kws X.env)).all (·.1.isSome) = true := by rfl) (hks : (backToKw pos (keywordEach kws X.env)).filterMap (·.1) = ns := by rfl) (hdb : (x == ("__debug__" : Str)) = false := by decide)
    (hnk : ((backTo pos (starEach [] X.env)).any (·.1) || (backToKw pos (keywordEach kws X.env)).any (·.1.isNone)) = false := by rfl) : PE X (.Call (.Name x p) [] kws pos) (tMkX C ns tk) := .mk fun pins s σ H Q I h =>
  wpAny_Call_Name_kw (ld_glob I hg hm (PySem.W.callWith_KW0 (h₀ := X.base) I.ok.mod.kin M.keeps hall (thn (hkw.run pos pins s σ H _ I h) fun us s1 ⟨vs, H1, J, r, hl, q⟩ => by
    rw [hks]
    exact ⟨J.kIn, wpAny_call (M.run J.ok.mod X.A s1 _ us vs J.bk (by have := hr.dp; omega) r hl fun h' tk e d mA Md rr => J.madeX (tk := tk) Md rr q)⟩) hnk) hdb)
/-- x.n, x an exception -/
def tFx (K : PySem.W.Frag) (n : Str) (te : TE) : TE := fun σ H Q => te σ H fun x H1 => ∃ (a C d : Addr) (fs : List (Str × V)) (v : V), x = .ref a ∧ H1 a = some (Dc.ExcA C d a) ∧ XfC K C ∧ PySem.W.findIn K (.ref C) n = some none ∧ H1 d = some (.xd fs) ∧ fs.lookup n = some v ∧ Q v H1
/-- what lies in the heap for it -/
theorem excA_at {P : Program} {w : World} {H : Hp} {h : Heap} {C d a : Addr} {fs : List (Str × V)} (ok : HOk P w H h) (e : H a = some (Dc.ExcA C d a)) (ed : H d = some (.xd fs)) :
    ∃ (oe od : Obj) (mA : Str → Option Value), PySem.W.InstAt h a oe C (some od) ∧ (∀ f, PySem.W.lookIn f od = some (mA f)) ∧ ∀ f, RelO (fs.lookup f) (mA f) := by
  have x : ObjOk P w H h a (.ext fun h => ∃ (oe : Obj) (vs : Array Value), h.get? a = some oe ∧ oe.cls = .ref C ∧ oe.dict = some d ∧ oe.data = .fields vs) := ok a _ e
  have y : ObjOk P w H h d (.xd fs) := ok d _ ed
  obtain ⟨oe, vs, e1, e2, e3, e4⟩ := x.1
  obtain ⟨mA, n, r⟩ := y
  obtain ⟨od, eo, l⟩ := lookIn_ns n
  refine ⟨oe, od, mA, ⟨e1, e2, ?_, ?_⟩, l, r⟩
  · unfold PySem.W.notCls
    rw [e4]
  · rw [e3]
    exact eo
theorem pe_fx {e : Expr} {te : TE} {pos : Pos} {n : Str} (he : PE X e te) (hb : attributeBase e n X.env (eval e X.env) = eval e X.env := by rfl) : PE X (.Attribute e n pos) (tFx X.K n te) :=
  .mk fun pins s σ H Q I h => attr_of hb (thn (he.run pins s σ H _ I h) fun u s1 ⟨x, H1, J, rx, a, C, d, fs, v, ex, ea, T, hno, ed, l, q⟩ => by
    subst ex
    have eu : u = .ref a := rx
    subst eu
    obtain ⟨oe, od, mA, Y, lk, r⟩ := excA_at J.hok ea ed
    obtain ⟨w, ew, rw'⟩ := RelO.some_of (v := v) (o := mA n) (l ▸ r n)
    exact HandSPX.exc_get J.kIn Y T.ga T.gg T.exC (PySem.W.findObj_own T.hdC hno rfl ((lk n).trans (congrArg some ew))) (handed_of rw') ⟨v, H1, J.tok _, rw', q⟩)
/-- isinstance(x, c), x an exception -/
def rIsX (K : PySem.W.Frag) : List V → Hp → VK → Prop := fun xs H Q => ∃ (a D d : Addr) (fs : List (Str × V)) (c : V) (cv : Value) (b : Bool), xs = [.ref a, c] ∧ H a = some (Dc.ExcA D d a) ∧ H d = some (.xd fs) ∧ ExcC K D ∧ (∀ u, RelV c u → u = cv) ∧ PySem.W.kitOne K (.ref D) cv = some b ∧ Q (.bl b) H
theorem call_isX : CallR X (.builtin "isinstance") (rIsX X.K) := fun pins s σ H xs us Q I r ⟨a, D, d, fs, c, cv, b, ex, ea, ed, Y, hcv, ek, q⟩ => by
  subst ex
  match us, r with
  | [_, u2], .cons rx (.cons rt .nil) =>
    have eu := hcv _ rt
    subst eu
    cases rx
    obtain ⟨oe, od, mA, Z, _, _⟩ := excA_at I.hok ea ed
    exact PySem.W.kia_one (PySem.ExZ.kit_exc Y) I.kIn Z ek (fun z => nomatch z) fun tk => ⟨.bl b, H, I.kept (t' := tk) fun _ _ z => z, rfl, q⟩
end
end L2

set_option maxHeartbeats 1000000
/-! G0: promises that hold where no repr is under way. -/
namespace L2
open PySem PySem.Spec PyProof.Rows
/-- no repr is under way -/
def NoG (A : Around) : Prop := A.guards = some []
/-- FnOk, where no repr is under way -/
structure FnG (P : Program) (w : World) (K : PySem.W.Frag) (mg : Str → Option Value) (base : Heap) (CX : CXT) (k : Nat) (f : Addr) (fd : FuncData) (ps : List Str) (sp : Sp) : Prop where
  many : ∀ vs H Q E, sp vs H Q E → vs.length = ps.length
  go : ∀ (A : Around) (outer : List Env) (s : Shared) (H : Hp) (args : Args) (us : List Value) (vs : List V) (Q : VK) (E : XK), Room k A → NoG A → Env0 P w K mg base A outer s H → BindsTo s fd args (ps.zip us) → Vals vs us → sp vs H Q E → codeAny (model P w) A (.call (.ref f) args) (CR CX outer P w H s Q E) s
section
variable {P : Program} {w : World} {K : PySem.W.Frag} {mg : Str → Option Value} {base : Heap} {CX : CXT} {k : Nat} {f : Addr} {fd : FuncData} {ps : List Str} {sp : Sp}
theorem FnOk.g (F : FnOk P w K mg base CX k f fd ps sp) : FnG P w K mg base CX k f fd ps sp := ⟨F.len, fun A outer s H args us vs Q E hr _ => F.run A outer s H args us vs Q E hr⟩
/-- THE RULE, the body may use that no repr is under way -/
theorem FunD.okG {x qual : Str} {params : Arguments} {body : List Stmt} {scope : Scope} {dvs : List V} {kws : List (Str × V)} {N : List Str} (F : FunD K x qual params body scope dvs kws f fd) (S : FnScope N ps scope) (len : ∀ vs H Q E, sp vs H Q E → vs.length = ps.length)
    (hbody : ∀ (cdv : Value) (A : Around) (outer : List Env) (s : Shared) (H : Hp) (vs : List V) (Q : VK) (E : XK), Room k (A.deeper (envOfC qual scope s.heap.objs.size f cdv)) → NoG (A.deeper (envOfC qual scope s.heap.objs.size f cdv)) → sp vs H Q E →
      ∃ t, PSs (cxOf CX P w K mg base N qual scope f cdv A outer s H E) body t ∧ t { nx := fun _ H' => Q .non H', rt := Q } (start N vs) H) : FnG P w K mg base CX (k + 1) f fd ps sp := by
  refine ⟨len, fun A outer s H args us vs Q E hr hg e0 hb r hsp => ?_⟩
  -- the promise of this one call alone: nothing else is asked of the layer's rule
  let spA : Sp := fun vs' H' Q' E' => vs' = vs ∧ H' = H ∧ Q' = Q ∧ E' = E
  obtain ⟨oc, od, dV, kV, doc, pm, an, cdv, ct, osl, rfl, lk, hcd, hd, hk⟩ := F.ex
  have hl := len _ _ _ _ hsp
  have KX : K.In s.heap := e0.mod.kin.keeps fun b o z => (e0.bs b o z).1
  have e1 := hb
  have par : ∀ y ∈ ps.zip us, scope.names.lookup y.1 = some .local ∨ (scope.names.lookup y.1 = some .cell ∧ ((cellsFrom (s.heap.objs.size + 1) scope.names []).lookup y.1).isSome = true) := fun y hy =>
    (S.par y.1 (List.of_mem_zip (show (y.1, y.2) ∈ ps.zip us from hy)).1).imp_right fun q => ⟨q, PySem.W.cellsFrom_some _ _ _ (.inl q)⟩
  refine codeAny_call_function hr.depth (KX _ _ lk) rfl S.co S.gen rfl (PySem.W.codeRec_of KX hcd) (e1 _ _ _ _ (wpAny_newFunctionEnv_cells S.kind par fun env he s1 x => ?_))
  subst he
  obtain ⟨t, ht, hq⟩ := hbody cdv A outer s H vs Q E (hr.deeper _) (show A.guards = some [] from hg) hsp
  have J0 := inv_start (CX := CX) (E := E) S hr.hd e0 hl r x
  refine ⟨(e0.mod.nolimit.keeps fun b o e => (e0.bs b o e).1).keeps x.toInCall.keep, codeAny_func (wpAny_mono (ht.run [] s1 (start N vs) H _ J0 hq) (fun fl s' hs => ?_) fun _ _ z => z)⟩
  have out : ∀ {σ' : St} {H' : Hp} {v : V} {u : Value}, Inv (cxOf CX P w K mg base N qual scope f cdv A outer s H E) [] σ' H' s' → RelV v u → Q v H' → CE outer P w H s Q u s' :=
    fun J rv q => ⟨_, _, J.os, J.bare, J.base, J.hok, rv, q⟩
  match fl, hs with
  | .ret _, ⟨_, _, _, J, rv, q⟩ => exact out J rv q
  | .next, ⟨_, _, J, q⟩ => exact out (v := .non) (u := .none) J rfl q
  | .brk, ⟨_, _, _, q⟩ => exact q.elim
  | .cont, ⟨_, _, _, q⟩ => exact q.elim
end
section
variable {X : Cx} {CX : CXT} {k : Nat} {f : Addr} {fd : FuncData} {ps : List Str} {sp : Sp} {dvs : List V} {ds : List Value} {E : XK} {x : Str} {p pos : Pos} {e : Expr} {es : List Expr} {t : TA}
/-- f(e, ..) where no repr is under way -/
theorem pe_callG (F : FnG X.prog X.w X.K X.mg X.base CX k f fd ps sp) (hr : Room k X.A) (hG : NoG X.A) (hg : Gl X x) (hm : X.mg x = some (.ref f)) (hk : PySem.W.keepIn X.K (.ref f) = true) (hb : Binds X.K fd ps ds) (hd : Vals dvs ds) (hx : Passes CX X E)
    (ha : PA X (e :: es) t) (hdb : (x == ("__debug__" : Str)) = false := by decide) (hst : starEach (e :: es) X.env = (false, eval e X.env) :: starEach es X.env := by rfl) (hnk : (backTo pos (starEach es X.env)).any (·.1) = false := by rfl) : PE X (.Call (.Name x p) (e :: es) [] pos) (tCall sp dvs E t) := by
  constructor
  intro pins s σ H Q I h
  refine wpAny_Call_Name_kw (ld_glob I hg hm (PySem.W.callWith_K (h₀ := X.base) I.ok.mod.kin hk (thn (ha.run pos pins s σ H _ I h) ?_) hst hnk) hdb)
  rintro us s1 ⟨vs, H1, I1, r, q⟩
  have r2 : Vals (vs ++ dvs) (us ++ ds) := Vals.append r hd
  refine ⟨I1.kIn, wpAny_call (codeAny_mono (F.go X.A X.stack s1 H1 ⟨us, []⟩ (us ++ ds) (vs ++ dvs) Q E hr hG I1.env0 (hb s1 us I1.kIn (r2.length.symm.trans (F.many _ _ _ _ q))) r2 q) fun r s' hq => ?_)⟩
  match r, hq with
  | .error e, hq => exact hx pins σ H1 s1 e s' I1 hq
  | .ok (.ret u), hq => exact I1.after hq
end
/-- the law's promise at the heap behind the top -/
theorem law_callG {P : Program} {w : World} {K : PySem.W.Frag} {mg mb : Str → Option Value} {CX : CXT} {k : Nat} {fa a : Addr} {fd : FuncData} {x : Str} {sp : Sp} {s1 : Shared} {vs : List Value} {ns : List Int}
    (KX : K.In s1.heap) (hns : s1.heap.Ns mainGlobals mg) (hb : s1.heap.Ns builtinsNs mb) (hbb : ∀ x : Str, x ≠ "__name__" → mb x = bootBuiltins x) (hlim : s1.heap.NoLimit) (hg : s1.gens = #[])
    (ha : s1.heap.get? a = some { cls := .type "list", data := .seq vs.toArray }) (hi : IntsAre vs ns) (hl : ns.length ≤ sizeLine) (hr : Room k callerA)
    (F : ∀ base : Heap, K.In base → base.Ns mainGlobals mg → FnG P w K mg base CX k fa fd [x] sp) (hbind : ∀ (s : Shared) (u : Value), BindsTo s fd ⟨[u], []⟩ [(x, u)])
    (hsp : ∀ H : Hp, Only H → SqL K H a (ns.map V.int) → sp [.ref a] H (fun v _ => v = .bl true) fun _ _ _ => False) (hCX : ∀ H e s', CX [] H s1 (fun _ _ _ => False) e s' → False) :
    codeAny (model P w) callerA (.call (.ref fa) ⟨[.ref a], []⟩) (fun r s' => r = .ok (.ret (.bool true)) ∧ OldK s1.heap s'.heap ∧ s'.os = s1.os ∧ AllBare s'.gens) s1 := by
  have rv := vals_ints hi
  -- the script: tracked (and frozen) unless the written part has it
  obtain ⟨ob, eob⟩ : ∃ ob : Obj, ob = { cls := .type "list", data := .seq vs.toArray } := ⟨_, rfl⟩
  rw [← eob] at ha
  obtain ⟨H, hHa, hHn, hS⟩ : ∃ H : Hp, (∀ b u, H b = some u → b = a ∧ K.lookup a = none ∧ u = .frz ob (.lst (ns.map V.int))) ∧ (K.lookup a = none → H a = some (.frz ob (.lst (ns.map V.int)))) ∧ SqL K H a (ns.map V.int) := by
    rcases (show K.lookup a = none ∨ ∃ o, K.lookup a = some o by cases K.lookup a <;> simp) with q | ⟨o, q⟩
    · refine ⟨fun b => if b = a then some (.frz ob (.lst (ns.map V.int))) else none, fun b u z => ?_, fun _ => if_pos rfl, .inl (.inr ⟨ob, if_pos rfl⟩)⟩
      by_cases hb : b = a
      · have z2 := (if_pos hb).symm.trans z
        cases z2
        exact ⟨hb, q, rfl⟩
      · have z2 := (if_neg hb).symm.trans z
        cases z2
    · have z := KX a o q
      rw [ha] at z
      cases z
      subst eob
      exact ⟨fun _ => none, fun b u z => (by cases z), fun z => (by rw [q] at z; cases z), .inr ⟨_, vs.toArray, _, q, rfl, rfl, rfl, by rw [List.size_toArray, hi.length]; exact hl, by simpa using rv⟩⟩
  have hok : HOk P w H s1.heap := fun b u z => by
    obtain ⟨rfl, _, rfl⟩ := hHa b u z
    have h2 := ha
    rw [eob] at h2
    exact ⟨ha, (by rw [List.length_map]; exact hl : (ns.map V.int).length ≤ sizeLine), vs, _, rv, h2⟩
  have old : ∀ {b : Addr} {o : Obj}, s1.heap.get? b = some o → o.data ≠ .seq vs.toArray _ → (hidT s1.heap H).get? b = some o := fun {b o} e d => hidT_get e (by
    cases q : H b with
    | none => rfl
    | some u =>
      obtain ⟨rfl, _, _⟩ := hHa b u q
      rw [ha] at e
      cases e
      exact absurd (by rw [eob]) d)
  have nsK : ∀ {b : Addr} {m : Str → Option Value}, s1.heap.Ns b m → (hidT s1.heap H).Ns b m := fun ⟨o, es, ep, e, d, z⟩ => ⟨o, es, ep, old e (by rw [d]; exact fun q => nomatch q), d, z⟩
  have hKb : K.In (hidT s1.heap H) := fun b o e => hidT_get (KX b o e) (by
    cases q : H b with
    | none => rfl
    | some u =>
      obtain ⟨rfl, n, _⟩ := hHa b u q
      rw [n] at e
      cases e)
  have hM : Mod K mg (hidT s1.heap H) := ⟨hKb, nsK hns, ⟨mb, nsK hb, hbb⟩, hlim.imp fun mc h => ⟨nsK h.1, h.2⟩⟩
  have e0 : Env0 P w K mg (hidT s1.heap H) callerA [] s1 H := ⟨rfl, hM, fun b o e => of_hidT e, Nat.le_of_eq (hidT_size _ _), trivial, fun b hb => absurd (show b ∈ ([] : List Addr) from hb) List.not_mem_nil, hok, .of_eq hg⟩
  have hO : Only H := fun b => by
    cases q : H b with
    | none => exact .inl rfl
    | some u =>
      obtain ⟨_, _, rfl⟩ := hHa b u q
      exact .inr ⟨_, _, rfl⟩
  refine codeAny_mono ((F _ hKb (nsK hns)).go callerA [] s1 H ⟨[.ref a], []⟩ [.ref a] [.ref a] _ _ hr rfl e0 (hbind s1 (.ref a)) (.cons rfl .nil) (hsp H hO hS)) fun r s' h => ?_
  match r, h with
  | .error e, h => exact (hCX H e s' h).elim
  | .ok (.ret u), ⟨v, H', os, bare, un, hok', r', q⟩ =>
    have q' : v = .bl true := q
    subst q'
    have eu : u = .bool true := r'
    subst eu
    refine ⟨rfl, .of_keep fun b o e => ?_, os, bare⟩
    cases q : H b with
    | none => exact un.keep b o e q (fun z => by cases z) (fun z => by cases z)
    | some u =>
      obtain ⟨rfl, _, rfl⟩ := hHa b u q
      have z := (hok' b _ (un.frzs b ob _ q)).1
      rw [ha] at e
      cases e
      exact z
/-- a law over a head by facts: F gives the written part, the function object, the promise over every base -/
theorem walk_ofG {l : PySem.W.OpenLaw} {n k : Nat} {q : Program} {loose : List Str} {XP : (Str → Option Value) → Heap → Prop} {YP : World → Heap → Prop} {d : DefRec} {CX : CXT} {x : Str}
    (most : l.most = some n) (few : n ≤ sizeLine) (noDfl : d.params.defaults = []) (room : Room k callerA)
    (F : ∀ (w : World) (mg : Str → Option Value) (f : Addr) (h : Heap), YP w h → h.Ns mainGlobals mg → mg d.name = some (.ref f) → ∃ (K : PySem.W.Frag) (fd : FuncData) (sp : Sp), K.In h ∧ (∀ (s : Shared) (u : Value), BindsTo s fd ⟨[u], []⟩ [(x, u)]) ∧
      (∀ (H : Hp) (a : Addr) (ns : List Int), ns.length ≤ n → Only H → SqL K H a (ns.map V.int) → sp [.ref a] H (fun z _ => z = .bl true) fun _ _ _ => False) ∧ ∀ base : Heap, K.In base → base.Ns mainGlobals mg → FnG l.prog w K mg base CX k f fd [x] sp)
    (none_out : ∀ (H : Hp) (s : Shared) (e : Value) (s' : Shared), CX [] H s (fun _ _ _ => False) e s' → False) : PySem.W.WalkO q loose XP YP l.row.toRowW d [] (fun f vs => PySem.call f vs) :=
  Att.attach_call most noDfl fun w s0 s1 mg mb f o pm cd doc a vs ns G Y ho hd hcd hmg hobj hints hlen hg =>
    let ⟨_, _, _, KX, hb, hsp, hF⟩ := F w mg f _ Y G.T.g hmg
    law_callG KX G.T.g G.T.b G.T.builtins G.T.nolimit hg hobj hints (Nat.le_trans hlen few) room hF hb (fun H hO hS => hsp H a ns hlen hO hS) fun H e s' => none_out H s1 e s'
end L2

set_option maxHeartbeats 1000000
/-! Dc5: texts of data; own exceptions as data. -/
namespace Dc
open PySem PySem.Spec PyProof.Rows L2
/-! ### repr -/
mutual
def D.pyR : D → Option PyData
  | .non => some .none
  | .bl b => some (.bool b)
  | .int i => some (.int i)
  | .str x => some (.str x)
  | .lst xs => (D.pyRs xs).map .list
  | .tup xs => (D.pyRs xs).map .tuple
  | .dct ks vs => match D.pyKs ks, D.pyRs vs with
    | some a, some b => some (.dict (a.zip b))
    | _, _ => none
  | _ => none
def D.pyRs : List D → Option (List PyData)
  | [] => some []
  | x :: xs => match D.pyR x, D.pyRs xs with
    | some y, some ys => some (y :: ys)
    | _, _ => none
/-- keys: ints and texts alone -/
def D.pyKs : List D → Option (List PyData)
  | [] => some []
  | .int i :: xs => (D.pyKs xs).map (.int i :: ·)
  | .str x :: xs => (D.pyKs xs).map (.str x :: ·)
  | _ :: _ => none
end
theorem pyRs_cons {d : D} {xs : List D} {ys : List PyData} (h : D.pyRs (d :: xs) = some ys) : ∃ z zs, D.pyR d = some z ∧ D.pyRs xs = some zs ∧ ys = z :: zs := by
  unfold D.pyRs at h
  cases e1 : D.pyR d with
  | none =>
    rw [e1] at h
    cases h
  | some z =>
    cases e2 : D.pyRs xs with
    | none =>
      rw [e1, e2] at h
      cases h
    | some zs =>
      rw [e1, e2] at h
      cases h
      exact ⟨z, zs, rfl, rfl, rfl⟩
def kP : Key → PyData
  | .inl i => .int i
  | .inr s => .str s
theorem pyKs_dK : ∀ {ks : List Key} {ps : List PyData}, D.pyKs (ks.map kD) = some ps → ps = ks.map kP
  | [], _, h => by cases h; rfl
  | .inl i :: ks, ps, h => by
    have h : (D.pyKs (ks.map kD)).map (.int i :: ·) = some ps := h
    cases e : D.pyKs (ks.map kD) with
    | none => rw [e] at h; exact nomatch h
    | some zs =>
      rw [e] at h
      cases h
      rw [pyKs_dK e]
      rfl
  | .inr s :: ks, ps, h => by
    have h : (D.pyKs (ks.map kD)).map (.str s :: ·) = some ps := h
    cases e : D.pyKs (ks.map kD) with
    | none => rw [e] at h; exact nomatch h
    | some zs =>
      rw [e] at h
      cases h
      rw [pyKs_dK e]
      rfl
theorem keys_read {P : Program} {w : World} {h : Heap} : ∀ {es : List DictEntry} {kvs : List (Key × Value)}, Pairs (mixKind P w) es kvs → ReadsAll h (es.map (·.key)) (kvs.map fun p => kP p.1) []
  | _, _, .nil => .nil
  | _, _, @Pairs.cons _ _ _ _ _ e kv es kvs hk hv r => by
    have q := keys_read (h := h) r
    have r1 : Reads h e.key (kP kv.1) [] := by
      rcases keyIs_shape (show keyIs kv.1 e.key = true from hk) with ⟨i, t, e1, e2⟩ | ⟨z, t, e1, e2⟩
      · rw [e1, e2]
        exact .int i t
      · rw [e1, e2]
        exact .str z t
    exact ReadsAll.cons r1 q
theorem vals_of {P : Program} {w : World} : ∀ {es : List DictEntry} {kvs : List (Key × Value)}, Pairs (mixKind P w) es kvs → es.map (·.val) = kvs.map (·.2)
  | _, _, .nil => rfl
  | _, _, @Pairs.cons _ _ _ _ _ e kv es kvs hk hv r => by
    show e.val :: es.map (·.val) = kv.2 :: kvs.map (·.2)
    rw [hv, vals_of r]
theorem kv_vals : ∀ {kvs : List (Key × V)} {us : List (Key × Value)}, KV kvs us → Vals (kvs.map (·.2)) (us.map (·.2)) ∧ kvs.map (·.1) = us.map (·.1)
  | _, _, .nil => ⟨.nil, rfl⟩
  | _, _, .cons ⟨e, r⟩ t => ⟨.cons r (kv_vals t).1, by rw [List.map_cons, List.map_cons, e, (kv_vals t).2]⟩
theorem zip_fst {α β : Type} : ∀ {as : List α} {bs : List β}, as.length = bs.length → (as.zip bs).map (·.1) = as
  | [], [], _ => rfl
  | a :: as, b :: bs, h => by
    rw [List.zip_cons_cons, List.map_cons, zip_fst (by simpa using h)]
theorem zip_snd {α β : Type} : ∀ {as : List α} {bs : List β}, as.length = bs.length → (as.zip bs).map (·.2) = bs
  | [], [], _ => rfl
  | a :: as, b :: bs, h => by
    rw [List.zip_cons_cons, List.map_cons, zip_snd (by simpa using h)]
theorem pyRs_len : ∀ {ds : List D} {ps : List PyData}, D.pyRs ds = some ps → ds.length = ps.length
  | [], _, h => by cases h; rfl
  | d :: ds, ps, h => by
    obtain ⟨z, zs, e1, e2, rfl⟩ := pyRs_cons h
    exact congrArg Nat.succ (pyRs_len e2)
section
variable {T : Tab} {X : Cx} {pins : List (Addr × Obj)} {σ : L2.St} {H : Hp} {s : Shared}
mutual
theorem At.reads (hK : T.K = X.K) (I : Inv X pins σ H s) : ∀ {v : V} {d : D} {e : PyData} {u : Value}, At T H v d → D.pyR d = some e → RelV v u → ∃ as, Reads s.heap u e as ∧ ∀ b ∈ as, H b ≠ none
  | _, _, _, _, .non, q, r => by cases q; cases r; exact ⟨_, .none, fun b hb => by cases hb⟩
  | _, _, _, _, .bl b, q, r => by cases q; cases r; exact ⟨_, .bool b, fun b hb => by cases hb⟩
  | _, _, _, _, .int i, q, r => by cases q; obtain ⟨t, rfl⟩ := r; exact ⟨_, .int i t, fun b hb => by cases hb⟩
  | _, _, _, _, .str x, q, r => by cases q; obtain ⟨t, rfl⟩ := r; exact ⟨_, .str x t, fun b hb => by cases hb⟩
  | _, _, _, _, @At.lst _ _ a vs ds h t, q, r => by
    unfold D.pyR at q
    cases e1 : D.pyRs ds with
    | none => rw [e1] at q; cases q
    | some zs =>
      rw [e1] at q
      cases q
      cases r
      obtain ⟨its, rv, ⟨o, n, ho, hc, _, hd⟩, _⟩ := I.list (SqL.of h)
      obtain ⟨as, hr, hn⟩ := AtAll.reads hK I t e1 rv
      refine ⟨_, .list ho hc hd hr, fun b hb => ?_⟩
      rcases (List.mem_cons.mp hb : b = a ∨ _) with z | z
      · rw [z, h]
        exact fun q => nomatch q
      · exact hn b z
  | _, _, _, _, @At.tup _ _ a vs ds h t, q, r => by
    unfold D.pyR at q
    cases e1 : D.pyRs ds with
    | none => rw [e1] at q; cases q
    | some zs =>
      rw [e1] at q
      cases q
      cases r
      obtain ⟨its, rv, ⟨o, ho, hc, n, hd⟩, _⟩ := I.tuple (hK ▸ h)
      obtain ⟨as, hr, hn⟩ := AtAll.reads hK I t e1 rv
      exact ⟨_, .tuple ho hc hd hr, hn⟩
  | _, _, _, _, @At.dK _ _ a kvs ds h t, q, r => by
    unfold D.pyR at q
    have km : (kvs.map fun p => kD p.1) = (kvs.map (·.1)).map kD := by rw [List.map_map]; rfl
    cases e0 : D.pyKs (kvs.map fun p => kD p.1) with
    | none => rw [e0] at q; cases q
    | some ps =>
      cases e1 : D.pyRs ds with
      | none => rw [e0, e1] at q; cases q
      | some zs =>
        rw [e0, e1] at q
        cases q
        cases r
        obtain ⟨hl, hs, us, kv, o, es, ep, ho, hx, hd, _, pr, _⟩ := I.hok a _ h
        obtain ⟨rv, rk⟩ := kv_vals kv
        rw [← vals_of pr] at rv
        obtain ⟨as, hr, hn⟩ := AtAll.reads hK I t e1 rv
        have ek : ps = us.map fun p => kP p.1 := by
          rw [km] at e0
          rw [pyKs_dK e0, rk, List.map_map]
          rfl
        have hle : ps.length = zs.length := by
          rw [ek, ← pyRs_len e1, ← t.length, List.length_map, List.length_map, ← kv.length]
        have k1 : ReadsAll s.heap (es.toList.map (·.key)) ((ps.zip zs).map (·.1)) [] := by
          rw [zip_fst hle, ek]
          exact keys_read pr
        have k2 : ReadsAll s.heap (es.toList.map (·.val)) ((ps.zip zs).map (·.2)) as := by
          rw [zip_snd hle]
          exact hr
        refine ⟨_, .dict ho hx.1 hd k1 k2, fun b hb => ?_⟩
        rcases (List.mem_cons.mp hb : b = a ∨ _) with z | z
        · rw [z, h]
          exact fun q => nomatch q
        · exact hn b z
  | _, _, _, _, @At.dT _ _ a kvs ds h t, q, r => by
    unfold D.pyR at q
    cases kvs with
    | nil =>
      cases t
      have q : (some (.dict []) : Option PyData) = some _ := q
      cases q
      cases r
      obtain ⟨hl, hs, us, kv, o, es, ep, ho, hx, hd, he, _⟩ := I.hok a _ h
      cases kv
      have k1 : ReadsAll s.heap (es.toList.map (·.key)) ([] : List (PyData × PyData)).unzip.1 [] := by rw [he]; exact .nil
      have k2 : ReadsAll s.heap (es.toList.map (·.val)) ([] : List (PyData × PyData)).unzip.2 [] := by rw [he]; exact .nil
      refine ⟨_, .dict ho hx.1 hd (kvs := []) (as := []) (bs := []) (by rw [he]; exact .nil) (by rw [he]; exact .nil), fun b hb => ?_⟩
      rcases (List.mem_cons.mp hb : b = a ∨ _) with z | z
      · rw [z, h]
        exact fun q => nomatch q
      · cases z
    | cons p ps =>
      have q : (match (none : Option (List PyData)), D.pyRs ds with
        | some a, some b => some (PyData.dict (a.zip b))
        | _, _ => none) = some _ := q
      cases q
  | _, _, _, _, .ins _ _, q, _ => by unfold D.pyR at q; cases q
  | _, _, _, _, .exc _ _ _, q, _ => by unfold D.pyR at q; cases q
  | _, _, _, _, .pen _, q, _ => by unfold D.pyR at q; cases q
theorem AtAll.reads (hK : T.K = X.K) (I : Inv X pins σ H s) : ∀ {vs : List V} {ds : List D} {es : List PyData} {us : List Value}, AtAll T H vs ds → D.pyRs ds = some es → Vals vs us → ∃ as, ReadsAll s.heap us es as ∧ ∀ b ∈ as, H b ≠ none
  | _, _, _, _, .nil, q, r => by cases q; cases r; exact ⟨_, .nil, fun b hb => by cases hb⟩
  | _, _, _, _, @AtAll.cons _ _ v vs d ds a b, q, r => by
    obtain ⟨z, zs, e1, e2, rfl⟩ := pyRs_cons q
    cases r with
    | cons r1 r2 =>
      obtain ⟨as, h1, n1⟩ := At.reads hK I a e1 r1
      obtain ⟨bs, h2, n2⟩ := AtAll.reads hK I b e2 r2
      exact ⟨_, .cons h1 h2, fun x hx => (List.mem_append.mp hx).elim (n1 x) (n2 x)⟩
end
end
/-- repr of a list, a tuple, a dict -/
def rRepr (T : Tab) : List V → Hp → VK → Prop := fun xs H Q => ∃ (a : Addr) (d : D) (e : PyData), xs = [.ref a] ∧ At T H (.ref a) d ∧ D.pyR d = some e ∧ e.showable = true ∧ e.depth ≤ 60 ∧ e.shown.length ≤ sizeLine ∧ Q (.str e.shown) H
theorem call_reprD {T : Tab} {X : Cx} (hK : T.K = X.K) (hg : NoG X.A) (hu : X.A.units + 64 < cLine) (hs : ∃ o, X.K.lookup sysModules = some o) : CallR X (.builtin "repr") (rRepr T) := by
  intro pins s σ H xs us Q inv rv h
  obtain ⟨a, d, e, rfl, hat, he, h1, h2, h3, q⟩ := h
  cases rv with
  | cons rx rr =>
    cases rr
    cases rx
    obtain ⟨as, hr, hn⟩ := At.reads hK inv hat he rfl
    obtain ⟨o, ho⟩ := hs
    have ns : sysModules ∉ as := fun z => hn _ z (inv.bs _ _ (inv.mod.kin _ _ ho)).2
    exact repr_of_reads' hr h1 (fun _ => ns) hg (by omega) (fun _ _ z => z) (fun h' u tk k => ⟨.str e.shown, H, inv.kept (t' := tk) k, ⟨u, rfl⟩, q⟩) h3
@[irreducible] def fRepr : FL
  | [d], k => (match D.pyR d with
    | some e => (e.showable && (decide (e.depth ≤ 60) && szB e.shown.length)) = true ∧ k (.d (.str e.shown))
    | none => False)
  | _, _ => False
theorem fRepr_of {d : D} {e : PyData} {k : RV → Prop} (h : D.pyR d = some e) (h2 : (e.showable && (decide (e.depth ≤ 60) && szB e.shown.length)) = true) (q : k (.d (.str e.shown))) : fRepr [d] k := by
  unfold fRepr
  show (match D.pyR d with
    | some e => (e.showable && (decide (e.depth ≤ 60) && szB e.shown.length)) = true ∧ k (.d (.str e.shown))
    | none => False)
  rw [h]
  exact ⟨h2, q⟩
/-- d can be shown -/
def showB (d : D) : Bool := match D.pyR d with
  | some e => e.showable && (decide (e.depth ≤ 60) && (e.leavesShort 64 && Nat.ble (66 * e.weight + 64) 16777216))
  | none => false
theorem showB_ok {d : D} (h : showB d = true) : ∃ e, D.pyR d = some e ∧ (e.showable && (decide (e.depth ≤ 60) && szB e.shown.length)) = true := by
  unfold showB at h
  cases q : D.pyR d with
  | none =>
    rw [q] at h
    cases h
  | some e =>
    rw [q] at h
    obtain ⟨h1, h2⟩ := Bool.and_eq_true_iff.mp h
    obtain ⟨h3, h4⟩ := Bool.and_eq_true_iff.mp h2
    obtain ⟨h5, h6⟩ := Bool.and_eq_true_iff.mp h4
    have h7 := PyData.shown_le 64 (by decide) e h5
    have h8 : szB e.shown.length = true := Nat.ble_eq_true_of_le (Nat.le_trans h7 (Nat.le_of_ble_eq_true h6))
    exact ⟨e, rfl, by rw [h1, h3, h8]; rfl⟩
/-- what is shown here: a list, a tuple, a dict -/
def isBox : D → Bool
  | .lst _ => true
  | .tup _ => true
  | .dct _ _ => true
  | _ => false
def fReprB : FL := fun xs k => xs.all isBox = true ∧ fRepr xs k
theorem o_repr {T : Tab} : OpL T (rRepr T) fReprB := fun H A vs us Q K d hs q k => by
  match us, q with
  | [], ⟨_, q⟩ =>
    unfold fRepr at q
    exact q.elim
  | _ :: _ :: _, ⟨_, q⟩ =>
    unfold fRepr at q
    exact q.elim
  | [x], ⟨q0, q⟩ =>
    obtain ⟨v, rfl, h⟩ := sh1 hs
    have hf := h.full
    have hx : isBox x = true := by simpa using q0
    obtain ⟨a, rfl⟩ : ∃ a, v = .ref a := by
      cases hf with
      | lst _ _ => exact ⟨_, rfl⟩
      | tup _ _ => exact ⟨_, rfl⟩
      | dK _ _ => exact ⟨_, rfl⟩
      | dT _ _ => exact ⟨_, rfl⟩
      | _ => cases hx
    unfold fRepr at q
    have q : (match D.pyR x with
      | some e => (e.showable && (decide (e.depth ≤ 60) && szB e.shown.length)) = true ∧ Q (.d (.str e.shown))
      | none => False) := q
    cases e1 : D.pyR x with
    | none => rw [e1] at q; exact q.elim
    | some e =>
      rw [e1] at q
      obtain ⟨q1, q2⟩ := q
      obtain ⟨b1, b2⟩ := Bool.and_eq_true_iff.mp q1
      obtain ⟨b3, b4⟩ := Bool.and_eq_true_iff.mp b2
      exact ⟨a, x, e, rfl, hf, e1, b1, of_decide_eq_true b3, szB_ok b4, k _ _ (vend_d d (.str _) q2)⟩
/-! ### own exceptions -/
section
variable {T : Tab} {C : C0} {A A1 : List Addr} {σ : L2.St} {H H1 : Hp} {ρ ρ1 : En} {v : V} {r : RV}
def wMkX (c : Str) (ns : List Str) (wa : WA) : WE := fun ρ Q => wa ρ fun xs ρ1 => (xs.length == ns.length) = true ∧ Q (.d (.exc c ns xs)) ρ1
theorem vend_x {Q : RV → Prop} {e d : Addr} {c : Str} {fs : List (Str × V)} {xs : List D} (dm : ∀ a, a ∈ A → H a ≠ none) (he : H e = none) (hd : H d = none) (ne : d ≠ e) (h : AtAll T (hide H A) (fs.map (·.2)) xs) (q : Q (.d (.exc c (fs.map (·.1)) xs))) :
    VEnd T H A Q (.ref e) (upd (upd H d (.xd fs)) e (ExcA (T.ca c) d e)) := by
  have x1 : Ex H (upd H d (.xd fs)) := Ex.new hd
  have he1 : upd H d (.xd fs) e = none := by rw [upd_ne (Ne.symm ne)]; exact he
  have x2 : Ex H (upd (upd H d (.xd fs)) e (ExcA (T.ca c) d e)) := x1.trans (Ex.new he1)
  refine ⟨A, _, .grow dm x2, .d (.exc (d := d) (fs := fs) ?_ ?_ (h.mono (ex_hide_ex x2))), q⟩
  · rw [hide_ne fun z => dm e z he, upd_same]
  · rw [hide_ne fun z => dm d z hd, upd_ne ne, upd_same]
theorem pe_mkx {c : Str} {ns : List Str} {ta : TA} {wa : WA} {Ca : Addr} (hc : T.ca c = Ca) (ha : Pa T ta wa) : Pe T (tMkX Ca ns ta) (wMkX c ns wa) := fun C A σ H ρ Q K e q k =>
  ha C A σ H ρ _ _ e q fun vs H1 A1 xs ρ1 P S ⟨q1, q2⟩ => by
    have hl : vs.length = ns.length := S.length.trans (beq_iff_eq.mp q1)
    refine ⟨hl, fun e d he hd ne => ?_⟩
    have S2 : AtAll T (hide H1 A1) ((ns.zip vs).map (·.2)) xs := by rw [zip_snd hl.symm]; exact S
    subst hc
    obtain ⟨A', r', ρ', P', R', q'⟩ := fin_v (Q := Q) P (vend_x (Q := fun q => Q q ρ1) (c := c) P.ok.dom he hd ne S2 (by rw [zip_fst hl.symm]; exact q2))
    exact k _ _ _ _ _ P' R' q'
/-- x.n -/
def rFx (K : PySem.W.Frag) (n : Str) : V → Hp → VK → Prop := fun x H1 Q => ∃ (a C d : Addr) (fs : List (Str × V)) (v : V), x = .ref a ∧ H1 a = some (Dc.ExcA C d a) ∧ XfC K C ∧ PySem.W.findIn K (.ref C) n = some none ∧ H1 d = some (.xd fs) ∧ fs.lookup n = some v ∧ Q v H1
def fFx (cs : List Str) (n : Str) : F1
  | .exc c ns vs, k => cs.contains c = true ∧ (match (ns.zip vs).lookup n with
    | some d => k (.d d)
    | none => False)
  | _, _ => False
theorem look_at {n : Str} {d : D} : ∀ {fs : List (Str × V)} {ds : List D}, AtAll T H (fs.map (·.2)) ds → ((fs.map (·.1)).zip ds).lookup n = some d → ∃ v, fs.lookup n = some v ∧ At T H v d
  | [], _, _, e => by cases e
  | (m, v) :: fs, _, .cons a b, e => by
    rw [List.map_cons, List.zip_cons_cons, List.lookup_cons] at e
    rw [List.lookup_cons]
    cases q : n == m with
    | true =>
      rw [q] at e
      cases e
      exact ⟨v, rfl, a⟩
    | false =>
      rw [q] at e
      exact look_at b e
theorem o_fx {cs : List Str} {n : Str} (hc : ∀ c, cs.contains c = true → XfC T.K (T.ca c) ∧ PySem.W.findIn T.K (.ref (T.ca c)) n = some none) : Op1 T (rFx T.K n) (fFx cs n) := fun H A x u Q K d hx q k => by
  cases u with
  | exc c ns vs =>
    obtain ⟨q1, q⟩ := q
    have h := hx.pure fun _ z => nomatch z
    cases h with
    | @exc a dd _ fs _ h1 h2 h3 =>
      cases e : ((fs.map (·.1)).zip vs).lookup n with
      | none => rw [e] at q; exact q.elim
      | some w =>
        rw [e] at q
        obtain ⟨v, e1, e2⟩ := look_at h3 e
        exact ⟨a, _, dd, fs, v, rfl, (hide_some h1).2, (hc c q1).1, (hc c q1).2, (hide_some h2).2, e1, k _ _ (vend_d d e2 q)⟩
  | _ => exact q.elim
/-- isinstance(x, the class c) -/
@[irreducible] def fIs (tbl : Str → Option Bool) : F1
  | .exc c _ _, k => (match tbl c with
    | some b => k (.d (.bl b))
    | none => False)
  | _, _ => False
theorem o_is {tbl : Str → Option Bool} {cv : V} {cu : Value} (hu : ∀ u, RelV cv u → u = cu) (ht : ∀ c b, tbl c = some b → ExcC T.K (T.ca c) ∧ PySem.W.kitOne T.K (.ref (T.ca c)) cu = some b) : Op1 T (fun x H Q => rIsX T.K [x, cv] H Q) (fIs tbl) := fun H A x u Q K d hx q k => by
  cases u with
  | exc c ns vs =>
    have h := hx.pure fun _ z => nomatch z
    cases h with
    | @exc a dd _ fs _ h1 h2 h3 =>
      unfold fIs at q
      have q : (match tbl c with
        | some b => Q (.d (.bl b))
        | none => False) := q
      cases e : tbl c with
      | none => rw [e] at q; exact q.elim
      | some b =>
        rw [e] at q
        obtain ⟨t1, t2⟩ := ht c b e
        exact ⟨a, _, dd, fs, cv, cu, b, rfl, (hide_some h1).2, (hide_some h2).2, t1, hu, t2, k _ _ (vend_d d (.bl _) q)⟩
  | _ => unfold fIs at q; exact q.elim
theorem fIs_of {tbl : Str → Option Bool} {c : Str} {ns : List Str} {vs : List D} {b : Bool} {k : RV → Prop} (h : tbl c = some b) (q : k (.d (.bl b))) : fIs tbl (.exc c ns vs) k := by
  unfold fIs
  show (match tbl c with
    | some b => k (.d (.bl b))
    | none => False)
  rw [h]
  exact q
theorem pe_is {te : TE} {wa : WE} {tbl : Str → Option Bool} {cv : V} {cu : Value} (hu : ∀ u, RelV cv u → u = cu) (ht : ∀ c b, tbl c = some b → ExcC T.K (T.ca c) ∧ PySem.W.kitOne T.K (.ref (T.ca c)) cu = some b) (h : Pe T te wa) :
    Pe T (tCB (rIsX T.K) (tCons te (tCons (tC cv) tNil))) (wUn (fIs tbl) wa) := pe_u (o_is hu ht) h
end
end Dc
namespace Dc
open PySem PySem.Spec PyProof.Rows L2
/-- repr, whatever the pen -/
def rReprA (K : PySem.W.Frag) (ca : Str → Addr) : List V → Hp → VK → Prop := fun xs H Q => ∃ (p : Option Addr) (ms : List Int), rRepr ⟨K, ca, p, ms⟩ xs H Q
theorem call_reprA {X : Cx} {ca : Str → Addr} (hg : NoG X.A) (hu : X.A.units + 64 < cLine) (hs : ∃ o, X.K.lookup sysModules = some o) : CallR X (.builtin "repr") (rReprA X.K ca) := fun pins s σ H xs us Q I r h => by
  obtain ⟨p, ms, h⟩ := h
  exact call_reprD (T := ⟨X.K, ca, p, ms⟩) rfl hg hu hs pins s σ H xs us Q I r h
theorem o_reprA {K : PySem.W.Frag} {ca : Str → Addr} {p : Option Addr} {ms : List Int} : OpL ⟨K, ca, p, ms⟩ (rReprA K ca) fReprB := fun H A vs us Q K' d hs q k => ⟨p, ms, o_repr (T := ⟨K, ca, p, ms⟩) H A vs us Q K' d hs q k⟩
end Dc

set_option maxHeartbeats 1000000
/-! Dc6: the pen; calls whatever the pen; a law's body. -/
namespace Dc
open PySem PySem.Spec PyProof.Rows L2
section
variable {T : Tab} {C : C0} {A A1 A2 : List Addr} {σ : L2.St} {Hs H H1 H2 : Hp} {ρ ρ1 ρ2 : En} {v : V} {r : RV}
theorem hide_upd {a : Addr} {o : HO} (h : a ∈ A) : hide (upd H a o) A = hide H A := by
  funext b
  by_cases m : b ∈ A
  · rw [hide_in m, hide_in m]
  · rw [hide_ne m, hide_ne m, upd_ne (show b ≠ a from fun z => m (by rw [z]; exact h))]
/-- the pen is written -/
theorem EnvOk.pen_upd (e : EnvOk T C A σ H ρ) {p c : Addr} {i r : Int} {m : Nat} (hp : T.P = some p) (hc : hide H A c = some (.lst (T.cs.map V.int))) (h0 : 0 ≤ i) (h1 : i ≤ m) (h2 : 0 ≤ r) :
    Post T C A σ H ρ A (upd H p (.lst [.ref c, .int i, .int r])) ⟨ρ.s, m⟩ := by
  have pA : p ∈ A := (e.pen p hp).1
  have hh : hide (upd H p (.lst [.ref c, .int i, .int r])) A = hide H A := hide_upd pA
  have nw : ∀ {a : Addr} {o : HO}, H a = some o → T.P ≠ some a → upd H p (.lst [.ref c, .int i, .int r]) a = some o := fun {a o} h n => by
    rw [upd_ne (show a ≠ p from fun z => n (by rw [z]; exact hp))]
    exact h
  refine ⟨⟨fun a o h n => nw (e.ext a o h n) n, e.sub, e.dom0, fun a h => ?_, e.len, fun j x h => ?_, e.inj, fun q hq => ?_⟩, fun a h => .inl h, fun a h z => absurd h z, fun a o h _ n => nw h n, fun j xs h => ⟨xs, h⟩, fun a h => ?_⟩
  · by_cases z : a = p
    · rw [z, upd_same]
      exact fun q => nomatch q
    · rw [upd_ne z]
      exact e.dom a h
  · obtain ⟨v, g1, g2⟩ := e.cell j x h
    refine ⟨v, g1, ?_⟩
    cases g2 with
    | p g => exact .p (by rw [hh]; exact g)
    | l k1 k2 k3 k4 k5 => exact .l (nw k1 k5) (by rw [hh]; exact k2) k3 k4 k5
  · rw [hp] at hq
    cases hq
    exact ⟨pA, c, i, r, upd_same, by rw [hh]; exact hc, h0, h1, h2⟩
  · by_cases z : a = p
    · rw [z, upd_same] at h
      cases h
    · rw [upd_ne z] at h
      exact h
def penS (i : Nat) (ρ : En) : Prop := ρ.s[i]? = some (some (.p .pen))
theorem pen_at (e : EnvOk T C A σ H ρ) {i : Nat} (h : penS i ρ) : ∃ p c j r, σ[i]? = some (some (.ref p)) ∧ T.P = some p ∧ H p = some (.lst [.ref c, .int j, .int r]) ∧ hide H A c = some (.lst (T.cs.map V.int)) ∧ 0 ≤ j ∧ j ≤ ρ.n ∧ 0 ≤ r := by
  obtain ⟨v, h1, h2⟩ := e.cell i _ h
  cases h2 with
  | p g =>
    cases g with
    | @pen a hp =>
      obtain ⟨_, c, j, r, h3⟩ := e.pen a hp
      exact ⟨a, c, j, r, h1, hp, h3⟩
def wPen0 (cs : List Int) (i : Nat) : WE := fun ρ Q => penS i ρ ∧ Q (.d (.lst (cs.map D.int))) ρ
def wPen1 (i : Nat) : WE := fun ρ Q => penS i ρ ∧ ∀ j : Int, 0 ≤ j → j ≤ ρ.n → Q (.d (.int j)) ρ
def wPen2 (i : Nat) : WE := fun ρ Q => penS i ρ ∧ ∀ j : Int, 0 ≤ j → Q (.d (.int j)) ρ
theorem ints_at {T : Tab} {H : Hp} : ∀ ns : List Int, AtAll T H (ns.map V.int) (ns.map D.int)
  | [] => .nil
  | n :: ns => .cons (.int n) (ints_at ns)
theorem pe_pen0 {i : Nat} {cs : List Int} (hc : T.cs = cs) : Pe T (tOp (rIx T.K) (tVar i) (tC (.int 0))) (wPen0 cs i) := fun C A σ H ρ Q K e ⟨q1, q2⟩ k => by
  subst hc
  obtain ⟨p, c, j, r, h1, h2, h3, h4, _⟩ := pen_at e q1
  exact ⟨_, h1, .inl ⟨p, _, 0, .ref c, rfl, rfl, SqL.of h3, rfl, k _ _ _ _ _ (.refl e) (.d (.lst h4 (ints_at _))) q2⟩⟩
theorem pe_pen1 {i : Nat} : Pe T (tOp (rIx T.K) (tVar i) (tC (.int 1))) (wPen1 i) := fun C A σ H ρ Q K e ⟨q1, q2⟩ k => by
  obtain ⟨p, c, j, r, h1, h2, h3, h4, h5, h6, h7⟩ := pen_at e q1
  exact ⟨_, h1, .inl ⟨p, _, 1, .int j, rfl, rfl, SqL.of h3, rfl, k _ _ _ _ _ (.refl e) (.d (.int j)) (q2 j h5 h6)⟩⟩
theorem pe_pen2 {i : Nat} : Pe T (tOp (rIx T.K) (tVar i) (tC (.int 2))) (wPen2 i) := fun C A σ H ρ Q K e ⟨q1, q2⟩ k => by
  obtain ⟨p, c, j, r, h1, h2, h3, h4, h5, h6, h7⟩ := pen_at e q1
  exact ⟨_, h1, .inl ⟨p, _, 2, .int r, rfl, rfl, SqL.of h3, rfl, k _ _ _ _ _ (.refl e) (.d (.int r)) (q2 r h7)⟩⟩
def wPenW1 (i : Nat) (a : WE) : WS := fun E ρ => a ρ fun r ρ1 => ∃ j : Int, r = .d (.int j) ∧ penS i ρ1 ∧ 0 ≤ j ∧ j ≤ ρ1.n + 1 ∧ E.nx ⟨ρ1.s, ρ1.n + 1⟩
def wPenW2 (i : Nat) (a : WE) : WS := fun E ρ => a ρ fun r ρ1 => ∃ j : Int, r = .d (.int j) ∧ penS i ρ1 ∧ 0 ≤ j ∧ E.nx ρ1
theorem ps_pen1 {i : Nat} {te : TE} {a : WE} (h : Pe T te a) : Ps T (tAsg te (gSub (tVar i) (tC (.int 1)) rSetL)) (wPenW1 i a) := fun C A σ H ρ B E F e x l q =>
  h C A σ H ρ _ _ e q fun v H1 A1 r ρ1 P R ⟨j, er, q1, q2, q3, q4⟩ => by
    subst er
    cases R with
    | d g =>
      cases g
      obtain ⟨p, c, j0, r0, h1, h2, h3, h4, h5, h6, h7⟩ := pen_at P.ok q1
      have P2 := P.ok.pen_upd (m := ρ1.n + 1) h2 h4 q2 (by omega) h7
      exact ⟨_, h1, p, _, 1, 1, rfl, rfl, h3, rfl, l.nx _ _ _ _ P2.ok (x.trans ((P.trans P2).ex e)) q4⟩
theorem ps_pen2 {i : Nat} {te : TE} {a : WE} (h : Pe T te a) : Ps T (tAsg te (gSub (tVar i) (tC (.int 2)) rSetL)) (wPenW2 i a) := fun C A σ H ρ B E F e x l q =>
  h C A σ H ρ _ _ e q fun v H1 A1 r ρ1 P R ⟨j, er, q1, q2, q4⟩ => by
    subst er
    cases R with
    | d g =>
      cases g
      obtain ⟨p, c, j0, r0, h1, h2, h3, h4, h5, h6, h7⟩ := pen_at P.ok q1
      have P2 := P.ok.pen_upd (m := ρ1.n) h2 h4 h5 h6 q2
      exact ⟨_, h1, p, _, 2, 2, rfl, rfl, h3, rfl, l.nx _ _ _ _ P2.ok (x.trans ((P.trans P2).ex e)) q4⟩
end
/-! ### calls, whatever the pen -/
def SpA (K : PySem.W.Frag) (ca : Str → Addr) (R : RD) : Sp := fun vs H Q E => ∃ (p : Option Addr) (ms : List Int), ms.length ≤ 63 ∧ SpD ⟨K, ca, p, ms⟩ R vs H Q E
section
variable {T : Tab} {C : C0} {A A1 A2 : List Addr} {σ : L2.St} {Hs H H1 H2 : Hp} {ρ ρ1 ρ2 : En} {v : V} {r : RV}
theorem pe_call {R : RD} {ta : TA} {wa : WA} (hz : T.cs.length ≤ 63) (ha : Pa T ta wa) : Pe T (tCall (SpA T.K T.ca R) [] E0 ta) (wCall R wa) := fun C A σ H ρ Q K e q k =>
  ha C A σ H ρ _ _ e q fun vs H1 A1 xs ρ1 P S q1 => by
    rw [List.append_nil]
    refine ⟨T.P, T.cs, hz, A1, xs, ρ1.n, _, ⟨P.ok.dom, P.ok.pen, S⟩, q1, fun v H' r n' p q2 => ?_⟩
    obtain ⟨A2, P2, R2⟩ := P.ok.called p
    exact k _ _ _ _ _ (P.trans P2) (R2.back P) q2
theorem SpA.len {K : PySem.W.Frag} {ca : Str → Addr} {R : RD} {m : Nat} (hR : ∀ ds n Q, R ds n Q → ds.length = m) {vs : List V} {H : Hp} {Q : VK} {E : XK} (h : SpA K ca R vs H Q E) : vs.length = m := by
  obtain ⟨p, ms, _, A, ds, n, K', pr, hr, _⟩ := h
  exact pr.args.length.trans (hR _ _ _ hr)
/-- a def's body keeps the promise, whatever the pen -/
theorem bodyA {K : PySem.W.Frag} {ca : Str → Addr} {ts : TS} {R : RD} {N : List Str} {m : Nat} {w : List Int → WS} (h : ∀ (p : Option Addr) (ms : List Int), ms.length ≤ 63 → Ps ⟨K, ca, p, ms⟩ ts (w ms))
    (hR : ∀ ms : List Int, ms.length ≤ 63 → ∀ ds n Q, R ds n Q → ds.length = m ∧ w ms { nx := fun ρ => Q (.d .non) ρ.n, rt := fun r n' => Q r n' } ⟨st0 (N.length - m) ds, n⟩)
    {vs : List V} {H : Hp} {Q : VK} {E : XK} (hs : SpA K ca R vs H Q E) : ts { nx := fun _ H' => Q .non H', rt := Q } (start N vs) H := by
  obtain ⟨p, ms, hz, hs⟩ := hs
  exact body_ok (h p ms hz) (hR ms hz) hs
end
/-! ### a law -/
/-- what makes the pen: [list(script[:63]), 0, 0] -/
def spPen (K : PySem.W.Frag) : Sp := fun vs H Q _ => ∃ (l : Addr) (ns : List Int), vs = [.ref l] ∧ SqL K H l (ns.map V.int) ∧
  ∀ (p c : Addr) (H' : Hp) (ms : List Int), ms.length ≤ 63 → p ≠ c → H' c = some (.lst (ms.map V.int)) → H' p = some (.lst [.ref c, .int 0, .int 0]) → Q (.ref p) H'
def tPenB (K : PySem.W.Frag) : TS := tRet (tLst (tCons (tCB (Evl.rListS K) (tCons (tSl (rSlL K) (tVar 0) tNoPart (tPart (tC (.int 63)))) tNil)) (tCons (tC (.int 0)) (tCons (tC (.int 0)) tNil))))
theorem cut_ints (ns : List Int) : ∃ ms : List Int, ms.length ≤ 63 ∧ cutV (ns.map V.int) none (some 63) = ms.map V.int := by
  refine ⟨(ns.drop (HT.sIx (ns.map V.int).length 0 none)).take (HT.sIx (ns.map V.int).length (ns.map V.int).length (some 63) - HT.sIx (ns.map V.int).length 0 none), ?_, ?_⟩
  · rw [List.length_take]
    refine Nat.le_trans (Nat.min_le_left _ _) (Nat.le_trans (Nat.sub_le _ _) ?_)
    simp [HT.sIx]
    omega
  · unfold cutV
    rw [← List.map_drop, ← List.map_take]
theorem pen_run {K : PySem.W.Frag} {N : List Str} {vs : List V} {H : Hp} {Q : VK} {E : XK} (h : spPen K vs H Q E) : tPenB K { nx := fun _ H' => Q .non H', rt := Q } (start N vs) H := by
  obtain ⟨l, ns, rfl, hs, q⟩ := h
  have s0 : (start N [V.ref l])[0]? = some (some (V.ref l)) := rfl
  obtain ⟨ms, hz, hc⟩ := cut_ints ns
  refine ⟨_, s0, 63, rfl, l, ns.map V.int, rfl, hs, fun d hd => ?_⟩
  refine ⟨d, ms.map V.int, rfl, .inl (SqL.of (by rw [upd_same, hc])), fun c hcn => ⟨by show 3 ≤ sizeLine; rw [sizeLine_eq]; decide, fun p hp => ?_⟩⟩
  have pc : p ≠ c := fun z => by
    rw [z, upd_same] at hp
    cases hp
  exact q p c _ ms hz pc (by rw [upd_ne (Ne.symm pc), upd_same]) upd_same
/-- a law's: True, whatever the script -/
def spTrue (K : PySem.W.Frag) : Sp := fun vs H Q _ => ∃ (l : Addr) (ns : List Int), vs = [.ref l] ∧ SqL K H l (ns.map V.int) ∧ ∀ H', Q (.bl true) H'
/-- the slots behind the pen's making -/
def lawSt (n i : Nat) : List (Option Cell) := (List.replicate n none).set i (some (.p .pen))
/-- pen = make(script); .. -/
theorem law_run {K : PySem.W.Frag} {ca : Str → Addr} {ts : TS} {N : List Str} {i : Nat} {w : List Int → WS} (hi : i < N.length) (hN : 1 ≤ N.length) (h : ∀ (p : Option Addr) (ms : List Int), ms.length ≤ 63 → Ps ⟨K, ca, p, ms⟩ ts (w ms))
    (hw : ∀ ms : List Int, ms.length ≤ 63 → w ms { nx := fun _ => False, rt := fun r _ => r = .d (.bl true) } ⟨lawSt N.length i, 0⟩)
    {vs : List V} {H : Hp} {Q : VK} {E : XK} (hs : spTrue K vs H Q E) : tSeq (tAsg (tCall (spPen K) [] E0 (tCons (tVar 0) tNil)) (gName i)) ts { nx := fun _ H' => Q .non H', rt := Q } (start N vs) H := by
  obtain ⟨a, ns, rfl, hS, q⟩ := hs
  have s0 : (start N [V.ref a])[0]? = some (some (V.ref a)) := rfl
  have ls : (start N [V.ref a]).length = N.length := by
    unfold L2.start
    rw [List.length_append, List.length_map, List.length_replicate]; show 1 + (N.length - 1) = N.length
    omega
  refine ⟨_, s0, a, ns, rfl, hS, fun p c H' ms hz pc h1 h2 => ?_⟩
  let T : Tab := ⟨K, ca, some p, ms⟩
  have key : ∀ (j : Nat) (x : Cell), (lawSt N.length i)[j]? = some (some x) → j = i ∧ x = .p .pen := fun j x hx => by
    unfold lawSt at hx
    by_cases z : i = j
    · subst z
      rw [List.getElem?_set_self (by rw [List.length_replicate]; exact hi)] at hx
      cases hx
      exact ⟨rfl, rfl⟩
    · rw [List.getElem?_set_ne z, List.getElem?_replicate] at hx
      split at hx <;> cases hx
  have e : EnvOk T ⟨H', [p]⟩ [p] ((L2.start N [V.ref a]).set i (some (.ref p))) H' ⟨lawSt N.length i, 0⟩ := by
    have dp : ∀ b, b ∈ [p] → H' b ≠ none := fun b hb => by
      rw [List.mem_singleton.mp hb, h2]
      exact fun z => nomatch z
    refine ⟨fun _ _ z _ => z, fun _ z => z, dp, dp, ?_, fun j x hx => ?_, fun j k b xs ys z1 _ _ _ => ?_, fun b hb => ?_⟩
    · show ((L2.start N [V.ref a]).set i (some (.ref p))).length = (lawSt N.length i).length
      unfold lawSt
      rw [List.length_set, List.length_set, List.length_replicate, ls]
    · obtain ⟨rfl, rfl⟩ := key j x hx
      exact ⟨.ref p, List.getElem?_set_self (by rw [ls]; exact hi), .p (.pen rfl)⟩
    · cases (key j _ z1).2
    · cases hb
      exact ⟨List.mem_singleton.mpr rfl, c, 0, 0, h2, by rw [hide_ne fun z => pc (List.mem_singleton.mp z).symm]; exact h1, Int.le_refl _, Int.le_refl _, Int.le_refl _⟩
  refine h (some p) ms hz ⟨H', [p]⟩ [p] _ H' ⟨lawSt N.length i, 0⟩ (hide H' [p]) { nx := fun _ => False, rt := fun r _ => r = .d (.bl true) } _ e (Ex.refl _) ⟨fun _ _ _ _ _ _ z => z.elim, fun _ _ _ _ _ _ z => False.elim z, fun _ _ _ _ _ _ z => False.elim z, fun A' σ' H2 ρ' v r e' _ R k' => ?_⟩ (hw ms hz)
  have k' : r = .d (.bl true) := k'
  subst k'
  cases R with
  | d g =>
    cases g
    exact q _
end Dc

set_option maxHeartbeats 1000000
/-! Dc7: operators of any kind, dict displays. -/
namespace Dc
open PySem PySem.Spec PyProof.Rows L2
abbrev rStrCat : R2 := fun x y H Q => ∃ i j, x = .str i ∧ y = .str j ∧ i.length + j.length ≤ sizeLine ∧ Q (.str (i ++ j)) H
/-- + -/
def rAddU (K : PySem.W.Frag) : R2 := fun x y H Q => rI0 (fun i j => .int (i + j)) x y H Q ∨ rStrCat x y H Q ∨ rCat x y H Q ∨ rCatA K x y H Q
theorem op_addU {X : Cx} : OpR X (binaryOp .Add) (rAddU X.K) := fun pins s σ H x y u v Q I rx ry h => by
  rcases h with h | h | h | h
  · exact op_add pins s σ H x y u v Q I rx ry h
  · exact op_add_str pins s σ H x y u v Q I rx ry h
  · exact op_cat pins s σ H x y u v Q I rx ry h
  · exact op_catA pins s σ H x y u v Q I rx ry h
/-- * -/
def rMulU : R2 := fun x y H Q => rI CMul (fun i j => .int (i * j)) x y H Q ∨ rRep x y H Q
theorem op_mulU {X : Cx} : OpR X (binaryOp .Mult) rMulU := fun pins s σ H x y u v Q I rx ry h => by
  rcases h with h | h
  · exact op_mul pins s σ H x y u v Q I rx ry h
  · exact op_rep pins s σ H x y u v Q I rx ry h
section
variable {T : Tab} {A A1 : List Addr} {H H1 : Hp}
def fAddU : F2
  | .int i, .int j, k => k (.d (.int (i + j)))
  | .str x, .str y, k => szB (x.length + y.length) = true ∧ k (.d (.str (x ++ y)))
  | .lst xs, .lst ys, k => szB (xs.length + ys.length) = true ∧ k (.n (xs ++ ys))
  | .tup xs, .tup ys, k => szB (xs.length + ys.length) = true ∧ k (.d (.tup (xs ++ ys)))
  | _, _, _ => False
theorem tupA_ok {xs ys : List D} {x y : V} {Q : RV → Prop} {K : VK} (d : ∀ a, a ∈ A → H a ≠ none) (hx : Sh T H A x (.tup xs)) (hy : Sh T H A y (.tup ys)) (q1 : szB (xs.length + ys.length) = true) (q2 : Q (.d (.tup (xs ++ ys)))) (k : ∀ z H', VEnd T H A Q z H' → K z H') : rCatA T.K x y H K := by
  obtain ⟨a, vs, rfl, h1, s1⟩ := hx.tup
  obtain ⟨b, ws, rfl, h2, s2⟩ := hy.tup
  refine ⟨a, b, vs, ws, rfl, rfl, h1, h2, by rw [s1.length, s2.length]; exact szB_ok q1, fun z => ?_, fun _ z => ?_, fun _ _ p hp => k _ _ (vend_t d hp (s1.append s2) q2)⟩
  · subst z
    cases s1
    exact k _ _ (vend_d d (hy.pure fun _ z => nomatch z) q2)
  · subst z
    cases s2
    rw [List.append_nil] at q2
    exact k _ _ (vend_d d (hx.pure fun _ z => nomatch z) q2)
theorem o_addU : Op2 T (rAddU T.K) fAddU := fun H A x y u v Q K d hx hy q k => by
  match u, v, q with
  | .int i, .int j, q => exact .inl ⟨i, j, hx.int, hy.int, k _ _ (vend_d d (.int _) q)⟩
  | .str i, .str j, q => exact .inr (.inl (o_catS H A x y (.str i) (.str j) Q K d hx hy q k))
  | .lst xs, .lst ys, q => exact .inr (.inr (.inl (o_cat H A x y (.lst xs) (.lst ys) Q K d hx hy q k)))
  | .tup xs, .tup ys, q => exact .inr (.inr (.inr (tupA_ok d hx hy q.1 q.2 k)))
def fMulU : F2
  | .int i, .int j, k => CMul i j ∧ k (.d (.int (i * j)))
  | .lst xs, .int j, k => (decide (-(2 ^ 63) ≤ j ∧ j < 2 ^ 63) && szB (xs.length * j.toNat)) = true ∧ k (.n (List.replicate j.toNat xs).flatten)
  | _, _, _ => False
theorem o_mulU : Op2 T rMulU fMulU := fun H A x y u v Q K d hx hy q k => by
  match u, v, q with
  | .int i, .int j, q => exact .inl ⟨i, j, hx.int, hy.int, q.1, k _ _ (vend_d d (.int _) q.2)⟩
  | .lst xs, .int j, q => exact .inr (o_rep H A x y (.lst xs) (.int j) Q K d hx hy q k)
end
/-! ### {} and {'a': x} -/
section
variable {T : Tab} {C : C0} {A A1 A2 : List Addr} {σ : L2.St} {Hs H H1 H2 : Hp} {ρ ρ1 ρ2 : En} {v : V} {r : RV}
theorem pe_d0 : Pe T tDNewK (wC (.dct [] [])) := fun C A σ H ρ Q K e q k p hp => by
  have x1 : Ex H (upd H p (.dK [])) := Ex.new hp
  refine k _ _ _ _ _ (e.post_ex x1) (.d ?_) q
  exact At.dK (kvs := []) (by rw [hide_ne fun z => e.dom p z hp, upd_same]) .nil
def wD1 (a : Str) (wa : WE) : WE := fun ρ Q => wa ρ fun r ρ1 => esc r ρ1 fun x ρ2 => Q (.d (.dct [.str a] [x])) ρ2
theorem pe_d1 {a : Str} {te : TE} {wa : WE} (h : Pe T te wa) : Pe T (tDisp [(tC (.str a), te)]) (wD1 a wa) := fun C A σ H ρ Q K e q k p hp => by
  have x0 : Ex H (upd H p (.dK [])) := Ex.new hp
  have pA : p ∉ A := fun z => e.dom p z hp
  obtain ⟨p0, pp⟩ := e.new0 hp
  have P0 : Post T C A σ H ρ (p :: A) (upd H p (.dK [])) ρ := e.post_more x0 (fun b hb => List.mem_cons_of_mem _ hb) (fun b hb => by
      rcases (List.mem_cons.mp hb : b = p ∨ b ∈ A) with z | z
      · exact .inr (z ▸ hp)
      · exact .inl z) fun b hb => by
      rcases (List.mem_cons.mp hb : b = p ∨ b ∈ A) with z | z
      · rw [z, upd_same]
        exact fun y => nomatch y
      · exact fun y => e.dom b z (x0.free y)
  have noP : ∀ ρ' : En, Own σ ρ' p → Own σ ρ p → False := fun _ _ z => pA (e.own_in z).1
  refine h C (p :: A) σ _ ρ _ _ P0.ok q fun v1 H1 A1 r1 ρ1 P1 R1 q1 => ?_
  obtain ⟨A2, x, ρ2, P2, S2, q2⟩ := esc_ok P0.ok P1 R1 q1
  have nO : ¬ Own σ ρ p := fun z => pA (e.own_in z).1
  have hp2 : H1 p = some (.dK []) := P2.keep p _ upd_same nO pp
  have pA2 : p ∈ A2 := Classical.byContradiction fun z => nO (P2.gone p List.mem_cons_self z)
  refine ⟨hp2, [(.inr a, v1)], rfl, (show 1 ≤ 15 by decide), ?_⟩
  show K (.ref p) (upd H1 p (.dK [(.inr a, v1)]))
  -- the dict is filled, then shown
  have hh : hide (upd H1 p (.dK [(.inr a, v1)])) A2 = hide H1 A2 := hide_upd pA2
  have nO2 : ∀ {b : Addr}, Own σ ρ2 b → b ≠ p := fun {b} z y => nO (P2.own_back (y ▸ z))
  have e2 : EnvOk T C A2 σ (upd H1 p (.dK [(.inr a, v1)])) ρ2 := by
    have ok := P2.ok
    refine ⟨fun b o hb n => ?_, ok.sub, ok.dom0, fun b hb => ?_, ok.len, fun j c hc => ?_, ok.inj, fun b hb => ?_⟩
    · rw [upd_ne (show b ≠ p from fun z => by rw [z, p0] at hb; cases hb)]
      exact ok.ext b o hb n
    · by_cases z : b = p
      · rw [z, upd_same]
        exact fun y => nomatch y
      · rw [upd_ne z]
        exact ok.dom b hb
    · obtain ⟨v, g1, g2⟩ := ok.cell j c hc
      refine ⟨v, g1, ?_⟩
      cases g2 with
      | p g => exact .p (by rw [hh]; exact g)
      | l k1 k2 k3 k4 k5 => exact .l (by rw [upd_ne (nO2 ⟨j, _, hc, g1⟩)]; exact k1) (by rw [hh]; exact k2) k3 k4 k5
    · obtain ⟨m, c, i, r, h1, h2, h3⟩ := ok.pen b hb
      exact ⟨m, c, i, r, by rw [upd_ne (show b ≠ p from fun z => pp (z ▸ hb))]; exact h1, by rw [hh]; exact h2, h3⟩
  have e3 := e2.unhide p0 pp fun z => nO2 z rfl
  have x3 : Ex (hide H1 A2) (hide (upd H1 p (.dK [(.inr a, v1)])) (unh A2 p)) := fun b o hb => by
    obtain ⟨m, hb⟩ := hide_some hb
    rw [hide_ne fun z => m (mem_unh.mp z).1, upd_ne (show b ≠ p from fun z => m (z ▸ pA2))]
    exact hb
  refine k _ _ (unh A2 p) (.d (.dct [.str a] [x])) ρ2 ⟨e3, fun b hb => ?_, fun b hb hn => ?_, fun b o hb n np => ?_, fun i xs hx => P2.own i xs hx, fun b hb => ?_⟩ (.d ?_) q2
  · obtain ⟨m, n⟩ := mem_unh.mp hb
    rcases P2.le b m with z | z
    · rcases List.mem_cons.mp z with y | y
      · exact absurd y n
      · exact .inl y
    · exact .inr (x0.free z)
  · have bp : b ≠ p := fun z => pA (z ▸ hb)
    exact P2.gone b (List.mem_cons_of_mem _ hb) fun z => hn (mem_unh.mpr ⟨z, bp⟩)
  · have bp : b ≠ p := ne_of_none hb hp
    rw [upd_ne bp]
    exact P2.keep b o (x0 b o hb) n np
  · by_cases z : b = p
    · rw [z]
      exact hp
    · rw [upd_ne z] at hb
      exact x0.free (P2.th b hb)
  · have hs : hide (upd H1 p (.dK [(.inr a, v1)])) (unh A2 p) p = some (.dK [(.inr a, v1)]) := by
      rw [hide_ne fun z => (mem_unh.mp z).2 rfl, upd_same]
    exact At.dK hs (.cons (S2.mono x3) .nil)
end
end Dc

set_option maxHeartbeats 1000000
/-! Dc8: what is known of a law's defs and of the program's classes. -/
namespace Dc
open PySem PySem.Spec PyProof.Rows L2
/-- the law's def x, n parameters -/
structure Kn (P : Program) (w : World) (K : PySem.W.Frag) (mg : Str → Option Value) (base : Heap) (ca : Str → Addr) (x : Str) (k : Nat) (R : RD) : Prop where
  ex : ∃ (f : Addr) (fd : FuncData) (ps : List Str), FnOk P w K mg base CX0 k f fd ps (SpA K ca R) ∧ mg x = some (.ref f) ∧ PySem.W.keepIn K (.ref f) = true ∧ Binds K fd ps []
theorem pe_kn {X : Cx} {ca : Str → Addr} {x : Str} {k j : Nat} {R : RD} {p pos : Pos} {e : Expr} {es : List Expr} {t : TA} (F : Kn X.prog X.w X.K X.mg X.base ca x k R) (hr : Room j X.A) (hj : k ≤ j) (hg : Gl X x) (ha : PA X (e :: es) t)
    (hdb : (x == ("__debug__" : Str)) = false := by decide) (hst : starEach (e :: es) X.env = (false, eval e X.env) :: starEach es X.env := by rfl) (hnk : (backTo pos (starEach es X.env)).any (·.1) = false := by rfl) :
    PE X (.Call (.Name x p) (e :: es) [] pos) (tCall (SpA X.K ca R) [] E0 t) := by
  obtain ⟨f, fd, ps, F1, g, kp, b⟩ := F.ex
  exact L2.pe_call F1 (hr.mono hj) hg g kp b .nil pass0 ha hdb hst hnk
/-- an own exception class c, its fields ns, by names in the order ks -/
structure Xc (P : Program) (w : World) (K : PySem.W.Frag) (mg : Str → Option Value) (base : Heap) (ca : Str → Addr) (c : Str) (ns ks : List Str) : Prop where
  m : MkX P w K mg base (ca c) false ns
  k : MkX P w K mg base (ca c) true ks
  g : mg c = some (.ref (ca c))
section
variable {T : Tab}
def fAbs : FL
  | [.int i], k => k (.d (.int (if i < 0 then -i else i)))
  | _, _ => False
theorem o_abs : OpL T (fun xs H Q => ∃ i, xs = [.int i] ∧ Q (.int (if i < 0 then -i else i)) H) fAbs := fun H A vs us Q K d hs q k => by
  match us, q with
  | [.int i], q =>
    obtain ⟨v, rfl, h⟩ := sh1 hs
    rw [h.int]
    exact ⟨i, rfl, k _ _ (vend_d d (.int _) q)⟩
def seqB : D → Bool
  | .lst _ => true
  | .tup _ => true
  | _ => false
def fList : FL
  | [.lst xs], k => k (.n xs)
  | [.tup xs], k => k (.n xs)
  | _, _ => False
theorem o_list : OpL T (fun xs H Q => ∃ p ys, xs = [.ref p] ∧ (SqL T.K H p ys ∨ SqT T.K H p ys) ∧ ∀ l, H l = none → Q (.ref l) (upd H l (.lst ys))) fList := fun H A vs us Q K d hs q k => by
  match us, q with
  | [.lst xs], q =>
    obtain ⟨v, rfl, h⟩ := sh1 hs
    obtain ⟨a, ws, rfl, h1, s1⟩ := h.lst
    exact ⟨a, ws, rfl, .inl (SqL.of h1), fun p hp => k _ _ (vend_n d hp s1 q)⟩
  | [.tup xs], q =>
    obtain ⟨v, rfl, h⟩ := sh1 hs
    obtain ⟨a, ws, rfl, h1, s1⟩ := h.tup
    exact ⟨a, ws, rfl, .inr h1, fun p hp => k _ _ (vend_n d hp s1 q)⟩
def fNeg : F1
  | .int i, k => k (.d (.int (-i)))
  | _, _ => False
theorem o_neg : Op1 T (rU fun i => .int (-i)) fNeg := fun H A x u Q K d hx q k => by
  match u, q with
  | .int i, q => exact ⟨i, hx.int, k _ _ (vend_d d (.int _) q)⟩
/-- by place, wherever within -/
theorem atK_of {xs : List D} {i : Int} {Q : RV → Prop} (h0 : 0 ≤ i) (h1 : i < xs.length) (h : ∀ d ∈ xs, Q (.d d)) : atK xs i Q := by
  unfold atK
  have e : atI xs i = xs[i.toNat]? := by
    unfold atI ixN
    rw [if_pos h0, if_pos h1]
    rfl
  rw [e, List.getElem?_eq_getElem (show i.toNat < xs.length by omega)]
  exact h _ (List.getElem_mem _)
end
end Dc
namespace Dc
open PySem PySem.Spec PyProof.Rows L2
theorem atK_at {xs : List D} {i : Int} {d : D} {Q : RV → Prop} (h : atI xs i = some d) (q : Q (.d d)) : atK xs i Q := by
  unfold atK
  rw [h]
  exact q
theorem ite_b {c : Bool} {A B : Prop} (h1 : c = true → A) (h2 : c = false → B) : if c = true then A else B := by
  cases c
  · rw [if_neg Bool.false_ne_true]
    exact h2 rfl
  · rw [if_pos rfl]
    exact h1 rfl
theorem py_ints : ∀ ns : List Int, D.pyAll (ns.map D.int) = some (ns.map PyData.int)
  | [] => rfl
  | n :: ns => by
    show (match D.py (.int n), D.pyAll (ns.map D.int) with
      | some y, some ys => some (y :: ys)
      | _, _ => none) = _
    rw [py_ints ns]
    rfl
theorem lay_ints : ∀ ns : List Int, PyData.canLayAll0 (ns.map PyData.int) = true ∧ PyData.depthAll (ns.map PyData.int) = 0
  | [] => ⟨rfl, rfl⟩
  | n :: ns => by
    obtain ⟨h1, h2⟩ := lay_ints ns
    refine ⟨?_, ?_⟩
    · show (true && PyData.canLayAll0 (ns.map PyData.int)) = true
      rw [h1]
      rfl
    · show max 0 (PyData.depthAll (ns.map PyData.int)) = 0
      rw [h2]
      rfl
theorem shaped_ints (ns : List Int) : SeqAt.shaped (.list (ns.map PyData.int)) = true := by
  obtain ⟨h1, h2⟩ := lay_ints ns
  have e : SeqAt.shaped (.list (ns.map PyData.int)) = (PyData.canLayAll0 (ns.map PyData.int) && decide (PyData.depthAll (ns.map PyData.int) + 1 ≤ 64)) := rfl
  rw [e, h1, h2]
  rfl
/-- data of known shape beside one another -/
theorem eqK_of {g : Bool → Bool} {u v : D} {d e : PyData} {k : RV → Prop} (h1 : D.py u = some d) (h2 : D.py v = some e) (h3 : (SeqAt.shaped d && SeqAt.shaped e) = true) (h : k (.d (.bl (g (PyData.eqv d e))))) : eqK g u v k := by
  unfold eqK
  rw [h1, h2]
  exact ⟨h3, h⟩
/-- a list of ints beside [] -/
theorem ne_nil {ns : List Int} {k : RV → Prop} (h : k (.d (.bl (!ns.isEmpty)))) : eqK not (.lst (ns.map D.int)) (.lst []) k := by
  have e1 : D.py (.lst (ns.map D.int)) = some (.list (ns.map PyData.int)) := by
    show (D.pyAll (ns.map D.int)).map PyData.list = _
    rw [py_ints]
    rfl
  have e2 : PyData.eqv (.list (ns.map PyData.int)) (.list []) = ns.isEmpty := by cases ns <;> rfl
  have goal : (match D.py (.lst (ns.map D.int)), D.py (.lst []) with
    | some d, some e => (SeqAt.shaped d && SeqAt.shaped e) = true ∧ k (.d (.bl (!(PyData.eqv d e))))
    | _, _ => False) := by
    rw [e1]
    show (SeqAt.shaped (.list (ns.map PyData.int)) && SeqAt.shaped (.list [])) = true ∧ k (.d (.bl (!(PyData.eqv (.list (ns.map PyData.int)) (.list [])))))
    rw [shaped_ints, e2]
    exact ⟨rfl, h⟩
  unfold eqK
  exact goal
theorem atK_ints {ns : List Int} {i : Int} {Q : RV → Prop} (h0 : 0 ≤ i) (h1 : i < ns.length) (h : ∀ c : Int, Q (.d (.int c))) : atK (ns.map D.int) i Q :=
  atK_of h0 (by rw [List.length_map]; exact h1) fun d hd => by
    obtain ⟨c, _, rfl⟩ := List.mem_map.mp hd
    exact h c
end Dc
namespace Dc
open PySem PySem.Spec PyProof.Rows L2
theorem loop_inv {g : WG} {b : WS} {E : DE} {I : List D → En → Prop} (h0 : ∀ ρ, I [] ρ → E.nx ρ)
    (h1 : ∀ x xs ρ, I (x :: xs) ρ → (∀ ρ', I xs ρ' → wLoop g b E xs ρ') → g x ρ fun ρ1 => b { E with nx := wLoop g b E xs, ct := wLoop g b E xs, bk := E.nx } ρ1) : ∀ (xs : List D) (ρ : En), I xs ρ → wLoop g b E xs ρ
  | [], ρ, h => h0 ρ h
  | x :: xs, ρ, h => h1 x xs ρ h fun ρ' h' => loop_inv h0 h1 xs ρ' h'
theorem if_t {c : Bool} {A B : Prop} (h : c = true) (a : A) : if c = true then A else B := by
  rw [if_pos h]
  exact a
theorem if_f {c : Bool} {A B : Prop} (h : c = false) (b : B) : if c = true then A else B := by
  rw [h, if_neg Bool.false_ne_true]
  exact b
/-- == and != : texts, any data -/
def eqU (g : Bool → Bool) (u v : D) (k : RV → Prop) : Prop := match u, v with
  | .str x, .str y => k (.d (.bl (g (decide (x = y)))))
  | _, _ => eqK g u v k
def rEqU (K : PySem.W.Frag) : R2 := fun x y H Q => rEq x y H Q ∨ rEqD K x y H Q
def rNeU (K : PySem.W.Frag) : R2 := fun x y H Q => rNe x y H Q ∨ rNeD K x y H Q
theorem op_eqU {X : Cx} {K : PySem.W.Frag} (hK : X.K = K) (hu : X.A.units + 64 < cLine) : OpR X (compareOp .Eq) (rEqU K) := fun pins s σ H x y u v Q I rx ry h =>
  h.elim (op_eq pins s σ H x y u v Q I rx ry) fun h => by
    subst hK
    exact op_eqD hu pins s σ H x y u v Q I rx ry h
theorem op_neU {X : Cx} {K : PySem.W.Frag} (hK : X.K = K) (hu : X.A.units + 64 < cLine) : OpR X (compareOp .NotEq) (rNeU K) := fun pins s σ H x y u v Q I rx ry h =>
  h.elim (op_ne pins s σ H x y u v Q I rx ry) fun h => by
    subst hK
    exact op_neD hu pins s σ H x y u v Q I rx ry h
theorem eqU_cases {g : Bool → Bool} {u v : D} {k : RV → Prop} (q : eqU g u v k) : (∃ x y, u = .str x ∧ v = .str y ∧ k (.d (.bl (g (decide (x = y)))))) ∨ eqK g u v k := by
  unfold eqU at q
  split at q
  · exact .inl ⟨_, _, rfl, rfl, q⟩
  · exact .inr q
theorem dec_str (x y : Str) : decide (V.str x = V.str y) = decide (x = y) := by
  by_cases h : x = y
  · rw [decide_eq_true h, decide_eq_true (by rw [h])]
  · rw [decide_eq_false h, decide_eq_false (fun z => h (by cases z; rfl))]
theorem o_eqU {T : Tab} : Op2 T (rEqU T.K) (eqU id) := fun H A x y u v Q K d hx hy q k => by
  rcases eqU_cases q with ⟨a, b, rfl, rfl, q⟩ | q
  · refine .inl ⟨?_, k _ _ ?_⟩
    · rw [hx.str, hy.str]
      rfl
    · rw [hx.str, hy.str, dec_str]
      exact vend_d d (.bl _) q
  · exact .inr (o_eq H A x y u v Q K d hx hy q k)
theorem o_neU {T : Tab} : Op2 T (rNeU T.K) (eqU not) := fun H A x y u v Q K d hx hy q k => by
  rcases eqU_cases q with ⟨a, b, rfl, rfl, q⟩ | q
  · refine .inl ⟨?_, k _ _ ?_⟩
    · rw [hx.str, hy.str]
      rfl
    · rw [hx.str, hy.str, dec_str]
      exact vend_d d (.bl _) q
  · exact .inr (o_ne H A x y u v Q K d hx hy q k)
theorem if_self {x : Str} {A B : Prop} (b : B) : if (!decide (x = x)) = true then A else B := if_f (by rw [decide_eq_true rfl]; rfl) b
end Dc
namespace Dc
open PySem PySem.Spec PyProof.Rows L2
/-! the layer's rules, the written part named -/
section
variable {X : Cx} {K : PySem.W.Frag}
theorem op_eqK (hK : X.K = K) (hu : X.A.units + 64 < cLine) : OpR X (compareOp .Eq) (rEqD K) := hK ▸ op_eqD hu
theorem op_neK (hK : X.K = K) (hu : X.A.units + 64 < cLine) : OpR X (compareOp .NotEq) (rNeD K) := hK ▸ op_neD hu
theorem op_addK (hK : X.K = K) : OpR X (binaryOp .Add) (rAddU K) := hK ▸ op_addU
theorem ix_K (hK : X.K = K) : IxR X (rIx K) := hK ▸ ix_seq
theorem pi_K {tg l : Expr} {tl : TE} (hK : X.K = K) (hl : PE X l tl) : PI X tg l (iSq K tl) := hK ▸ pi_sq hl
theorem len_K (hK : X.K = K) : CallR X (.builtin "len") (fun xs H Q => ∃ x n, xs = [x] ∧ LenV K x H n ∧ Q (.int n) H) := hK ▸ call_len
theorem isX_K (hK : X.K = K) : CallR X (.builtin "isinstance") (rIsX K) := hK ▸ call_isX
theorem list_K (hK : X.K = K) : CallR X (.type "list") (fun xs H Q => ∃ p ys, xs = [.ref p] ∧ (SqL K H p ys ∨ SqT K H p ys) ∧ ∀ l, H l = none → Q (.ref l) (upd H l (.lst ys))) := hK ▸ call_list_of
theorem fx_K {e : Expr} {te : TE} {pos : Pos} {n : Str} (hK : X.K = K) (he : PE X e te) (hb : attributeBase e n X.env (eval e X.env) = eval e X.env := by rfl) : PE X (.Attribute e n pos) (tFx K n te) := hK ▸ pe_fx he hb
theorem repr_K {ca : Str → Addr} (hK : X.K = K) (hg : NoG X.A) (hu : X.A.units + 64 < cLine) (hs : ∃ o, K.lookup sysModules = some o) : CallR X (.builtin "repr") (rReprA K ca) := by
  subst hK
  exact call_reprA hg hu hs
end
end Dc
namespace Dc
open PySem PySem.Spec PyProof.Rows L2
theorem wipe1 (ρ : En) (j : Nat) (c : Cell) : ((ρ.wipe [j]).set j c).wipe [j] = ρ.wipe [j] := by
  show En.mk (((ρ.s.set j none).set j (some c)).set j none) ρ.n = En.mk (ρ.s.set j none) ρ.n
  rw [List.set_set, List.set_set]
/-- a comprehension whose items do nothing else -/
theorem comp_map {j : Nat} {e : WE} {K : List D → En → Prop} {f : D → D} {isP : D → Bool} {ρ : En} (he : ∀ x, isP x = true → ∀ Q : RV → En → Prop, Q (.d (f x)) ((ρ.wipe [j]).set j (.p x)) → e ((ρ.wipe [j]).set j (.p x)) Q) :
    ∀ (xs acc : List D), xs.all isP = true → acc.length + xs.length ≤ 16777216 → K (acc ++ xs.map f) (ρ.wipe [j]) → wComp (wgN j) (fun ρ Q => Q true ρ) e [j] K xs acc (ρ.wipe [j])
  | [], acc, _, _, k => by
    rw [List.map_nil, List.append_nil] at k
    exact k
  | x :: xs, acc, hp, hl, k => by
    rw [List.all_cons] at hp
    obtain ⟨p1, p2⟩ := Bool.and_eq_true_iff.mp hp
    rw [List.length_cons] at hl
    show (if true = true then e ((ρ.wipe [j]).set j (.p x)) (fun r ρ3 => esc r ρ3 fun y ρ4 => szB (acc.length + 1) = true ∧ wComp (wgN j) (fun ρ Q => Q true ρ) e [j] K xs (acc ++ [y]) (ρ4.wipe [j])) else wComp (wgN j) (fun ρ Q => Q true ρ) e [j] K xs acc (((ρ.wipe [j]).set j (.p x)).wipe [j]))
    rw [if_pos rfl]
    refine he x p1 _ ⟨Nat.ble_eq_true_of_le (by omega), ?_⟩
    rw [wipe1]
    refine comp_map he xs (acc ++ [f x]) p2 (by rw [List.length_append, List.length_cons, List.length_nil]; omega) ?_
    rw [List.append_assoc]
    exact k
def isInt : D → Bool
  | .int _ => true
  | _ => false
def isBl : D → Bool
  | .bl _ => true
  | _ => false
def blInt : D → D
  | .bl b => .int (if b then 1 else 0)
  | x => x
def eqInt (k : Int) : D → D
  | .int a => .bl (a == k)
  | x => x
end Dc

set_option maxHeartbeats 4000000
/-! the walk of the law's defs -/
namespace Lw
open PySem PySem.Spec PyProof.Rows L2 Dc
def top (i : Nat) : Stmt := PySem.Challenge.pw_meetbehind_k26_errors_of_all_classes.main.body.getD i (.Pass ⟨0, 0, 0, 0⟩)
/-- the def st of the top, called x, stands at f -/
abbrev FnP (K : PySem.W.Frag) (x : Str) (st : Stmt) (at_ : Addr) (fd : FuncData) : Prop := FunD K x x (defArgs st) (defBody st) (defScope st) [] [] at_ fd
/-! ### what the law's defs promise -/
/-- the classes in the law's order -/
def cs : List Str := ["InvalidKind", "InvalidPart", "NoRealm", "Taken", "TooDeep", "Needed", "InvalidTarget", "InvalidPort", "InvalidName", "InvalidTime", "Clash", "InvalidText", "UnknownCommand", "NoStation", "NoRound", "NothingToUndo", "NotHeard", "NotSeen", "Heard", "TooMany", "InvalidQuestion", "InvalidEvent"]
/-- those that are no ValueErrors -/
def oth : List Str := ["NoStation", "NoRound", "NothingToUndo", "NotHeard", "NotSeen", "Heard", "TooMany"]
/-- an instance of the class c is one of x -/
@[irreducible] def isB (x c : Str) : Bool := if x == ("MeetError" : Str) then !oth.contains c else x == c
@[irreducible] def isC (x : String) (c : Str) : Bool := match x with
  | "ValueError" => !oth.contains c
  | "KeyError" => c == ("NoStation" : Str)
  | "IndexError" => c == ("NoRound" : Str)
  | "LookupError" => (["NoStation", "NoRound", "NothingToUndo", "NotHeard", "NotSeen"] : List Str).contains c
  | "RuntimeError" => c == ("Heard" : Str)
  | _ => c == ("TooMany" : Str)
@[irreducible] def tb (x c : Str) : Option Bool := if cs.contains c then some (isB x c) else none
/-- .. of the built-in x -/
@[irreducible] def tc (x : String) (c : Str) : Option Bool := if cs.contains c then some (isC x c) else none
theorem tb_eq {x c : Str} (h : cs.contains c = true) : tb x c = some (isB x c) := by
  unfold tb
  exact if_pos h
theorem tc_eq {x : String} {c : Str} (h : cs.contains c = true) : tc x c = some (isC x c) := by
  unfold tc
  exact if_pos h
/-- by place -/
def made (one two : D) : List D := [.exc "InvalidKind" ["place"] [one], .exc "InvalidPart" ["index"] [one], .exc "NoRealm" ["index"] [one], .exc "Taken" ["index"] [one], .exc "TooDeep" ["index"] [one], .exc "Needed" ["name"] [one], .exc "InvalidTarget" ["target"] [one], .exc "InvalidPort" ["port"] [one], .exc "InvalidName" ["name"] [one], .exc "InvalidTime" ["time"] [one], .exc "Clash" ["number"] [one], .exc "InvalidText" ["line", "word"] [one, two], .exc "UnknownCommand" ["command"] [one], .exc "NoStation" ["name"] [one], .exc "NoRound" ["number"] [one], .exc "NothingToUndo" ["count"] [one], .exc "NotHeard" ["host"] [one], .exc "NotSeen" ["name"] [one], .exc "Heard" ["number"] [one], .exc "TooMany" ["limit"] [one], .exc "InvalidQuestion" ["question"] [one], .exc "InvalidEvent" ["event"] [one]]
/-- by name: the fields in the order of the call -/
def named (one two : D) : List D := [.exc "InvalidKind" ["place"] [one], .exc "InvalidPart" ["index"] [one], .exc "NoRealm" ["index"] [one], .exc "Taken" ["index"] [one], .exc "TooDeep" ["index"] [one], .exc "Needed" ["name"] [one], .exc "InvalidTarget" ["target"] [one], .exc "InvalidPort" ["port"] [one], .exc "InvalidName" ["name"] [one], .exc "InvalidTime" ["time"] [one], .exc "Clash" ["number"] [one], .exc "InvalidText" ["word", "line"] [two, one], .exc "UnknownCommand" ["command"] [one], .exc "NoStation" ["name"] [one], .exc "NoRound" ["number"] [one], .exc "NothingToUndo" ["count"] [one], .exc "NotHeard" ["host"] [one], .exc "NotSeen" ["name"] [one], .exc "Heard" ["number"] [one], .exc "TooMany" ["limit"] [one], .exc "InvalidQuestion" ["question"] [one], .exc "InvalidEvent" ["event"] [one]]
def odds : List D := [.non, .bl true, .bl false, .int 0, .int 1, .int (-7), .int (10 ^ 40), .str "", .str "a", .str "it's", .tup [], .tup [.int 1, .str "x"], .lst [], .lst [.non], .dct [] [], .dct [.str "a"] [.lst [.int 1]], .tup [.str "own", .int 3]]
def R_draw : RD := fun ds n K => ∃ many : Int, ds = [.pen, .int many] ∧ 0 < many ∧ many < 1073741824 ∧ n ≤ 100000 ∧ ∀ (k : Int) (n' : Nat), 0 ≤ k → k < many → n' ≤ n + 1 → K (.d (.int k)) n'
def R_odd : RD := fun ds n K => ds = [.pen] ∧ n ≤ 100000 ∧ ∀ d ∈ odds, ∀ n' : Nat, n' ≤ n + 1 → K (.d d) n'
def R_made : RD := fun ds n K => ∃ one two, ds = [one, two] ∧ K (.n (made one two)) n
def R_named : RD := fun ds n K => ∃ one two, ds = [one, two] ∧ K (.n (named one two)) n
def R_fields : RD := fun ds n K => ∃ one two, (ds = [.lst (made one two)] ∨ ds = [.lst (named one two)]) ∧ K (.n (List.replicate 22 one)) n
def R_classes : RD := fun ds n K => ∃ c ns vs, ds = [.exc c ns vs] ∧ cs.contains c = true ∧ K (.n (cs.map fun x => .bl (isB x c))) n
def bit (b : Bool) : D := .int (if b then 1 else 0)
def baseOf (c : Str) : List Bool := [isB "MeetError" c, isC "ValueError" c, isC "KeyError" c, isC "IndexError" c, isC "LookupError" c, isC "RuntimeError" c, isC "OverflowError" c]
def R_bases : RD := fun ds n K => ∃ c ns vs, ds = [.exc c ns vs] ∧ cs.contains c = true ∧ K (.n ((baseOf c).map bit)) n
def row7 (l : List Int) : D := .lst (l.map D.int)
/-- the rows of bases -/
def due : List D := List.replicate 13 (row7 [1, 1, 0, 0, 0, 0, 0]) ++ [row7 [0, 0, 1, 0, 1, 0, 0], row7 [0, 0, 0, 1, 1, 0, 0]] ++ List.replicate 3 (row7 [0, 0, 0, 0, 1, 0, 0]) ++ [row7 [0, 0, 0, 0, 0, 1, 0], row7 [0, 0, 0, 0, 0, 0, 1]] ++ List.replicate 2 (row7 [1, 1, 0, 0, 0, 0, 0])
theorem show1 : (odds.all fun d => showB (.lst [.lst (List.replicate 22 d), .lst (List.replicate 22 d)])) = true := by kernel_rfl
theorem show2 : (odds.all fun d => showB (.lst [d, d])) = true := by kernel_rfl

section
variable {P : Program} {w : World} {K : PySem.W.Frag} {mg : Str → Option Value} {base : Heap} {ca : Str → Addr} {f : Addr} {fd : FuncData}
theorem isR {a : Addr} : ∀ u, RelV (.ref a) u → u = .ref a := fun u h => h
theorem isY {n : String} : ∀ u, RelV (.ty n) u → u = .type n := fun u h => h
/-- what isinstance and fields want -/
structure IsF (K : PySem.W.Frag) (ca : Str → Addr) : Prop where
  e : ∀ c, cs.contains c = true → ExcC K (ca c)
  t : ∀ x ∈ (("MeetError" : Str) :: cs), ∀ c b, tb x c = some b → PySem.W.kitOne K (.ref (ca c)) (.ref (ca x)) = some b
  u : ∀ x ∈ ["ValueError", "KeyError", "IndexError", "LookupError", "RuntimeError", "OverflowError"], ∀ c b, tc x c = some b → PySem.W.kitOne K (.ref (ca c)) (.type x) = some b
  f : ∀ n ∈ (["place", "index", "name", "target", "port", "time", "number", "line", "word", "command", "count", "host", "limit", "question", "event"] : List Str), ∀ c, cs.contains c = true → XfC K (ca c) ∧ PySem.W.findIn K (.ref (ca c)) n = some none
theorem tb_cs {x c : Str} {b : Bool} (h : tb x c = some b) : cs.contains c = true := by
  unfold tb at h
  split at h
  · assumption
  · cases h
theorem tc_cs {x : String} {c : Str} {b : Bool} (h : tc x c = some b) : cs.contains c = true := by
  unfold tc at h
  split at h
  · assumption
  · cases h
abbrev s_draw : Stmt := top 26
theorem sc_draw : FnScope ["_law_pen_here", "_law_many", "_law_turn", "_law_cell", "_law_mash", "_law_digit", "_law_great"] ["_law_pen_here", "_law_many"] (defScope s_draw) := ⟨rfl, rfl, rfl, by decide +kernel, rfl, by decide +kernel, by decide +kernel⟩
theorem ok_draw (F : FnP K "_law_draw" s_draw f fd) (g : mg "_law_draw" = some (.ref f)) (n_abs : mg "abs" = none) (n_int : mg "int" = none) (n_len : mg "len" = none) : Kn P w K mg base ca "_law_draw" 1 R_draw := by
  have S := sc_draw
  refine ⟨f, fd, ["_law_pen_here", "_law_many"], F.ok S (fun vs H Q E h => SpA.len (m := 2) ?_ h) (fun cdv A outer s H vs Q E hr h => ⟨_, (L2.pss_cons (L2.ps_if (L2.pt_cmpR L2.op_gt (L2.pe_ix (Dc.ix_K (K := K) rfl) (L2.pv 0) L2.pe_int fun _ _ => rfl) L2.pe_int (L2.nomark _)) (L2.pss_cons (L2.ps_set (i := 5) S.nd rfl (by first | exact Or.inl rfl | exact Or.inr rfl) (L2.pe_op L2.op_mod (L2.pe_callTy L2.call_int1 rfl n_int (by decide +kernel) (L2.pa_cons (L2.pe_ix (Dc.ix_K (K := K) rfl) (L2.pv 0) L2.pe_int fun _ _ => rfl) L2.pa_nil)) (L2.pv 1))) (L2.pss_cons (L2.ps_asg (L2.pe_op L2.op_fdiv (L2.pe_ix (Dc.ix_K (K := K) rfl) (L2.pv 0) L2.pe_int fun _ _ => rfl) (L2.pv 1)) (L2.pg_sub (L2.pv 0) L2.pe_int L2.set_list)) (L2.pss_one (L2.ps_ret (L2.pv 5))))) L2.pss_nil) (L2.pss_cons (L2.ps_set (i := 2) S.nd rfl (by first | exact Or.inl rfl | exact Or.inr rfl) (L2.pe_ix (Dc.ix_K (K := K) rfl) (L2.pv 0) L2.pe_int fun _ _ => rfl)) (L2.pss_cons (L2.ps_asg (L2.pe_op (Dc.op_addK (K := K) rfl) (L2.pv 2) L2.pe_int) (L2.pg_sub (L2.pv 0) L2.pe_int L2.set_list)) (L2.pss_cons (L2.ps_set (i := 3) S.nd rfl (by first | exact Or.inl rfl | exact Or.inr rfl) (L2.pe_op (Dc.op_addK (K := K) rfl) (L2.pe_op Dc.op_mulU L2.pe_int (L2.pv 2)) L2.pe_int)) (L2.pss_cons (L2.ps_if (L2.pt_cmpR (Dc.op_neU (K := K) rfl hr.units) (L2.pe_ix (Dc.ix_K (K := K) rfl) (L2.pv 0) L2.pe_int fun _ _ => rfl) (L2.pe_lst L2.pa_nil) (L2.nomark _)) (L2.pss_one (L2.ps_set (i := 3) S.nd rfl (by first | exact Or.inl rfl | exact Or.inr rfl) (L2.pe_ix (Dc.ix_K (K := K) rfl) (L2.pe_ix (Dc.ix_K (K := K) rfl) (L2.pv 0) L2.pe_int fun _ _ => rfl) (L2.pe_op L2.op_mod (L2.pv 2) (L2.pe_callB (Dc.len_K (K := K) rfl) rfl n_len boot_len (L2.pa_cons (L2.pe_ix (Dc.ix_K (K := K) rfl) (L2.pv 0) L2.pe_int fun _ _ => rfl) L2.pa_nil))) fun _ _ => rfl))) L2.pss_nil) (L2.pss_cons (L2.ps_if (L2.PW.pt (L2.pw_and (L2.pt_cmpR L2.op_lt (L2.pv 2) (L2.pe_callB (Dc.len_K (K := K) rfl) rfl n_len boot_len (L2.pa_cons (L2.pe_ix (Dc.ix_K (K := K) rfl) (L2.pv 0) L2.pe_int fun _ _ => rfl) L2.pa_nil)) (L2.nomark _)) (L2.pw_and1 (L2.pt_cmpR L2.op_ge (L2.pe_callB L2.call_abs rfl n_abs (by decide +kernel) (L2.pa_cons (L2.pv 3) L2.pa_nil)) (L2.pe_op L2.op_pow L2.pe_int L2.pe_int) (L2.nomark _))))) (L2.pss_cons (L2.ps_set (i := 6) S.nd rfl (by first | exact Or.inl rfl | exact Or.inr rfl) (L2.pe_op (Dc.op_addK (K := K) rfl) (L2.pe_op Dc.op_mulU L2.pe_int (L2.pe_op L2.op_sub (L2.pe_callB L2.call_abs rfl n_abs (by decide +kernel) (L2.pa_cons (L2.pv 3) L2.pa_nil)) (L2.pe_op L2.op_pow L2.pe_int L2.pe_int))) (L2.pe_callTy L2.call_int1 rfl n_int (by decide +kernel) (L2.pa_cons (L2.pe_cmpR L2.op_lt (L2.pv 3) L2.pe_int (L2.nomark _)) L2.pa_nil)))) (L2.pss_cons (L2.ps_asg (L2.pe_op L2.op_fdiv (L2.pv 6) (L2.pv 1)) (L2.pg_sub (L2.pv 0) L2.pe_int L2.set_list)) (L2.pss_one (L2.ps_ret (L2.pe_op L2.op_mod (L2.pe_callTy L2.call_int1 rfl n_int (by decide +kernel) (L2.pa_cons (L2.pv 6) L2.pa_nil)) (L2.pv 1)))))) L2.pss_nil) (L2.pss_cons (L2.ps_set (i := 4) S.nd rfl (by first | exact Or.inl rfl | exact Or.inr rfl) (L2.pe_op L2.op_mod (L2.pe_op L2.op_pow (L2.pe_op (Dc.op_addK (K := K) rfl) (L2.pe_op (Dc.op_addK (K := K) rfl) (L2.pe_op (Dc.op_addK (K := K) rfl) (L2.pe_op L2.op_mod (L2.pe_callTy L2.call_int1 rfl n_int (by decide +kernel) (L2.pa_cons (L2.pv 3) L2.pa_nil)) L2.pe_int) (L2.pe_op Dc.op_mulU (L2.pe_op Dc.op_mulU L2.pe_int (L2.pv 2)) (L2.pv 2))) (L2.pe_op Dc.op_mulU L2.pe_int (L2.pv 2))) L2.pe_int) L2.pe_int) L2.pe_int)) (L2.pss_cons (L2.ps_set (i := 4) S.nd rfl (by first | exact Or.inl rfl | exact Or.inr rfl) (L2.pe_op L2.op_mod (L2.pe_op L2.op_pow (L2.pe_op (Dc.op_addK (K := K) rfl) (L2.pe_op (Dc.op_addK (K := K) rfl) (L2.pe_op Dc.op_mulU (L2.pv 4) (L2.pe_op (Dc.op_addK (K := K) rfl) (L2.pe_op Dc.op_mulU L2.pe_int (L2.pv 2)) L2.pe_int)) (L2.pe_op Dc.op_mulU L2.pe_int (L2.pv 2))) L2.pe_int) L2.pe_int) L2.pe_int)) (L2.pss_one (L2.ps_ret (L2.pe_op L2.op_mod (L2.pe_callTy L2.call_int1 rfl n_int (by decide +kernel) (L2.pa_cons (L2.pe_op L2.op_fdiv (L2.pv 4) L2.pe_int) L2.pa_nil)) (L2.pv 1)))))))))))), bodyA (K := K) (ca := ca) (m := 2) (N := ["_law_pen_here", "_law_many", "_law_turn", "_law_cell", "_law_mash", "_law_digit", "_law_great"]) (fun p ms hz => (Dc.ps_seq (Dc.ps_if (Dc.pt_t (Dc.pe_o (Dc.o_gt (T := ⟨K, ca, p, ms⟩)) (Dc.pe_pen2 (T := ⟨K, ca, p, ms⟩)) (Dc.pe_cint (T := ⟨K, ca, p, ms⟩)))) (Dc.ps_seq (Dc.ps_asg (i := 5) (Dc.pe_o (Dc.o_mod (T := ⟨K, ca, p, ms⟩)) (Dc.pe_cb (Dc.o_int (T := ⟨K, ca, p, ms⟩)) (Dc.par_c (Dc.pe_pen2 (T := ⟨K, ca, p, ms⟩)) (Dc.par_n (T := ⟨K, ca, p, ms⟩)))) (Dc.pe_v 1))) (Dc.ps_seq (Dc.ps_pen2 (Dc.pe_o (Dc.o_div (T := ⟨K, ca, p, ms⟩)) (Dc.pe_pen2 (T := ⟨K, ca, p, ms⟩)) (Dc.pe_v 1))) (Dc.ps_ret (Dc.pe_v 5)))) Dc.ps_next) (Dc.ps_seq (Dc.ps_asg (i := 2) (Dc.pe_pen1 (T := ⟨K, ca, p, ms⟩))) (Dc.ps_seq (Dc.ps_pen1 (Dc.pe_o (Dc.o_addU (T := ⟨K, ca, p, ms⟩)) (Dc.pe_v 2) (Dc.pe_cint (T := ⟨K, ca, p, ms⟩)))) (Dc.ps_seq (Dc.ps_asg (i := 3) (Dc.pe_o (Dc.o_addU (T := ⟨K, ca, p, ms⟩)) (Dc.pe_o (Dc.o_mulU (T := ⟨K, ca, p, ms⟩)) (Dc.pe_cint (T := ⟨K, ca, p, ms⟩)) (Dc.pe_v 2)) (Dc.pe_cint (T := ⟨K, ca, p, ms⟩)))) (Dc.ps_seq (Dc.ps_if (Dc.pt_t (Dc.pe_o (Dc.o_neU (T := ⟨K, ca, p, ms⟩)) (Dc.pe_pen0 (T := ⟨K, ca, p, ms⟩) (cs := ms) rfl) (Dc.pe_l (Dc.pa_n (T := ⟨K, ca, p, ms⟩))))) (Dc.ps_asg (i := 3) (Dc.pe_o (Dc.o_ix (T := ⟨K, ca, p, ms⟩)) (Dc.pe_pen0 (T := ⟨K, ca, p, ms⟩) (cs := ms) rfl) (Dc.pe_o (Dc.o_mod (T := ⟨K, ca, p, ms⟩)) (Dc.pe_v 2) (Dc.pe_cb (Dc.o_len (T := ⟨K, ca, p, ms⟩)) (Dc.par_c (Dc.pe_pen0 (T := ⟨K, ca, p, ms⟩) (cs := ms) rfl) (Dc.par_n (T := ⟨K, ca, p, ms⟩))))))) Dc.ps_next) (Dc.ps_seq (Dc.ps_if (Dc.pt_and (Dc.pt_t (Dc.pe_o (Dc.o_lt (T := ⟨K, ca, p, ms⟩)) (Dc.pe_v 2) (Dc.pe_cb (Dc.o_len (T := ⟨K, ca, p, ms⟩)) (Dc.par_c (Dc.pe_pen0 (T := ⟨K, ca, p, ms⟩) (cs := ms) rfl) (Dc.par_n (T := ⟨K, ca, p, ms⟩)))))) (Dc.pt_t (Dc.pe_o (Dc.o_ge (T := ⟨K, ca, p, ms⟩)) (Dc.pe_cb (Dc.o_abs (T := ⟨K, ca, p, ms⟩)) (Dc.par_c (Dc.pe_v 3) (Dc.par_n (T := ⟨K, ca, p, ms⟩)))) (Dc.pe_o (Dc.o_pow (T := ⟨K, ca, p, ms⟩)) (Dc.pe_cint (T := ⟨K, ca, p, ms⟩)) (Dc.pe_cint (T := ⟨K, ca, p, ms⟩)))))) (Dc.ps_seq (Dc.ps_asg (i := 6) (Dc.pe_o (Dc.o_addU (T := ⟨K, ca, p, ms⟩)) (Dc.pe_o (Dc.o_mulU (T := ⟨K, ca, p, ms⟩)) (Dc.pe_cint (T := ⟨K, ca, p, ms⟩)) (Dc.pe_o (Dc.o_sub (T := ⟨K, ca, p, ms⟩)) (Dc.pe_cb (Dc.o_abs (T := ⟨K, ca, p, ms⟩)) (Dc.par_c (Dc.pe_v 3) (Dc.par_n (T := ⟨K, ca, p, ms⟩)))) (Dc.pe_o (Dc.o_pow (T := ⟨K, ca, p, ms⟩)) (Dc.pe_cint (T := ⟨K, ca, p, ms⟩)) (Dc.pe_cint (T := ⟨K, ca, p, ms⟩))))) (Dc.pe_cb (Dc.o_int (T := ⟨K, ca, p, ms⟩)) (Dc.par_c (Dc.pe_o (Dc.o_lt (T := ⟨K, ca, p, ms⟩)) (Dc.pe_v 3) (Dc.pe_cint (T := ⟨K, ca, p, ms⟩))) (Dc.par_n (T := ⟨K, ca, p, ms⟩)))))) (Dc.ps_seq (Dc.ps_pen2 (Dc.pe_o (Dc.o_div (T := ⟨K, ca, p, ms⟩)) (Dc.pe_v 6) (Dc.pe_v 1))) (Dc.ps_ret (Dc.pe_o (Dc.o_mod (T := ⟨K, ca, p, ms⟩)) (Dc.pe_cb (Dc.o_int (T := ⟨K, ca, p, ms⟩)) (Dc.par_c (Dc.pe_v 6) (Dc.par_n (T := ⟨K, ca, p, ms⟩)))) (Dc.pe_v 1))))) Dc.ps_next) (Dc.ps_seq (Dc.ps_asg (i := 4) (Dc.pe_o (Dc.o_mod (T := ⟨K, ca, p, ms⟩)) (Dc.pe_o (Dc.o_pow (T := ⟨K, ca, p, ms⟩)) (Dc.pe_o (Dc.o_addU (T := ⟨K, ca, p, ms⟩)) (Dc.pe_o (Dc.o_addU (T := ⟨K, ca, p, ms⟩)) (Dc.pe_o (Dc.o_addU (T := ⟨K, ca, p, ms⟩)) (Dc.pe_o (Dc.o_mod (T := ⟨K, ca, p, ms⟩)) (Dc.pe_cb (Dc.o_int (T := ⟨K, ca, p, ms⟩)) (Dc.par_c (Dc.pe_v 3) (Dc.par_n (T := ⟨K, ca, p, ms⟩)))) (Dc.pe_cint (T := ⟨K, ca, p, ms⟩))) (Dc.pe_o (Dc.o_mulU (T := ⟨K, ca, p, ms⟩)) (Dc.pe_o (Dc.o_mulU (T := ⟨K, ca, p, ms⟩)) (Dc.pe_cint (T := ⟨K, ca, p, ms⟩)) (Dc.pe_v 2)) (Dc.pe_v 2))) (Dc.pe_o (Dc.o_mulU (T := ⟨K, ca, p, ms⟩)) (Dc.pe_cint (T := ⟨K, ca, p, ms⟩)) (Dc.pe_v 2))) (Dc.pe_cint (T := ⟨K, ca, p, ms⟩))) (Dc.pe_cint (T := ⟨K, ca, p, ms⟩))) (Dc.pe_cint (T := ⟨K, ca, p, ms⟩)))) (Dc.ps_seq (Dc.ps_asg (i := 4) (Dc.pe_o (Dc.o_mod (T := ⟨K, ca, p, ms⟩)) (Dc.pe_o (Dc.o_pow (T := ⟨K, ca, p, ms⟩)) (Dc.pe_o (Dc.o_addU (T := ⟨K, ca, p, ms⟩)) (Dc.pe_o (Dc.o_addU (T := ⟨K, ca, p, ms⟩)) (Dc.pe_o (Dc.o_mulU (T := ⟨K, ca, p, ms⟩)) (Dc.pe_v 4) (Dc.pe_o (Dc.o_addU (T := ⟨K, ca, p, ms⟩)) (Dc.pe_o (Dc.o_mulU (T := ⟨K, ca, p, ms⟩)) (Dc.pe_cint (T := ⟨K, ca, p, ms⟩)) (Dc.pe_v 2)) (Dc.pe_cint (T := ⟨K, ca, p, ms⟩)))) (Dc.pe_o (Dc.o_mulU (T := ⟨K, ca, p, ms⟩)) (Dc.pe_cint (T := ⟨K, ca, p, ms⟩)) (Dc.pe_v 2))) (Dc.pe_cint (T := ⟨K, ca, p, ms⟩))) (Dc.pe_cint (T := ⟨K, ca, p, ms⟩))) (Dc.pe_cint (T := ⟨K, ca, p, ms⟩)))) (Dc.ps_ret (Dc.pe_o (Dc.o_mod (T := ⟨K, ca, p, ms⟩)) (Dc.pe_cb (Dc.o_int (T := ⟨K, ca, p, ms⟩)) (Dc.par_c (Dc.pe_o (Dc.o_div (T := ⟨K, ca, p, ms⟩)) (Dc.pe_v 4) (Dc.pe_cint (T := ⟨K, ca, p, ms⟩))) (Dc.par_n (T := ⟨K, ca, p, ms⟩)))) (Dc.pe_v 1)))))))))))) ?_ h⟩), g, F.kp, F.bindsN fun _ _ _ _ _ _ us hl => match us, hl with | [_, _], _ => rfl⟩
  · rintro ds n K ⟨many, rfl, _⟩
    rfl
  · rintro ms hz ds n K ⟨many, rfl, hm0, hm1, hn, hk⟩
    have cp : L2.CPow 10 18 := ⟨by decide, by decide, by decide⟩
    refine ⟨rfl, rfl, fun j hj => ⟨_, rfl, ite_b (fun _ => ?_) fun _ => ?_⟩⟩
    · refine ⟨rfl, fun j2 hj2 => ⟨hm0, rfl, fun j3 hj3 => ⟨⟨hm0, hm1⟩, _, rfl, rfl, Int.ediv_nonneg hj3 (by omega), ?_⟩⟩⟩
      exact hk _ _ (Int.emod_nonneg _ (by omega)) (Int.emod_lt_of_pos _ hm0) (Nat.le_succ n)
    · refine ⟨rfl, fun t ht0 htn => ?_⟩
      have htn : t ≤ (n : Int) := htn
      have tb : t ≤ 100000 := by omega
      have tt : 0 ≤ t * t ∧ t * t ≤ 10000000000 := ⟨Int.mul_nonneg ht0 ht0, Int.le_trans (Int.mul_le_mul tb tb ht0 (by decide)) (by decide)⟩
      refine ⟨_, rfl, rfl, by omega, show t + 1 ≤ (n : Int) + 1 by omega, ?_⟩
      refine ⟨.inl ⟨by decide, by decide⟩, ?_⟩
      have mash : ∀ c : Int, ∃ m : Int, m = (c % 2147483477 + 30011 * t * t + 20011 * t + 7) ^ (3 : Int).toNat % 2147483647 ∧ L2.CPow (c % 2147483477 + 30011 * t * t + 20011 * t + 7) 3 ∧ 0 ≤ m ∧ m < 2147483647 := fun c => by
        have c0 := Int.emod_nonneg c (show (2147483477 : Int) ≠ 0 by decide)
        have c1 := Int.emod_lt_of_pos c (show (0 : Int) < 2147483477 by decide)
        have e : 30011 * t * t = 30011 * (t * t) := Int.mul_assoc _ _ _
        exact ⟨_, rfl, ⟨by decide, by decide, by rw [e]; omega⟩, Int.emod_nonneg _ (by decide), Int.emod_lt_of_pos _ (by decide)⟩
      have mash2 : ∀ m : Int, 0 ≤ m → m < 2147483647 → L2.CPow (m * (2 * t + 15) + 50021 * t + 3) 5 := fun m h0 h1 => by
        have q0 : 0 ≤ m * (2 * t + 15) := Int.mul_nonneg h0 (by omega)
        have q1 : m * (2 * t + 15) ≤ 2147483647 * 200015 := Int.le_trans (Int.mul_le_mul (Int.le_of_lt h1) (show 2 * t + 15 ≤ 200015 by omega) (by omega) (by decide)) (by decide)
        exact ⟨by decide, by decide, by omega⟩
      have z1 : (0 : Int) < 2147483477 := by decide
      have z2 : (0 : Int) < 2147483647 := by decide
      have z3 : (0 : Int) < 2147483563 := by decide
      have c1 : L2.CMul 30011 t := .inl ⟨by decide, by decide⟩
      have c2 : L2.CMul (30011 * t) t := .inr ⟨by omega, by omega⟩
      have c3 : L2.CMul 20011 t := .inl ⟨by decide, by decide⟩
      have c4 : L2.CMul 2 t := .inl ⟨by decide, by decide⟩
      have c6 : L2.CMul 50021 t := .inl ⟨by decide, by decide⟩
      have cd : L2.CDiv 0 32 := ⟨by decide, by decide⟩
      have fin : ∀ x : Int, K (.d (.int (x % many))) (n + 1) := fun x => hk _ _ (Int.emod_nonneg _ (by omega)) (Int.emod_lt_of_pos _ hm0) (Nat.le_refl _)
      refine ⟨rfl, rfl, ne_nil ⟨_, rfl, ite_b (fun hne => ?_) fun hne => ?_⟩⟩
      · have hl : 0 < ((ms.map D.int).length : Int) := by
          cases ms with
          | nil => cases hne
          | cons _ _ => rw [List.length_map, List.length_cons]; omega
        refine ⟨rfl, rfl, hl, atK_ints (Int.emod_nonneg _ (by omega)) (by have := Int.emod_lt_of_pos t hl; rw [List.length_map] at this ⊢; exact this) fun c => ?_⟩
        refine ⟨rfl, _, rfl, ite_b (fun _ => ⟨cp, _, rfl, ite_b (fun hb => ?_) fun _ => ?_⟩) fun _ => ?_⟩
        · have hb : decide ((10 : Int) ^ (18 : Int).toNat ≤ if c < 0 then -c else c) = true := hb
          have hb := of_decide_eq_true hb
          refine ⟨cp, .inl ⟨by decide, by decide⟩, ⟨hm0, hm1⟩, _, rfl, rfl, Int.ediv_nonneg ?_ (by omega), hm0, fin _⟩
          have s1 : 0 ≤ (if c < 0 then -c else c) - (10 : Int) ^ (18 : Int).toNat := Int.sub_nonneg_of_le hb
          have s2 : 0 ≤ (if decide (c < 0) = true then (1 : Int) else 0) := by split <;> decide
          exact Int.add_nonneg (Int.mul_nonneg (by decide) s1) s2
        all_goals
          obtain ⟨m, em, p1, m0, m1⟩ := mash c
          refine ⟨z1, c1, c2, c3, p1, z2, ?_⟩
          refine ⟨c4, .inl ⟨by rw [← em]; omega, by rw [← em]; omega⟩, c6, by rw [← em]; exact mash2 m m0 m1, z3, ?_⟩
          exact ⟨⟨by decide, by decide⟩, hm0, fin _⟩
      · obtain ⟨c, ec⟩ : ∃ c : Int, c = 7121 * t + 31 := ⟨_, rfl⟩
        refine ⟨rfl, _, rfl, ite_b (fun _ => ⟨cp, _, rfl, ite_b (fun hb => ?_) fun _ => ?_⟩) fun _ => ?_⟩
        · have hb : decide ((10 : Int) ^ (18 : Int).toNat ≤ if 7121 * t + 31 < 0 then -(7121 * t + 31) else 7121 * t + 31) = true := hb
          have hb := of_decide_eq_true hb
          refine ⟨cp, .inl ⟨by decide, by decide⟩, ⟨hm0, hm1⟩, _, rfl, rfl, Int.ediv_nonneg ?_ (by omega), hm0, fin _⟩
          have s1 : 0 ≤ (if 7121 * t + 31 < 0 then -(7121 * t + 31) else 7121 * t + 31) - (10 : Int) ^ (18 : Int).toNat := Int.sub_nonneg_of_le hb
          have s2 : 0 ≤ (if decide (7121 * t + 31 < 0) = true then (1 : Int) else 0) := by split <;> decide
          exact Int.add_nonneg (Int.mul_nonneg (by decide) s1) s2
        all_goals
          obtain ⟨m, em, p1, m0, m1⟩ := mash (7121 * t + 31)
          refine ⟨z1, c1, c2, c3, p1, z2, ?_⟩
          refine ⟨c4, .inl ⟨by rw [← em]; omega, by rw [← em]; omega⟩, c6, by rw [← em]; exact mash2 m m0 m1, z3, ?_⟩
          exact ⟨⟨by decide, by decide⟩, hm0, fin _⟩
abbrev s_odd : Stmt := top 27
theorem sc_odd : FnScope ["_law_pen_here", "_law_odd_here"] ["_law_pen_here"] (defScope s_odd) := ⟨rfl, rfl, rfl, by decide +kernel, rfl, by decide +kernel, by decide +kernel⟩
theorem ok_odd (F : FnP K "_law_odd" s_odd f fd) (g : mg "_law_odd" = some (.ref f)) (k__law_draw : Kn P w K mg base ca "_law_draw" 1 R_draw) : Kn P w K mg base ca "_law_odd" 2 R_odd := by
  have S := sc_odd
  refine ⟨f, fd, ["_law_pen_here"], F.ok S (fun vs H Q E h => SpA.len (m := 1) ?_ h) (fun cdv A outer s H vs Q E hr h => ⟨_, (L2.pss_cons (L2.ps_set (i := 1) S.nd rfl (by first | exact Or.inl rfl | exact Or.inr rfl) (L2.pe_lst (L2.pa_cons L2.pe_non (L2.pa_cons L2.pe_bl (L2.pa_cons L2.pe_bl (L2.pa_cons L2.pe_int (L2.pa_cons L2.pe_int (L2.pa_cons (L2.pe_un L2.un_neg L2.pe_int) (L2.pa_cons (L2.pe_op L2.op_pow L2.pe_int L2.pe_int) (L2.pa_cons L2.pe_str (L2.pa_cons L2.pe_str (L2.pa_cons L2.pe_str (L2.pa_cons (L2.pe_tup L2.pa_nil) (L2.pa_cons (L2.pe_tup (L2.pa_cons L2.pe_int (L2.pa_cons L2.pe_str L2.pa_nil))) (L2.pa_cons (L2.pe_lst L2.pa_nil) (L2.pa_cons (L2.pe_lst (L2.pa_cons L2.pe_non L2.pa_nil)) (L2.pa_cons L2.pe_dnewK (L2.pa_cons (L2.pe_disp (L2.pps_cons L2.pe_str (L2.pe_lst (L2.pa_cons L2.pe_int L2.pa_nil)) L2.pps_nil) rfl rfl (by exact fun z => nomatch z) (by decide)) (L2.pa_cons (L2.pe_tup (L2.pa_cons L2.pe_str (L2.pa_cons L2.pe_int L2.pa_nil))) L2.pa_nil))))))))))))))))))) (L2.pss_one (L2.ps_ret (L2.pe_ix (Dc.ix_K (K := K) rfl) (L2.pv 1) (Dc.pe_kn k__law_draw hr (by decide) rfl (L2.pa_cons (L2.pv 0) (L2.pa_cons L2.pe_int L2.pa_nil))) fun _ _ => rfl)))), bodyA (K := K) (ca := ca) (m := 1) (N := ["_law_pen_here", "_law_odd_here"]) (fun p ms hz => (Dc.ps_seq (Dc.ps_asg (i := 1) (Dc.pe_l (Dc.pa_c (Dc.pe_cnon (T := ⟨K, ca, p, ms⟩)) (Dc.pa_c (Dc.pe_cbl (T := ⟨K, ca, p, ms⟩)) (Dc.pa_c (Dc.pe_cbl (T := ⟨K, ca, p, ms⟩)) (Dc.pa_c (Dc.pe_cint (T := ⟨K, ca, p, ms⟩)) (Dc.pa_c (Dc.pe_cint (T := ⟨K, ca, p, ms⟩)) (Dc.pa_c (Dc.pe_u (Dc.o_neg (T := ⟨K, ca, p, ms⟩)) (Dc.pe_cint (T := ⟨K, ca, p, ms⟩))) (Dc.pa_c (Dc.pe_o (Dc.o_pow (T := ⟨K, ca, p, ms⟩)) (Dc.pe_cint (T := ⟨K, ca, p, ms⟩)) (Dc.pe_cint (T := ⟨K, ca, p, ms⟩))) (Dc.pa_c (Dc.pe_cstr (T := ⟨K, ca, p, ms⟩)) (Dc.pa_c (Dc.pe_cstr (T := ⟨K, ca, p, ms⟩)) (Dc.pa_c (Dc.pe_cstr (T := ⟨K, ca, p, ms⟩)) (Dc.pa_c (Dc.pe_t (Dc.pa_n (T := ⟨K, ca, p, ms⟩))) (Dc.pa_c (Dc.pe_t (Dc.pa_c (Dc.pe_cint (T := ⟨K, ca, p, ms⟩)) (Dc.pa_c (Dc.pe_cstr (T := ⟨K, ca, p, ms⟩)) (Dc.pa_n (T := ⟨K, ca, p, ms⟩))))) (Dc.pa_c (Dc.pe_l (Dc.pa_n (T := ⟨K, ca, p, ms⟩))) (Dc.pa_c (Dc.pe_l (Dc.pa_c (Dc.pe_cnon (T := ⟨K, ca, p, ms⟩)) (Dc.pa_n (T := ⟨K, ca, p, ms⟩)))) (Dc.pa_c Dc.pe_d0 (Dc.pa_c (Dc.pe_d1 (Dc.pe_l (Dc.pa_c (Dc.pe_cint (T := ⟨K, ca, p, ms⟩)) (Dc.pa_n (T := ⟨K, ca, p, ms⟩))))) (Dc.pa_c (Dc.pe_t (Dc.pa_c (Dc.pe_cstr (T := ⟨K, ca, p, ms⟩)) (Dc.pa_c (Dc.pe_cint (T := ⟨K, ca, p, ms⟩)) (Dc.pa_n (T := ⟨K, ca, p, ms⟩))))) (Dc.pa_n (T := ⟨K, ca, p, ms⟩))))))))))))))))))))) (Dc.ps_ret (Dc.pe_o (Dc.o_ix (T := ⟨K, ca, p, ms⟩)) (Dc.pe_v 1) (Dc.pe_call hz (Dc.pa_c (Dc.pe_v 0) (Dc.pa_c (Dc.pe_cint (T := ⟨K, ca, p, ms⟩)) (Dc.pa_n (T := ⟨K, ca, p, ms⟩))))))))) ?_ h⟩), g, F.kp, F.bindsN fun _ _ _ _ _ _ us hl => match us, hl with | [_], _ => rfl⟩
  · rintro ds n K ⟨rfl, _⟩
    rfl
  · rintro ms hz ds n K ⟨rfl, hn, hk⟩
    refine ⟨rfl, ?_⟩
    refine ⟨⟨by decide, by decide, by decide⟩, rfl, rfl, rfl, rfl, rfl, rfl, rfl, ?_⟩
    exact ⟨17, rfl, by decide, by decide, hn, fun k n' h0 h1 h2 => atK_of h0 h1 fun d hd => hk d hd n' h2⟩
abbrev s_made : Stmt := top 28
theorem sc_made : FnScope ["_law_one", "_law_two", "_law_made_here"] ["_law_one", "_law_two"] (defScope s_made) := ⟨rfl, rfl, rfl, by decide +kernel, rfl, by decide +kernel, by decide +kernel⟩
theorem ok_made (F : FnP K "_law_made" s_made f fd) (g : mg "_law_made" = some (.ref f)) (x_Clash : Xc P w K mg base ca "Clash" ["number"] ["number"]) (x_Heard : Xc P w K mg base ca "Heard" ["number"] ["number"]) (x_InvalidEvent : Xc P w K mg base ca "InvalidEvent" ["event"] ["event"]) (x_InvalidKind : Xc P w K mg base ca "InvalidKind" ["place"] ["place"]) (x_InvalidName : Xc P w K mg base ca "InvalidName" ["name"] ["name"]) (x_InvalidPart : Xc P w K mg base ca "InvalidPart" ["index"] ["index"]) (x_InvalidPort : Xc P w K mg base ca "InvalidPort" ["port"] ["port"]) (x_InvalidQuestion : Xc P w K mg base ca "InvalidQuestion" ["question"] ["question"]) (x_InvalidTarget : Xc P w K mg base ca "InvalidTarget" ["target"] ["target"]) (x_InvalidText : Xc P w K mg base ca "InvalidText" ["line", "word"] ["word", "line"]) (x_InvalidTime : Xc P w K mg base ca "InvalidTime" ["time"] ["time"]) (x_Needed : Xc P w K mg base ca "Needed" ["name"] ["name"]) (x_NoRealm : Xc P w K mg base ca "NoRealm" ["index"] ["index"]) (x_NoRound : Xc P w K mg base ca "NoRound" ["number"] ["number"]) (x_NoStation : Xc P w K mg base ca "NoStation" ["name"] ["name"]) (x_NotHeard : Xc P w K mg base ca "NotHeard" ["host"] ["host"]) (x_NotSeen : Xc P w K mg base ca "NotSeen" ["name"] ["name"]) (x_NothingToUndo : Xc P w K mg base ca "NothingToUndo" ["count"] ["count"]) (x_Taken : Xc P w K mg base ca "Taken" ["index"] ["index"]) (x_TooDeep : Xc P w K mg base ca "TooDeep" ["index"] ["index"]) (x_TooMany : Xc P w K mg base ca "TooMany" ["limit"] ["limit"]) (x_UnknownCommand : Xc P w K mg base ca "UnknownCommand" ["command"] ["command"]) : Kn P w K mg base ca "_law_made" 1 R_made := by
  have S := sc_made
  refine ⟨f, fd, ["_law_one", "_law_two"], F.ok S (fun vs H Q E h => SpA.len (m := 2) ?_ h) (fun cdv A outer s H vs Q E hr h => ⟨_, (L2.pss_cons (L2.ps_set (i := 2) S.nd rfl (by first | exact Or.inl rfl | exact Or.inr rfl) (L2.pe_lst (L2.pa_cons (L2.pe_mkX x_InvalidKind.m hr rfl x_InvalidKind.g (L2.pa_cons (L2.pv 0) L2.pa_nil)) (L2.pa_cons (L2.pe_mkX x_InvalidPart.m hr rfl x_InvalidPart.g (L2.pa_cons (L2.pv 0) L2.pa_nil)) (L2.pa_cons (L2.pe_mkX x_NoRealm.m hr rfl x_NoRealm.g (L2.pa_cons (L2.pv 0) L2.pa_nil)) (L2.pa_cons (L2.pe_mkX x_Taken.m hr rfl x_Taken.g (L2.pa_cons (L2.pv 0) L2.pa_nil)) (L2.pa_cons (L2.pe_mkX x_TooDeep.m hr rfl x_TooDeep.g (L2.pa_cons (L2.pv 0) L2.pa_nil)) (L2.pa_cons (L2.pe_mkX x_Needed.m hr rfl x_Needed.g (L2.pa_cons (L2.pv 0) L2.pa_nil)) (L2.pa_cons (L2.pe_mkX x_InvalidTarget.m hr rfl x_InvalidTarget.g (L2.pa_cons (L2.pv 0) L2.pa_nil)) L2.pa_nil))))))))) (L2.pss_cons (L2.ps_set (i := 2) S.nd rfl (by first | exact Or.inl rfl | exact Or.inr rfl) (L2.pe_op (Dc.op_addK (K := K) rfl) (L2.pv 2) (L2.pe_lst (L2.pa_cons (L2.pe_mkX x_InvalidPort.m hr rfl x_InvalidPort.g (L2.pa_cons (L2.pv 0) L2.pa_nil)) (L2.pa_cons (L2.pe_mkX x_InvalidName.m hr rfl x_InvalidName.g (L2.pa_cons (L2.pv 0) L2.pa_nil)) (L2.pa_cons (L2.pe_mkX x_InvalidTime.m hr rfl x_InvalidTime.g (L2.pa_cons (L2.pv 0) L2.pa_nil)) (L2.pa_cons (L2.pe_mkX x_Clash.m hr rfl x_Clash.g (L2.pa_cons (L2.pv 0) L2.pa_nil)) (L2.pa_cons (L2.pe_mkX x_InvalidText.m hr rfl x_InvalidText.g (L2.pa_cons (L2.pv 0) (L2.pa_cons (L2.pv 1) L2.pa_nil))) L2.pa_nil)))))))) (L2.pss_cons (L2.ps_set (i := 2) S.nd rfl (by first | exact Or.inl rfl | exact Or.inr rfl) (L2.pe_op (Dc.op_addK (K := K) rfl) (L2.pv 2) (L2.pe_lst (L2.pa_cons (L2.pe_mkX x_UnknownCommand.m hr rfl x_UnknownCommand.g (L2.pa_cons (L2.pv 0) L2.pa_nil)) (L2.pa_cons (L2.pe_mkX x_NoStation.m hr rfl x_NoStation.g (L2.pa_cons (L2.pv 0) L2.pa_nil)) (L2.pa_cons (L2.pe_mkX x_NoRound.m hr rfl x_NoRound.g (L2.pa_cons (L2.pv 0) L2.pa_nil)) (L2.pa_cons (L2.pe_mkX x_NothingToUndo.m hr rfl x_NothingToUndo.g (L2.pa_cons (L2.pv 0) L2.pa_nil)) (L2.pa_cons (L2.pe_mkX x_NotHeard.m hr rfl x_NotHeard.g (L2.pa_cons (L2.pv 0) L2.pa_nil)) (L2.pa_cons (L2.pe_mkX x_NotSeen.m hr rfl x_NotSeen.g (L2.pa_cons (L2.pv 0) L2.pa_nil)) L2.pa_nil))))))))) (L2.pss_one (L2.ps_ret (L2.pe_op (Dc.op_addK (K := K) rfl) (L2.pv 2) (L2.pe_lst (L2.pa_cons (L2.pe_mkX x_Heard.m hr rfl x_Heard.g (L2.pa_cons (L2.pv 0) L2.pa_nil)) (L2.pa_cons (L2.pe_mkX x_TooMany.m hr rfl x_TooMany.g (L2.pa_cons (L2.pv 0) L2.pa_nil)) (L2.pa_cons (L2.pe_mkX x_InvalidQuestion.m hr rfl x_InvalidQuestion.g (L2.pa_cons (L2.pv 0) L2.pa_nil)) (L2.pa_cons (L2.pe_mkX x_InvalidEvent.m hr rfl x_InvalidEvent.g (L2.pa_cons (L2.pv 0) L2.pa_nil)) L2.pa_nil))))))))))), bodyA (K := K) (ca := ca) (m := 2) (N := ["_law_one", "_law_two", "_law_made_here"]) (fun p ms hz => (Dc.ps_seq (Dc.ps_asg (i := 2) (Dc.pe_l (Dc.pa_c (Dc.pe_mkx rfl (Dc.pa_c (Dc.pe_v 0) (Dc.pa_n (T := ⟨K, ca, p, ms⟩)))) (Dc.pa_c (Dc.pe_mkx rfl (Dc.pa_c (Dc.pe_v 0) (Dc.pa_n (T := ⟨K, ca, p, ms⟩)))) (Dc.pa_c (Dc.pe_mkx rfl (Dc.pa_c (Dc.pe_v 0) (Dc.pa_n (T := ⟨K, ca, p, ms⟩)))) (Dc.pa_c (Dc.pe_mkx rfl (Dc.pa_c (Dc.pe_v 0) (Dc.pa_n (T := ⟨K, ca, p, ms⟩)))) (Dc.pa_c (Dc.pe_mkx rfl (Dc.pa_c (Dc.pe_v 0) (Dc.pa_n (T := ⟨K, ca, p, ms⟩)))) (Dc.pa_c (Dc.pe_mkx rfl (Dc.pa_c (Dc.pe_v 0) (Dc.pa_n (T := ⟨K, ca, p, ms⟩)))) (Dc.pa_c (Dc.pe_mkx rfl (Dc.pa_c (Dc.pe_v 0) (Dc.pa_n (T := ⟨K, ca, p, ms⟩)))) (Dc.pa_n (T := ⟨K, ca, p, ms⟩))))))))))) (Dc.ps_seq (Dc.ps_asg (i := 2) (Dc.pe_o (Dc.o_addU (T := ⟨K, ca, p, ms⟩)) (Dc.pe_v 2) (Dc.pe_l (Dc.pa_c (Dc.pe_mkx rfl (Dc.pa_c (Dc.pe_v 0) (Dc.pa_n (T := ⟨K, ca, p, ms⟩)))) (Dc.pa_c (Dc.pe_mkx rfl (Dc.pa_c (Dc.pe_v 0) (Dc.pa_n (T := ⟨K, ca, p, ms⟩)))) (Dc.pa_c (Dc.pe_mkx rfl (Dc.pa_c (Dc.pe_v 0) (Dc.pa_n (T := ⟨K, ca, p, ms⟩)))) (Dc.pa_c (Dc.pe_mkx rfl (Dc.pa_c (Dc.pe_v 0) (Dc.pa_n (T := ⟨K, ca, p, ms⟩)))) (Dc.pa_c (Dc.pe_mkx rfl (Dc.pa_c (Dc.pe_v 0) (Dc.pa_c (Dc.pe_v 1) (Dc.pa_n (T := ⟨K, ca, p, ms⟩))))) (Dc.pa_n (T := ⟨K, ca, p, ms⟩)))))))))) (Dc.ps_seq (Dc.ps_asg (i := 2) (Dc.pe_o (Dc.o_addU (T := ⟨K, ca, p, ms⟩)) (Dc.pe_v 2) (Dc.pe_l (Dc.pa_c (Dc.pe_mkx rfl (Dc.pa_c (Dc.pe_v 0) (Dc.pa_n (T := ⟨K, ca, p, ms⟩)))) (Dc.pa_c (Dc.pe_mkx rfl (Dc.pa_c (Dc.pe_v 0) (Dc.pa_n (T := ⟨K, ca, p, ms⟩)))) (Dc.pa_c (Dc.pe_mkx rfl (Dc.pa_c (Dc.pe_v 0) (Dc.pa_n (T := ⟨K, ca, p, ms⟩)))) (Dc.pa_c (Dc.pe_mkx rfl (Dc.pa_c (Dc.pe_v 0) (Dc.pa_n (T := ⟨K, ca, p, ms⟩)))) (Dc.pa_c (Dc.pe_mkx rfl (Dc.pa_c (Dc.pe_v 0) (Dc.pa_n (T := ⟨K, ca, p, ms⟩)))) (Dc.pa_c (Dc.pe_mkx rfl (Dc.pa_c (Dc.pe_v 0) (Dc.pa_n (T := ⟨K, ca, p, ms⟩)))) (Dc.pa_n (T := ⟨K, ca, p, ms⟩))))))))))) (Dc.ps_ret (Dc.pe_o (Dc.o_addU (T := ⟨K, ca, p, ms⟩)) (Dc.pe_v 2) (Dc.pe_l (Dc.pa_c (Dc.pe_mkx rfl (Dc.pa_c (Dc.pe_v 0) (Dc.pa_n (T := ⟨K, ca, p, ms⟩)))) (Dc.pa_c (Dc.pe_mkx rfl (Dc.pa_c (Dc.pe_v 0) (Dc.pa_n (T := ⟨K, ca, p, ms⟩)))) (Dc.pa_c (Dc.pe_mkx rfl (Dc.pa_c (Dc.pe_v 0) (Dc.pa_n (T := ⟨K, ca, p, ms⟩)))) (Dc.pa_c (Dc.pe_mkx rfl (Dc.pa_c (Dc.pe_v 0) (Dc.pa_n (T := ⟨K, ca, p, ms⟩)))) (Dc.pa_n (T := ⟨K, ca, p, ms⟩))))))))))))) ?_ h⟩), g, F.kp, F.bindsN fun _ _ _ _ _ _ us hl => match us, hl with | [_, _], _ => rfl⟩
  · rintro ds n K ⟨one, two, rfl, _⟩
    rfl
  · rintro ms hz ds n K ⟨one, two, rfl, hk⟩
    repeat refine And.intro rfl ?_
    exact hk
abbrev s_named : Stmt := top 29
theorem sc_named : FnScope ["_law_one", "_law_two", "_law_made_here"] ["_law_one", "_law_two"] (defScope s_named) := ⟨rfl, rfl, rfl, by decide +kernel, rfl, by decide +kernel, by decide +kernel⟩
theorem ok_named (F : FnP K "_law_named" s_named f fd) (g : mg "_law_named" = some (.ref f)) (x_Clash : Xc P w K mg base ca "Clash" ["number"] ["number"]) (x_Heard : Xc P w K mg base ca "Heard" ["number"] ["number"]) (x_InvalidEvent : Xc P w K mg base ca "InvalidEvent" ["event"] ["event"]) (x_InvalidKind : Xc P w K mg base ca "InvalidKind" ["place"] ["place"]) (x_InvalidName : Xc P w K mg base ca "InvalidName" ["name"] ["name"]) (x_InvalidPart : Xc P w K mg base ca "InvalidPart" ["index"] ["index"]) (x_InvalidPort : Xc P w K mg base ca "InvalidPort" ["port"] ["port"]) (x_InvalidQuestion : Xc P w K mg base ca "InvalidQuestion" ["question"] ["question"]) (x_InvalidTarget : Xc P w K mg base ca "InvalidTarget" ["target"] ["target"]) (x_InvalidText : Xc P w K mg base ca "InvalidText" ["line", "word"] ["word", "line"]) (x_InvalidTime : Xc P w K mg base ca "InvalidTime" ["time"] ["time"]) (x_Needed : Xc P w K mg base ca "Needed" ["name"] ["name"]) (x_NoRealm : Xc P w K mg base ca "NoRealm" ["index"] ["index"]) (x_NoRound : Xc P w K mg base ca "NoRound" ["number"] ["number"]) (x_NoStation : Xc P w K mg base ca "NoStation" ["name"] ["name"]) (x_NotHeard : Xc P w K mg base ca "NotHeard" ["host"] ["host"]) (x_NotSeen : Xc P w K mg base ca "NotSeen" ["name"] ["name"]) (x_NothingToUndo : Xc P w K mg base ca "NothingToUndo" ["count"] ["count"]) (x_Taken : Xc P w K mg base ca "Taken" ["index"] ["index"]) (x_TooDeep : Xc P w K mg base ca "TooDeep" ["index"] ["index"]) (x_TooMany : Xc P w K mg base ca "TooMany" ["limit"] ["limit"]) (x_UnknownCommand : Xc P w K mg base ca "UnknownCommand" ["command"] ["command"]) : Kn P w K mg base ca "_law_named" 1 R_named := by
  have S := sc_named
  refine ⟨f, fd, ["_law_one", "_law_two"], F.ok S (fun vs H Q E h => SpA.len (m := 2) ?_ h) (fun cdv A outer s H vs Q E hr h => ⟨_, (L2.pss_cons (L2.ps_set (i := 2) S.nd rfl (by first | exact Or.inl rfl | exact Or.inr rfl) (L2.pe_lst (L2.pa_cons (L2.pe_mkXK x_InvalidKind.k hr rfl x_InvalidKind.g (L2.pk_cons (L2.pv 0) L2.pk_nil)) (L2.pa_cons (L2.pe_mkXK x_InvalidPart.k hr rfl x_InvalidPart.g (L2.pk_cons (L2.pv 0) L2.pk_nil)) (L2.pa_cons (L2.pe_mkXK x_NoRealm.k hr rfl x_NoRealm.g (L2.pk_cons (L2.pv 0) L2.pk_nil)) (L2.pa_cons (L2.pe_mkXK x_Taken.k hr rfl x_Taken.g (L2.pk_cons (L2.pv 0) L2.pk_nil)) (L2.pa_cons (L2.pe_mkXK x_TooDeep.k hr rfl x_TooDeep.g (L2.pk_cons (L2.pv 0) L2.pk_nil)) L2.pa_nil))))))) (L2.pss_cons (L2.ps_set (i := 2) S.nd rfl (by first | exact Or.inl rfl | exact Or.inr rfl) (L2.pe_op (Dc.op_addK (K := K) rfl) (L2.pv 2) (L2.pe_lst (L2.pa_cons (L2.pe_mkXK x_Needed.k hr rfl x_Needed.g (L2.pk_cons (L2.pv 0) L2.pk_nil)) (L2.pa_cons (L2.pe_mkXK x_InvalidTarget.k hr rfl x_InvalidTarget.g (L2.pk_cons (L2.pv 0) L2.pk_nil)) (L2.pa_cons (L2.pe_mkXK x_InvalidPort.k hr rfl x_InvalidPort.g (L2.pk_cons (L2.pv 0) L2.pk_nil)) (L2.pa_cons (L2.pe_mkXK x_InvalidName.k hr rfl x_InvalidName.g (L2.pk_cons (L2.pv 0) L2.pk_nil)) L2.pa_nil))))))) (L2.pss_cons (L2.ps_set (i := 2) S.nd rfl (by first | exact Or.inl rfl | exact Or.inr rfl) (L2.pe_op (Dc.op_addK (K := K) rfl) (L2.pv 2) (L2.pe_lst (L2.pa_cons (L2.pe_mkXK x_InvalidTime.k hr rfl x_InvalidTime.g (L2.pk_cons (L2.pv 0) L2.pk_nil)) (L2.pa_cons (L2.pe_mkXK x_Clash.k hr rfl x_Clash.g (L2.pk_cons (L2.pv 0) L2.pk_nil)) (L2.pa_cons (L2.pe_mkXK x_InvalidText.k hr rfl x_InvalidText.g (L2.pk_cons (L2.pv 1) (L2.pk_cons (L2.pv 0) L2.pk_nil))) L2.pa_nil)))))) (L2.pss_cons (L2.ps_set (i := 2) S.nd rfl (by first | exact Or.inl rfl | exact Or.inr rfl) (L2.pe_op (Dc.op_addK (K := K) rfl) (L2.pv 2) (L2.pe_lst (L2.pa_cons (L2.pe_mkXK x_UnknownCommand.k hr rfl x_UnknownCommand.g (L2.pk_cons (L2.pv 0) L2.pk_nil)) (L2.pa_cons (L2.pe_mkXK x_NoStation.k hr rfl x_NoStation.g (L2.pk_cons (L2.pv 0) L2.pk_nil)) (L2.pa_cons (L2.pe_mkXK x_NoRound.k hr rfl x_NoRound.g (L2.pk_cons (L2.pv 0) L2.pk_nil)) (L2.pa_cons (L2.pe_mkXK x_NothingToUndo.k hr rfl x_NothingToUndo.g (L2.pk_cons (L2.pv 0) L2.pk_nil)) L2.pa_nil))))))) (L2.pss_cons (L2.ps_set (i := 2) S.nd rfl (by first | exact Or.inl rfl | exact Or.inr rfl) (L2.pe_op (Dc.op_addK (K := K) rfl) (L2.pv 2) (L2.pe_lst (L2.pa_cons (L2.pe_mkXK x_NotHeard.k hr rfl x_NotHeard.g (L2.pk_cons (L2.pv 0) L2.pk_nil)) (L2.pa_cons (L2.pe_mkXK x_NotSeen.k hr rfl x_NotSeen.g (L2.pk_cons (L2.pv 0) L2.pk_nil)) (L2.pa_cons (L2.pe_mkXK x_Heard.k hr rfl x_Heard.g (L2.pk_cons (L2.pv 0) L2.pk_nil)) (L2.pa_cons (L2.pe_mkXK x_TooMany.k hr rfl x_TooMany.g (L2.pk_cons (L2.pv 0) L2.pk_nil)) L2.pa_nil))))))) (L2.pss_one (L2.ps_ret (L2.pe_op (Dc.op_addK (K := K) rfl) (L2.pv 2) (L2.pe_lst (L2.pa_cons (L2.pe_mkXK x_InvalidQuestion.k hr rfl x_InvalidQuestion.g (L2.pk_cons (L2.pv 0) L2.pk_nil)) (L2.pa_cons (L2.pe_mkXK x_InvalidEvent.k hr rfl x_InvalidEvent.g (L2.pk_cons (L2.pv 0) L2.pk_nil)) L2.pa_nil))))))))))), bodyA (K := K) (ca := ca) (m := 2) (N := ["_law_one", "_law_two", "_law_made_here"]) (fun p ms hz => (Dc.ps_seq (Dc.ps_asg (i := 2) (Dc.pe_l (Dc.pa_c (Dc.pe_mkx rfl (Dc.pa_c (Dc.pe_v 0) (Dc.pa_n (T := ⟨K, ca, p, ms⟩)))) (Dc.pa_c (Dc.pe_mkx rfl (Dc.pa_c (Dc.pe_v 0) (Dc.pa_n (T := ⟨K, ca, p, ms⟩)))) (Dc.pa_c (Dc.pe_mkx rfl (Dc.pa_c (Dc.pe_v 0) (Dc.pa_n (T := ⟨K, ca, p, ms⟩)))) (Dc.pa_c (Dc.pe_mkx rfl (Dc.pa_c (Dc.pe_v 0) (Dc.pa_n (T := ⟨K, ca, p, ms⟩)))) (Dc.pa_c (Dc.pe_mkx rfl (Dc.pa_c (Dc.pe_v 0) (Dc.pa_n (T := ⟨K, ca, p, ms⟩)))) (Dc.pa_n (T := ⟨K, ca, p, ms⟩))))))))) (Dc.ps_seq (Dc.ps_asg (i := 2) (Dc.pe_o (Dc.o_addU (T := ⟨K, ca, p, ms⟩)) (Dc.pe_v 2) (Dc.pe_l (Dc.pa_c (Dc.pe_mkx rfl (Dc.pa_c (Dc.pe_v 0) (Dc.pa_n (T := ⟨K, ca, p, ms⟩)))) (Dc.pa_c (Dc.pe_mkx rfl (Dc.pa_c (Dc.pe_v 0) (Dc.pa_n (T := ⟨K, ca, p, ms⟩)))) (Dc.pa_c (Dc.pe_mkx rfl (Dc.pa_c (Dc.pe_v 0) (Dc.pa_n (T := ⟨K, ca, p, ms⟩)))) (Dc.pa_c (Dc.pe_mkx rfl (Dc.pa_c (Dc.pe_v 0) (Dc.pa_n (T := ⟨K, ca, p, ms⟩)))) (Dc.pa_n (T := ⟨K, ca, p, ms⟩))))))))) (Dc.ps_seq (Dc.ps_asg (i := 2) (Dc.pe_o (Dc.o_addU (T := ⟨K, ca, p, ms⟩)) (Dc.pe_v 2) (Dc.pe_l (Dc.pa_c (Dc.pe_mkx rfl (Dc.pa_c (Dc.pe_v 0) (Dc.pa_n (T := ⟨K, ca, p, ms⟩)))) (Dc.pa_c (Dc.pe_mkx rfl (Dc.pa_c (Dc.pe_v 0) (Dc.pa_n (T := ⟨K, ca, p, ms⟩)))) (Dc.pa_c (Dc.pe_mkx rfl (Dc.pa_c (Dc.pe_v 1) (Dc.pa_c (Dc.pe_v 0) (Dc.pa_n (T := ⟨K, ca, p, ms⟩))))) (Dc.pa_n (T := ⟨K, ca, p, ms⟩)))))))) (Dc.ps_seq (Dc.ps_asg (i := 2) (Dc.pe_o (Dc.o_addU (T := ⟨K, ca, p, ms⟩)) (Dc.pe_v 2) (Dc.pe_l (Dc.pa_c (Dc.pe_mkx rfl (Dc.pa_c (Dc.pe_v 0) (Dc.pa_n (T := ⟨K, ca, p, ms⟩)))) (Dc.pa_c (Dc.pe_mkx rfl (Dc.pa_c (Dc.pe_v 0) (Dc.pa_n (T := ⟨K, ca, p, ms⟩)))) (Dc.pa_c (Dc.pe_mkx rfl (Dc.pa_c (Dc.pe_v 0) (Dc.pa_n (T := ⟨K, ca, p, ms⟩)))) (Dc.pa_c (Dc.pe_mkx rfl (Dc.pa_c (Dc.pe_v 0) (Dc.pa_n (T := ⟨K, ca, p, ms⟩)))) (Dc.pa_n (T := ⟨K, ca, p, ms⟩))))))))) (Dc.ps_seq (Dc.ps_asg (i := 2) (Dc.pe_o (Dc.o_addU (T := ⟨K, ca, p, ms⟩)) (Dc.pe_v 2) (Dc.pe_l (Dc.pa_c (Dc.pe_mkx rfl (Dc.pa_c (Dc.pe_v 0) (Dc.pa_n (T := ⟨K, ca, p, ms⟩)))) (Dc.pa_c (Dc.pe_mkx rfl (Dc.pa_c (Dc.pe_v 0) (Dc.pa_n (T := ⟨K, ca, p, ms⟩)))) (Dc.pa_c (Dc.pe_mkx rfl (Dc.pa_c (Dc.pe_v 0) (Dc.pa_n (T := ⟨K, ca, p, ms⟩)))) (Dc.pa_c (Dc.pe_mkx rfl (Dc.pa_c (Dc.pe_v 0) (Dc.pa_n (T := ⟨K, ca, p, ms⟩)))) (Dc.pa_n (T := ⟨K, ca, p, ms⟩))))))))) (Dc.ps_ret (Dc.pe_o (Dc.o_addU (T := ⟨K, ca, p, ms⟩)) (Dc.pe_v 2) (Dc.pe_l (Dc.pa_c (Dc.pe_mkx rfl (Dc.pa_c (Dc.pe_v 0) (Dc.pa_n (T := ⟨K, ca, p, ms⟩)))) (Dc.pa_c (Dc.pe_mkx rfl (Dc.pa_c (Dc.pe_v 0) (Dc.pa_n (T := ⟨K, ca, p, ms⟩)))) (Dc.pa_n (T := ⟨K, ca, p, ms⟩))))))))))))) ?_ h⟩), g, F.kp, F.bindsN fun _ _ _ _ _ _ us hl => match us, hl with | [_, _], _ => rfl⟩
  · rintro ds n K ⟨one, two, rfl, _⟩
    rfl
  · rintro ms hz ds n K ⟨one, two, rfl, hk⟩
    repeat refine And.intro rfl ?_
    exact hk
abbrev s_fields : Stmt := top 30
theorem sc_fields : FnScope ["_law_e", "_law_told"] ["_law_e"] (defScope s_fields) := ⟨rfl, rfl, rfl, by decide +kernel, rfl, by decide +kernel, by decide +kernel⟩
theorem ok_fields (F : FnP K "_law_fields" s_fields f fd) (g : mg "_law_fields" = some (.ref f)) (IF : IsF K ca) : Kn P w K mg base ca "_law_fields" 1 R_fields := by
  have S := sc_fields
  refine ⟨f, fd, ["_law_e"], F.ok S (fun vs H Q E h => SpA.len (m := 1) ?_ h) (fun cdv A outer s H vs Q E hr h => ⟨_, (L2.pss_cons (L2.ps_set (i := 1) S.nd rfl (by first | exact Or.inl rfl | exact Or.inr rfl) (L2.pe_lst (L2.pa_cons (Dc.fx_K (K := K) rfl (L2.pe_ix (Dc.ix_K (K := K) rfl) (L2.pv 0) L2.pe_int fun _ _ => rfl)) (L2.pa_cons (Dc.fx_K (K := K) rfl (L2.pe_ix (Dc.ix_K (K := K) rfl) (L2.pv 0) L2.pe_int fun _ _ => rfl)) (L2.pa_cons (Dc.fx_K (K := K) rfl (L2.pe_ix (Dc.ix_K (K := K) rfl) (L2.pv 0) L2.pe_int fun _ _ => rfl)) (L2.pa_cons (Dc.fx_K (K := K) rfl (L2.pe_ix (Dc.ix_K (K := K) rfl) (L2.pv 0) L2.pe_int fun _ _ => rfl)) (L2.pa_cons (Dc.fx_K (K := K) rfl (L2.pe_ix (Dc.ix_K (K := K) rfl) (L2.pv 0) L2.pe_int fun _ _ => rfl)) (L2.pa_cons (Dc.fx_K (K := K) rfl (L2.pe_ix (Dc.ix_K (K := K) rfl) (L2.pv 0) L2.pe_int fun _ _ => rfl)) (L2.pa_cons (Dc.fx_K (K := K) rfl (L2.pe_ix (Dc.ix_K (K := K) rfl) (L2.pv 0) L2.pe_int fun _ _ => rfl)) (L2.pa_cons (Dc.fx_K (K := K) rfl (L2.pe_ix (Dc.ix_K (K := K) rfl) (L2.pv 0) L2.pe_int fun _ _ => rfl)) L2.pa_nil)))))))))) (L2.pss_cons (L2.ps_set (i := 1) S.nd rfl (by first | exact Or.inl rfl | exact Or.inr rfl) (L2.pe_op (Dc.op_addK (K := K) rfl) (L2.pv 1) (L2.pe_lst (L2.pa_cons (Dc.fx_K (K := K) rfl (L2.pe_ix (Dc.ix_K (K := K) rfl) (L2.pv 0) L2.pe_int fun _ _ => rfl)) (L2.pa_cons (Dc.fx_K (K := K) rfl (L2.pe_ix (Dc.ix_K (K := K) rfl) (L2.pv 0) L2.pe_int fun _ _ => rfl)) (L2.pa_cons (Dc.fx_K (K := K) rfl (L2.pe_ix (Dc.ix_K (K := K) rfl) (L2.pv 0) L2.pe_int fun _ _ => rfl)) (L2.pa_cons (Dc.fx_K (K := K) rfl (L2.pe_ix (Dc.ix_K (K := K) rfl) (L2.pv 0) L2.pe_int fun _ _ => rfl)) (L2.pa_cons (Dc.fx_K (K := K) rfl (L2.pe_ix (Dc.ix_K (K := K) rfl) (L2.pv 0) L2.pe_int fun _ _ => rfl)) (L2.pa_cons (Dc.fx_K (K := K) rfl (L2.pe_ix (Dc.ix_K (K := K) rfl) (L2.pv 0) L2.pe_int fun _ _ => rfl)) (L2.pa_cons (Dc.fx_K (K := K) rfl (L2.pe_ix (Dc.ix_K (K := K) rfl) (L2.pv 0) L2.pe_int fun _ _ => rfl)) L2.pa_nil)))))))))) (L2.pss_one (L2.ps_ret (L2.pe_op (Dc.op_addK (K := K) rfl) (L2.pv 1) (L2.pe_lst (L2.pa_cons (Dc.fx_K (K := K) rfl (L2.pe_ix (Dc.ix_K (K := K) rfl) (L2.pv 0) L2.pe_int fun _ _ => rfl)) (L2.pa_cons (Dc.fx_K (K := K) rfl (L2.pe_ix (Dc.ix_K (K := K) rfl) (L2.pv 0) L2.pe_int fun _ _ => rfl)) (L2.pa_cons (Dc.fx_K (K := K) rfl (L2.pe_ix (Dc.ix_K (K := K) rfl) (L2.pv 0) L2.pe_int fun _ _ => rfl)) (L2.pa_cons (Dc.fx_K (K := K) rfl (L2.pe_ix (Dc.ix_K (K := K) rfl) (L2.pv 0) L2.pe_int fun _ _ => rfl)) (L2.pa_cons (Dc.fx_K (K := K) rfl (L2.pe_ix (Dc.ix_K (K := K) rfl) (L2.pv 0) L2.pe_int fun _ _ => rfl)) (L2.pa_cons (Dc.fx_K (K := K) rfl (L2.pe_ix (Dc.ix_K (K := K) rfl) (L2.pv 0) L2.pe_int fun _ _ => rfl)) (L2.pa_cons (Dc.fx_K (K := K) rfl (L2.pe_ix (Dc.ix_K (K := K) rfl) (L2.pv 0) L2.pe_int fun _ _ => rfl)) L2.pa_nil))))))))))))), bodyA (K := K) (ca := ca) (m := 1) (N := ["_law_e", "_law_told"]) (fun p ms hz => (Dc.ps_seq (Dc.ps_asg (i := 1) (Dc.pe_l (Dc.pa_c (Dc.pe_u (Dc.o_fx (T := ⟨K, ca, p, ms⟩) (cs := cs) (fun c hc => IF.f _ (by decide) c hc)) (Dc.pe_o (Dc.o_ix (T := ⟨K, ca, p, ms⟩)) (Dc.pe_v 0) (Dc.pe_cint (T := ⟨K, ca, p, ms⟩)))) (Dc.pa_c (Dc.pe_u (Dc.o_fx (T := ⟨K, ca, p, ms⟩) (cs := cs) (fun c hc => IF.f _ (by decide) c hc)) (Dc.pe_o (Dc.o_ix (T := ⟨K, ca, p, ms⟩)) (Dc.pe_v 0) (Dc.pe_cint (T := ⟨K, ca, p, ms⟩)))) (Dc.pa_c (Dc.pe_u (Dc.o_fx (T := ⟨K, ca, p, ms⟩) (cs := cs) (fun c hc => IF.f _ (by decide) c hc)) (Dc.pe_o (Dc.o_ix (T := ⟨K, ca, p, ms⟩)) (Dc.pe_v 0) (Dc.pe_cint (T := ⟨K, ca, p, ms⟩)))) (Dc.pa_c (Dc.pe_u (Dc.o_fx (T := ⟨K, ca, p, ms⟩) (cs := cs) (fun c hc => IF.f _ (by decide) c hc)) (Dc.pe_o (Dc.o_ix (T := ⟨K, ca, p, ms⟩)) (Dc.pe_v 0) (Dc.pe_cint (T := ⟨K, ca, p, ms⟩)))) (Dc.pa_c (Dc.pe_u (Dc.o_fx (T := ⟨K, ca, p, ms⟩) (cs := cs) (fun c hc => IF.f _ (by decide) c hc)) (Dc.pe_o (Dc.o_ix (T := ⟨K, ca, p, ms⟩)) (Dc.pe_v 0) (Dc.pe_cint (T := ⟨K, ca, p, ms⟩)))) (Dc.pa_c (Dc.pe_u (Dc.o_fx (T := ⟨K, ca, p, ms⟩) (cs := cs) (fun c hc => IF.f _ (by decide) c hc)) (Dc.pe_o (Dc.o_ix (T := ⟨K, ca, p, ms⟩)) (Dc.pe_v 0) (Dc.pe_cint (T := ⟨K, ca, p, ms⟩)))) (Dc.pa_c (Dc.pe_u (Dc.o_fx (T := ⟨K, ca, p, ms⟩) (cs := cs) (fun c hc => IF.f _ (by decide) c hc)) (Dc.pe_o (Dc.o_ix (T := ⟨K, ca, p, ms⟩)) (Dc.pe_v 0) (Dc.pe_cint (T := ⟨K, ca, p, ms⟩)))) (Dc.pa_c (Dc.pe_u (Dc.o_fx (T := ⟨K, ca, p, ms⟩) (cs := cs) (fun c hc => IF.f _ (by decide) c hc)) (Dc.pe_o (Dc.o_ix (T := ⟨K, ca, p, ms⟩)) (Dc.pe_v 0) (Dc.pe_cint (T := ⟨K, ca, p, ms⟩)))) (Dc.pa_n (T := ⟨K, ca, p, ms⟩)))))))))))) (Dc.ps_seq (Dc.ps_asg (i := 1) (Dc.pe_o (Dc.o_addU (T := ⟨K, ca, p, ms⟩)) (Dc.pe_v 1) (Dc.pe_l (Dc.pa_c (Dc.pe_u (Dc.o_fx (T := ⟨K, ca, p, ms⟩) (cs := cs) (fun c hc => IF.f _ (by decide) c hc)) (Dc.pe_o (Dc.o_ix (T := ⟨K, ca, p, ms⟩)) (Dc.pe_v 0) (Dc.pe_cint (T := ⟨K, ca, p, ms⟩)))) (Dc.pa_c (Dc.pe_u (Dc.o_fx (T := ⟨K, ca, p, ms⟩) (cs := cs) (fun c hc => IF.f _ (by decide) c hc)) (Dc.pe_o (Dc.o_ix (T := ⟨K, ca, p, ms⟩)) (Dc.pe_v 0) (Dc.pe_cint (T := ⟨K, ca, p, ms⟩)))) (Dc.pa_c (Dc.pe_u (Dc.o_fx (T := ⟨K, ca, p, ms⟩) (cs := cs) (fun c hc => IF.f _ (by decide) c hc)) (Dc.pe_o (Dc.o_ix (T := ⟨K, ca, p, ms⟩)) (Dc.pe_v 0) (Dc.pe_cint (T := ⟨K, ca, p, ms⟩)))) (Dc.pa_c (Dc.pe_u (Dc.o_fx (T := ⟨K, ca, p, ms⟩) (cs := cs) (fun c hc => IF.f _ (by decide) c hc)) (Dc.pe_o (Dc.o_ix (T := ⟨K, ca, p, ms⟩)) (Dc.pe_v 0) (Dc.pe_cint (T := ⟨K, ca, p, ms⟩)))) (Dc.pa_c (Dc.pe_u (Dc.o_fx (T := ⟨K, ca, p, ms⟩) (cs := cs) (fun c hc => IF.f _ (by decide) c hc)) (Dc.pe_o (Dc.o_ix (T := ⟨K, ca, p, ms⟩)) (Dc.pe_v 0) (Dc.pe_cint (T := ⟨K, ca, p, ms⟩)))) (Dc.pa_c (Dc.pe_u (Dc.o_fx (T := ⟨K, ca, p, ms⟩) (cs := cs) (fun c hc => IF.f _ (by decide) c hc)) (Dc.pe_o (Dc.o_ix (T := ⟨K, ca, p, ms⟩)) (Dc.pe_v 0) (Dc.pe_cint (T := ⟨K, ca, p, ms⟩)))) (Dc.pa_c (Dc.pe_u (Dc.o_fx (T := ⟨K, ca, p, ms⟩) (cs := cs) (fun c hc => IF.f _ (by decide) c hc)) (Dc.pe_o (Dc.o_ix (T := ⟨K, ca, p, ms⟩)) (Dc.pe_v 0) (Dc.pe_cint (T := ⟨K, ca, p, ms⟩)))) (Dc.pa_n (T := ⟨K, ca, p, ms⟩)))))))))))) (Dc.ps_ret (Dc.pe_o (Dc.o_addU (T := ⟨K, ca, p, ms⟩)) (Dc.pe_v 1) (Dc.pe_l (Dc.pa_c (Dc.pe_u (Dc.o_fx (T := ⟨K, ca, p, ms⟩) (cs := cs) (fun c hc => IF.f _ (by decide) c hc)) (Dc.pe_o (Dc.o_ix (T := ⟨K, ca, p, ms⟩)) (Dc.pe_v 0) (Dc.pe_cint (T := ⟨K, ca, p, ms⟩)))) (Dc.pa_c (Dc.pe_u (Dc.o_fx (T := ⟨K, ca, p, ms⟩) (cs := cs) (fun c hc => IF.f _ (by decide) c hc)) (Dc.pe_o (Dc.o_ix (T := ⟨K, ca, p, ms⟩)) (Dc.pe_v 0) (Dc.pe_cint (T := ⟨K, ca, p, ms⟩)))) (Dc.pa_c (Dc.pe_u (Dc.o_fx (T := ⟨K, ca, p, ms⟩) (cs := cs) (fun c hc => IF.f _ (by decide) c hc)) (Dc.pe_o (Dc.o_ix (T := ⟨K, ca, p, ms⟩)) (Dc.pe_v 0) (Dc.pe_cint (T := ⟨K, ca, p, ms⟩)))) (Dc.pa_c (Dc.pe_u (Dc.o_fx (T := ⟨K, ca, p, ms⟩) (cs := cs) (fun c hc => IF.f _ (by decide) c hc)) (Dc.pe_o (Dc.o_ix (T := ⟨K, ca, p, ms⟩)) (Dc.pe_v 0) (Dc.pe_cint (T := ⟨K, ca, p, ms⟩)))) (Dc.pa_c (Dc.pe_u (Dc.o_fx (T := ⟨K, ca, p, ms⟩) (cs := cs) (fun c hc => IF.f _ (by decide) c hc)) (Dc.pe_o (Dc.o_ix (T := ⟨K, ca, p, ms⟩)) (Dc.pe_v 0) (Dc.pe_cint (T := ⟨K, ca, p, ms⟩)))) (Dc.pa_c (Dc.pe_u (Dc.o_fx (T := ⟨K, ca, p, ms⟩) (cs := cs) (fun c hc => IF.f _ (by decide) c hc)) (Dc.pe_o (Dc.o_ix (T := ⟨K, ca, p, ms⟩)) (Dc.pe_v 0) (Dc.pe_cint (T := ⟨K, ca, p, ms⟩)))) (Dc.pa_c (Dc.pe_u (Dc.o_fx (T := ⟨K, ca, p, ms⟩) (cs := cs) (fun c hc => IF.f _ (by decide) c hc)) (Dc.pe_o (Dc.o_ix (T := ⟨K, ca, p, ms⟩)) (Dc.pe_v 0) (Dc.pe_cint (T := ⟨K, ca, p, ms⟩)))) (Dc.pa_n (T := ⟨K, ca, p, ms⟩))))))))))))))) ?_ h⟩), g, F.kp, F.bindsN fun _ _ _ _ _ _ us hl => match us, hl with | [_], _ => rfl⟩
  · rintro ds n K ⟨one, two, rfl | rfl, _⟩
    · rfl
    · rfl
  · rintro ms hz ds n K ⟨one, two, rfl | rfl, hk⟩
    · refine ⟨rfl, ?_⟩
      repeat (first | refine And.intro rfl ?_ | refine atK_at rfl ?_)
      exact hk
    · refine ⟨rfl, ?_⟩
      repeat (first | refine And.intro rfl ?_ | refine atK_at rfl ?_)
      exact hk
abbrev s_classes : Stmt := top 31
theorem sc_classes : FnScope ["_law_e", "_law_told"] ["_law_e"] (defScope s_classes) := ⟨rfl, rfl, rfl, by decide +kernel, rfl, by decide +kernel, by decide +kernel⟩
theorem ok_classes (F : FnP K "_law_classes" s_classes f fd) (g : mg "_law_classes" = some (.ref f)) (n_isinstance : mg "isinstance" = none) (x_Clash : Xc P w K mg base ca "Clash" ["number"] ["number"]) (x_Heard : Xc P w K mg base ca "Heard" ["number"] ["number"]) (x_InvalidEvent : Xc P w K mg base ca "InvalidEvent" ["event"] ["event"]) (x_InvalidKind : Xc P w K mg base ca "InvalidKind" ["place"] ["place"]) (x_InvalidName : Xc P w K mg base ca "InvalidName" ["name"] ["name"]) (x_InvalidPart : Xc P w K mg base ca "InvalidPart" ["index"] ["index"]) (x_InvalidPort : Xc P w K mg base ca "InvalidPort" ["port"] ["port"]) (x_InvalidQuestion : Xc P w K mg base ca "InvalidQuestion" ["question"] ["question"]) (x_InvalidTarget : Xc P w K mg base ca "InvalidTarget" ["target"] ["target"]) (x_InvalidText : Xc P w K mg base ca "InvalidText" ["line", "word"] ["word", "line"]) (x_InvalidTime : Xc P w K mg base ca "InvalidTime" ["time"] ["time"]) (x_Needed : Xc P w K mg base ca "Needed" ["name"] ["name"]) (x_NoRealm : Xc P w K mg base ca "NoRealm" ["index"] ["index"]) (x_NoRound : Xc P w K mg base ca "NoRound" ["number"] ["number"]) (x_NoStation : Xc P w K mg base ca "NoStation" ["name"] ["name"]) (x_NotHeard : Xc P w K mg base ca "NotHeard" ["host"] ["host"]) (x_NotSeen : Xc P w K mg base ca "NotSeen" ["name"] ["name"]) (x_NothingToUndo : Xc P w K mg base ca "NothingToUndo" ["count"] ["count"]) (x_Taken : Xc P w K mg base ca "Taken" ["index"] ["index"]) (x_TooDeep : Xc P w K mg base ca "TooDeep" ["index"] ["index"]) (x_TooMany : Xc P w K mg base ca "TooMany" ["limit"] ["limit"]) (x_UnknownCommand : Xc P w K mg base ca "UnknownCommand" ["command"] ["command"]) (IF : IsF K ca) : Kn P w K mg base ca "_law_classes" 1 R_classes := by
  have S := sc_classes
  refine ⟨f, fd, ["_law_e"], F.ok S (fun vs H Q E h => SpA.len (m := 1) ?_ h) (fun cdv A outer s H vs Q E hr h => ⟨_, (L2.pss_cons (L2.ps_set (i := 1) S.nd rfl (by first | exact Or.inl rfl | exact Or.inr rfl) (L2.pe_lst (L2.pa_cons (L2.pe_callB (Dc.isX_K (K := K) rfl) rfl n_isinstance PyProof.Rows.boot_isinstance (L2.pa_cons (L2.pv 0) (L2.pa_cons (L2.pe_glob (v := .ref (ca "InvalidKind")) rfl x_InvalidKind.g rfl) L2.pa_nil))) (L2.pa_cons (L2.pe_callB (Dc.isX_K (K := K) rfl) rfl n_isinstance PyProof.Rows.boot_isinstance (L2.pa_cons (L2.pv 0) (L2.pa_cons (L2.pe_glob (v := .ref (ca "InvalidPart")) rfl x_InvalidPart.g rfl) L2.pa_nil))) (L2.pa_cons (L2.pe_callB (Dc.isX_K (K := K) rfl) rfl n_isinstance PyProof.Rows.boot_isinstance (L2.pa_cons (L2.pv 0) (L2.pa_cons (L2.pe_glob (v := .ref (ca "NoRealm")) rfl x_NoRealm.g rfl) L2.pa_nil))) (L2.pa_cons (L2.pe_callB (Dc.isX_K (K := K) rfl) rfl n_isinstance PyProof.Rows.boot_isinstance (L2.pa_cons (L2.pv 0) (L2.pa_cons (L2.pe_glob (v := .ref (ca "Taken")) rfl x_Taken.g rfl) L2.pa_nil))) L2.pa_nil)))))) (L2.pss_cons (L2.ps_set (i := 1) S.nd rfl (by first | exact Or.inl rfl | exact Or.inr rfl) (L2.pe_op (Dc.op_addK (K := K) rfl) (L2.pv 1) (L2.pe_lst (L2.pa_cons (L2.pe_callB (Dc.isX_K (K := K) rfl) rfl n_isinstance PyProof.Rows.boot_isinstance (L2.pa_cons (L2.pv 0) (L2.pa_cons (L2.pe_glob (v := .ref (ca "TooDeep")) rfl x_TooDeep.g rfl) L2.pa_nil))) (L2.pa_cons (L2.pe_callB (Dc.isX_K (K := K) rfl) rfl n_isinstance PyProof.Rows.boot_isinstance (L2.pa_cons (L2.pv 0) (L2.pa_cons (L2.pe_glob (v := .ref (ca "Needed")) rfl x_Needed.g rfl) L2.pa_nil))) (L2.pa_cons (L2.pe_callB (Dc.isX_K (K := K) rfl) rfl n_isinstance PyProof.Rows.boot_isinstance (L2.pa_cons (L2.pv 0) (L2.pa_cons (L2.pe_glob (v := .ref (ca "InvalidTarget")) rfl x_InvalidTarget.g rfl) L2.pa_nil))) L2.pa_nil)))))) (L2.pss_cons (L2.ps_set (i := 1) S.nd rfl (by first | exact Or.inl rfl | exact Or.inr rfl) (L2.pe_op (Dc.op_addK (K := K) rfl) (L2.pv 1) (L2.pe_lst (L2.pa_cons (L2.pe_callB (Dc.isX_K (K := K) rfl) rfl n_isinstance PyProof.Rows.boot_isinstance (L2.pa_cons (L2.pv 0) (L2.pa_cons (L2.pe_glob (v := .ref (ca "InvalidPort")) rfl x_InvalidPort.g rfl) L2.pa_nil))) (L2.pa_cons (L2.pe_callB (Dc.isX_K (K := K) rfl) rfl n_isinstance PyProof.Rows.boot_isinstance (L2.pa_cons (L2.pv 0) (L2.pa_cons (L2.pe_glob (v := .ref (ca "InvalidName")) rfl x_InvalidName.g rfl) L2.pa_nil))) (L2.pa_cons (L2.pe_callB (Dc.isX_K (K := K) rfl) rfl n_isinstance PyProof.Rows.boot_isinstance (L2.pa_cons (L2.pv 0) (L2.pa_cons (L2.pe_glob (v := .ref (ca "InvalidTime")) rfl x_InvalidTime.g rfl) L2.pa_nil))) L2.pa_nil)))))) (L2.pss_cons (L2.ps_set (i := 1) S.nd rfl (by first | exact Or.inl rfl | exact Or.inr rfl) (L2.pe_op (Dc.op_addK (K := K) rfl) (L2.pv 1) (L2.pe_lst (L2.pa_cons (L2.pe_callB (Dc.isX_K (K := K) rfl) rfl n_isinstance PyProof.Rows.boot_isinstance (L2.pa_cons (L2.pv 0) (L2.pa_cons (L2.pe_glob (v := .ref (ca "Clash")) rfl x_Clash.g rfl) L2.pa_nil))) (L2.pa_cons (L2.pe_callB (Dc.isX_K (K := K) rfl) rfl n_isinstance PyProof.Rows.boot_isinstance (L2.pa_cons (L2.pv 0) (L2.pa_cons (L2.pe_glob (v := .ref (ca "InvalidText")) rfl x_InvalidText.g rfl) L2.pa_nil))) (L2.pa_cons (L2.pe_callB (Dc.isX_K (K := K) rfl) rfl n_isinstance PyProof.Rows.boot_isinstance (L2.pa_cons (L2.pv 0) (L2.pa_cons (L2.pe_glob (v := .ref (ca "UnknownCommand")) rfl x_UnknownCommand.g rfl) L2.pa_nil))) L2.pa_nil)))))) (L2.pss_cons (L2.ps_set (i := 1) S.nd rfl (by first | exact Or.inl rfl | exact Or.inr rfl) (L2.pe_op (Dc.op_addK (K := K) rfl) (L2.pv 1) (L2.pe_lst (L2.pa_cons (L2.pe_callB (Dc.isX_K (K := K) rfl) rfl n_isinstance PyProof.Rows.boot_isinstance (L2.pa_cons (L2.pv 0) (L2.pa_cons (L2.pe_glob (v := .ref (ca "NoStation")) rfl x_NoStation.g rfl) L2.pa_nil))) (L2.pa_cons (L2.pe_callB (Dc.isX_K (K := K) rfl) rfl n_isinstance PyProof.Rows.boot_isinstance (L2.pa_cons (L2.pv 0) (L2.pa_cons (L2.pe_glob (v := .ref (ca "NoRound")) rfl x_NoRound.g rfl) L2.pa_nil))) (L2.pa_cons (L2.pe_callB (Dc.isX_K (K := K) rfl) rfl n_isinstance PyProof.Rows.boot_isinstance (L2.pa_cons (L2.pv 0) (L2.pa_cons (L2.pe_glob (v := .ref (ca "NothingToUndo")) rfl x_NothingToUndo.g rfl) L2.pa_nil))) L2.pa_nil)))))) (L2.pss_cons (L2.ps_set (i := 1) S.nd rfl (by first | exact Or.inl rfl | exact Or.inr rfl) (L2.pe_op (Dc.op_addK (K := K) rfl) (L2.pv 1) (L2.pe_lst (L2.pa_cons (L2.pe_callB (Dc.isX_K (K := K) rfl) rfl n_isinstance PyProof.Rows.boot_isinstance (L2.pa_cons (L2.pv 0) (L2.pa_cons (L2.pe_glob (v := .ref (ca "NotHeard")) rfl x_NotHeard.g rfl) L2.pa_nil))) (L2.pa_cons (L2.pe_callB (Dc.isX_K (K := K) rfl) rfl n_isinstance PyProof.Rows.boot_isinstance (L2.pa_cons (L2.pv 0) (L2.pa_cons (L2.pe_glob (v := .ref (ca "NotSeen")) rfl x_NotSeen.g rfl) L2.pa_nil))) (L2.pa_cons (L2.pe_callB (Dc.isX_K (K := K) rfl) rfl n_isinstance PyProof.Rows.boot_isinstance (L2.pa_cons (L2.pv 0) (L2.pa_cons (L2.pe_glob (v := .ref (ca "Heard")) rfl x_Heard.g rfl) L2.pa_nil))) (L2.pa_cons (L2.pe_callB (Dc.isX_K (K := K) rfl) rfl n_isinstance PyProof.Rows.boot_isinstance (L2.pa_cons (L2.pv 0) (L2.pa_cons (L2.pe_glob (v := .ref (ca "TooMany")) rfl x_TooMany.g rfl) L2.pa_nil))) L2.pa_nil))))))) (L2.pss_one (L2.ps_ret (L2.pe_op (Dc.op_addK (K := K) rfl) (L2.pv 1) (L2.pe_lst (L2.pa_cons (L2.pe_callB (Dc.isX_K (K := K) rfl) rfl n_isinstance PyProof.Rows.boot_isinstance (L2.pa_cons (L2.pv 0) (L2.pa_cons (L2.pe_glob (v := .ref (ca "InvalidQuestion")) rfl x_InvalidQuestion.g rfl) L2.pa_nil))) (L2.pa_cons (L2.pe_callB (Dc.isX_K (K := K) rfl) rfl n_isinstance PyProof.Rows.boot_isinstance (L2.pa_cons (L2.pv 0) (L2.pa_cons (L2.pe_glob (v := .ref (ca "InvalidEvent")) rfl x_InvalidEvent.g rfl) L2.pa_nil))) L2.pa_nil)))))))))))), bodyA (K := K) (ca := ca) (m := 1) (N := ["_law_e", "_law_told"]) (fun p ms hz => (Dc.ps_seq (Dc.ps_asg (i := 1) (Dc.pe_l (Dc.pa_c (Dc.pe_is (T := ⟨K, ca, p, ms⟩) (tbl := tb "InvalidKind") isR (fun c b z => ⟨IF.e c (tb_cs z), IF.t "InvalidKind" (by decide) c b z⟩) (Dc.pe_v 0)) (Dc.pa_c (Dc.pe_is (T := ⟨K, ca, p, ms⟩) (tbl := tb "InvalidPart") isR (fun c b z => ⟨IF.e c (tb_cs z), IF.t "InvalidPart" (by decide) c b z⟩) (Dc.pe_v 0)) (Dc.pa_c (Dc.pe_is (T := ⟨K, ca, p, ms⟩) (tbl := tb "NoRealm") isR (fun c b z => ⟨IF.e c (tb_cs z), IF.t "NoRealm" (by decide) c b z⟩) (Dc.pe_v 0)) (Dc.pa_c (Dc.pe_is (T := ⟨K, ca, p, ms⟩) (tbl := tb "Taken") isR (fun c b z => ⟨IF.e c (tb_cs z), IF.t "Taken" (by decide) c b z⟩) (Dc.pe_v 0)) (Dc.pa_n (T := ⟨K, ca, p, ms⟩)))))))) (Dc.ps_seq (Dc.ps_asg (i := 1) (Dc.pe_o (Dc.o_addU (T := ⟨K, ca, p, ms⟩)) (Dc.pe_v 1) (Dc.pe_l (Dc.pa_c (Dc.pe_is (T := ⟨K, ca, p, ms⟩) (tbl := tb "TooDeep") isR (fun c b z => ⟨IF.e c (tb_cs z), IF.t "TooDeep" (by decide) c b z⟩) (Dc.pe_v 0)) (Dc.pa_c (Dc.pe_is (T := ⟨K, ca, p, ms⟩) (tbl := tb "Needed") isR (fun c b z => ⟨IF.e c (tb_cs z), IF.t "Needed" (by decide) c b z⟩) (Dc.pe_v 0)) (Dc.pa_c (Dc.pe_is (T := ⟨K, ca, p, ms⟩) (tbl := tb "InvalidTarget") isR (fun c b z => ⟨IF.e c (tb_cs z), IF.t "InvalidTarget" (by decide) c b z⟩) (Dc.pe_v 0)) (Dc.pa_n (T := ⟨K, ca, p, ms⟩)))))))) (Dc.ps_seq (Dc.ps_asg (i := 1) (Dc.pe_o (Dc.o_addU (T := ⟨K, ca, p, ms⟩)) (Dc.pe_v 1) (Dc.pe_l (Dc.pa_c (Dc.pe_is (T := ⟨K, ca, p, ms⟩) (tbl := tb "InvalidPort") isR (fun c b z => ⟨IF.e c (tb_cs z), IF.t "InvalidPort" (by decide) c b z⟩) (Dc.pe_v 0)) (Dc.pa_c (Dc.pe_is (T := ⟨K, ca, p, ms⟩) (tbl := tb "InvalidName") isR (fun c b z => ⟨IF.e c (tb_cs z), IF.t "InvalidName" (by decide) c b z⟩) (Dc.pe_v 0)) (Dc.pa_c (Dc.pe_is (T := ⟨K, ca, p, ms⟩) (tbl := tb "InvalidTime") isR (fun c b z => ⟨IF.e c (tb_cs z), IF.t "InvalidTime" (by decide) c b z⟩) (Dc.pe_v 0)) (Dc.pa_n (T := ⟨K, ca, p, ms⟩)))))))) (Dc.ps_seq (Dc.ps_asg (i := 1) (Dc.pe_o (Dc.o_addU (T := ⟨K, ca, p, ms⟩)) (Dc.pe_v 1) (Dc.pe_l (Dc.pa_c (Dc.pe_is (T := ⟨K, ca, p, ms⟩) (tbl := tb "Clash") isR (fun c b z => ⟨IF.e c (tb_cs z), IF.t "Clash" (by decide) c b z⟩) (Dc.pe_v 0)) (Dc.pa_c (Dc.pe_is (T := ⟨K, ca, p, ms⟩) (tbl := tb "InvalidText") isR (fun c b z => ⟨IF.e c (tb_cs z), IF.t "InvalidText" (by decide) c b z⟩) (Dc.pe_v 0)) (Dc.pa_c (Dc.pe_is (T := ⟨K, ca, p, ms⟩) (tbl := tb "UnknownCommand") isR (fun c b z => ⟨IF.e c (tb_cs z), IF.t "UnknownCommand" (by decide) c b z⟩) (Dc.pe_v 0)) (Dc.pa_n (T := ⟨K, ca, p, ms⟩)))))))) (Dc.ps_seq (Dc.ps_asg (i := 1) (Dc.pe_o (Dc.o_addU (T := ⟨K, ca, p, ms⟩)) (Dc.pe_v 1) (Dc.pe_l (Dc.pa_c (Dc.pe_is (T := ⟨K, ca, p, ms⟩) (tbl := tb "NoStation") isR (fun c b z => ⟨IF.e c (tb_cs z), IF.t "NoStation" (by decide) c b z⟩) (Dc.pe_v 0)) (Dc.pa_c (Dc.pe_is (T := ⟨K, ca, p, ms⟩) (tbl := tb "NoRound") isR (fun c b z => ⟨IF.e c (tb_cs z), IF.t "NoRound" (by decide) c b z⟩) (Dc.pe_v 0)) (Dc.pa_c (Dc.pe_is (T := ⟨K, ca, p, ms⟩) (tbl := tb "NothingToUndo") isR (fun c b z => ⟨IF.e c (tb_cs z), IF.t "NothingToUndo" (by decide) c b z⟩) (Dc.pe_v 0)) (Dc.pa_n (T := ⟨K, ca, p, ms⟩)))))))) (Dc.ps_seq (Dc.ps_asg (i := 1) (Dc.pe_o (Dc.o_addU (T := ⟨K, ca, p, ms⟩)) (Dc.pe_v 1) (Dc.pe_l (Dc.pa_c (Dc.pe_is (T := ⟨K, ca, p, ms⟩) (tbl := tb "NotHeard") isR (fun c b z => ⟨IF.e c (tb_cs z), IF.t "NotHeard" (by decide) c b z⟩) (Dc.pe_v 0)) (Dc.pa_c (Dc.pe_is (T := ⟨K, ca, p, ms⟩) (tbl := tb "NotSeen") isR (fun c b z => ⟨IF.e c (tb_cs z), IF.t "NotSeen" (by decide) c b z⟩) (Dc.pe_v 0)) (Dc.pa_c (Dc.pe_is (T := ⟨K, ca, p, ms⟩) (tbl := tb "Heard") isR (fun c b z => ⟨IF.e c (tb_cs z), IF.t "Heard" (by decide) c b z⟩) (Dc.pe_v 0)) (Dc.pa_c (Dc.pe_is (T := ⟨K, ca, p, ms⟩) (tbl := tb "TooMany") isR (fun c b z => ⟨IF.e c (tb_cs z), IF.t "TooMany" (by decide) c b z⟩) (Dc.pe_v 0)) (Dc.pa_n (T := ⟨K, ca, p, ms⟩))))))))) (Dc.ps_ret (Dc.pe_o (Dc.o_addU (T := ⟨K, ca, p, ms⟩)) (Dc.pe_v 1) (Dc.pe_l (Dc.pa_c (Dc.pe_is (T := ⟨K, ca, p, ms⟩) (tbl := tb "InvalidQuestion") isR (fun c b z => ⟨IF.e c (tb_cs z), IF.t "InvalidQuestion" (by decide) c b z⟩) (Dc.pe_v 0)) (Dc.pa_c (Dc.pe_is (T := ⟨K, ca, p, ms⟩) (tbl := tb "InvalidEvent") isR (fun c b z => ⟨IF.e c (tb_cs z), IF.t "InvalidEvent" (by decide) c b z⟩) (Dc.pe_v 0)) (Dc.pa_n (T := ⟨K, ca, p, ms⟩)))))))))))))) ?_ h⟩), g, F.kp, F.bindsN fun _ _ _ _ _ _ us hl => match us, hl with | [_], _ => rfl⟩
  · rintro ds n K ⟨c, ns, vs, rfl, _⟩
    rfl
  · rintro ms hz ds n K ⟨c, ns, vs, rfl, hc, hk⟩
    refine ⟨rfl, ?_⟩
    repeat (first | refine And.intro rfl ?_ | refine fIs_of (tb_eq hc) ?_)
    exact hk
abbrev s_bases : Stmt := top 32
theorem sc_bases : FnScope ["_law_e", "_law_told", "_law_one"] ["_law_e"] (defScope s_bases) := ⟨rfl, rfl, rfl, by decide +kernel, rfl, by decide +kernel, by decide +kernel⟩
theorem ok_bases (F : FnP K "_law_bases" s_bases f fd) (g : mg "_law_bases" = some (.ref f)) (n_IndexError : mg "IndexError" = none) (n_KeyError : mg "KeyError" = none) (n_LookupError : mg "LookupError" = none) (n_OverflowError : mg "OverflowError" = none) (n_RuntimeError : mg "RuntimeError" = none) (n_ValueError : mg "ValueError" = none) (n_int : mg "int" = none) (n_isinstance : mg "isinstance" = none) (g_MeetError : mg "MeetError" = some (.ref (ca "MeetError"))) (IF : IsF K ca) : Kn P w K mg base ca "_law_bases" 1 R_bases := by
  have S := sc_bases
  refine ⟨f, fd, ["_law_e"], F.ok S (fun vs H Q E h => SpA.len (m := 1) ?_ h) (fun cdv A outer s H vs Q E hr h => ⟨_, (L2.pss_cons (L2.ps_set (i := 1) S.nd rfl (by first | exact Or.inl rfl | exact Or.inr rfl) (L2.pe_lst (L2.pa_cons (L2.pe_callB (Dc.isX_K (K := K) rfl) rfl n_isinstance PyProof.Rows.boot_isinstance (L2.pa_cons (L2.pv 0) (L2.pa_cons (L2.pe_glob (v := .ref (ca "MeetError")) rfl g_MeetError rfl) L2.pa_nil))) (L2.pa_cons (L2.pe_callB (Dc.isX_K (K := K) rfl) rfl n_isinstance PyProof.Rows.boot_isinstance (L2.pa_cons (L2.pv 0) (L2.pa_cons (L2.pe_bltn (v := .ty "ValueError") rfl n_ValueError (by decide +kernel) rfl) L2.pa_nil))) (L2.pa_cons (L2.pe_callB (Dc.isX_K (K := K) rfl) rfl n_isinstance PyProof.Rows.boot_isinstance (L2.pa_cons (L2.pv 0) (L2.pa_cons (L2.pe_bltn (v := .ty "KeyError") rfl n_KeyError (by decide +kernel) rfl) L2.pa_nil))) (L2.pa_cons (L2.pe_callB (Dc.isX_K (K := K) rfl) rfl n_isinstance PyProof.Rows.boot_isinstance (L2.pa_cons (L2.pv 0) (L2.pa_cons (L2.pe_bltn (v := .ty "IndexError") rfl n_IndexError (by decide +kernel) rfl) L2.pa_nil))) L2.pa_nil)))))) (L2.pss_cons (L2.ps_set (i := 1) S.nd rfl (by first | exact Or.inl rfl | exact Or.inr rfl) (L2.pe_op (Dc.op_addK (K := K) rfl) (L2.pv 1) (L2.pe_lst (L2.pa_cons (L2.pe_callB (Dc.isX_K (K := K) rfl) rfl n_isinstance PyProof.Rows.boot_isinstance (L2.pa_cons (L2.pv 0) (L2.pa_cons (L2.pe_bltn (v := .ty "LookupError") rfl n_LookupError (by decide +kernel) rfl) L2.pa_nil))) (L2.pa_cons (L2.pe_callB (Dc.isX_K (K := K) rfl) rfl n_isinstance PyProof.Rows.boot_isinstance (L2.pa_cons (L2.pv 0) (L2.pa_cons (L2.pe_bltn (v := .ty "RuntimeError") rfl n_RuntimeError (by decide +kernel) rfl) L2.pa_nil))) (L2.pa_cons (L2.pe_callB (Dc.isX_K (K := K) rfl) rfl n_isinstance PyProof.Rows.boot_isinstance (L2.pa_cons (L2.pv 0) (L2.pa_cons (L2.pe_bltn (v := .ty "OverflowError") rfl n_OverflowError (by decide +kernel) rfl) L2.pa_nil))) L2.pa_nil)))))) (L2.pss_one (L2.ps_ret (L2.pe_lc rfl S.nd (Dc.pi_K (K := K) rfl (L2.pv 1)) (own := [("_law_one", 2)]) (L2.blkOk_by (by kernel_rfl)) (fun _ _ _ _ _ => L2.pg_name (i := 2) S.nd rfl (by first | exact Or.inl rfl | exact Or.inr rfl)) (fun _ _ _ _ _ => L2.pts_nil) (fun _ _ _ _ _ => (L2.pe_callTy L2.call_int1 rfl n_int (by decide +kernel) (L2.pa_cons (L2.pv 2) L2.pa_nil)))))))), bodyA (K := K) (ca := ca) (m := 1) (N := ["_law_e", "_law_told", "_law_one"]) (fun p ms hz => (Dc.ps_seq (Dc.ps_asg (i := 1) (Dc.pe_l (Dc.pa_c (Dc.pe_is (T := ⟨K, ca, p, ms⟩) (tbl := tb "MeetError") isR (fun c b z => ⟨IF.e c (tb_cs z), IF.t "MeetError" (by decide) c b z⟩) (Dc.pe_v 0)) (Dc.pa_c (Dc.pe_is (T := ⟨K, ca, p, ms⟩) (tbl := tc "ValueError") isY (fun c b z => ⟨IF.e c (tc_cs z), IF.u "ValueError" (by decide) c b z⟩) (Dc.pe_v 0)) (Dc.pa_c (Dc.pe_is (T := ⟨K, ca, p, ms⟩) (tbl := tc "KeyError") isY (fun c b z => ⟨IF.e c (tc_cs z), IF.u "KeyError" (by decide) c b z⟩) (Dc.pe_v 0)) (Dc.pa_c (Dc.pe_is (T := ⟨K, ca, p, ms⟩) (tbl := tc "IndexError") isY (fun c b z => ⟨IF.e c (tc_cs z), IF.u "IndexError" (by decide) c b z⟩) (Dc.pe_v 0)) (Dc.pa_n (T := ⟨K, ca, p, ms⟩)))))))) (Dc.ps_seq (Dc.ps_asg (i := 1) (Dc.pe_o (Dc.o_addU (T := ⟨K, ca, p, ms⟩)) (Dc.pe_v 1) (Dc.pe_l (Dc.pa_c (Dc.pe_is (T := ⟨K, ca, p, ms⟩) (tbl := tc "LookupError") isY (fun c b z => ⟨IF.e c (tc_cs z), IF.u "LookupError" (by decide) c b z⟩) (Dc.pe_v 0)) (Dc.pa_c (Dc.pe_is (T := ⟨K, ca, p, ms⟩) (tbl := tc "RuntimeError") isY (fun c b z => ⟨IF.e c (tc_cs z), IF.u "RuntimeError" (by decide) c b z⟩) (Dc.pe_v 0)) (Dc.pa_c (Dc.pe_is (T := ⟨K, ca, p, ms⟩) (tbl := tc "OverflowError") isY (fun c b z => ⟨IF.e c (tc_cs z), IF.u "OverflowError" (by decide) c b z⟩) (Dc.pe_v 0)) (Dc.pa_n (T := ⟨K, ca, p, ms⟩)))))))) (Dc.ps_ret (Dc.pe_lcD (Dc.pi_s (Dc.pe_v 1)) (Dc.pg_n 2) Dc.pt_yes (Dc.pe_cb (Dc.o_int (T := ⟨K, ca, p, ms⟩)) (Dc.par_c (Dc.pe_v 2) (Dc.par_n (T := ⟨K, ca, p, ms⟩)))) (by decide)))))) ?_ h⟩), g, F.kp, F.bindsN fun _ _ _ _ _ _ us hl => match us, hl with | [_], _ => rfl⟩
  · rintro ds n K ⟨c, ns, vs, rfl, _⟩
    rfl
  · rintro ms hz ds n K ⟨c, ns, vs, rfl, hc, hk⟩
    refine ⟨rfl, ?_⟩
    iterate 10 (first | refine And.intro rfl ?_ | refine fIs_of (tb_eq hc) ?_ | refine fIs_of (tc_eq hc) ?_)
    refine comp_map (isP := isBl) (f := blInt) (fun x hx Q q => ?_) _ _ rfl (Nat.le_of_ble_eq_true rfl) ?_
    · cases x with
      | bl b => exact q
      | _ => cases hx
    · exact hk
end
end Lw

set_option maxHeartbeats 4000000
/-! the law -/
namespace Lw
open PySem PySem.Spec PyProof.Rows L2 Dc
section
variable {P : Program} {w : World} {K : PySem.W.Frag} {mg : Str → Option Value} {base : Heap} {ca : Str → Addr} {f fp : Addr} {fd fdp : FuncData}
abbrev s_pen : Stmt := top 25
abbrev s_law : Stmt := top 33
theorem sc_pen : FnScope ["_law_script"] ["_law_script"] (defScope s_pen) := ⟨rfl, rfl, rfl, by decide +kernel, rfl, by decide +kernel, by decide +kernel⟩
theorem sc_law : FnScope ["_law_script", "_law_pen_here", "_law_due", "_law_turn", "_law_k", "_law_one", "_law_two", "_law_some", "_law_named_here", "_law_j"] ["_law_script"] (defScope s_law) := ⟨rfl, rfl, rfl, by decide +kernel, rfl, by decide +kernel, by decide +kernel⟩
theorem ok_pen (F : FnP K "_law_pen" s_pen f fd) (n_list : mg "list" = none) : FnOk P w K mg base CX0 1 f fd ["_law_script"] (spPen K) :=
  F.ok sc_pen (fun vs H Q E h => by obtain ⟨_, _, rfl, _⟩ := h; rfl) (fun cdv A outer s H vs Q E hr h => ⟨_, (L2.pss_one (L2.ps_ret (L2.pe_lst (L2.pa_cons (L2.pe_callTy L2.call_list_of rfl n_list (by decide +kernel) (L2.pa_cons (L2.pe_slice L2.sl_list (L2.pv 0) L2.po_none (L2.po_some L2.pe_int)) L2.pa_nil)) (L2.pa_cons L2.pe_int (L2.pa_cons L2.pe_int L2.pa_nil)))))), pen_run h⟩)
theorem ok_law (F : FnP K "law" s_law f fd) (FP : FnP K "_law_pen" s_pen fp fdp) (gp : mg "_law_pen" = some (.ref fp)) (hsm : ∃ o, K.lookup sysModules = some o) (k__law_bases : Kn P w K mg base ca "_law_bases" 1 R_bases) (k__law_classes : Kn P w K mg base ca "_law_classes" 1 R_classes) (k__law_fields : Kn P w K mg base ca "_law_fields" 1 R_fields) (k__law_made : Kn P w K mg base ca "_law_made" 1 R_made) (k__law_named : Kn P w K mg base ca "_law_named" 1 R_named) (k__law_odd : Kn P w K mg base ca "_law_odd" 2 R_odd) (n_list : mg "list" = none) (n_range : mg "range" = none) (n_repr : mg "repr" = none) (IF : IsF K ca) : FnG P w K mg base CX0 5 f fd ["_law_script"] (spTrue K) := by
  have S := sc_law
  have GP : FnOk P w K mg base CX0 1 fp fdp ["_law_script"] (spPen K) := ok_pen FP n_list
  have bP : Binds K fdp ["_law_script"] [] := FP.bindsN fun _ _ _ _ _ _ us hl => match us, hl with | [_], _ => rfl
  refine F.okG S (fun vs H Q E h => by obtain ⟨_, _, rfl, _⟩ := h; rfl) (fun cdv A outer s H vs Q E hr hG h => ⟨_, (L2.pss_cons (L2.ps_set (i := 1) S.nd rfl (by first | exact Or.inl rfl | exact Or.inr rfl) (L2.pe_call GP (hr.mono (by decide)) rfl gp FP.kp bP .nil pass0 (L2.pa_cons (L2.pv 0) L2.pa_nil))) (L2.pss_cons (L2.ps_set (i := 2) S.nd rfl (by first | exact Or.inl rfl | exact Or.inr rfl) (L2.pe_op (Dc.op_addK (K := K) rfl) (L2.pe_op Dc.op_mulU (L2.pe_lst (L2.pa_cons (L2.pe_lst (L2.pa_cons L2.pe_int (L2.pa_cons L2.pe_int (L2.pa_cons L2.pe_int (L2.pa_cons L2.pe_int (L2.pa_cons L2.pe_int (L2.pa_cons L2.pe_int (L2.pa_cons L2.pe_int L2.pa_nil)))))))) L2.pa_nil)) L2.pe_int) (L2.pe_lst (L2.pa_cons (L2.pe_lst (L2.pa_cons L2.pe_int (L2.pa_cons L2.pe_int (L2.pa_cons L2.pe_int (L2.pa_cons L2.pe_int (L2.pa_cons L2.pe_int (L2.pa_cons L2.pe_int (L2.pa_cons L2.pe_int L2.pa_nil)))))))) (L2.pa_cons (L2.pe_lst (L2.pa_cons L2.pe_int (L2.pa_cons L2.pe_int (L2.pa_cons L2.pe_int (L2.pa_cons L2.pe_int (L2.pa_cons L2.pe_int (L2.pa_cons L2.pe_int (L2.pa_cons L2.pe_int L2.pa_nil)))))))) L2.pa_nil))))) (L2.pss_cons (L2.ps_set (i := 2) S.nd rfl (by first | exact Or.inl rfl | exact Or.inr rfl) (L2.pe_op (Dc.op_addK (K := K) rfl) (L2.pe_op (Dc.op_addK (K := K) rfl) (L2.pv 2) (L2.pe_op Dc.op_mulU (L2.pe_lst (L2.pa_cons (L2.pe_lst (L2.pa_cons L2.pe_int (L2.pa_cons L2.pe_int (L2.pa_cons L2.pe_int (L2.pa_cons L2.pe_int (L2.pa_cons L2.pe_int (L2.pa_cons L2.pe_int (L2.pa_cons L2.pe_int L2.pa_nil)))))))) L2.pa_nil)) L2.pe_int)) (L2.pe_lst (L2.pa_cons (L2.pe_lst (L2.pa_cons L2.pe_int (L2.pa_cons L2.pe_int (L2.pa_cons L2.pe_int (L2.pa_cons L2.pe_int (L2.pa_cons L2.pe_int (L2.pa_cons L2.pe_int (L2.pa_cons L2.pe_int L2.pa_nil)))))))) (L2.pa_cons (L2.pe_lst (L2.pa_cons L2.pe_int (L2.pa_cons L2.pe_int (L2.pa_cons L2.pe_int (L2.pa_cons L2.pe_int (L2.pa_cons L2.pe_int (L2.pa_cons L2.pe_int (L2.pa_cons L2.pe_int L2.pa_nil)))))))) L2.pa_nil))))) (L2.pss_cons (L2.ps_set (i := 2) S.nd rfl (by first | exact Or.inl rfl | exact Or.inr rfl) (L2.pe_op (Dc.op_addK (K := K) rfl) (L2.pv 2) (L2.pe_op Dc.op_mulU (L2.pe_lst (L2.pa_cons (L2.pe_lst (L2.pa_cons L2.pe_int (L2.pa_cons L2.pe_int (L2.pa_cons L2.pe_int (L2.pa_cons L2.pe_int (L2.pa_cons L2.pe_int (L2.pa_cons L2.pe_int (L2.pa_cons L2.pe_int L2.pa_nil)))))))) L2.pa_nil)) L2.pe_int))) (L2.pss_cons (L2.ps_for (L2.passes_of rfl) rfl (L2.pi_range1 rfl n_range (L2.pa_cons L2.pe_int L2.pa_nil)) (L2.pg_name (i := 3) S.nd rfl (by first | exact Or.inl rfl | exact Or.inr rfl)) (L2.pss_cons (L2.ps_par (i := 5) (j := 6) rfl S.nd rfl rfl (by decide) rfl rfl (L2.pa_cons (Dc.pe_kn k__law_odd hr (by decide) rfl (L2.pa_cons (L2.pv 1) L2.pa_nil)) (L2.pa_cons (Dc.pe_kn k__law_odd hr (by decide) rfl (L2.pa_cons (L2.pv 1) L2.pa_nil)) L2.pa_nil)) rfl) (L2.pss_cons (L2.ps_par (i := 7) (j := 8) rfl S.nd rfl rfl (by decide) rfl rfl (L2.pa_cons (Dc.pe_kn k__law_made hr (by decide) rfl (L2.pa_cons (L2.pv 5) (L2.pa_cons (L2.pv 6) L2.pa_nil))) (L2.pa_cons (Dc.pe_kn k__law_named hr (by decide) rfl (L2.pa_cons (L2.pv 5) (L2.pa_cons (L2.pv 6) L2.pa_nil))) L2.pa_nil)) rfl) (L2.pss_cons (L2.ps_for (L2.passes_of rfl) rfl (L2.pi_range1 rfl n_range (L2.pa_cons L2.pe_int L2.pa_nil)) (L2.pg_name (i := 4) S.nd rfl (by first | exact Or.inl rfl | exact Or.inr rfl)) (L2.pss_one (L2.ps_if (L2.PW.pt (L2.pw_or (L2.pt_cmpR (Dc.op_neU (K := K) rfl hr.units) (Dc.pe_kn k__law_classes hr (by decide) rfl (L2.pa_cons (L2.pe_ix (Dc.ix_K (K := K) rfl) (L2.pv 7) (L2.pv 4) fun _ _ => rfl) L2.pa_nil)) (L2.pe_lc rfl S.nd (L2.pi_range1 rfl n_range (L2.pa_cons L2.pe_int L2.pa_nil)) (own := [("_law_j", 9)]) (L2.blkOk_by (by kernel_rfl)) (fun _ _ _ _ _ => L2.pg_name (i := 9) S.nd rfl (by first | exact Or.inl rfl | exact Or.inr rfl)) (fun _ _ _ _ _ => L2.pts_nil) (fun _ _ _ _ _ => (L2.pe_cmpR (Dc.op_eqU (K := K) rfl hr.units) (L2.pv 9) (L2.pv 4) (L2.nomark _)))) (L2.nomark _)) (L2.pw_or1 (L2.pt_cmpR (Dc.op_neU (K := K) rfl hr.units) (Dc.pe_kn k__law_bases hr (by decide) rfl (L2.pa_cons (L2.pe_ix (Dc.ix_K (K := K) rfl) (L2.pv 7) (L2.pv 4) fun _ _ => rfl) L2.pa_nil)) (L2.pe_ix (Dc.ix_K (K := K) rfl) (L2.pv 2) (L2.pv 4) fun _ _ => rfl) (L2.nomark _))))) (L2.pss_one (L2.ps_ret L2.pe_bl)) L2.pss_nil))) (L2.pss_cons (L2.ps_if (L2.pt_cmpR (Dc.op_neU (K := K) rfl hr.units) (L2.pe_callB (Dc.repr_K (K := K) (ca := ca) rfl hG hr.units hsm) rfl n_repr (by decide +kernel) (L2.pa_cons (L2.pe_lst (L2.pa_cons (Dc.pe_kn k__law_fields hr (by decide) rfl (L2.pa_cons (L2.pv 7) L2.pa_nil)) (L2.pa_cons (Dc.pe_kn k__law_fields hr (by decide) rfl (L2.pa_cons (L2.pv 8) L2.pa_nil)) L2.pa_nil))) L2.pa_nil)) (L2.pe_callB (Dc.repr_K (K := K) (ca := ca) rfl hG hr.units hsm) rfl n_repr (by decide +kernel) (L2.pa_cons (L2.pe_op Dc.op_mulU (L2.pe_lst (L2.pa_cons (L2.pe_op Dc.op_mulU (L2.pe_lst (L2.pa_cons (L2.pv 5) L2.pa_nil)) L2.pe_int) L2.pa_nil)) L2.pe_int) L2.pa_nil)) (L2.nomark _)) (L2.pss_one (L2.ps_ret L2.pe_bl)) L2.pss_nil) (L2.pss_one (L2.ps_if (L2.pt_cmpR (Dc.op_neU (K := K) rfl hr.units) (L2.pe_callB (Dc.repr_K (K := K) (ca := ca) rfl hG hr.units hsm) rfl n_repr (by decide +kernel) (L2.pa_cons (L2.pe_lst (L2.pa_cons (Dc.fx_K (K := K) rfl (L2.pe_ix (Dc.ix_K (K := K) rfl) (L2.pv 7) L2.pe_int fun _ _ => rfl)) (L2.pa_cons (Dc.fx_K (K := K) rfl (L2.pe_ix (Dc.ix_K (K := K) rfl) (L2.pv 8) L2.pe_int fun _ _ => rfl)) L2.pa_nil))) L2.pa_nil)) (L2.pe_callB (Dc.repr_K (K := K) (ca := ca) rfl hG hr.units hsm) rfl n_repr (by decide +kernel) (L2.pa_cons (L2.pe_lst (L2.pa_cons (L2.pv 6) (L2.pa_cons (L2.pv 6) L2.pa_nil))) L2.pa_nil)) (L2.nomark _)) (L2.pss_one (L2.ps_ret L2.pe_bl)) L2.pss_nil))))))) (L2.pss_one (L2.ps_ret L2.pe_bl))))))), law_run (K := K) (ca := ca) (N := ["_law_script", "_law_pen_here", "_law_due", "_law_turn", "_law_k", "_law_one", "_law_two", "_law_some", "_law_named_here", "_law_j"]) (by decide) (by decide) (fun p ms hz => (Dc.ps_seq (Dc.ps_asg (i := 2) (Dc.pe_o (Dc.o_addU (T := ⟨K, ca, p, ms⟩)) (Dc.pe_o (Dc.o_mulU (T := ⟨K, ca, p, ms⟩)) (Dc.pe_l (Dc.pa_c (Dc.pe_l (Dc.pa_c (Dc.pe_cint (T := ⟨K, ca, p, ms⟩)) (Dc.pa_c (Dc.pe_cint (T := ⟨K, ca, p, ms⟩)) (Dc.pa_c (Dc.pe_cint (T := ⟨K, ca, p, ms⟩)) (Dc.pa_c (Dc.pe_cint (T := ⟨K, ca, p, ms⟩)) (Dc.pa_c (Dc.pe_cint (T := ⟨K, ca, p, ms⟩)) (Dc.pa_c (Dc.pe_cint (T := ⟨K, ca, p, ms⟩)) (Dc.pa_c (Dc.pe_cint (T := ⟨K, ca, p, ms⟩)) (Dc.pa_n (T := ⟨K, ca, p, ms⟩)))))))))) (Dc.pa_n (T := ⟨K, ca, p, ms⟩)))) (Dc.pe_cint (T := ⟨K, ca, p, ms⟩))) (Dc.pe_l (Dc.pa_c (Dc.pe_l (Dc.pa_c (Dc.pe_cint (T := ⟨K, ca, p, ms⟩)) (Dc.pa_c (Dc.pe_cint (T := ⟨K, ca, p, ms⟩)) (Dc.pa_c (Dc.pe_cint (T := ⟨K, ca, p, ms⟩)) (Dc.pa_c (Dc.pe_cint (T := ⟨K, ca, p, ms⟩)) (Dc.pa_c (Dc.pe_cint (T := ⟨K, ca, p, ms⟩)) (Dc.pa_c (Dc.pe_cint (T := ⟨K, ca, p, ms⟩)) (Dc.pa_c (Dc.pe_cint (T := ⟨K, ca, p, ms⟩)) (Dc.pa_n (T := ⟨K, ca, p, ms⟩)))))))))) (Dc.pa_c (Dc.pe_l (Dc.pa_c (Dc.pe_cint (T := ⟨K, ca, p, ms⟩)) (Dc.pa_c (Dc.pe_cint (T := ⟨K, ca, p, ms⟩)) (Dc.pa_c (Dc.pe_cint (T := ⟨K, ca, p, ms⟩)) (Dc.pa_c (Dc.pe_cint (T := ⟨K, ca, p, ms⟩)) (Dc.pa_c (Dc.pe_cint (T := ⟨K, ca, p, ms⟩)) (Dc.pa_c (Dc.pe_cint (T := ⟨K, ca, p, ms⟩)) (Dc.pa_c (Dc.pe_cint (T := ⟨K, ca, p, ms⟩)) (Dc.pa_n (T := ⟨K, ca, p, ms⟩)))))))))) (Dc.pa_n (T := ⟨K, ca, p, ms⟩))))))) (Dc.ps_seq (Dc.ps_asg (i := 2) (Dc.pe_o (Dc.o_addU (T := ⟨K, ca, p, ms⟩)) (Dc.pe_o (Dc.o_addU (T := ⟨K, ca, p, ms⟩)) (Dc.pe_v 2) (Dc.pe_o (Dc.o_mulU (T := ⟨K, ca, p, ms⟩)) (Dc.pe_l (Dc.pa_c (Dc.pe_l (Dc.pa_c (Dc.pe_cint (T := ⟨K, ca, p, ms⟩)) (Dc.pa_c (Dc.pe_cint (T := ⟨K, ca, p, ms⟩)) (Dc.pa_c (Dc.pe_cint (T := ⟨K, ca, p, ms⟩)) (Dc.pa_c (Dc.pe_cint (T := ⟨K, ca, p, ms⟩)) (Dc.pa_c (Dc.pe_cint (T := ⟨K, ca, p, ms⟩)) (Dc.pa_c (Dc.pe_cint (T := ⟨K, ca, p, ms⟩)) (Dc.pa_c (Dc.pe_cint (T := ⟨K, ca, p, ms⟩)) (Dc.pa_n (T := ⟨K, ca, p, ms⟩)))))))))) (Dc.pa_n (T := ⟨K, ca, p, ms⟩)))) (Dc.pe_cint (T := ⟨K, ca, p, ms⟩)))) (Dc.pe_l (Dc.pa_c (Dc.pe_l (Dc.pa_c (Dc.pe_cint (T := ⟨K, ca, p, ms⟩)) (Dc.pa_c (Dc.pe_cint (T := ⟨K, ca, p, ms⟩)) (Dc.pa_c (Dc.pe_cint (T := ⟨K, ca, p, ms⟩)) (Dc.pa_c (Dc.pe_cint (T := ⟨K, ca, p, ms⟩)) (Dc.pa_c (Dc.pe_cint (T := ⟨K, ca, p, ms⟩)) (Dc.pa_c (Dc.pe_cint (T := ⟨K, ca, p, ms⟩)) (Dc.pa_c (Dc.pe_cint (T := ⟨K, ca, p, ms⟩)) (Dc.pa_n (T := ⟨K, ca, p, ms⟩)))))))))) (Dc.pa_c (Dc.pe_l (Dc.pa_c (Dc.pe_cint (T := ⟨K, ca, p, ms⟩)) (Dc.pa_c (Dc.pe_cint (T := ⟨K, ca, p, ms⟩)) (Dc.pa_c (Dc.pe_cint (T := ⟨K, ca, p, ms⟩)) (Dc.pa_c (Dc.pe_cint (T := ⟨K, ca, p, ms⟩)) (Dc.pa_c (Dc.pe_cint (T := ⟨K, ca, p, ms⟩)) (Dc.pa_c (Dc.pe_cint (T := ⟨K, ca, p, ms⟩)) (Dc.pa_c (Dc.pe_cint (T := ⟨K, ca, p, ms⟩)) (Dc.pa_n (T := ⟨K, ca, p, ms⟩)))))))))) (Dc.pa_n (T := ⟨K, ca, p, ms⟩))))))) (Dc.ps_seq (Dc.ps_asg (i := 2) (Dc.pe_o (Dc.o_addU (T := ⟨K, ca, p, ms⟩)) (Dc.pe_v 2) (Dc.pe_o (Dc.o_mulU (T := ⟨K, ca, p, ms⟩)) (Dc.pe_l (Dc.pa_c (Dc.pe_l (Dc.pa_c (Dc.pe_cint (T := ⟨K, ca, p, ms⟩)) (Dc.pa_c (Dc.pe_cint (T := ⟨K, ca, p, ms⟩)) (Dc.pa_c (Dc.pe_cint (T := ⟨K, ca, p, ms⟩)) (Dc.pa_c (Dc.pe_cint (T := ⟨K, ca, p, ms⟩)) (Dc.pa_c (Dc.pe_cint (T := ⟨K, ca, p, ms⟩)) (Dc.pa_c (Dc.pe_cint (T := ⟨K, ca, p, ms⟩)) (Dc.pa_c (Dc.pe_cint (T := ⟨K, ca, p, ms⟩)) (Dc.pa_n (T := ⟨K, ca, p, ms⟩)))))))))) (Dc.pa_n (T := ⟨K, ca, p, ms⟩)))) (Dc.pe_cint (T := ⟨K, ca, p, ms⟩))))) (Dc.ps_seq (Dc.ps_for (Dc.pi_r1 (Dc.par_c (Dc.pe_cint (T := ⟨K, ca, p, ms⟩)) (Dc.par_n (T := ⟨K, ca, p, ms⟩)))) (Dc.pg_n 3) (Dc.ps_seq (Dc.ps_par (Dc.pa_c (Dc.pe_call hz (Dc.pa_c (Dc.pe_v 1) (Dc.pa_n (T := ⟨K, ca, p, ms⟩)))) (Dc.pa_c (Dc.pe_call hz (Dc.pa_c (Dc.pe_v 1) (Dc.pa_n (T := ⟨K, ca, p, ms⟩)))) (Dc.pa_n (T := ⟨K, ca, p, ms⟩))))) (Dc.ps_seq (Dc.ps_par (Dc.pa_c (Dc.pe_call hz (Dc.pa_c (Dc.pe_v 5) (Dc.pa_c (Dc.pe_v 6) (Dc.pa_n (T := ⟨K, ca, p, ms⟩))))) (Dc.pa_c (Dc.pe_call hz (Dc.pa_c (Dc.pe_v 5) (Dc.pa_c (Dc.pe_v 6) (Dc.pa_n (T := ⟨K, ca, p, ms⟩))))) (Dc.pa_n (T := ⟨K, ca, p, ms⟩))))) (Dc.ps_seq (Dc.ps_for (Dc.pi_r1 (Dc.par_c (Dc.pe_cint (T := ⟨K, ca, p, ms⟩)) (Dc.par_n (T := ⟨K, ca, p, ms⟩)))) (Dc.pg_n 4) (Dc.ps_if (Dc.pt_or (Dc.pt_t (Dc.pe_o (Dc.o_neU (T := ⟨K, ca, p, ms⟩)) (Dc.pe_call hz (Dc.pa_c (Dc.pe_o (Dc.o_ix (T := ⟨K, ca, p, ms⟩)) (Dc.pe_v 7) (Dc.pe_v 4)) (Dc.pa_n (T := ⟨K, ca, p, ms⟩)))) (Dc.pe_lcD (Dc.pi_r1 (Dc.par_c (Dc.pe_cint (T := ⟨K, ca, p, ms⟩)) (Dc.par_n (T := ⟨K, ca, p, ms⟩)))) (Dc.pg_n 9) Dc.pt_yes (Dc.pe_o (Dc.o_eqU (T := ⟨K, ca, p, ms⟩)) (Dc.pe_v 9) (Dc.pe_v 4)) (by decide)))) (Dc.pt_t (Dc.pe_o (Dc.o_neU (T := ⟨K, ca, p, ms⟩)) (Dc.pe_call hz (Dc.pa_c (Dc.pe_o (Dc.o_ix (T := ⟨K, ca, p, ms⟩)) (Dc.pe_v 7) (Dc.pe_v 4)) (Dc.pa_n (T := ⟨K, ca, p, ms⟩)))) (Dc.pe_o (Dc.o_ix (T := ⟨K, ca, p, ms⟩)) (Dc.pe_v 2) (Dc.pe_v 4))))) (Dc.ps_ret (Dc.pe_cbl (T := ⟨K, ca, p, ms⟩))) Dc.ps_next)) (Dc.ps_seq (Dc.ps_if (Dc.pt_t (Dc.pe_o (Dc.o_neU (T := ⟨K, ca, p, ms⟩)) (Dc.pe_cb Dc.o_reprA (Dc.par_c (Dc.pe_l (Dc.pa_c (Dc.pe_call hz (Dc.pa_c (Dc.pe_v 7) (Dc.pa_n (T := ⟨K, ca, p, ms⟩)))) (Dc.pa_c (Dc.pe_call hz (Dc.pa_c (Dc.pe_v 8) (Dc.pa_n (T := ⟨K, ca, p, ms⟩)))) (Dc.pa_n (T := ⟨K, ca, p, ms⟩))))) (Dc.par_n (T := ⟨K, ca, p, ms⟩)))) (Dc.pe_cb Dc.o_reprA (Dc.par_c (Dc.pe_o (Dc.o_mulU (T := ⟨K, ca, p, ms⟩)) (Dc.pe_l (Dc.pa_c (Dc.pe_o (Dc.o_mulU (T := ⟨K, ca, p, ms⟩)) (Dc.pe_l (Dc.pa_c (Dc.pe_v 5) (Dc.pa_n (T := ⟨K, ca, p, ms⟩)))) (Dc.pe_cint (T := ⟨K, ca, p, ms⟩))) (Dc.pa_n (T := ⟨K, ca, p, ms⟩)))) (Dc.pe_cint (T := ⟨K, ca, p, ms⟩))) (Dc.par_n (T := ⟨K, ca, p, ms⟩)))))) (Dc.ps_ret (Dc.pe_cbl (T := ⟨K, ca, p, ms⟩))) Dc.ps_next) (Dc.ps_if (Dc.pt_t (Dc.pe_o (Dc.o_neU (T := ⟨K, ca, p, ms⟩)) (Dc.pe_cb Dc.o_reprA (Dc.par_c (Dc.pe_l (Dc.pa_c (Dc.pe_u (Dc.o_fx (T := ⟨K, ca, p, ms⟩) (cs := cs) (fun c hc => IF.f _ (by decide) c hc)) (Dc.pe_o (Dc.o_ix (T := ⟨K, ca, p, ms⟩)) (Dc.pe_v 7) (Dc.pe_cint (T := ⟨K, ca, p, ms⟩)))) (Dc.pa_c (Dc.pe_u (Dc.o_fx (T := ⟨K, ca, p, ms⟩) (cs := cs) (fun c hc => IF.f _ (by decide) c hc)) (Dc.pe_o (Dc.o_ix (T := ⟨K, ca, p, ms⟩)) (Dc.pe_v 8) (Dc.pe_cint (T := ⟨K, ca, p, ms⟩)))) (Dc.pa_n (T := ⟨K, ca, p, ms⟩))))) (Dc.par_n (T := ⟨K, ca, p, ms⟩)))) (Dc.pe_cb Dc.o_reprA (Dc.par_c (Dc.pe_l (Dc.pa_c (Dc.pe_v 6) (Dc.pa_c (Dc.pe_v 6) (Dc.pa_n (T := ⟨K, ca, p, ms⟩))))) (Dc.par_n (T := ⟨K, ca, p, ms⟩)))))) (Dc.ps_ret (Dc.pe_cbl (T := ⟨K, ca, p, ms⟩))) Dc.ps_next)))))) (Dc.ps_ret (Dc.pe_cbl (T := ⟨K, ca, p, ms⟩)))))))) ?_ h⟩)
  intro ms hz
  repeat refine And.intro rfl ?_
  refine ⟨4, rfl, ⟨by decide, by decide⟩, ?_⟩
  refine loop_inv (I := fun xs ρ => ∃ a b c d e f g n, ρ = ⟨[none, some (.p .pen), some (.l due), a, b, c, d, e, f, g], n⟩ ∧ n + 2 * xs.length ≤ 8) ?h0 ?h1 _ _ ?init
  case init => exact ⟨_, _, _, _, _, _, _, 0, rfl, by decide⟩
  case h0 =>
    intro ρ _
    rfl
  case h1 =>
    rintro x xs ρ ⟨a, b, c, d, e, f, g, n, rfl, hn⟩ ih
    rw [List.length_cons] at hn
    refine ⟨rfl, show n ≤ 100000 by omega, fun one h1 n1 hn1 => ?_⟩
    have hn1 : n1 ≤ n + 1 := hn1
    refine ⟨rfl, show n1 ≤ 100000 by omega, fun two h2 n2 hn2 => ?_⟩
    have hn2 : n2 ≤ n1 + 1 := hn2
    refine ⟨_, _, rfl, ?_⟩
    refine ⟨_, _, rfl, ?_⟩
    refine ⟨_, _, rfl, ?_⟩
    refine ⟨_, _, rfl, ?_⟩
    refine ⟨22, rfl, ⟨by decide, by decide⟩, ?_⟩
    -- one class after the other
    refine loop_inv (I := fun ys ρ => ∃ (i : Nat) (a4 a9 : Option Cell), i ≤ 22 ∧ ys = Dc.intsFrom i (22 - i) ∧ ρ = ⟨[none, some (.p .pen), some (.l due), some (.p x), a4, some (.p one), some (.p two), some (.p (.lst (made one two))), some (.p (.lst (named one two))), a9], n2⟩) ?i0 ?i1 _ _ ⟨0, _, _, Nat.zero_le _, rfl, rfl⟩
    case i1 =>
      rintro y ys ρ ⟨i, a4, a9, hi, hy, rfl⟩ ih2
      have i22 : i < 22 := by
        rcases Nat.lt_or_ge i 22 with z | z
        · exact z
        · have z2 : i = 22 := by omega
          subst z2
          cases hy
      have nxt : ∀ b4 b9 : Option Cell, ∃ (i' : Nat) (a4 a9 : Option Cell), i' ≤ 22 ∧ ys = Dc.intsFrom i' (22 - i') ∧ (⟨[none, some (.p .pen), some (.l due), some (.p x), b4, some (.p one), some (.p two), some (.p (.lst (made one two))), some (.p (.lst (named one two))), b9], n2⟩ : En) = ⟨[none, some (.p .pen), some (.l due), some (.p x), a4, some (.p one), some (.p two), some (.p (.lst (made one two))), some (.p (.lst (named one two))), a9], n2⟩ := fun b4 b9 => by
        refine ⟨i + 1, b4, b9, i22, ?_, rfl⟩
        have e : 22 - i = (22 - (i + 1)) + 1 := by omega
        rw [e] at hy
        exact (List.cons.inj hy).2
      obtain rfl : y = .int i := by
        have e : 22 - i = (22 - (i + 1)) + 1 := by omega
        rw [e] at hy
        exact (List.cons.inj hy).1
      clear hy
      have hc : i = 0 ∨ i = 1 ∨ i = 2 ∨ i = 3 ∨ i = 4 ∨ i = 5 ∨ i = 6 ∨ i = 7 ∨ i = 8 ∨ i = 9 ∨ i = 10 ∨ i = 11 ∨ i = 12 ∨ i = 13 ∨ i = 14 ∨ i = 15 ∨ i = 16 ∨ i = 17 ∨ i = 18 ∨ i = 19 ∨ i = 20 ∨ i = 21 := by omega
      rcases hc with rfl | rfl | rfl | rfl | rfl | rfl | rfl | rfl | rfl | rfl | rfl | rfl | rfl | rfl | rfl | rfl | rfl | rfl | rfl | rfl | rfl | rfl
      · refine atK_at rfl ⟨_, _, _, rfl, rfl, ?_⟩
        refine ⟨22, rfl, ⟨by decide, by decide⟩, ?_⟩
        refine comp_map (isP := isInt) (f := eqInt 0) (fun z hz2 Q q => ?_) _ _ rfl (by decide) ?_
        · cases z with
          | int a => exact eqK_of rfl rfl rfl q
          | _ => cases hz2
        refine eqK_of rfl rfl rfl ⟨_, rfl, if_f (by kernel_rfl) ?_⟩
        refine atK_at rfl ⟨_, _, _, rfl, rfl, ?_⟩
        refine atK_at rfl ?_
        refine eqK_of rfl rfl rfl ⟨_, rfl, if_f (by kernel_rfl) ?_⟩
        exact ih2 _ (nxt _ _)
      · refine atK_at rfl ⟨_, _, _, rfl, rfl, ?_⟩
        refine ⟨22, rfl, ⟨by decide, by decide⟩, ?_⟩
        refine comp_map (isP := isInt) (f := eqInt 1) (fun z hz2 Q q => ?_) _ _ rfl (by decide) ?_
        · cases z with
          | int a => exact eqK_of rfl rfl rfl q
          | _ => cases hz2
        refine eqK_of rfl rfl rfl ⟨_, rfl, if_f (by kernel_rfl) ?_⟩
        refine atK_at rfl ⟨_, _, _, rfl, rfl, ?_⟩
        refine atK_at rfl ?_
        refine eqK_of rfl rfl rfl ⟨_, rfl, if_f (by kernel_rfl) ?_⟩
        exact ih2 _ (nxt _ _)
      · refine atK_at rfl ⟨_, _, _, rfl, rfl, ?_⟩
        refine ⟨22, rfl, ⟨by decide, by decide⟩, ?_⟩
        refine comp_map (isP := isInt) (f := eqInt 2) (fun z hz2 Q q => ?_) _ _ rfl (by decide) ?_
        · cases z with
          | int a => exact eqK_of rfl rfl rfl q
          | _ => cases hz2
        refine eqK_of rfl rfl rfl ⟨_, rfl, if_f (by kernel_rfl) ?_⟩
        refine atK_at rfl ⟨_, _, _, rfl, rfl, ?_⟩
        refine atK_at rfl ?_
        refine eqK_of rfl rfl rfl ⟨_, rfl, if_f (by kernel_rfl) ?_⟩
        exact ih2 _ (nxt _ _)
      · refine atK_at rfl ⟨_, _, _, rfl, rfl, ?_⟩
        refine ⟨22, rfl, ⟨by decide, by decide⟩, ?_⟩
        refine comp_map (isP := isInt) (f := eqInt 3) (fun z hz2 Q q => ?_) _ _ rfl (by decide) ?_
        · cases z with
          | int a => exact eqK_of rfl rfl rfl q
          | _ => cases hz2
        refine eqK_of rfl rfl rfl ⟨_, rfl, if_f (by kernel_rfl) ?_⟩
        refine atK_at rfl ⟨_, _, _, rfl, rfl, ?_⟩
        refine atK_at rfl ?_
        refine eqK_of rfl rfl rfl ⟨_, rfl, if_f (by kernel_rfl) ?_⟩
        exact ih2 _ (nxt _ _)
      · refine atK_at rfl ⟨_, _, _, rfl, rfl, ?_⟩
        refine ⟨22, rfl, ⟨by decide, by decide⟩, ?_⟩
        refine comp_map (isP := isInt) (f := eqInt 4) (fun z hz2 Q q => ?_) _ _ rfl (by decide) ?_
        · cases z with
          | int a => exact eqK_of rfl rfl rfl q
          | _ => cases hz2
        refine eqK_of rfl rfl rfl ⟨_, rfl, if_f (by kernel_rfl) ?_⟩
        refine atK_at rfl ⟨_, _, _, rfl, rfl, ?_⟩
        refine atK_at rfl ?_
        refine eqK_of rfl rfl rfl ⟨_, rfl, if_f (by kernel_rfl) ?_⟩
        exact ih2 _ (nxt _ _)
      · refine atK_at rfl ⟨_, _, _, rfl, rfl, ?_⟩
        refine ⟨22, rfl, ⟨by decide, by decide⟩, ?_⟩
        refine comp_map (isP := isInt) (f := eqInt 5) (fun z hz2 Q q => ?_) _ _ rfl (by decide) ?_
        · cases z with
          | int a => exact eqK_of rfl rfl rfl q
          | _ => cases hz2
        refine eqK_of rfl rfl rfl ⟨_, rfl, if_f (by kernel_rfl) ?_⟩
        refine atK_at rfl ⟨_, _, _, rfl, rfl, ?_⟩
        refine atK_at rfl ?_
        refine eqK_of rfl rfl rfl ⟨_, rfl, if_f (by kernel_rfl) ?_⟩
        exact ih2 _ (nxt _ _)
      · refine atK_at rfl ⟨_, _, _, rfl, rfl, ?_⟩
        refine ⟨22, rfl, ⟨by decide, by decide⟩, ?_⟩
        refine comp_map (isP := isInt) (f := eqInt 6) (fun z hz2 Q q => ?_) _ _ rfl (by decide) ?_
        · cases z with
          | int a => exact eqK_of rfl rfl rfl q
          | _ => cases hz2
        refine eqK_of rfl rfl rfl ⟨_, rfl, if_f (by kernel_rfl) ?_⟩
        refine atK_at rfl ⟨_, _, _, rfl, rfl, ?_⟩
        refine atK_at rfl ?_
        refine eqK_of rfl rfl rfl ⟨_, rfl, if_f (by kernel_rfl) ?_⟩
        exact ih2 _ (nxt _ _)
      · refine atK_at rfl ⟨_, _, _, rfl, rfl, ?_⟩
        refine ⟨22, rfl, ⟨by decide, by decide⟩, ?_⟩
        refine comp_map (isP := isInt) (f := eqInt 7) (fun z hz2 Q q => ?_) _ _ rfl (by decide) ?_
        · cases z with
          | int a => exact eqK_of rfl rfl rfl q
          | _ => cases hz2
        refine eqK_of rfl rfl rfl ⟨_, rfl, if_f (by kernel_rfl) ?_⟩
        refine atK_at rfl ⟨_, _, _, rfl, rfl, ?_⟩
        refine atK_at rfl ?_
        refine eqK_of rfl rfl rfl ⟨_, rfl, if_f (by kernel_rfl) ?_⟩
        exact ih2 _ (nxt _ _)
      · refine atK_at rfl ⟨_, _, _, rfl, rfl, ?_⟩
        refine ⟨22, rfl, ⟨by decide, by decide⟩, ?_⟩
        refine comp_map (isP := isInt) (f := eqInt 8) (fun z hz2 Q q => ?_) _ _ rfl (by decide) ?_
        · cases z with
          | int a => exact eqK_of rfl rfl rfl q
          | _ => cases hz2
        refine eqK_of rfl rfl rfl ⟨_, rfl, if_f (by kernel_rfl) ?_⟩
        refine atK_at rfl ⟨_, _, _, rfl, rfl, ?_⟩
        refine atK_at rfl ?_
        refine eqK_of rfl rfl rfl ⟨_, rfl, if_f (by kernel_rfl) ?_⟩
        exact ih2 _ (nxt _ _)
      · refine atK_at rfl ⟨_, _, _, rfl, rfl, ?_⟩
        refine ⟨22, rfl, ⟨by decide, by decide⟩, ?_⟩
        refine comp_map (isP := isInt) (f := eqInt 9) (fun z hz2 Q q => ?_) _ _ rfl (by decide) ?_
        · cases z with
          | int a => exact eqK_of rfl rfl rfl q
          | _ => cases hz2
        refine eqK_of rfl rfl rfl ⟨_, rfl, if_f (by kernel_rfl) ?_⟩
        refine atK_at rfl ⟨_, _, _, rfl, rfl, ?_⟩
        refine atK_at rfl ?_
        refine eqK_of rfl rfl rfl ⟨_, rfl, if_f (by kernel_rfl) ?_⟩
        exact ih2 _ (nxt _ _)
      · refine atK_at rfl ⟨_, _, _, rfl, rfl, ?_⟩
        refine ⟨22, rfl, ⟨by decide, by decide⟩, ?_⟩
        refine comp_map (isP := isInt) (f := eqInt 10) (fun z hz2 Q q => ?_) _ _ rfl (by decide) ?_
        · cases z with
          | int a => exact eqK_of rfl rfl rfl q
          | _ => cases hz2
        refine eqK_of rfl rfl rfl ⟨_, rfl, if_f (by kernel_rfl) ?_⟩
        refine atK_at rfl ⟨_, _, _, rfl, rfl, ?_⟩
        refine atK_at rfl ?_
        refine eqK_of rfl rfl rfl ⟨_, rfl, if_f (by kernel_rfl) ?_⟩
        exact ih2 _ (nxt _ _)
      · refine atK_at rfl ⟨_, _, _, rfl, rfl, ?_⟩
        refine ⟨22, rfl, ⟨by decide, by decide⟩, ?_⟩
        refine comp_map (isP := isInt) (f := eqInt 11) (fun z hz2 Q q => ?_) _ _ rfl (by decide) ?_
        · cases z with
          | int a => exact eqK_of rfl rfl rfl q
          | _ => cases hz2
        refine eqK_of rfl rfl rfl ⟨_, rfl, if_f (by kernel_rfl) ?_⟩
        refine atK_at rfl ⟨_, _, _, rfl, rfl, ?_⟩
        refine atK_at rfl ?_
        refine eqK_of rfl rfl rfl ⟨_, rfl, if_f (by kernel_rfl) ?_⟩
        exact ih2 _ (nxt _ _)
      · refine atK_at rfl ⟨_, _, _, rfl, rfl, ?_⟩
        refine ⟨22, rfl, ⟨by decide, by decide⟩, ?_⟩
        refine comp_map (isP := isInt) (f := eqInt 12) (fun z hz2 Q q => ?_) _ _ rfl (by decide) ?_
        · cases z with
          | int a => exact eqK_of rfl rfl rfl q
          | _ => cases hz2
        refine eqK_of rfl rfl rfl ⟨_, rfl, if_f (by kernel_rfl) ?_⟩
        refine atK_at rfl ⟨_, _, _, rfl, rfl, ?_⟩
        refine atK_at rfl ?_
        refine eqK_of rfl rfl rfl ⟨_, rfl, if_f (by kernel_rfl) ?_⟩
        exact ih2 _ (nxt _ _)
      · refine atK_at rfl ⟨_, _, _, rfl, rfl, ?_⟩
        refine ⟨22, rfl, ⟨by decide, by decide⟩, ?_⟩
        refine comp_map (isP := isInt) (f := eqInt 13) (fun z hz2 Q q => ?_) _ _ rfl (by decide) ?_
        · cases z with
          | int a => exact eqK_of rfl rfl rfl q
          | _ => cases hz2
        refine eqK_of rfl rfl rfl ⟨_, rfl, if_f (by kernel_rfl) ?_⟩
        refine atK_at rfl ⟨_, _, _, rfl, rfl, ?_⟩
        refine atK_at rfl ?_
        refine eqK_of rfl rfl rfl ⟨_, rfl, if_f (by kernel_rfl) ?_⟩
        exact ih2 _ (nxt _ _)
      · refine atK_at rfl ⟨_, _, _, rfl, rfl, ?_⟩
        refine ⟨22, rfl, ⟨by decide, by decide⟩, ?_⟩
        refine comp_map (isP := isInt) (f := eqInt 14) (fun z hz2 Q q => ?_) _ _ rfl (by decide) ?_
        · cases z with
          | int a => exact eqK_of rfl rfl rfl q
          | _ => cases hz2
        refine eqK_of rfl rfl rfl ⟨_, rfl, if_f (by kernel_rfl) ?_⟩
        refine atK_at rfl ⟨_, _, _, rfl, rfl, ?_⟩
        refine atK_at rfl ?_
        refine eqK_of rfl rfl rfl ⟨_, rfl, if_f (by kernel_rfl) ?_⟩
        exact ih2 _ (nxt _ _)
      · refine atK_at rfl ⟨_, _, _, rfl, rfl, ?_⟩
        refine ⟨22, rfl, ⟨by decide, by decide⟩, ?_⟩
        refine comp_map (isP := isInt) (f := eqInt 15) (fun z hz2 Q q => ?_) _ _ rfl (by decide) ?_
        · cases z with
          | int a => exact eqK_of rfl rfl rfl q
          | _ => cases hz2
        refine eqK_of rfl rfl rfl ⟨_, rfl, if_f (by kernel_rfl) ?_⟩
        refine atK_at rfl ⟨_, _, _, rfl, rfl, ?_⟩
        refine atK_at rfl ?_
        refine eqK_of rfl rfl rfl ⟨_, rfl, if_f (by kernel_rfl) ?_⟩
        exact ih2 _ (nxt _ _)
      · refine atK_at rfl ⟨_, _, _, rfl, rfl, ?_⟩
        refine ⟨22, rfl, ⟨by decide, by decide⟩, ?_⟩
        refine comp_map (isP := isInt) (f := eqInt 16) (fun z hz2 Q q => ?_) _ _ rfl (by decide) ?_
        · cases z with
          | int a => exact eqK_of rfl rfl rfl q
          | _ => cases hz2
        refine eqK_of rfl rfl rfl ⟨_, rfl, if_f (by kernel_rfl) ?_⟩
        refine atK_at rfl ⟨_, _, _, rfl, rfl, ?_⟩
        refine atK_at rfl ?_
        refine eqK_of rfl rfl rfl ⟨_, rfl, if_f (by kernel_rfl) ?_⟩
        exact ih2 _ (nxt _ _)
      · refine atK_at rfl ⟨_, _, _, rfl, rfl, ?_⟩
        refine ⟨22, rfl, ⟨by decide, by decide⟩, ?_⟩
        refine comp_map (isP := isInt) (f := eqInt 17) (fun z hz2 Q q => ?_) _ _ rfl (by decide) ?_
        · cases z with
          | int a => exact eqK_of rfl rfl rfl q
          | _ => cases hz2
        refine eqK_of rfl rfl rfl ⟨_, rfl, if_f (by kernel_rfl) ?_⟩
        refine atK_at rfl ⟨_, _, _, rfl, rfl, ?_⟩
        refine atK_at rfl ?_
        refine eqK_of rfl rfl rfl ⟨_, rfl, if_f (by kernel_rfl) ?_⟩
        exact ih2 _ (nxt _ _)
      · refine atK_at rfl ⟨_, _, _, rfl, rfl, ?_⟩
        refine ⟨22, rfl, ⟨by decide, by decide⟩, ?_⟩
        refine comp_map (isP := isInt) (f := eqInt 18) (fun z hz2 Q q => ?_) _ _ rfl (by decide) ?_
        · cases z with
          | int a => exact eqK_of rfl rfl rfl q
          | _ => cases hz2
        refine eqK_of rfl rfl rfl ⟨_, rfl, if_f (by kernel_rfl) ?_⟩
        refine atK_at rfl ⟨_, _, _, rfl, rfl, ?_⟩
        refine atK_at rfl ?_
        refine eqK_of rfl rfl rfl ⟨_, rfl, if_f (by kernel_rfl) ?_⟩
        exact ih2 _ (nxt _ _)
      · refine atK_at rfl ⟨_, _, _, rfl, rfl, ?_⟩
        refine ⟨22, rfl, ⟨by decide, by decide⟩, ?_⟩
        refine comp_map (isP := isInt) (f := eqInt 19) (fun z hz2 Q q => ?_) _ _ rfl (by decide) ?_
        · cases z with
          | int a => exact eqK_of rfl rfl rfl q
          | _ => cases hz2
        refine eqK_of rfl rfl rfl ⟨_, rfl, if_f (by kernel_rfl) ?_⟩
        refine atK_at rfl ⟨_, _, _, rfl, rfl, ?_⟩
        refine atK_at rfl ?_
        refine eqK_of rfl rfl rfl ⟨_, rfl, if_f (by kernel_rfl) ?_⟩
        exact ih2 _ (nxt _ _)
      · refine atK_at rfl ⟨_, _, _, rfl, rfl, ?_⟩
        refine ⟨22, rfl, ⟨by decide, by decide⟩, ?_⟩
        refine comp_map (isP := isInt) (f := eqInt 20) (fun z hz2 Q q => ?_) _ _ rfl (by decide) ?_
        · cases z with
          | int a => exact eqK_of rfl rfl rfl q
          | _ => cases hz2
        refine eqK_of rfl rfl rfl ⟨_, rfl, if_f (by kernel_rfl) ?_⟩
        refine atK_at rfl ⟨_, _, _, rfl, rfl, ?_⟩
        refine atK_at rfl ?_
        refine eqK_of rfl rfl rfl ⟨_, rfl, if_f (by kernel_rfl) ?_⟩
        exact ih2 _ (nxt _ _)
      · refine atK_at rfl ⟨_, _, _, rfl, rfl, ?_⟩
        refine ⟨22, rfl, ⟨by decide, by decide⟩, ?_⟩
        refine comp_map (isP := isInt) (f := eqInt 21) (fun z hz2 Q q => ?_) _ _ rfl (by decide) ?_
        · cases z with
          | int a => exact eqK_of rfl rfl rfl q
          | _ => cases hz2
        refine eqK_of rfl rfl rfl ⟨_, rfl, if_f (by kernel_rfl) ?_⟩
        refine atK_at rfl ⟨_, _, _, rfl, rfl, ?_⟩
        refine atK_at rfl ?_
        refine eqK_of rfl rfl rfl ⟨_, rfl, if_f (by kernel_rfl) ?_⟩
        exact ih2 _ (nxt _ _)
    rintro ρ ⟨i, a4, a9, _, _, rfl⟩
    obtain ⟨e1, r1, s1⟩ := showB_ok (List.all_eq_true.mp show1 one h1)
    obtain ⟨e2, r2, s2⟩ := showB_ok (List.all_eq_true.mp show2 two h2)
    refine ⟨one, two, .inl rfl, ?_⟩
    refine ⟨one, two, .inr rfl, ?_⟩
    refine ⟨rfl, ?_⟩
    refine ⟨rfl, fRepr_of r1 s1 ?_⟩
    refine ⟨rfl, ?_⟩
    refine ⟨rfl, ?_⟩
    refine ⟨rfl, ?_⟩
    refine ⟨rfl, ?_⟩
    refine ⟨rfl, fRepr_of r1 s1 ?_⟩
    refine ⟨_, rfl, if_self ?_⟩
    refine atK_at rfl ⟨rfl, ?_⟩
    refine atK_at rfl ⟨rfl, ?_⟩
    refine ⟨rfl, ?_⟩
    refine ⟨rfl, fRepr_of r2 s2 ?_⟩
    refine ⟨rfl, ?_⟩
    refine ⟨rfl, fRepr_of r2 s2 ?_⟩
    refine ⟨_, rfl, if_self ?_⟩
    exact ih _ ⟨_, _, _, _, _, _, _, n2, rfl, by omega⟩
end
end Lw

set_option maxHeartbeats 1000000
/-! Ex5: what a head tells of own exception classes. -/
namespace L2
open PySem PySem.Spec PyProof.Rows PySem.ExZ
/-- one own exception class: its name, its built-in base, its fields, its __init__ -/
structure ExD where
  c : Str
  iB : String
  initId : String
  newId : String
  bmI : List Value
  fs : List Str
  qual : Str
  st : Stmt
abbrev FnC : Type := Option (Str × Str × Arguments × FuncBody × Scope × Addr × List Str × Addr × Value)
def fnC (K : PySem.W.Frag) (C : Addr) : FnC := match K.lookup (He.ma K C "__init__") with
  | some ⟨_, _, .func fd, _⟩ => some (fd.name, fd.qualname, fd.params, fd.body, fd.scope, fd.globals, fd.closure.map (·.1), fd.builtins, fd.defaults)
  | _ => none
def ExD.val (d : ExD) : FnC := some ("__init__", d.qual, defArgs d.st, .stmts (defBody d.st), defScope d.st, mainGlobals, ["__class__"], builtinsNs, .none)
def cellB (K : PySem.W.Frag) (C : Addr) : List (Str × Addr) → Bool
  | [(_, cc)] => (match K.lookup cc with
    | some ⟨_, _, .cell (some (.ref D)), _⟩ => decide (D = C)
    | _ => false)
  | _ => false
def fileB (P : Program) (K : PySem.W.Frag) (cd : Value) : Bool := match cd with
  | .ref cda => (match K.lookup cda with
    | some ⟨_, _, .fields vs, _⟩ => (match (vs[2]? : Option Value) with
      | some (Value.str file _) => (P.main.file : Str) == file
      | _ => false)
    | _ => false)
  | _ => false
def ExD.fnB (P : Program) (K : PySem.W.Frag) (d : ExD) : Bool := match K.lookup (He.ma K (He.ga K d.c) "__init__") with
  | some ⟨_, _, .func fd, _⟩ => cellB K (He.ga K d.c) fd.closure && (fileB P K fd.code && PySem.W.codeIn K fd.code d.qual)
  | _ => false
def ExD.clB (K : PySem.W.Frag) (d : ExD) : List Bool :=
  let C := He.ga K d.c
  [PySem.W.excInitIn K C d.bmI d.newId, PySem.W.excOver K C d.bmI, PySem.W.hasDictIn K C, He.eqO (PySem.W.findIn K (.ref C) "__setattr__") (some (some (.builtin "object.__setattr__"))),
   He.eqO (PySem.W.findIn K (.ref C) "__getattribute__") (some (some (.builtin "BaseException.__getattribute__"))), He.eqO (PySem.W.findIn K (.ref C) "__getattr__") (some none),
   d.fs.all fun p => He.eqO (PySem.W.findIn K (.ref C) p) (some none), He.eqO (PySem.W.findIn K (.ref C) "__init__") (some (some (.ref (He.ma K C "__init__")))), PySem.W.isFn K (.ref (He.ma K C "__init__")),
   He.eqO (PySem.W.ks_superIn K C C "__init__") (some (some (.builtin d.initId))), decide (PySem.W.subIn K (.ref C) (.type d.iB) = some true), decide (PySem.W.mroIn K C (.ref C) = some true), He.eqO (PySem.W.nsIn K cStatics "thirdparty.any") (some none),
   PySem.W.keepIn K (.ref C), decide (PySem.W.subIn K (.ref C) (.type "BaseException") = some true), decide (PySem.W.typeIn K (.ref C) = some (.type "type"))]
def ExD.ok (P : Program) (K : PySem.W.Frag) (d : ExD) : Bool := d.fnB P K && (d.clB K).all id
theorem ExD.txt {P : Program} {K : PySem.W.Frag} {d : ExD} (B : BaseF d.iB d.initId d.newId d.bmI) (ht : (P.main.scope.names.lookup ("super" : Str)).isSome = false) (e : fnC K (He.ga K d.c) = d.val) (h : d.ok P K = true) :
    ∃ (cda cc : Addr) (oc : Value) (od : Option Addr) (osl : Array (Option Value)) (kV doc pm ct : Value) (an : Option Addr), XcTxt P K (He.ga K d.c) (He.ma K (He.ga K d.c) "__init__") cda cc d.iB d.initId d.newId d.bmI d.fs ∧
      K.lookup (He.ma K (He.ga K d.c) "__init__") = some ⟨oc, od, .func (PySem.W.ksFn "__init__" d.qual (defArgs d.st) (defBody d.st) (defScope d.st) .none kV doc pm an (.ref cda) ct cc), osl⟩ ∧ PySem.W.codeIn K (.ref cda) d.qual = true := by
  obtain ⟨h1, h2⟩ := Bool.and_eq_true_iff.mp h
  have ha : ∀ b ∈ d.clB K, b = true := fun b hb => List.all_eq_true.mp h2 b hb
  unfold ExD.fnB at h1
  unfold fnC at e
  cases q : K.lookup (He.ma K (He.ga K d.c) "__init__") with
  | none => rw [q] at h1; cases h1
  | some o =>
    obtain ⟨oc, od, dt, osl⟩ := o
    rw [q] at h1 e
    cases dt with
    | func fd =>
      obtain ⟨m1, m2, m3, m4, m5, m6, n7, m8, n9, n10, n11, n12, n13, n14, m15⟩ := fd
      have e2 : (some (m1, m2, m3, m4, m5, m6, n7.map (·.1), m15, m8) : FnC) = some (("__init__" : Str), d.qual, defArgs d.st, FuncBody.stmts (defBody d.st), defScope d.st, mainGlobals, (["__class__"] : List Str), builtinsNs, Value.none) := e
      simp only [Prod.mk.injEq, Option.some.injEq] at e2
      obtain ⟨g1, g2, g3, g4, g5, g6, g7, g8, g9⟩ := e2
      subst g1 g2 g3 g4 g5 g6 g8 g9
      have k0 : (cellB K (He.ga K d.c) n7 && (fileB P K n13 && PySem.W.codeIn K n13 d.qual)) = true := h1
      obtain ⟨k1, k2⟩ := Bool.and_eq_true_iff.mp k0
      obtain ⟨k3, k4⟩ := Bool.and_eq_true_iff.mp k2
      -- the cell
      match n7, g7, k1 with
      | [(x, cc)], g7, k1 =>
        have ex : x = ("__class__" : Str) := by
          have g7 : [x] = (["__class__"] : List Str) := g7
          exact List.head_eq_of_cons_eq g7
        subst ex
        have k1 : (match K.lookup cc with
          | some ⟨_, _, .cell (some (.ref D)), _⟩ => decide (D = He.ga K d.c)
          | _ => false) = true := k1
        have kc : ∃ cl cld csl, K.lookup cc = some ⟨cl, cld, .cell (some (.ref (He.ga K d.c))), csl⟩ := by
          split at k1
          · rename_i z
            have z2 := of_decide_eq_true k1
            subst z2
            exact ⟨_, _, _, z⟩
          · cases k1
        have kf : ∃ cda, n13 = .ref cda ∧ ∃ ccl cdd ccs vs file tf, K.lookup cda = some ⟨ccl, cdd, .fields vs, ccs⟩ ∧ vs[2]? = some (.str file tf) ∧ ((P.main.file : Str) == file) = true := by
          unfold fileB at k3
          split at k3
          · split at k3
            · split at k3
              · exact ⟨_, rfl, _, _, _, _, _, _, ‹_›, ‹_›, k3⟩
              · cases k3
            · cases k3
          · cases k3
        obtain ⟨cda, rfl, kf⟩ := kf
        refine ⟨cda, cc, oc, od, osl, n9, n10, n11, n14, n12, ?_, rfl, k4⟩
        exact ⟨B, ha _ (by simp [ExD.clB]), ha _ (by simp [ExD.clB]), ha _ (by simp [ExD.clB]), He.eqO_ok (ha _ (by simp [ExD.clB])), He.eqO_ok (ha _ (by simp [ExD.clB])), He.eqO_ok (ha _ (by simp [ExD.clB])),
          fun p hp => He.eqO_ok (List.all_eq_true.mp (ha (d.fs.all fun p => He.eqO (PySem.W.findIn K (.ref (He.ga K d.c)) p) (some none)) (by simp [ExD.clB])) p hp), He.eqO_ok (ha _ (by simp [ExD.clB])), ha _ (by simp [ExD.clB]), He.eqO_ok (ha _ (by simp [ExD.clB])),
          of_decide_eq_true (ha _ (by simp [ExD.clB])), of_decide_eq_true (ha _ (by simp [ExD.clB])), He.eqO_ok (ha _ (by simp [ExD.clB])), ha _ (by simp [ExD.clB]), of_decide_eq_true (ha _ (by simp [ExD.clB])), of_decide_eq_true (ha _ (by simp [ExD.clB])), kf, kc, ht⟩
    | _ => cases h1
theorem two_of {vs : List V} {us : List Value} (h : Vals vs us) (hl : vs.length = 2) : ∃ v u v' u', vs = [v, u] ∧ us = [v', u'] ∧ RelV v v' ∧ RelV u u' := by
  cases h with
  | nil => cases hl
  | cons r1 r2 =>
    cases r2 with
    | nil => cases hl
    | cons r2 r3 =>
      cases r3 with
      | nil => exact ⟨_, _, _, _, rfl, rfl, r1, r2⟩
      | cons _ _ => cases hl
theorem relO_1 {p : Str} {v : V} {u : Value} (r : RelV v u) (f : Str) : RelO ((List.zip [p] [v]).lookup f) (if f = p then some u else none) := relO_put (fs := []) (mA := fun _ => none) r (fun _ => True.intro) f
section
variable {P : Program} {w : World} {K : PySem.W.Frag} {mg : Str → Option Value} {base : Heap} {d : ExD}
/-- a class of one field -/
theorem ExD.mk1 {p : Str} {p1 p2 q1 q2 q3 q4 q5 q6 q7 q8 q9 q10 : Pos} (B : BaseF d.iB d.initId d.newId d.bmI) (hf : d.fs = [p]) (ea : defArgs d.st = iA1 p p1 p2) (eb : defBody d.st = iB1 p q1 q2 q3 q4 q5 q6 q7 q8 q9 q10)
    (hE : ∀ (L fI cda cc : Addr), HEv q1 q2 q3 q5 [.Name p q4] (PySem.W.ksEnv d.qual (defScope d.st) L fI (.ref cda) cc)) (S : IScp (defScope d.st) [p]) (hps : p ≠ "self") (hpd : (p == ("__debug__" : Str)) = false)
    (bP : ∀ (kV doc pm ct : Value) (an : Option Addr) (cdv : Value) (cc x : Addr) (v : Value), bindArgs (PySem.W.ksFn "__init__" d.qual (defArgs d.st) (defBody d.st) (defScope d.st) .none kV doc pm an cdv ct cc) ⟨[.ref x, v], []⟩ = pure [(("self" : Str), .ref x), (p, v)])
    (bK : ∀ (kV doc pm ct : Value) (an : Option Addr) (cdv : Value) (cc x : Addr) (v : Value), bindArgs (PySem.W.ksFn "__init__" d.qual (defArgs d.st) (defBody d.st) (defScope d.st) .none kV doc pm an cdv ct cc) ⟨[.ref x], [(p, v)]⟩ = pure [(("self" : Str), .ref x), (p, v)])
    (ht : (P.main.scope.names.lookup ("super" : Str)).isSome = false) (e : fnC K (He.ga K d.c) = d.val) (h : d.ok P K = true) (hsup : mg "super" = none) : MkX P w K mg base (He.ga K d.c) false [p] ∧ MkX P w K mg base (He.ga K d.c) true [p] := by
  obtain ⟨cda, cc, oc, od, osl, kV, doc, pm, ct, an, T, lk, hcd⟩ := d.txt B ht e h
  rw [hf] at T
  have key : ∀ (kw : Bool) (Md : Mod K mg base) (A : Around) (s : Shared) (R : Result → Shared → Prop) (us : List Value) (vs : List V), (∀ b o, base.get? b = some o → s.heap.get? b = some o) → A.depth + 1 < recursionLimit → Vals vs us → vs.length = 1 →
      (∀ h' tk e' d' mA, Made s.heap h' e' (He.ga K d.c) d' mA → (∀ f, RelO (([p].zip vs).lookup f) (mA f)) → R (.ok (.ret (.ref e'))) { s with heap := h', toks := tk }) →
      codeAny (model P w) A (.call (.ref (He.ga K d.c)) (bif kw then ⟨[], [p].zip us⟩ else ⟨us, []⟩)) R s := fun kw Md A s R us vs hk hr rv hl hq => by
    cases rv with
    | nil => cases hl
    | @cons v u vs us r1 r2 =>
      cases r2 with
      | cons _ _ => cases hl
      | nil =>
        have X : K.In s.heap := Md.kin.keeps hk
        rw [ea, eb] at lk
        have ini : ∀ (args : Args) (x t0 : Addr) (A' : Around) (s' : Shared) (R' : Result → Shared → Prop), BindsTo s' (PySem.W.ksFn "__init__" d.qual (defArgs d.st) (defBody d.st) (defScope d.st) .none kV doc pm an (.ref cda) ct cc) args [("self", .ref x), (p, u)] →
            (∀ b o, s.heap.get? b = some o → s'.heap.get? b = some o) → s'.heap.get? x = some (PySem.HandSPX.excO (He.ga K d.c) t0) → K.lookup x = none → A'.depth < recursionLimit →
            (∀ h' tk dx t1, InitEnd s'.heap h' x (He.ga K d.c) dx t1 (fun y => if y = p then some u else none) → R' (.ok (.ret .none)) { s' with heap := h', toks := tk }) → codeAny (model P w) A' (.call (.ref (He.ma K (He.ga K d.c) "__init__")) args) R' s' := fun args x t0 A' s' R' hb k hx hn hr' hq' => by
          rw [ea, eb] at hb
          exact init1 T Md hsup (fun b o z => k b o (hk b o z)) lk hcd (fun L => hE L _ _ _) S hps hpd hb hx hn hr' hq'
        have fin : ∀ h' tk e' d', Made s.heap h' e' (He.ga K d.c) d' (fun y => if y = p then some u else none) → R (.ok (.ret (.ref e'))) { s with heap := h', toks := tk } := fun h' tk e' d' M => hq h' tk e' d' _ M fun f => relO_1 r1 f
        cases kw with
        | false => exact made T X hr (by show 1 ≤ sizeLine; rw [sizeLine_eq]; decide) (fun x t0 A' s' R' k hx hn hr' hq' => ini _ x t0 A' s' R' (.of_eq (bP _ _ _ _ _ _ _ _ _)) k hx hn hr' hq') fin
        | true => exact made (us := []) (kw := [(p, u)]) T X hr (Nat.zero_le _) (fun x t0 A' s' R' k hx hn hr' hq' => ini _ x t0 A' s' R' (.of_eq (bK _ _ _ _ _ _ _ _ _)) k hx hn hr' hq') fin
  exact ⟨⟨key false, T.kC⟩, ⟨key true, T.kC⟩⟩
/-- a class of two; by names the other way round -/
theorem ExD.mk2 {p r : Str} {p1 p2 p3 q1 q2 q3 q4 q5 q6 q7 q8 q9 q10 q11 q12 q13 q14 q15 : Pos} (B : BaseF d.iB d.initId d.newId d.bmI) (hf : d.fs = [p, r]) (ea : defArgs d.st = iA2 p r p1 p2 p3) (eb : defBody d.st = iB2 p r q1 q2 q3 q4 q5 q6 q7 q8 q9 q10 q11 q12 q13 q14 q15)
    (hE : ∀ (L fI cda cc : Addr), HEv q1 q2 q3 q6 [.Name p q4, .Name r q5] (PySem.W.ksEnv d.qual (defScope d.st) L fI (.ref cda) cc)) (S : IScp (defScope d.st) [p, r]) (hps : p ≠ "self") (hrs : r ≠ "self") (hpr : p ≠ r) (hpd : (p == ("__debug__" : Str)) = false) (hrd : (r == ("__debug__" : Str)) = false)
    (bP : ∀ (kV doc pm ct : Value) (an : Option Addr) (cdv : Value) (cc x : Addr) (v u : Value), bindArgs (PySem.W.ksFn "__init__" d.qual (defArgs d.st) (defBody d.st) (defScope d.st) .none kV doc pm an cdv ct cc) ⟨[.ref x, v, u], []⟩ = pure [(("self" : Str), .ref x), (p, v), (r, u)])
    (bK : ∀ (kV doc pm ct : Value) (an : Option Addr) (cdv : Value) (cc x : Addr) (v u : Value), bindArgs (PySem.W.ksFn "__init__" d.qual (defArgs d.st) (defBody d.st) (defScope d.st) .none kV doc pm an cdv ct cc) ⟨[.ref x], [(r, u), (p, v)]⟩ = pure [(("self" : Str), .ref x), (p, v), (r, u)])
    (ht : (P.main.scope.names.lookup ("super" : Str)).isSome = false) (e : fnC K (He.ga K d.c) = d.val) (h : d.ok P K = true) (hsup : mg "super" = none) : MkX P w K mg base (He.ga K d.c) false [p, r] ∧ MkX P w K mg base (He.ga K d.c) true [r, p] := by
  obtain ⟨cda, cc, oc, od, osl, kV, doc, pm, ct, an, T, lk, hcd⟩ := d.txt B ht e h
  rw [hf] at T
  rw [ea, eb] at lk
  have ini : ∀ (Md : Mod K mg base) (s : Shared) (hk : ∀ b o, base.get? b = some o → s.heap.get? b = some o) (v u : Value) (args : Args) (x t0 : Addr) (A' : Around) (s' : Shared) (R' : Result → Shared → Prop), BindsTo s' (PySem.W.ksFn "__init__" d.qual (defArgs d.st) (defBody d.st) (defScope d.st) .none kV doc pm an (.ref cda) ct cc) args [("self", .ref x), (p, v), (r, u)] →
      (∀ b o, s.heap.get? b = some o → s'.heap.get? b = some o) → s'.heap.get? x = some (PySem.HandSPX.excO (He.ga K d.c) t0) → K.lookup x = none → A'.depth < recursionLimit →
      (∀ h' tk dx t1, InitEnd s'.heap h' x (He.ga K d.c) dx t1 (fun y => if y = r then some u else if y = p then some v else none) → R' (.ok (.ret .none)) { s' with heap := h', toks := tk }) → codeAny (model P w) A' (.call (.ref (He.ma K (He.ga K d.c) "__init__")) args) R' s'   := fun Md s hk v u args x t0 A' s' R' hb k hx hn hr' hq' => by
    rw [ea, eb] at hb
    exact init2 T Md hsup (fun b o z => k b o (hk b o z)) lk hcd (fun L => hE L _ _ _) S hps hrs hpr hpd hrd hb hx hn hr' hq'
  have r0 : ∀ {v u : V} {v' u' : Value}, RelV v v' → RelV u u' → ∀ f, RelO ([(p, v), (r, u)].lookup f) (if f = r then some u' else if f = p then some v' else none) := fun {v u v' u'} rv ru f => by
    rw [lookup_put, lookup_put]
    by_cases h1 : f = p
    · have h2 : f ≠ r := fun z => hpr (h1.symm.trans z)
      rw [if_pos h1, if_neg h2, if_pos h1]
      exact rv
    · rw [if_neg h1]
      by_cases h2 : f = r
      · rw [if_pos h2, if_pos h2]
        exact ru
      · rw [if_neg h2, if_neg h2, if_neg h1]
        exact True.intro
  have r1 : ∀ {v u : V} {v' u' : Value}, RelV v v' → RelV u u' → ∀ f, RelO ([(r, u), (p, v)].lookup f) (if f = r then some u' else if f = p then some v' else none) := fun {v u v' u'} rv ru f => relO_put (fs := [(p, v)]) (mA := fun f => if f = p then some v' else none) ru (fun g => relO_put (fs := []) (mA := fun _ => none) rv (fun _ => True.intro) g) f
  refine ⟨⟨fun Md A s R us vs hk hr rv hl hq => ?_, T.kC⟩, ⟨fun Md A s R us vs hk hr rv hl hq => ?_, T.kC⟩⟩
  · obtain ⟨v, u, v', u', rfl, rfl, rv, ru⟩ := two_of rv hl
    exact made T (Md.kin.keeps hk) hr (by show 2 ≤ sizeLine; rw [sizeLine_eq]; decide) (fun x t0 A' s' R' k hx hn hr' hq' => ini Md s hk v' u' _ x t0 A' s' R' (.of_eq (bP _ _ _ _ _ _ _ _ _ _)) k hx hn hr' hq') fun h' tk e' d' M => hq h' tk e' d' _ M (r0 rv ru)
  · obtain ⟨u, v, u', v', rfl, rfl, ru, rv⟩ := two_of rv hl
    exact made (us := []) (kw := [(r, u'), (p, v')]) T (Md.kin.keeps hk) hr (Nat.zero_le _) (fun x t0 A' s' R' k hx hn hr' hq' => ini Md s hk v' u' _ x t0 A' s' R' (.of_eq (bK _ _ _ _ _ _ _ _ _ _)) k hx hn hr' hq') fun h' tk e' d' M => hq h' tk e' d' _ M (r1 rv ru)
end
end L2

set_option maxHeartbeats 0
/-! the head -/
namespace Lw
open PySem PySem.Spec PyProof.Rows L2 Dc
/-! what is looked at behind the top -/
abbrev AlE : Type := He.AlD × (Bool × List FnC)
def asE (g : Addr → Option Obj) (n : Nat) : List Addr := He.asD g n ++ [cStatics, sysModules]
def obsK (P : Program) (fa : List He.Fa) (fn : List He.DefD) (xs : List ExD) (ex : PySem.W.Frag → Bool) (K : PySem.W.Frag) : AlE := (He.obsD fa fn K, ((xs.all fun d => d.ok P K) && ex K, xs.map fun d => fnC K (He.ga K d.c)))
def valK (fn : List He.DefD) (xs : List ExD) : AlE := (He.valD fn, (true, xs.map ExD.val))
def obsE (P : Program) (n : Nat) (fa : List He.Fa) (fn : List He.DefD) (xs : List ExD) (ex : PySem.W.Frag → Bool) (g : Addr → Option Obj) : AlE := obsK P fa fn xs ex (He.frG g (asE g n))
def hookE (P : Program) (n : Nat) (fa : List He.Fa) (fn : List He.DefD) (xs : List ExD) (ex : PySem.W.Frag → Bool) : PySem.W.Hook where
  α := AlE
  obs := fun s => obsE P n fa fn xs ex s.heap.get?
  val := fun _ => valK fn xs
  says := fun _ h => ∃ K : PySem.W.Frag, K.In h ∧ obsK P fa fn xs ex K = valK fn xs
  of := fun _ _ e => ⟨_, He.frG_in, e⟩
  keeps := fun _ _ _ ⟨K, inh, c⟩ k => ⟨K, inh.keeps k, c⟩
/-! the text -/
def x_InvalidKind : ExD := ⟨"InvalidKind", "ValueError", "ValueError.__init__", "ValueError.__new__", [.type "ValueError", .type "Exception", .type "BaseException", .type "object"], ["place"], "InvalidKind.__init__", inClass (top 2) 0⟩
def x_InvalidPart : ExD := ⟨"InvalidPart", "ValueError", "ValueError.__init__", "ValueError.__new__", [.type "ValueError", .type "Exception", .type "BaseException", .type "object"], ["index"], "InvalidPart.__init__", inClass (top 3) 0⟩
def x_NoRealm : ExD := ⟨"NoRealm", "ValueError", "ValueError.__init__", "ValueError.__new__", [.type "ValueError", .type "Exception", .type "BaseException", .type "object"], ["index"], "NoRealm.__init__", inClass (top 4) 0⟩
def x_Taken : ExD := ⟨"Taken", "ValueError", "ValueError.__init__", "ValueError.__new__", [.type "ValueError", .type "Exception", .type "BaseException", .type "object"], ["index"], "Taken.__init__", inClass (top 5) 0⟩
def x_TooDeep : ExD := ⟨"TooDeep", "ValueError", "ValueError.__init__", "ValueError.__new__", [.type "ValueError", .type "Exception", .type "BaseException", .type "object"], ["index"], "TooDeep.__init__", inClass (top 6) 0⟩
def x_Needed : ExD := ⟨"Needed", "ValueError", "ValueError.__init__", "ValueError.__new__", [.type "ValueError", .type "Exception", .type "BaseException", .type "object"], ["name"], "Needed.__init__", inClass (top 7) 0⟩
def x_InvalidTarget : ExD := ⟨"InvalidTarget", "ValueError", "ValueError.__init__", "ValueError.__new__", [.type "ValueError", .type "Exception", .type "BaseException", .type "object"], ["target"], "InvalidTarget.__init__", inClass (top 8) 0⟩
def x_InvalidPort : ExD := ⟨"InvalidPort", "ValueError", "ValueError.__init__", "ValueError.__new__", [.type "ValueError", .type "Exception", .type "BaseException", .type "object"], ["port"], "InvalidPort.__init__", inClass (top 9) 0⟩
def x_InvalidName : ExD := ⟨"InvalidName", "ValueError", "ValueError.__init__", "ValueError.__new__", [.type "ValueError", .type "Exception", .type "BaseException", .type "object"], ["name"], "InvalidName.__init__", inClass (top 10) 0⟩
def x_InvalidTime : ExD := ⟨"InvalidTime", "ValueError", "ValueError.__init__", "ValueError.__new__", [.type "ValueError", .type "Exception", .type "BaseException", .type "object"], ["time"], "InvalidTime.__init__", inClass (top 11) 0⟩
def x_Clash : ExD := ⟨"Clash", "ValueError", "ValueError.__init__", "ValueError.__new__", [.type "ValueError", .type "Exception", .type "BaseException", .type "object"], ["number"], "Clash.__init__", inClass (top 12) 0⟩
def x_InvalidQuestion : ExD := ⟨"InvalidQuestion", "ValueError", "ValueError.__init__", "ValueError.__new__", [.type "ValueError", .type "Exception", .type "BaseException", .type "object"], ["question"], "InvalidQuestion.__init__", inClass (top 13) 0⟩
def x_InvalidEvent : ExD := ⟨"InvalidEvent", "ValueError", "ValueError.__init__", "ValueError.__new__", [.type "ValueError", .type "Exception", .type "BaseException", .type "object"], ["event"], "InvalidEvent.__init__", inClass (top 14) 0⟩
def x_InvalidText : ExD := ⟨"InvalidText", "ValueError", "ValueError.__init__", "ValueError.__new__", [.type "ValueError", .type "Exception", .type "BaseException", .type "object"], ["line", "word"], "InvalidText.__init__", inClass (top 15) 0⟩
def x_UnknownCommand : ExD := ⟨"UnknownCommand", "ValueError", "ValueError.__init__", "ValueError.__new__", [.type "ValueError", .type "Exception", .type "BaseException", .type "object"], ["command"], "UnknownCommand.__init__", inClass (top 16) 0⟩
def x_NoStation : ExD := ⟨"NoStation", "KeyError", "KeyError.__init__", "LookupError.__new__", [.type "KeyError", .type "LookupError", .type "Exception", .type "BaseException", .type "object"], ["name"], "NoStation.__init__", inClass (top 17) 0⟩
def x_NoRound : ExD := ⟨"NoRound", "IndexError", "IndexError.__init__", "IndexError.__new__", [.type "IndexError", .type "LookupError", .type "Exception", .type "BaseException", .type "object"], ["number"], "NoRound.__init__", inClass (top 18) 0⟩
def x_NothingToUndo : ExD := ⟨"NothingToUndo", "LookupError", "LookupError.__init__", "LookupError.__new__", [.type "LookupError", .type "Exception", .type "BaseException", .type "object"], ["count"], "NothingToUndo.__init__", inClass (top 19) 0⟩
def x_NotHeard : ExD := ⟨"NotHeard", "LookupError", "LookupError.__init__", "LookupError.__new__", [.type "LookupError", .type "Exception", .type "BaseException", .type "object"], ["host"], "NotHeard.__init__", inClass (top 20) 0⟩
def x_NotSeen : ExD := ⟨"NotSeen", "LookupError", "LookupError.__init__", "LookupError.__new__", [.type "LookupError", .type "Exception", .type "BaseException", .type "object"], ["name"], "NotSeen.__init__", inClass (top 21) 0⟩
def x_Heard : ExD := ⟨"Heard", "RuntimeError", "RuntimeError.__init__", "RuntimeError.__new__", [.type "RuntimeError", .type "Exception", .type "BaseException", .type "object"], ["number"], "Heard.__init__", inClass (top 22) 0⟩
def x_TooMany : ExD := ⟨"TooMany", "OverflowError", "OverflowError.__init__", "OverflowError.__new__", [.type "OverflowError", .type "ArithmeticError", .type "Exception", .type "BaseException", .type "object"], ["limit"], "TooMany.__init__", inClass (top 23) 0⟩
def xs : List ExD := [x_InvalidKind, x_InvalidPart, x_NoRealm, x_Taken, x_TooDeep, x_Needed, x_InvalidTarget, x_InvalidPort, x_InvalidName, x_InvalidTime, x_Clash, x_InvalidQuestion, x_InvalidEvent, x_InvalidText, x_UnknownCommand, x_NoStation, x_NoRound, x_NothingToUndo, x_NotHeard, x_NotSeen, x_Heard, x_TooMany]
def d__law_pen : He.DefD := ⟨("_law_pen", none), "_law_pen", "_law_pen", defArgs (top 25), defBody (top 25), defScope (top 25), [], []⟩
def d__law_draw : He.DefD := ⟨("_law_draw", none), "_law_draw", "_law_draw", defArgs (top 26), defBody (top 26), defScope (top 26), [], []⟩
def d__law_odd : He.DefD := ⟨("_law_odd", none), "_law_odd", "_law_odd", defArgs (top 27), defBody (top 27), defScope (top 27), [], []⟩
def d__law_made : He.DefD := ⟨("_law_made", none), "_law_made", "_law_made", defArgs (top 28), defBody (top 28), defScope (top 28), [], []⟩
def d__law_named : He.DefD := ⟨("_law_named", none), "_law_named", "_law_named", defArgs (top 29), defBody (top 29), defScope (top 29), [], []⟩
def d__law_fields : He.DefD := ⟨("_law_fields", none), "_law_fields", "_law_fields", defArgs (top 30), defBody (top 30), defScope (top 30), [], []⟩
def d__law_classes : He.DefD := ⟨("_law_classes", none), "_law_classes", "_law_classes", defArgs (top 31), defBody (top 31), defScope (top 31), [], []⟩
def d__law_bases : He.DefD := ⟨("_law_bases", none), "_law_bases", "_law_bases", defArgs (top 32), defBody (top 32), defScope (top 32), [], []⟩
def d_law : He.DefD := ⟨("law", none), "law", "law", defArgs (top 33), defBody (top 33), defScope (top 33), [], []⟩
def fn : List He.DefD := [d__law_pen, d__law_draw, d__law_odd, d__law_made, d__law_named, d__law_fields, d__law_classes, d__law_bases, d_law]
def fa : List He.Fa := [.free "super", .free "len", .free "abs", .free "int", .free "list", .free "range", .free "repr", .free "isinstance", .free "ValueError", .free "KeyError", .free "IndexError", .free "LookupError", .free "RuntimeError", .free "OverflowError", .glo "MeetError", .glo "InvalidKind", .glo "InvalidPart", .glo "NoRealm", .glo "Taken", .glo "TooDeep", .glo "Needed", .glo "InvalidTarget", .glo "InvalidPort", .glo "InvalidName", .glo "InvalidTime", .glo "Clash", .glo "InvalidQuestion", .glo "InvalidEvent", .glo "InvalidText", .glo "UnknownCommand", .glo "NoStation", .glo "NoRound", .glo "NothingToUndo", .glo "NotHeard", .glo "NotSeen", .glo "Heard", .glo "TooMany", .glo "_law_pen", .glo "_law_draw", .glo "_law_odd", .glo "_law_made", .glo "_law_named", .glo "_law_fields", .glo "_law_classes", .glo "_law_bases", .glo "law"]
/-- isinstance and fields, over the classes -/
def isfB (K : PySem.W.Frag) : Bool :=
  (cs.all fun c => He.eqO (PySem.W.findIn K (.ref (He.ga K c)) "__class__") (some (some (.builtin "object.__class__"))) && decide (PySem.W.mroIn K (He.ga K c) (.type "object") = some true) && xfB K (He.ga K c)) &&
  (He.eqO (PySem.W.specialIn K (.builtin "object.__class__") "__get__") (some (some (.builtin "getset_descriptor.__get__"))) && (decide (PySem.W.takesIn K (.builtin "object.__class__") = some true) &&
  (((("MeetError" : Str) :: cs).all fun x => cs.all fun c => decide (PySem.W.kitOne K (.ref (He.ga K c)) (.ref (He.ga K x)) = some (isB x c))) &&
  ((["ValueError", "KeyError", "IndexError", "LookupError", "RuntimeError", "OverflowError"].all fun x => cs.all fun c => decide (PySem.W.kitOne K (.ref (He.ga K c)) (.type x) = some (isC x c))) &&
  (((["place", "index", "name", "target", "port", "time", "number", "line", "word", "command", "count", "host", "limit", "question", "event"] : List Str).all fun n => cs.all fun c => He.eqO (PySem.W.findIn K (.ref (He.ga K c)) n) (some none)) &&
  (K.lookup sysModules).isSome)))))
theorem isf_ok {K : PySem.W.Frag} (h : isfB K = true) : IsF K (He.ga K) ∧ ∃ o, K.lookup sysModules = some o := by
  obtain ⟨h1, h⟩ := He.ba h
  obtain ⟨h2, h⟩ := He.ba h
  obtain ⟨h3, h⟩ := He.ba h
  obtain ⟨h4, h⟩ := He.ba h
  obtain ⟨h5, h⟩ := He.ba h
  obtain ⟨h6, h7⟩ := He.ba h
  have mem : ∀ {c : Str}, cs.contains c = true → c ∈ cs := fun z => by simpa using z
  have xf : ∀ c, cs.contains c = true → XfC K (He.ga K c) := fun c hc => xfB_ok (He.ba (List.all_eq_true.mp h1 c (mem hc))).2
  refine ⟨⟨fun c hc => ?_, fun x hx c b hb => ?_, fun x hx c b hb => ?_, fun n hn c hc => ⟨xf c hc, He.eqO_ok (List.all_eq_true.mp (List.all_eq_true.mp h6 n hn) c (mem hc))⟩⟩, Option.isSome_iff_exists.mp h7⟩
  · obtain ⟨a, _⟩ := He.ba (List.all_eq_true.mp h1 c (mem hc))
    obtain ⟨a1, a2⟩ := He.ba a
    exact ⟨(xf c hc).ga, (xf c hc).gg, (xf c hc).exC, (xf c hc).hdC, He.eqO_ok a1, He.eqO_ok h2, of_decide_eq_true h3, of_decide_eq_true a2⟩
  · have hc := tb_cs hb
    rw [tb_eq hc] at hb
    cases hb
    exact of_decide_eq_true (List.all_eq_true.mp (List.all_eq_true.mp h4 x hx) c (mem hc))
  · have hc := tc_cs hb
    rw [tc_eq hc] at hb
    cases hb
    exact of_decide_eq_true (List.all_eq_true.mp (List.all_eq_true.mp h5 x hx) c (mem hc))
def names : List PySem.Str := (["MeetError", "InvalidKind", "InvalidPart", "NoRealm", "Taken", "TooDeep", "Needed", "InvalidTarget", "InvalidPort", "InvalidName", "InvalidTime", "Clash", "InvalidQuestion", "InvalidEvent", "InvalidText", "UnknownCommand", "NoStation", "NoRound", "NothingToUndo", "NotHeard", "NotSeen", "Heard", "TooMany", "_law_pen", "_law_draw", "_law_odd", "_law_made", "_law_named", "_law_fields", "_law_classes"] : List PySem.Str) ++ (["_law_bases"] : List PySem.Str)
abbrev R : PySem.W.OpenRow := PySem.W.OpenLaw.row PySem.Challenge.rw_meetbehind_k26_errors_of_all_classes
abbrev Pr : Program := PySem.Challenge.pw_meetbehind_k26_errors_of_all_classes
abbrev hk : PySem.W.Hook := hookE Pr 6 fa fn xs isfB
def ob (s : PySem.W.SharedT) : AlE := obsE Pr 6 fa fn xs isfB (HandSHeadRun.getT s)
theorem ob_eq (s : PySem.W.SharedT) : ob s = hk.obs s.abs := by
  have e : HandSHeadRun.getT s = s.abs.heap.get? := funext (HandSHeadRun.getT_eq s)
  unfold ob
  rw [e]
  rfl
theorem run (w : World) : HandSHeadRun.RunEq R (PySem.W.view R.prog [33]) hk ob 60000 names w := by
  intro os
  kernel_rfl
end Lw

set_option maxHeartbeats 0
/-! the facts, the end -/
namespace Lw
open PySem PySem.Spec PyProof.Rows L2 Dc PySem.ExZ
section
variable {w : World} {K : PySem.W.Frag} {mg : Str → Option Value} {base : Heap}
theorem xc_InvalidKind (e : fnC K (He.ga K x_InvalidKind.c) = x_InvalidKind.val) (h : x_InvalidKind.ok Pr K = true) (hs : mg "super" = none) (g : mg "InvalidKind" = some (.ref (He.ga K "InvalidKind"))) : Xc Pr w K mg base (He.ga K) "InvalidKind" ["place"] ["place"] :=
  have z := ExD.mk1 (d := x_InvalidKind) bf_ValueError rfl rfl rfl (fun _ _ _ _ => ⟨_, rfl⟩) ⟨rfl, rfl, rfl, by decide +kernel, by decide +kernel, rfl, rfl, rfl⟩ (by decide) (by decide) (fun _ _ _ _ _ _ _ _ _ => rfl) (fun _ _ _ _ _ _ _ _ _ => rfl) (by kernel_rfl) e h hs
  ⟨z.1, z.2, g⟩
theorem xc_InvalidPart (e : fnC K (He.ga K x_InvalidPart.c) = x_InvalidPart.val) (h : x_InvalidPart.ok Pr K = true) (hs : mg "super" = none) (g : mg "InvalidPart" = some (.ref (He.ga K "InvalidPart"))) : Xc Pr w K mg base (He.ga K) "InvalidPart" ["index"] ["index"] :=
  have z := ExD.mk1 (d := x_InvalidPart) bf_ValueError rfl rfl rfl (fun _ _ _ _ => ⟨_, rfl⟩) ⟨rfl, rfl, rfl, by decide +kernel, by decide +kernel, rfl, rfl, rfl⟩ (by decide) (by decide) (fun _ _ _ _ _ _ _ _ _ => rfl) (fun _ _ _ _ _ _ _ _ _ => rfl) (by kernel_rfl) e h hs
  ⟨z.1, z.2, g⟩
theorem xc_NoRealm (e : fnC K (He.ga K x_NoRealm.c) = x_NoRealm.val) (h : x_NoRealm.ok Pr K = true) (hs : mg "super" = none) (g : mg "NoRealm" = some (.ref (He.ga K "NoRealm"))) : Xc Pr w K mg base (He.ga K) "NoRealm" ["index"] ["index"] :=
  have z := ExD.mk1 (d := x_NoRealm) bf_ValueError rfl rfl rfl (fun _ _ _ _ => ⟨_, rfl⟩) ⟨rfl, rfl, rfl, by decide +kernel, by decide +kernel, rfl, rfl, rfl⟩ (by decide) (by decide) (fun _ _ _ _ _ _ _ _ _ => rfl) (fun _ _ _ _ _ _ _ _ _ => rfl) (by kernel_rfl) e h hs
  ⟨z.1, z.2, g⟩
theorem xc_Taken (e : fnC K (He.ga K x_Taken.c) = x_Taken.val) (h : x_Taken.ok Pr K = true) (hs : mg "super" = none) (g : mg "Taken" = some (.ref (He.ga K "Taken"))) : Xc Pr w K mg base (He.ga K) "Taken" ["index"] ["index"] :=
  have z := ExD.mk1 (d := x_Taken) bf_ValueError rfl rfl rfl (fun _ _ _ _ => ⟨_, rfl⟩) ⟨rfl, rfl, rfl, by decide +kernel, by decide +kernel, rfl, rfl, rfl⟩ (by decide) (by decide) (fun _ _ _ _ _ _ _ _ _ => rfl) (fun _ _ _ _ _ _ _ _ _ => rfl) (by kernel_rfl) e h hs
  ⟨z.1, z.2, g⟩
theorem xc_TooDeep (e : fnC K (He.ga K x_TooDeep.c) = x_TooDeep.val) (h : x_TooDeep.ok Pr K = true) (hs : mg "super" = none) (g : mg "TooDeep" = some (.ref (He.ga K "TooDeep"))) : Xc Pr w K mg base (He.ga K) "TooDeep" ["index"] ["index"] :=
  have z := ExD.mk1 (d := x_TooDeep) bf_ValueError rfl rfl rfl (fun _ _ _ _ => ⟨_, rfl⟩) ⟨rfl, rfl, rfl, by decide +kernel, by decide +kernel, rfl, rfl, rfl⟩ (by decide) (by decide) (fun _ _ _ _ _ _ _ _ _ => rfl) (fun _ _ _ _ _ _ _ _ _ => rfl) (by kernel_rfl) e h hs
  ⟨z.1, z.2, g⟩
theorem xc_Needed (e : fnC K (He.ga K x_Needed.c) = x_Needed.val) (h : x_Needed.ok Pr K = true) (hs : mg "super" = none) (g : mg "Needed" = some (.ref (He.ga K "Needed"))) : Xc Pr w K mg base (He.ga K) "Needed" ["name"] ["name"] :=
  have z := ExD.mk1 (d := x_Needed) bf_ValueError rfl rfl rfl (fun _ _ _ _ => ⟨_, rfl⟩) ⟨rfl, rfl, rfl, by decide +kernel, by decide +kernel, rfl, rfl, rfl⟩ (by decide) (by decide) (fun _ _ _ _ _ _ _ _ _ => rfl) (fun _ _ _ _ _ _ _ _ _ => rfl) (by kernel_rfl) e h hs
  ⟨z.1, z.2, g⟩
theorem xc_InvalidTarget (e : fnC K (He.ga K x_InvalidTarget.c) = x_InvalidTarget.val) (h : x_InvalidTarget.ok Pr K = true) (hs : mg "super" = none) (g : mg "InvalidTarget" = some (.ref (He.ga K "InvalidTarget"))) : Xc Pr w K mg base (He.ga K) "InvalidTarget" ["target"] ["target"] :=
  have z := ExD.mk1 (d := x_InvalidTarget) bf_ValueError rfl rfl rfl (fun _ _ _ _ => ⟨_, rfl⟩) ⟨rfl, rfl, rfl, by decide +kernel, by decide +kernel, rfl, rfl, rfl⟩ (by decide) (by decide) (fun _ _ _ _ _ _ _ _ _ => rfl) (fun _ _ _ _ _ _ _ _ _ => rfl) (by kernel_rfl) e h hs
  ⟨z.1, z.2, g⟩
theorem xc_InvalidPort (e : fnC K (He.ga K x_InvalidPort.c) = x_InvalidPort.val) (h : x_InvalidPort.ok Pr K = true) (hs : mg "super" = none) (g : mg "InvalidPort" = some (.ref (He.ga K "InvalidPort"))) : Xc Pr w K mg base (He.ga K) "InvalidPort" ["port"] ["port"] :=
  have z := ExD.mk1 (d := x_InvalidPort) bf_ValueError rfl rfl rfl (fun _ _ _ _ => ⟨_, rfl⟩) ⟨rfl, rfl, rfl, by decide +kernel, by decide +kernel, rfl, rfl, rfl⟩ (by decide) (by decide) (fun _ _ _ _ _ _ _ _ _ => rfl) (fun _ _ _ _ _ _ _ _ _ => rfl) (by kernel_rfl) e h hs
  ⟨z.1, z.2, g⟩
theorem xc_InvalidName (e : fnC K (He.ga K x_InvalidName.c) = x_InvalidName.val) (h : x_InvalidName.ok Pr K = true) (hs : mg "super" = none) (g : mg "InvalidName" = some (.ref (He.ga K "InvalidName"))) : Xc Pr w K mg base (He.ga K) "InvalidName" ["name"] ["name"] :=
  have z := ExD.mk1 (d := x_InvalidName) bf_ValueError rfl rfl rfl (fun _ _ _ _ => ⟨_, rfl⟩) ⟨rfl, rfl, rfl, by decide +kernel, by decide +kernel, rfl, rfl, rfl⟩ (by decide) (by decide) (fun _ _ _ _ _ _ _ _ _ => rfl) (fun _ _ _ _ _ _ _ _ _ => rfl) (by kernel_rfl) e h hs
  ⟨z.1, z.2, g⟩
theorem xc_InvalidTime (e : fnC K (He.ga K x_InvalidTime.c) = x_InvalidTime.val) (h : x_InvalidTime.ok Pr K = true) (hs : mg "super" = none) (g : mg "InvalidTime" = some (.ref (He.ga K "InvalidTime"))) : Xc Pr w K mg base (He.ga K) "InvalidTime" ["time"] ["time"] :=
  have z := ExD.mk1 (d := x_InvalidTime) bf_ValueError rfl rfl rfl (fun _ _ _ _ => ⟨_, rfl⟩) ⟨rfl, rfl, rfl, by decide +kernel, by decide +kernel, rfl, rfl, rfl⟩ (by decide) (by decide) (fun _ _ _ _ _ _ _ _ _ => rfl) (fun _ _ _ _ _ _ _ _ _ => rfl) (by kernel_rfl) e h hs
  ⟨z.1, z.2, g⟩
theorem xc_Clash (e : fnC K (He.ga K x_Clash.c) = x_Clash.val) (h : x_Clash.ok Pr K = true) (hs : mg "super" = none) (g : mg "Clash" = some (.ref (He.ga K "Clash"))) : Xc Pr w K mg base (He.ga K) "Clash" ["number"] ["number"] :=
  have z := ExD.mk1 (d := x_Clash) bf_ValueError rfl rfl rfl (fun _ _ _ _ => ⟨_, rfl⟩) ⟨rfl, rfl, rfl, by decide +kernel, by decide +kernel, rfl, rfl, rfl⟩ (by decide) (by decide) (fun _ _ _ _ _ _ _ _ _ => rfl) (fun _ _ _ _ _ _ _ _ _ => rfl) (by kernel_rfl) e h hs
  ⟨z.1, z.2, g⟩
theorem xc_InvalidQuestion (e : fnC K (He.ga K x_InvalidQuestion.c) = x_InvalidQuestion.val) (h : x_InvalidQuestion.ok Pr K = true) (hs : mg "super" = none) (g : mg "InvalidQuestion" = some (.ref (He.ga K "InvalidQuestion"))) : Xc Pr w K mg base (He.ga K) "InvalidQuestion" ["question"] ["question"] :=
  have z := ExD.mk1 (d := x_InvalidQuestion) bf_ValueError rfl rfl rfl (fun _ _ _ _ => ⟨_, rfl⟩) ⟨rfl, rfl, rfl, by decide +kernel, by decide +kernel, rfl, rfl, rfl⟩ (by decide) (by decide) (fun _ _ _ _ _ _ _ _ _ => rfl) (fun _ _ _ _ _ _ _ _ _ => rfl) (by kernel_rfl) e h hs
  ⟨z.1, z.2, g⟩
theorem xc_InvalidEvent (e : fnC K (He.ga K x_InvalidEvent.c) = x_InvalidEvent.val) (h : x_InvalidEvent.ok Pr K = true) (hs : mg "super" = none) (g : mg "InvalidEvent" = some (.ref (He.ga K "InvalidEvent"))) : Xc Pr w K mg base (He.ga K) "InvalidEvent" ["event"] ["event"] :=
  have z := ExD.mk1 (d := x_InvalidEvent) bf_ValueError rfl rfl rfl (fun _ _ _ _ => ⟨_, rfl⟩) ⟨rfl, rfl, rfl, by decide +kernel, by decide +kernel, rfl, rfl, rfl⟩ (by decide) (by decide) (fun _ _ _ _ _ _ _ _ _ => rfl) (fun _ _ _ _ _ _ _ _ _ => rfl) (by kernel_rfl) e h hs
  ⟨z.1, z.2, g⟩
theorem xc_InvalidText (e : fnC K (He.ga K x_InvalidText.c) = x_InvalidText.val) (h : x_InvalidText.ok Pr K = true) (hs : mg "super" = none) (g : mg "InvalidText" = some (.ref (He.ga K "InvalidText"))) : Xc Pr w K mg base (He.ga K) "InvalidText" ["line", "word"] ["word", "line"] :=
  have z := ExD.mk2 (d := x_InvalidText) bf_ValueError rfl rfl rfl (fun _ _ _ _ => ⟨_, rfl⟩) ⟨rfl, rfl, rfl, by decide +kernel, by decide +kernel, rfl, rfl, rfl⟩ (by decide) (by decide) (by decide) (by decide) (by decide) (fun _ _ _ _ _ _ _ _ _ _ => rfl) (fun _ _ _ _ _ _ _ _ _ _ => rfl) (by kernel_rfl) e h hs
  ⟨z.1, z.2, g⟩
theorem xc_UnknownCommand (e : fnC K (He.ga K x_UnknownCommand.c) = x_UnknownCommand.val) (h : x_UnknownCommand.ok Pr K = true) (hs : mg "super" = none) (g : mg "UnknownCommand" = some (.ref (He.ga K "UnknownCommand"))) : Xc Pr w K mg base (He.ga K) "UnknownCommand" ["command"] ["command"] :=
  have z := ExD.mk1 (d := x_UnknownCommand) bf_ValueError rfl rfl rfl (fun _ _ _ _ => ⟨_, rfl⟩) ⟨rfl, rfl, rfl, by decide +kernel, by decide +kernel, rfl, rfl, rfl⟩ (by decide) (by decide) (fun _ _ _ _ _ _ _ _ _ => rfl) (fun _ _ _ _ _ _ _ _ _ => rfl) (by kernel_rfl) e h hs
  ⟨z.1, z.2, g⟩
theorem xc_NoStation (e : fnC K (He.ga K x_NoStation.c) = x_NoStation.val) (h : x_NoStation.ok Pr K = true) (hs : mg "super" = none) (g : mg "NoStation" = some (.ref (He.ga K "NoStation"))) : Xc Pr w K mg base (He.ga K) "NoStation" ["name"] ["name"] :=
  have z := ExD.mk1 (d := x_NoStation) bf_KeyError rfl rfl rfl (fun _ _ _ _ => ⟨_, rfl⟩) ⟨rfl, rfl, rfl, by decide +kernel, by decide +kernel, rfl, rfl, rfl⟩ (by decide) (by decide) (fun _ _ _ _ _ _ _ _ _ => rfl) (fun _ _ _ _ _ _ _ _ _ => rfl) (by kernel_rfl) e h hs
  ⟨z.1, z.2, g⟩
theorem xc_NoRound (e : fnC K (He.ga K x_NoRound.c) = x_NoRound.val) (h : x_NoRound.ok Pr K = true) (hs : mg "super" = none) (g : mg "NoRound" = some (.ref (He.ga K "NoRound"))) : Xc Pr w K mg base (He.ga K) "NoRound" ["number"] ["number"] :=
  have z := ExD.mk1 (d := x_NoRound) bf_IndexError rfl rfl rfl (fun _ _ _ _ => ⟨_, rfl⟩) ⟨rfl, rfl, rfl, by decide +kernel, by decide +kernel, rfl, rfl, rfl⟩ (by decide) (by decide) (fun _ _ _ _ _ _ _ _ _ => rfl) (fun _ _ _ _ _ _ _ _ _ => rfl) (by kernel_rfl) e h hs
  ⟨z.1, z.2, g⟩
theorem xc_NothingToUndo (e : fnC K (He.ga K x_NothingToUndo.c) = x_NothingToUndo.val) (h : x_NothingToUndo.ok Pr K = true) (hs : mg "super" = none) (g : mg "NothingToUndo" = some (.ref (He.ga K "NothingToUndo"))) : Xc Pr w K mg base (He.ga K) "NothingToUndo" ["count"] ["count"] :=
  have z := ExD.mk1 (d := x_NothingToUndo) bf_LookupError rfl rfl rfl (fun _ _ _ _ => ⟨_, rfl⟩) ⟨rfl, rfl, rfl, by decide +kernel, by decide +kernel, rfl, rfl, rfl⟩ (by decide) (by decide) (fun _ _ _ _ _ _ _ _ _ => rfl) (fun _ _ _ _ _ _ _ _ _ => rfl) (by kernel_rfl) e h hs
  ⟨z.1, z.2, g⟩
theorem xc_NotHeard (e : fnC K (He.ga K x_NotHeard.c) = x_NotHeard.val) (h : x_NotHeard.ok Pr K = true) (hs : mg "super" = none) (g : mg "NotHeard" = some (.ref (He.ga K "NotHeard"))) : Xc Pr w K mg base (He.ga K) "NotHeard" ["host"] ["host"] :=
  have z := ExD.mk1 (d := x_NotHeard) bf_LookupError rfl rfl rfl (fun _ _ _ _ => ⟨_, rfl⟩) ⟨rfl, rfl, rfl, by decide +kernel, by decide +kernel, rfl, rfl, rfl⟩ (by decide) (by decide) (fun _ _ _ _ _ _ _ _ _ => rfl) (fun _ _ _ _ _ _ _ _ _ => rfl) (by kernel_rfl) e h hs
  ⟨z.1, z.2, g⟩
theorem xc_NotSeen (e : fnC K (He.ga K x_NotSeen.c) = x_NotSeen.val) (h : x_NotSeen.ok Pr K = true) (hs : mg "super" = none) (g : mg "NotSeen" = some (.ref (He.ga K "NotSeen"))) : Xc Pr w K mg base (He.ga K) "NotSeen" ["name"] ["name"] :=
  have z := ExD.mk1 (d := x_NotSeen) bf_LookupError rfl rfl rfl (fun _ _ _ _ => ⟨_, rfl⟩) ⟨rfl, rfl, rfl, by decide +kernel, by decide +kernel, rfl, rfl, rfl⟩ (by decide) (by decide) (fun _ _ _ _ _ _ _ _ _ => rfl) (fun _ _ _ _ _ _ _ _ _ => rfl) (by kernel_rfl) e h hs
  ⟨z.1, z.2, g⟩
theorem xc_Heard (e : fnC K (He.ga K x_Heard.c) = x_Heard.val) (h : x_Heard.ok Pr K = true) (hs : mg "super" = none) (g : mg "Heard" = some (.ref (He.ga K "Heard"))) : Xc Pr w K mg base (He.ga K) "Heard" ["number"] ["number"] :=
  have z := ExD.mk1 (d := x_Heard) bf_RuntimeError rfl rfl rfl (fun _ _ _ _ => ⟨_, rfl⟩) ⟨rfl, rfl, rfl, by decide +kernel, by decide +kernel, rfl, rfl, rfl⟩ (by decide) (by decide) (fun _ _ _ _ _ _ _ _ _ => rfl) (fun _ _ _ _ _ _ _ _ _ => rfl) (by kernel_rfl) e h hs
  ⟨z.1, z.2, g⟩
theorem xc_TooMany (e : fnC K (He.ga K x_TooMany.c) = x_TooMany.val) (h : x_TooMany.ok Pr K = true) (hs : mg "super" = none) (g : mg "TooMany" = some (.ref (He.ga K "TooMany"))) : Xc Pr w K mg base (He.ga K) "TooMany" ["limit"] ["limit"] :=
  have z := ExD.mk1 (d := x_TooMany) bf_OverflowError rfl rfl rfl (fun _ _ _ _ => ⟨_, rfl⟩) ⟨rfl, rfl, rfl, by decide +kernel, by decide +kernel, rfl, rfl, rfl⟩ (by decide) (by decide) (fun _ _ _ _ _ _ _ _ _ => rfl) (fun _ _ _ _ _ _ _ _ _ => rfl) (by kernel_rfl) e h hs
  ⟨z.1, z.2, g⟩
theorem facts {h : Heap} {f : Addr} (X : K.In h) (G : h.Ns mainGlobals mg) (hfa : mg ("law" : Str) = some (.ref f)) (c : obsK Pr fa fn xs isfB K = valK fn xs) :
    ∃ fd : FuncData, (∀ (s : Shared) (v : Value), BindsTo s fd ⟨[v], []⟩ [("_law_script", v)]) ∧ ∀ base : Heap, K.In base → base.Ns mainGlobals mg → FnG Pr w K mg base CX0 5 f fd ["_law_script"] (spTrue K) := by
  have cd : He.SaysD fa fn K := congrArg (fun z : AlE => z.1) c
  have c2 : ((xs.all fun d => d.ok Pr K) && isfB K) = true := congrArg (fun z : AlE => z.2.1) c
  have c3 : (xs.map fun d => fnC K (He.ga K d.c)) = xs.map ExD.val := congrArg (fun z : AlE => z.2.2) c
  obtain ⟨hx, hi⟩ := He.ba c2
  obtain ⟨IF, hsm⟩ := isf_ok hi
  have nn : ∀ (i : Nat) (x : Str), fa[i]? = some (.free x) → mg x = none := fun i x e => He.free_ok X G (cd.fact i e)
  have gg : ∀ (i : Nat) (x : Str), fa[i]? = some (.glo x) → mg x = some (.ref (He.ga K x)) := fun i x e => He.glo_ok X G (cd.fact i e)
  have vv : ∀ (i : Nat) (d : ExD), xs[i]? = some d → fnC K (He.ga K d.c) = d.val ∧ d.ok Pr K = true := fun i d e => by
    refine ⟨?_, List.all_eq_true.mp hx d (List.mem_of_getElem? e)⟩
    have e2 : (xs.map fun d => fnC K (He.ga K d.c))[i]? = (xs.map ExD.val)[i]? := by rw [c3]
    rw [List.getElem?_map, List.getElem?_map, e] at e2
    exact Option.some.inj e2
  obtain ⟨fd_pen, F_pen⟩ := cd.def_ 0 (d := d__law_pen) rfl
  obtain ⟨fd_draw, F_draw⟩ := cd.def_ 1 (d := d__law_draw) rfl
  obtain ⟨fd_odd, F_odd⟩ := cd.def_ 2 (d := d__law_odd) rfl
  obtain ⟨fd_made, F_made⟩ := cd.def_ 3 (d := d__law_made) rfl
  obtain ⟨fd_named, F_named⟩ := cd.def_ 4 (d := d__law_named) rfl
  obtain ⟨fd_fields, F_fields⟩ := cd.def_ 5 (d := d__law_fields) rfl
  obtain ⟨fd_classes, F_classes⟩ := cd.def_ 6 (d := d__law_classes) rfl
  obtain ⟨fd_bases, F_bases⟩ := cd.def_ 7 (d := d__law_bases) rfl
  obtain ⟨fd_law, F_law⟩ := cd.def_ 8 (d := d_law) rfl
  have el := hfa.symm.trans (gg 45 "law" rfl)
  cases el
  have b := FunD.bindsA (ps := ["_law_script"]) F_law fun _ _ _ _ _ _ us hl => match us, hl with | [_], _ => rfl
  refine ⟨fd_law, fun s v => b s [v] rfl, fun base _ _ => ?_⟩
  have xx_InvalidKind : Xc Pr w K mg base (He.ga K) "InvalidKind" ["place"] ["place"] := xc_InvalidKind (vv 0 x_InvalidKind rfl).1 (vv 0 x_InvalidKind rfl).2 (nn 0 "super" rfl) (gg 15 "InvalidKind" rfl)
  have xx_InvalidPart : Xc Pr w K mg base (He.ga K) "InvalidPart" ["index"] ["index"] := xc_InvalidPart (vv 1 x_InvalidPart rfl).1 (vv 1 x_InvalidPart rfl).2 (nn 0 "super" rfl) (gg 16 "InvalidPart" rfl)
  have xx_NoRealm : Xc Pr w K mg base (He.ga K) "NoRealm" ["index"] ["index"] := xc_NoRealm (vv 2 x_NoRealm rfl).1 (vv 2 x_NoRealm rfl).2 (nn 0 "super" rfl) (gg 17 "NoRealm" rfl)
  have xx_Taken : Xc Pr w K mg base (He.ga K) "Taken" ["index"] ["index"] := xc_Taken (vv 3 x_Taken rfl).1 (vv 3 x_Taken rfl).2 (nn 0 "super" rfl) (gg 18 "Taken" rfl)
  have xx_TooDeep : Xc Pr w K mg base (He.ga K) "TooDeep" ["index"] ["index"] := xc_TooDeep (vv 4 x_TooDeep rfl).1 (vv 4 x_TooDeep rfl).2 (nn 0 "super" rfl) (gg 19 "TooDeep" rfl)
  have xx_Needed : Xc Pr w K mg base (He.ga K) "Needed" ["name"] ["name"] := xc_Needed (vv 5 x_Needed rfl).1 (vv 5 x_Needed rfl).2 (nn 0 "super" rfl) (gg 20 "Needed" rfl)
  have xx_InvalidTarget : Xc Pr w K mg base (He.ga K) "InvalidTarget" ["target"] ["target"] := xc_InvalidTarget (vv 6 x_InvalidTarget rfl).1 (vv 6 x_InvalidTarget rfl).2 (nn 0 "super" rfl) (gg 21 "InvalidTarget" rfl)
  have xx_InvalidPort : Xc Pr w K mg base (He.ga K) "InvalidPort" ["port"] ["port"] := xc_InvalidPort (vv 7 x_InvalidPort rfl).1 (vv 7 x_InvalidPort rfl).2 (nn 0 "super" rfl) (gg 22 "InvalidPort" rfl)
  have xx_InvalidName : Xc Pr w K mg base (He.ga K) "InvalidName" ["name"] ["name"] := xc_InvalidName (vv 8 x_InvalidName rfl).1 (vv 8 x_InvalidName rfl).2 (nn 0 "super" rfl) (gg 23 "InvalidName" rfl)
  have xx_InvalidTime : Xc Pr w K mg base (He.ga K) "InvalidTime" ["time"] ["time"] := xc_InvalidTime (vv 9 x_InvalidTime rfl).1 (vv 9 x_InvalidTime rfl).2 (nn 0 "super" rfl) (gg 24 "InvalidTime" rfl)
  have xx_Clash : Xc Pr w K mg base (He.ga K) "Clash" ["number"] ["number"] := xc_Clash (vv 10 x_Clash rfl).1 (vv 10 x_Clash rfl).2 (nn 0 "super" rfl) (gg 25 "Clash" rfl)
  have xx_InvalidQuestion : Xc Pr w K mg base (He.ga K) "InvalidQuestion" ["question"] ["question"] := xc_InvalidQuestion (vv 11 x_InvalidQuestion rfl).1 (vv 11 x_InvalidQuestion rfl).2 (nn 0 "super" rfl) (gg 26 "InvalidQuestion" rfl)
  have xx_InvalidEvent : Xc Pr w K mg base (He.ga K) "InvalidEvent" ["event"] ["event"] := xc_InvalidEvent (vv 12 x_InvalidEvent rfl).1 (vv 12 x_InvalidEvent rfl).2 (nn 0 "super" rfl) (gg 27 "InvalidEvent" rfl)
  have xx_InvalidText : Xc Pr w K mg base (He.ga K) "InvalidText" ["line", "word"] ["word", "line"] := xc_InvalidText (vv 13 x_InvalidText rfl).1 (vv 13 x_InvalidText rfl).2 (nn 0 "super" rfl) (gg 28 "InvalidText" rfl)
  have xx_UnknownCommand : Xc Pr w K mg base (He.ga K) "UnknownCommand" ["command"] ["command"] := xc_UnknownCommand (vv 14 x_UnknownCommand rfl).1 (vv 14 x_UnknownCommand rfl).2 (nn 0 "super" rfl) (gg 29 "UnknownCommand" rfl)
  have xx_NoStation : Xc Pr w K mg base (He.ga K) "NoStation" ["name"] ["name"] := xc_NoStation (vv 15 x_NoStation rfl).1 (vv 15 x_NoStation rfl).2 (nn 0 "super" rfl) (gg 30 "NoStation" rfl)
  have xx_NoRound : Xc Pr w K mg base (He.ga K) "NoRound" ["number"] ["number"] := xc_NoRound (vv 16 x_NoRound rfl).1 (vv 16 x_NoRound rfl).2 (nn 0 "super" rfl) (gg 31 "NoRound" rfl)
  have xx_NothingToUndo : Xc Pr w K mg base (He.ga K) "NothingToUndo" ["count"] ["count"] := xc_NothingToUndo (vv 17 x_NothingToUndo rfl).1 (vv 17 x_NothingToUndo rfl).2 (nn 0 "super" rfl) (gg 32 "NothingToUndo" rfl)
  have xx_NotHeard : Xc Pr w K mg base (He.ga K) "NotHeard" ["host"] ["host"] := xc_NotHeard (vv 18 x_NotHeard rfl).1 (vv 18 x_NotHeard rfl).2 (nn 0 "super" rfl) (gg 33 "NotHeard" rfl)
  have xx_NotSeen : Xc Pr w K mg base (He.ga K) "NotSeen" ["name"] ["name"] := xc_NotSeen (vv 19 x_NotSeen rfl).1 (vv 19 x_NotSeen rfl).2 (nn 0 "super" rfl) (gg 34 "NotSeen" rfl)
  have xx_Heard : Xc Pr w K mg base (He.ga K) "Heard" ["number"] ["number"] := xc_Heard (vv 20 x_Heard rfl).1 (vv 20 x_Heard rfl).2 (nn 0 "super" rfl) (gg 35 "Heard" rfl)
  have xx_TooMany : Xc Pr w K mg base (He.ga K) "TooMany" ["limit"] ["limit"] := xc_TooMany (vv 21 x_TooMany rfl).1 (vv 21 x_TooMany rfl).2 (nn 0 "super" rfl) (gg 36 "TooMany" rfl)
  have k__law_draw : Kn Pr w K mg base (He.ga K) "_law_draw" 1 R_draw := ok_draw F_draw (gg 38 "_law_draw" rfl) (nn 2 "abs" rfl) (nn 3 "int" rfl) (nn 1 "len" rfl)
  have k__law_odd : Kn Pr w K mg base (He.ga K) "_law_odd" 2 R_odd := ok_odd F_odd (gg 39 "_law_odd" rfl) k__law_draw
  have k__law_made : Kn Pr w K mg base (He.ga K) "_law_made" 1 R_made := ok_made F_made (gg 40 "_law_made" rfl) xx_Clash xx_Heard xx_InvalidEvent xx_InvalidKind xx_InvalidName xx_InvalidPart xx_InvalidPort xx_InvalidQuestion xx_InvalidTarget xx_InvalidText xx_InvalidTime xx_Needed xx_NoRealm xx_NoRound xx_NoStation xx_NotHeard xx_NotSeen xx_NothingToUndo xx_Taken xx_TooDeep xx_TooMany xx_UnknownCommand
  have k__law_named : Kn Pr w K mg base (He.ga K) "_law_named" 1 R_named := ok_named F_named (gg 41 "_law_named" rfl) xx_Clash xx_Heard xx_InvalidEvent xx_InvalidKind xx_InvalidName xx_InvalidPart xx_InvalidPort xx_InvalidQuestion xx_InvalidTarget xx_InvalidText xx_InvalidTime xx_Needed xx_NoRealm xx_NoRound xx_NoStation xx_NotHeard xx_NotSeen xx_NothingToUndo xx_Taken xx_TooDeep xx_TooMany xx_UnknownCommand
  have k__law_fields : Kn Pr w K mg base (He.ga K) "_law_fields" 1 R_fields := ok_fields F_fields (gg 42 "_law_fields" rfl) IF
  have k__law_classes : Kn Pr w K mg base (He.ga K) "_law_classes" 1 R_classes := ok_classes F_classes (gg 43 "_law_classes" rfl) (nn 7 "isinstance" rfl) xx_Clash xx_Heard xx_InvalidEvent xx_InvalidKind xx_InvalidName xx_InvalidPart xx_InvalidPort xx_InvalidQuestion xx_InvalidTarget xx_InvalidText xx_InvalidTime xx_Needed xx_NoRealm xx_NoRound xx_NoStation xx_NotHeard xx_NotSeen xx_NothingToUndo xx_Taken xx_TooDeep xx_TooMany xx_UnknownCommand IF
  have k__law_bases : Kn Pr w K mg base (He.ga K) "_law_bases" 1 R_bases := ok_bases F_bases (gg 44 "_law_bases" rfl) (nn 10 "IndexError" rfl) (nn 9 "KeyError" rfl) (nn 11 "LookupError" rfl) (nn 13 "OverflowError" rfl) (nn 12 "RuntimeError" rfl) (nn 8 "ValueError" rfl) (nn 3 "int" rfl) (nn 7 "isinstance" rfl) (gg 14 "MeetError" rfl) IF
  exact ok_law F_law F_pen (gg 37 "_law_pen" rfl) hsm k__law_bases k__law_classes k__law_fields k__law_made k__law_named k__law_odd (nn 4 "list" rfl) (nn 5 "range" rfl) (nn 6 "repr" rfl) IF
end
end Lw
open PySem PySem.W PySem.Calls PyProof.Rows
theorem PySem.Challenge.cw_meetbehind_k26_errors_of_all_classes_holds : PySem.Challenge.rw_meetbehind_k26_errors_of_all_classes.Holds := by
  w_on; o_law
  refine HandSHeadRun.head_any (r := OpenLaw.row PySem.Challenge.rw_meetbehind_k26_errors_of_all_classes) (q := view (OpenLaw.row PySem.Challenge.rw_meetbehind_k26_errors_of_all_classes).prog [33]) (H := Lw.hk) (ob := Lw.ob) (M := 60000) (loose := Lw.names) (d := HandSHeadRun.topDef (OpenLaw.row PySem.Challenge.rw_meetbehind_k26_errors_of_all_classes).prog 33) (kwd := []) Lw.ob_eq
    (by kernel_rfl) (fun s => by kernel_rfl) Lw.run (by kernel_rfl) (by kernel_rfl) (by kernel_rfl) (by rfl) (by first | assumption | decide +kernel) (by decide +kernel) ⟨rfl, rfl, rfl, rfl, rfl, by decide +kernel⟩ ?hw ?hc
  case hw => w_witness2
  case hc =>
    refine L2.walk_ofG (l := PySem.Challenge.rw_meetbehind_k26_errors_of_all_classes) (n := 63) (k := 5) (x := "_law_script") (CX := L2.CX0) rfl (by decide) (by kernel_rfl) ⟨rfl, by decide, by decide⟩ ?F (fun _ _ _ _ z => z)
    intro w mg fa h Y G hmg0
    obtain ⟨K, KX, c⟩ := Y
    have law_at : mg ("law" : PySem.Str) = some (.ref fa) := by
      have e : (HandSHeadRun.topDef (OpenLaw.row PySem.Challenge.rw_meetbehind_k26_errors_of_all_classes).prog 33).name = ("law" : PySem.Str) := by kernel_rfl
      rw [← e]
      exact hmg0
    obtain ⟨fd, hb, hF⟩ := Lw.facts (w := w) KX G law_at c
    exact ⟨K, fd, Dc.spTrue K, KX, hb, fun H a ns hl _ hS => ⟨a, ns, rfl, hS, fun _ => rfl⟩, hF⟩
