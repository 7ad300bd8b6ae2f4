import PyProof.Rows.All
import HandS.ForMost
import HandS.Lambda
import HandS.TupAny
import HandS.Evl
import HandS.ExcSuper
import KE.KExcSuper
import HandS.ExcInit
import HandS.ExcField
import HandS.ExcIs
import HandS.ExcValue
import HandS.MakeKwOnly
import HandS.HeadEnd
import HandS.Defaults
import PyProof.ReprLen
import HandS.Property
import HandS.HeadHook1
import HandS.HeadHook2
import HandS.Exc
import HandS.ExcOwn
import HandS.MakeKw
import HandS.TryOnly
import KE.KTryMore
import HandS.ClsMeth
import HandS.IsInst
import HandS.Text
import HandS.FStr
import HandS.Style
import HandS.Iter
import HandS.Steps
import HandS.RaiseMore
import PyProof.StrBlock2
import HandS.SlotsOwn
import KE.KFmtOwn
import HandS.EndTab
import HandS.Head0
import HandS.Head1
import HandS.Head2
import HandS.HeadHook4
import HandS.HeadNt
import PySem.Challenge.RW_meetbehind_k03_kinds_as_texts
import KE.IntTextLaws
import PyProof.StrLawsRepr
set_option Elab.async false
set_option linter.all false
set_option maxRecDepth 100000
set_option maxHeartbeats 1000000
/-! S0: plain data D; a store of objects that may change (M), seen through numbers; how both lie in the abstract heap. -/
namespace Sd
open PySem PySem.Spec PyProof.Rows L2 LamX

/-- plain data, which never changes -/
inductive D where
  | non | bl (b : Bool) | int (i : Int) | str (x : Str)
  | tup (xs : List D) | lst (xs : List D)
  | dct (ks vs : List D)
  | ins (c : Str) (ns : List Str) (vs : List D)
  | exc (c : Str) (ns : List Str) (vs : List D)
/-- what a slot, an argument or a field holds: data, or the store's object l -/
inductive C1 where
  | p (d : D)
  | r (l : Nat)
  | fn
/-- the store's objects: a list, a dict, an instance, what draws (so many draws done at most), one that is data from now on -/
inductive M where
  | l (xs : List D)
  | m (ks vs : List D)
  | i (c : Str) (ns : List Str) (fs : List C1)
  | pen (n : Nat)
  | z (d : D)
def M.live : M → Bool
  | .z _ => false
  | _ => true

/-- what is fixed: the written part, where the classes stand, the cells, the tables of code -/
structure Tab where
  K : PySem.W.Frag
  ca : Str → Addr
  cs : List Int
  tb : List (Addr × Str)
  f0 : Addr
def Tab.isT (T : Tab) (a : Addr) : Prop := ∃ q, q ∈ T.tb ∧ q.1 = a

/-- an exception object of the class at C with the own dict at d -/
def ExcA (C d a : Addr) : HO := .ext fun h => ∃ (oe : Obj) (vs : Array Value), h.get? a = some oe ∧ oe.cls = .ref C ∧ oe.dict = some d ∧ oe.data = .fields vs

def kD : Key → D
  | .inl i => .int i
  | .inr s => .str s

mutual
inductive At (T : Tab) (H : Hp) : V → D → Prop
  | non : At T H .non .non
  | bl (b : Bool) : At T H (.bl b) (.bl b)
  | int (i : Int) : At T H (.int i) (.int i)
  | str (x : Str) : At T H (.str x) (.str x)
  | lst {a : Addr} {vs : List V} {ds : List D} : H a = some (.lst vs) → AtAll T H vs ds → At T H (.ref a) (.lst ds)
  | tup {a : Addr} {vs : List V} {ds : List D} : SqT T.K H a vs → AtAll T H vs ds → At T H (.ref a) (.tup ds)
  | dK {a : Addr} {kvs : List (Key × V)} {ds : List D} : H a = some (.dK kvs) → AtAll T H (kvs.map (·.2)) ds → At T H (.ref a) (.dct (kvs.map fun p => kD p.1) ds)
  | dT {a : Addr} {kvs : List (List Key × V)} {ds : List D} : H a = some (.dT kvs) → AtAll T H (kvs.map (·.2)) ds → At T H (.ref a) (.dct (kvs.map fun p => .tup (p.1.map kD)) ds)
  | ins {a dx : Addr} {c : Str} {fs : List (Str × V)} {ds : List D} : H a = some (.ins (T.ca c) dx fs) → AtAll T H (fs.map (·.2)) ds → At T H (.ref a) (.ins c (fs.map (·.1)) ds)
  | exc {a d : Addr} {c : Str} {fs : List (Str × V)} {ds : List D} : H a = some (ExcA (T.ca c) d a) → H d = some (.xd fs) → AtAll T H (fs.map (·.2)) ds → At T H (.ref a) (.exc c (fs.map (·.1)) ds)
inductive AtAll (T : Tab) (H : Hp) : List V → List D → Prop
  | nil : AtAll T H [] []
  | cons {v : V} {vs : List V} {d : D} {ds : List D} : At T H v d → AtAll T H vs ds → AtAll T H (v :: vs) (d :: ds)
end

/-- what H tracks is tracked alike in H' -/
def Ex (H H' : Hp) : Prop := ∀ (a : Addr) (o : HO), H a = some o → H' a = some o
theorem Ex.refl (H : Hp) : Ex H H := fun _ _ z => z
theorem Ex.trans {H H1 H2 : Hp} (x : Ex H H1) (y : Ex H1 H2) : Ex H H2 := fun a o z => y a o (x a o z)
theorem Ex.new {H : Hp} {p : Addr} {o : HO} (hp : H p = none) : Ex H (upd H p o) := fun a u e => by
  rw [upd_ne (ne_of_none e hp)]
  exact e
theorem Ex.rd {H H' : Hp} {a : Addr} {u : HO} (e : Ex H H') (h : Rd H a u) : Rd H' a u := by
  rcases h with h | ⟨o, h⟩
  · exact .inl (e a _ h)
  · exact .inr ⟨o, e a _ h⟩
theorem Ex.l {K : PySem.W.Frag} {H H' : Hp} {a : Addr} {xs : List V} (e : Ex H H') (h : SqL K H a xs) : SqL K H' a xs := h.elim (fun h => .inl (e.rd h)) .inr
theorem Ex.t {K : PySem.W.Frag} {H H' : Hp} {a : Addr} {xs : List V} (e : Ex H H') (h : SqT K H a xs) : SqT K H' a xs := h.elim (fun h => .inl (e.rd h)) .inr
theorem Ex.free {H H' : Hp} {p : Addr} (e : Ex H H') (h : H' p = none) : H p = none := by
  cases h1 : H p with
  | none => rfl
  | some o =>
    rw [e p o h1] at h
    cases h

theorem At.mono {T : Tab} {H H' : Hp} (e : Ex H H') {v : V} {d : D} (h : At T H v d) : At T H' v d :=
  At.rec (motive_1 := fun v d _ => At T H' v d) (motive_2 := fun vs ds _ => AtAll T H' vs ds)
    .non .bl .int .str (fun s _ ih => .lst (e _ _ s) ih) (fun s _ ih => .tup (e.t s) ih) (fun s _ ih => .dK (e _ _ s) ih) (fun s _ ih => .dT (e _ _ s) ih)
    (fun s _ ih => .ins (e _ _ s) ih) (fun s t _ ih => .exc (e _ _ s) (e _ _ t) ih) .nil (fun _ _ i1 i2 => .cons i1 i2) h
theorem AtAll.mono {T : Tab} {H H' : Hp} (e : Ex H H') : ∀ {vs : List V} {ds : List D}, AtAll T H vs ds → AtAll T H' vs ds
  | _, _, .nil => .nil
  | _, _, .cons a b => .cons (a.mono e) (b.mono e)
theorem AtAll.length {T : Tab} {H : Hp} : ∀ {vs : List V} {ds : List D}, AtAll T H vs ds → vs.length = ds.length
  | _, _, .nil => rfl
  | _, _, .cons _ b => congrArg Nat.succ b.length
theorem AtAll.append {T : Tab} {H : Hp} : ∀ {vs ws : List V} {ds es : List D}, AtAll T H vs ds → AtAll T H ws es → AtAll T H (vs ++ ws) (ds ++ es)
  | _, _, _, _, .nil, s => s
  | _, _, _, _, .cons r t, s => .cons r (t.append s)
theorem AtAll.get {T : Tab} {H : Hp} : ∀ {vs : List V} {ds : List D} {i : Nat} {d : D}, AtAll T H vs ds → ds[i]? = some d → ∃ v, vs[i]? = some v ∧ At T H v d
  | _, _, _, _, .nil, z => by cases z
  | _, _, 0, _, .cons r _, z => ⟨_, rfl, by cases z; exact r⟩
  | _, _, i + 1, d, .cons _ t, e => by
    obtain ⟨v, h1, h2⟩ := AtAll.get (i := i) (d := d) t (by simpa using e)
    exact ⟨v, by simpa using h1, h2⟩
theorem AtAll.get' {T : Tab} {H : Hp} : ∀ {vs : List V} {ds : List D} {i : Nat} {v : V}, AtAll T H vs ds → vs[i]? = some v → ∃ d, ds[i]? = some d ∧ At T H v d
  | _, _, _, _, .nil, z => by cases z
  | _, _, 0, _, .cons r _, z => ⟨_, rfl, by cases z; exact r⟩
  | _, _, i + 1, d, .cons _ t, e => by
    obtain ⟨v, h1, h2⟩ := AtAll.get' (i := i) (v := d) t (by simpa using e)
    exact ⟨v, by simpa using h1, h2⟩
theorem AtAll.set {T : Tab} {H : Hp} {v : V} {d : D} (r : At T H v d) : ∀ {vs : List V} {ds : List D} (i : Nat), AtAll T H vs ds → AtAll T H (vs.set i v) (ds.set i d)
  | _, _, _, .nil => .nil
  | _, _, 0, .cons _ tl => .cons r tl
  | _, _, i + 1, .cons q t => .cons q (AtAll.set r i t)
theorem AtAll.take {T : Tab} {H : Hp} : ∀ {vs : List V} {ds : List D} (n : Nat), AtAll T H vs ds → AtAll T H (vs.take n) (ds.take n)
  | _, _, 0, _ => .nil
  | _, _, _ + 1, .nil => .nil
  | _, _, n + 1, .cons r t => .cons r (t.take n)
theorem AtAll.drop {T : Tab} {H : Hp} : ∀ {vs : List V} {ds : List D} (n : Nat), AtAll T H vs ds → AtAll T H (vs.drop n) (ds.drop n)
  | _, _, 0, r => r
  | _, _, _ + 1, .nil => .nil
  | _, _, n + 1, .cons _ t => t.drop n
theorem AtAll.eraseIdx {T : Tab} {H : Hp} : ∀ {vs : List V} {ds : List D} (n : Nat), AtAll T H vs ds → AtAll T H (vs.eraseIdx n) (ds.eraseIdx n)
  | _, _, _, .nil => .nil
  | _, _, 0, .cons _ t => t
  | _, _, n + 1, .cons r t => .cons r (t.eraseIdx n)
theorem AtAll.reverse {T : Tab} {H : Hp} : ∀ {vs : List V} {ds : List D}, AtAll T H vs ds → AtAll T H vs.reverse ds.reverse
  | _, _, .nil => .nil
  | _, _, .cons r t => by
    rw [List.reverse_cons, List.reverse_cons]; exact t.reverse.append (.cons r .nil)

/-- sizes -/
def szB (n : Nat) : Bool := Nat.ble n 16777216
theorem szB_ok {n : Nat} (h : szB n = true) : n ≤ sizeLine := by
  rw [sizeLine_eq]
  exact Nat.le_of_ble_eq_true h
/-! ### hidden addresses -/
def hide (H : Hp) (A : List Addr) : Hp := fun a => if a ∈ A then none else H a
theorem hide_ne {H : Hp} {A : List Addr} {a : Addr} (h : a ∉ A) : hide H A a = H a := if_neg h
theorem hide_in {H : Hp} {A : List Addr} {a : Addr} (h : a ∈ A) : hide H A a = none := if_pos h
theorem hide_some {H : Hp} {A : List Addr} {a : Addr} {o : HO} (h : hide H A a = some o) : a ∉ A ∧ H a = some o := by
  by_cases m : a ∈ A
  · rw [hide_in m] at h
    cases h
  · rw [hide_ne m] at h
    exact ⟨m, h⟩
theorem ex_hide (H : Hp) (A : List Addr) : Ex (hide H A) H := fun _ _ h => (hide_some h).2
theorem ex_hide_le {H : Hp} {A A' : List Addr} (h : ∀ a, a ∈ A' → a ∈ A) : Ex (hide H A) (hide H A') := fun a o e => by
  obtain ⟨m, e⟩ := hide_some e
  rw [hide_ne fun z => m (h a z)]
  exact e
theorem ex_hide_ex {H H' : Hp} {A : List Addr} (e : Ex H H') : Ex (hide H A) (hide H' A) := fun a o h => by
  obtain ⟨m, h⟩ := hide_some h
  rw [hide_ne m]
  exact e a o h
theorem hide_upd {H : Hp} {A : List Addr} {a : Addr} {o : HO} (h : a ∈ A) : hide (upd H a o) A = hide H A := by
  funext b
  by_cases m : b ∈ A
  · rw [hide_in m, hide_in m]
  · rw [hide_ne m, hide_ne m, upd_ne (show b ≠ a from fun z => m (by rw [z]; exact h))]
/-- a is hidden no more -/
def unh (A : List Addr) (a : Addr) : List Addr := A.filter fun b => b ≠ a
theorem mem_unh {a b : Addr} : b ∈ unh A a ↔ b ∈ A ∧ b ≠ a := by simp [unh]

/-! ### the store -/
/-- t: where the store's objects lie -/
inductive FAt (T : Tab) (t : List Addr) (H : Hp) : V → C1 → Prop
  | p {v : V} {d : D} : At T H v d → FAt T t H v (.p d)
  | r {a : Addr} {l : Nat} : t[l]? = some a → FAt T t H (.ref a) (.r l)
  | fn : FAt T t H (.ref T.f0) .fn
inductive FAll (T : Tab) (t : List Addr) (H : Hp) : List V → List C1 → Prop
  | nil : FAll T t H [] []
  | cons {v : V} {vs : List V} {c : C1} {cs : List C1} : FAt T t H v c → FAll T t H vs cs → FAll T t H (v :: vs) (c :: cs)
/-- what draws: its cells, the next one's number, what is left of a great one -/
def PenAt (T : Tab) (Hh H : Hp) (p : Addr) (n : Nat) : Prop := ∃ (c : Addr) (i r : Int), H p = some (.lst [.ref c, .int i, .int r]) ∧ Hh c = some (.lst (T.cs.map V.int)) ∧ 0 ≤ i ∧ i ≤ n ∧ 0 ≤ r
/-- the object at a; Hh: what is not hidden -/
def MAt (T : Tab) (t : List Addr) (Hh H : Hp) (a : Addr) : M → Prop
  | .l xs => ∃ vs, H a = some (.lst vs) ∧ AtAll T Hh vs xs
  | .m ks ds => (∃ kvs : List (Key × V), H a = some (.dK kvs) ∧ ks = (kvs.map fun p => kD p.1) ∧ AtAll T Hh (kvs.map (·.2)) ds) ∨
      ∃ kvs : List (List Key × V), H a = some (.dT kvs) ∧ ks = (kvs.map fun p => .tup (p.1.map kD)) ∧ AtAll T Hh (kvs.map (·.2)) ds
  | .i c ns fs => ∃ (dx : Addr) (gs : List (Str × V)), H a = some (.ins (T.ca c) dx gs) ∧ gs.map (·.1) = ns ∧ FAll T t Hh (gs.map (·.2)) fs
  | .pen n => PenAt T Hh H a n
  | .z d => At T Hh (.ref a) d
/-- all numbers of t stand for the same in t' -/
def Pre (t t' : List Addr) : Prop := ∀ (l : Nat) (a : Addr), t[l]? = some a → t'[l]? = some a
theorem Pre.refl (t : List Addr) : Pre t t := fun _ _ h => h
theorem Pre.trans {t t1 t2 : List Addr} (a : Pre t t1) (b : Pre t1 t2) : Pre t t2 := fun l x h => b l x (a l x h)
theorem Pre.snoc (t : List Addr) (p : Addr) : Pre t (t ++ [p]) := fun l a h => by
  rw [List.getElem?_append_left (List.getElem?_eq_some_iff.mp h).1]
  exact h
section
variable {T : Tab} {t t' : List Addr} {H H' Hh Hh' : Hp}
theorem FAt.mono {v : V} {c : C1} (x : Ex H H') (p : Pre t t') (h : FAt T t H v c) : FAt T t' H' v c := by
  cases h with
  | p h => exact .p (h.mono x)
  | r h => exact .r (p _ _ h)
  | fn => exact .fn
theorem FAll.mono (x : Ex H H') (p : Pre t t') : ∀ {vs : List V} {cs : List C1}, FAll T t H vs cs → FAll T t' H' vs cs
  | _, _, .nil => .nil
  | _, _, .cons a b => .cons (a.mono x p) (b.mono x p)
theorem FAll.length : ∀ {vs : List V} {cs : List C1}, FAll T t H vs cs → vs.length = cs.length
  | _, _, .nil => rfl
  | _, _, .cons _ b => congrArg Nat.succ b.length
theorem FAll.get : ∀ {vs : List V} {cs : List C1} {i : Nat} {c : C1}, FAll T t H vs cs → cs[i]? = some c → ∃ v, vs[i]? = some v ∧ FAt T t H v c
  | _, _, _, _, .nil, z => by cases z
  | _, _, 0, _, .cons r _, z => ⟨_, rfl, by cases z; exact r⟩
  | _, _, i + 1, d, .cons _ t, e => by
    obtain ⟨v, h1, h2⟩ := FAll.get (i := i) (c := d) t (by simpa using e)
    exact ⟨v, by simpa using h1, h2⟩
theorem FAll.set {v : V} {c : C1} (r : FAt T t H v c) : ∀ {vs : List V} {cs : List C1} (i : Nat), FAll T t H vs cs → FAll T t H (vs.set i v) (cs.set i c)
  | _, _, _, .nil => .nil
  | _, _, 0, .cons _ tl => .cons r tl
  | _, _, i + 1, .cons q t => .cons q (FAll.set r i t)
theorem FAll.append : ∀ {vs ws : List V} {ds es : List C1}, FAll T t H vs ds → FAll T t H ws es → FAll T t H (vs ++ ws) (ds ++ es)
  | _, _, _, _, .nil, s => s
  | _, _, _, _, .cons r t, s => .cons r (t.append s)
theorem FAll.of_at : ∀ {vs : List V} {ds : List D}, AtAll T H vs ds → FAll T t H vs (ds.map .p)
  | _, _, .nil => .nil
  | _, _, .cons a b => .cons (.p a) (FAll.of_at b)
theorem MAt.mono {a : Addr} {m : M} (x : Ex Hh Hh') (p : Pre t t') (k : m.live = true → ∀ o, H a = some o → H' a = some o) (h : MAt T t Hh H a m) : MAt T t' Hh' H' a m := by
  cases m with
  | l xs =>
    obtain ⟨vs, h1, h2⟩ := h
    exact ⟨vs, k rfl _ h1, h2.mono x⟩
  | m ks ds =>
    rcases h with ⟨kvs, h1, h2, h3⟩ | ⟨kvs, h1, h2, h3⟩
    · exact .inl ⟨kvs, k rfl _ h1, h2, h3.mono x⟩
    · exact .inr ⟨kvs, k rfl _ h1, h2, h3.mono x⟩
  | i c ns fs =>
    obtain ⟨dx, gs, h1, h2, h3⟩ := h
    exact ⟨dx, gs, k rfl _ h1, h2, h3.mono x p⟩
  | pen n =>
    obtain ⟨c, i, r, h1, h2, h3⟩ := h
    exact ⟨c, i, r, k rfl _ h1, x _ _ h2, h3⟩
  | z d => exact (show At T Hh (.ref a) d from h).mono x
/-- an object that may change is a list, a dict or an instance -/
def Mut (o : HO) : Prop := (∀ ps, o ≠ .tbl ps) ∧ ∀ c q, o ≠ CodeO c q
theorem mut_lst (vs : List V) : Mut (.lst vs) := ⟨fun _ z => (nomatch z), fun _ _ z => by unfold CodeO at z; cases z⟩
theorem mut_dK (kvs : List (Key × V)) : Mut (.dK kvs) := ⟨fun _ z => (nomatch z), fun _ _ z => by unfold CodeO at z; cases z⟩
theorem mut_dT (kvs : List (List Key × V)) : Mut (.dT kvs) := ⟨fun _ z => (nomatch z), fun _ _ z => by unfold CodeO at z; cases z⟩
theorem mut_ins (C dx : Addr) (gs : List (Str × V)) : Mut (.ins C dx gs) := ⟨fun _ z => (nomatch z), fun _ _ z => by unfold CodeO at z; cases z⟩
theorem MAt.mut {a : Addr} {m : M} (h : MAt T t Hh H a m) (l : m.live = true) : ∃ o, H a = some o ∧ Mut o := by
  cases m with
  | l xs =>
    obtain ⟨vs, h1, _⟩ := h
    exact ⟨_, h1, mut_lst _⟩
  | m ks ds =>
    rcases h with ⟨kvs, h1, _⟩ | ⟨kvs, h1, _⟩
    · exact ⟨_, h1, mut_dK _⟩
    · exact ⟨_, h1, mut_dT _⟩
  | i c ns fs =>
    obtain ⟨dx, gs, h1, _⟩ := h
    exact ⟨_, h1, mut_ins _ _ _⟩
  | pen n =>
    obtain ⟨c, i, r, h1, _⟩ := h
    exact ⟨_, h1, mut_lst _⟩
  | z d => cases l
/-- a table stays if its own object and all code objects stay -/
theorem tabS_keep {P : Addr} {q : Str} (h : TabS H P q) (k : ∀ o, H P = some o → H' P = some o) (c : ∀ b x, H b = some (CodeO b x) → H' b = some (CodeO b x)) : TabS H' P q := by
  obtain ⟨ps, h1, h2, h3⟩ := h
  refine ⟨ps, k _ h1, h2, fun pos cv hc => ?_⟩
  obtain ⟨b, e1, e2⟩ := h3 pos cv hc
  exact ⟨b, e1, c _ _ e2⟩
end

/-! ### environments -/
/-- the slots; the store; the first k of it are lent -/
structure En where
  s : List (Option C1)
  μ : List M
  k : Nat
/-- where all this lies: the addresses hidden, the store's ones -/
structure Wd where
  A : List Addr
  t : List Addr
/-- what is the entry's: the heap there, the addresses hidden there, those lent; the ends by exceptions: as the layer and as data have them -/
structure C0 where
  H0 : Hp
  A0 : List Addr
  Lt : List Addr
  XE : XK := C8.E0
  XD : D → List M → Prop := fun _ _ => False

/-- a is an object of the store that may change -/
def Own (t : List Addr) (μ : List M) (a : Addr) : Prop := ∃ (l : Nat) (m : M), t[l]? = some a ∧ μ[l]? = some m ∧ m.live = true

structure EnvOk (T : Tab) (C : C0) (W : Wd) (σ : L2.St) (H : Hp) (ρ : En) : Prop where
  ext : ∀ a o, C.H0 a = some o → a ∉ C.Lt → ¬ T.isT a → H a = some o
  sub : ∀ (a : Addr), a ∈ C.A0 → a ∈ W.A
  dom0 : ∀ a, a ∈ C.A0 → C.H0 a ≠ none
  dom : ∀ a, a ∈ W.A → H a ≠ none
  len : σ.length = ρ.s.length
  cell : ∀ (i : Nat) (c : C1), ρ.s[i]? = some (some c) → ∃ v, σ[i]? = some (some v) ∧ FAt T W.t (hide H W.A) v c
  tl : W.t.length = ρ.μ.length
  al : ∀ (l : Nat) (a : Addr), W.t[l]? = some a → H a ≠ none
  st : ∀ (l : Nat) (a : Addr) (m : M), W.t[l]? = some a → ρ.μ[l]? = some m → MAt T W.t (hide H W.A) H a m
  lv : ∀ (l : Nat) (a : Addr) (m : M), W.t[l]? = some a → ρ.μ[l]? = some m → m.live = true → a ∈ W.A ∧ ¬ T.isT a ∧ (C.Lt.length ≤ l → C.H0 a = none)
  inj : ∀ (l l' : Nat) (a : Addr), W.t[l]? = some a → W.t[l']? = some a → l = l'
  kk : ρ.k = C.Lt.length
  lent : ∀ (l : Nat) (a : Addr), C.Lt[l]? = some a → W.t[l]? = some a
  ll : ∀ (l : Nat) (m : M), l < C.Lt.length → ρ.μ[l]? = some m → m.live = true
  tab : ∀ q, q ∈ T.tb → q.1 ∈ W.A ∧ TabS H q.1 q.2
  nw : ∀ a, a ∈ W.A → a ∈ C.A0 ∨ C.H0 a = none

/-- what an expression may do: pure things stay, the store's objects may change or become data, new ones may come -/
structure Post (T : Tab) (C : C0) (W : Wd) (σ : L2.St) (H : Hp) (ρ : En) (W' : Wd) (H' : Hp) (ρ' : En) : Prop where
  ok : EnvOk T C W' σ H' ρ'
  le : ∀ a, a ∈ W'.A → a ∈ W.A ∨ H a = none
  gone : ∀ a, a ∈ W.A → H a ≠ none → a ∉ W'.A → Own W.t ρ.μ a
  keep : ∀ a o, H a = some o → ¬ Own W.t ρ.μ a → ¬ T.isT a → H' a = some o
  pre : Pre W.t W'.t
  new : ∀ (l : Nat) (a : Addr), W'.t[l]? = some a → W.t[l]? = some a ∨ H a = none
  own : ∀ (l : Nat) (a : Addr) (m : M), W.t[l]? = some a → ρ'.μ[l]? = some m → m.live = true → ∃ m', ρ.μ[l]? = some m' ∧ m'.live = true
  th : ∀ a, H' a = none → H a = none

section
variable {T : Tab} {C : C0} {W W1 W2 : Wd} {σ : L2.St} {H H1 H2 : Hp} {ρ ρ1 ρ2 : En}
theorem EnvOk.own_in (e : EnvOk T C W σ H ρ) {a : Addr} (h : Own W.t ρ.μ a) : a ∈ W.A ∧ ¬ T.isT a := by
  obtain ⟨l, m, h1, h2, h3⟩ := h
  exact ⟨(e.lv l a m h1 h2 h3).1, (e.lv l a m h1 h2 h3).2.1⟩
theorem EnvOk.not_own (e : EnvOk T C W σ H ρ) {a : Addr} (h : a ∉ W.A) : ¬ Own W.t ρ.μ a := fun z => h (e.own_in z).1
theorem EnvOk.not_tab (e : EnvOk T C W σ H ρ) {a : Addr} (h : a ∉ W.A) : ¬ T.isT a := fun ⟨q, z1, z2⟩ => h (z2 ▸ (e.tab q z1).1)
theorem EnvOk.tab_ne (e : EnvOk T C W σ H ρ) {a : Addr} (h : H a = none) : ¬ T.isT a := fun ⟨q, z1, z2⟩ => e.dom a (z2 ▸ (e.tab q z1).1) h
theorem Post.refl (e : EnvOk T C W σ H ρ) : Post T C W σ H ρ W H ρ :=
  ⟨e, fun _ h => .inl h, fun _ h _ z => absurd h z, fun _ _ h _ _ => h, Pre.refl _, fun _ _ h => .inl h, fun _ _ m _ h2 h3 => ⟨m, h2, h3⟩, fun _ h => h⟩
/-- pure things stay -/
theorem Post.ex (e : EnvOk T C W σ H ρ) (p : Post T C W σ H ρ W1 H1 ρ1) : Ex (hide H W.A) (hide H1 W1.A) := fun a o h => by
  obtain ⟨m, h⟩ := hide_some h
  have m1 : a ∉ W1.A := fun z => by
    rcases p.le a z with z | z
    · exact m z
    · rw [h] at z
      cases z
  rw [hide_ne m1]
  exact p.keep a o h (e.not_own m) (e.not_tab m)
theorem Post.own_back (p : Post T C W σ H ρ W1 H1 ρ1) {a : Addr} (h : Own W1.t ρ1.μ a) : Own W.t ρ.μ a ∨ H a = none := by
  obtain ⟨l, m, h1, h2, h3⟩ := h
  rcases p.new l a h1 with z | z
  · obtain ⟨m', g1, g2⟩ := p.own l a m z h2 h3
    exact .inl ⟨l, m', z, g1, g2⟩
  · exact .inr z
theorem Post.trans (p : Post T C W σ H ρ W1 H1 ρ1) (q : Post T C W1 σ H1 ρ1 W2 H2 ρ2) : Post T C W σ H ρ W2 H2 ρ2 where
  ok := q.ok
  le := fun a h => (q.le a h).elim (p.le a) fun z => .inr (p.th a z)
  gone := fun a h n0 n => by
    by_cases m : a ∈ W1.A
    · exact (p.own_back (q.gone a m (fun z => n0 (p.th a z)) n)).elim id fun z => absurd z n0
    · exact p.gone a h n0 m
  keep := fun a o h n nt => by
    refine q.keep a o (p.keep a o h n nt) (fun z => ?_) nt
    rcases p.own_back z with z | z
    · exact n z
    · rw [h] at z
      cases z
  pre := p.pre.trans q.pre
  new := fun l a h => (q.new l a h).elim (p.new l a) fun z => .inr (p.th a z)
  own := fun l a m h1 h2 h3 => by
    obtain ⟨m', g1, g2⟩ := q.own l a m (p.pre l a h1) h2 h3
    exact p.own l a m' h1 g1 g2
  th := fun a h => p.th a (q.th a h)
end
section
variable {T : Tab} {C : C0} {W W1 W2 : Wd} {σ : L2.St} {H H1 H2 : Hp} {ρ ρ1 ρ2 : En}
theorem EnvOk.new0 (e : EnvOk T C W σ H ρ) {a : Addr} (h : H a = none) : a ∉ W.A ∧ ¬ T.isT a ∧ (∀ l : Nat, W.t[l]? ≠ some a) ∧ C.H0 a = none ∧ a ∉ C.Lt := by
  have nt := e.tab_ne h
  have nl : ∀ l : Nat, W.t[l]? ≠ some a := fun l z => e.al l a z h
  have nL : a ∉ C.Lt := fun z => by
    obtain ⟨l, hl⟩ := List.mem_iff_getElem?.mp z
    exact nl l (e.lent l a hl)
  refine ⟨fun z => e.dom a z h, nt, nl, ?_, nL⟩
  cases q : C.H0 a with
  | none => rfl
  | some o =>
    rw [e.ext a o q nL nt] at h
    cases h
/-- the heap changes elsewhere: what is hidden may be more, all of it new -/
theorem EnvOk.more (e : EnvOk T C W σ H ρ) {A1 : List Addr} (x : Ex H H1) (s : ∀ a, a ∈ W.A → a ∈ A1) (n : ∀ a, a ∈ A1 → a ∈ W.A ∨ H a = none) (d : ∀ a, a ∈ A1 → H1 a ≠ none) : EnvOk T C ⟨A1, W.t⟩ σ H1 ρ := by
  have x1 : Ex (hide H W.A) (hide H1 A1) := fun a o h => by
    obtain ⟨m, h⟩ := hide_some h
    rw [hide_ne fun z => (n a z).elim m fun q => by rw [h] at q; cases q]
    exact x a o h
  refine ⟨fun a o h n t => x a o (e.ext a o h n t), fun a h => s a (e.sub a h), e.dom0, d, e.len, fun i c h => ?_, e.tl, fun l a h z => e.al l a h (x.free z), fun l a m h1 h2 => (e.st l a m h1 h2).mono x1 (Pre.refl _) fun _ => x a,
    fun l a m h1 h2 h3 => ?_, e.inj, e.kk, e.lent, e.ll, fun q hq => ⟨s _ (e.tab q hq).1, tabS_keep (e.tab q hq).2 (fun o => x _ o) fun b y z => x _ _ z⟩, fun a h => (n a h).elim (e.nw a) fun z => .inr (e.new0 z).2.2.2.1⟩
  · obtain ⟨v, h1, h2⟩ := e.cell i c h
    exact ⟨v, h1, h2.mono x1 (Pre.refl _)⟩
  · obtain ⟨g1, g2⟩ := e.lv l a m h1 h2 h3
    exact ⟨s a g1, g2⟩
theorem EnvOk.post_more (e : EnvOk T C W σ H ρ) {A1 : List Addr} (x : Ex H H1) (s : ∀ a, a ∈ W.A → a ∈ A1) (n : ∀ a, a ∈ A1 → a ∈ W.A ∨ H a = none) (d : ∀ a, a ∈ A1 → H1 a ≠ none) : Post T C W σ H ρ ⟨A1, W.t⟩ H1 ρ :=
  ⟨e.more x s n d, n, fun a h _ z => absurd (s a h) z, fun a o h _ _ => x a o h, Pre.refl _, fun _ _ h => .inl h, fun _ _ m _ h2 h3 => ⟨m, h2, h3⟩, fun _ h => x.free h⟩
theorem EnvOk.mono (e : EnvOk T C W σ H ρ) (x : Ex H H1) : EnvOk T C W σ H1 ρ := e.more x (fun _ h => h) (fun _ h => .inl h) fun a h z => e.dom a h (x.free z)
theorem EnvOk.post_ex (e : EnvOk T C W σ H ρ) (x : Ex H H1) : Post T C W σ H ρ W H1 ρ := e.post_more x (fun _ h => h) (fun _ h => .inl h) fun a h z => e.dom a h (x.free z)
/-! ### slots -/
def En.set (ρ : En) (i : Nat) (c : C1) : En := { ρ with s := ρ.s.set i (some c) }
theorem EnvOk.setC (e : EnvOk T C W σ H ρ) {i : Nat} {v : V} {c : C1} (h : FAt T W.t (hide H W.A) v c) : EnvOk T C W (σ.set i (some v)) H (ρ.set i c) := by
  refine ⟨e.ext, e.sub, e.dom0, e.dom, by simpa [En.set] using e.len, fun j c' hj => ?_, e.tl, e.al, e.st, e.lv, e.inj, e.kk, e.lent, e.ll, e.tab, e.nw⟩
  have hj : (ρ.s.set i (some c))[j]? = some (some c') := hj
  by_cases q : j = i
  · subst q
    have l : j < ρ.s.length := by
      have := (List.getElem?_eq_some_iff.mp hj).1
      simpa using this
    rw [List.getElem?_set_self l] at hj
    cases hj
    exact ⟨v, List.getElem?_set_self (by rw [e.len]; exact l), h⟩
  · rw [List.getElem?_set_ne (Ne.symm q)] at hj
    rw [List.getElem?_set_ne (Ne.symm q)]
    exact e.cell j c' hj
/-! ### the store -/
/-- a further object -/
def En.add (ρ : En) (m : M) : En := { ρ with μ := ρ.μ ++ [m] }
theorem EnvOk.alloc (e : EnvOk T C W σ H ρ) {p : Addr} {m : M} (hm : MAt T W.t (hide H W.A) H p m) (hl : m.live = true) (hA : p ∈ W.A) (h0 : C.H0 p = none) (nl : ∀ l : Nat, W.t[l]? ≠ some p) (nt : ¬ T.isT p) :
    EnvOk T C ⟨W.A, W.t ++ [p]⟩ σ H (ρ.add m) ∧ (W.t ++ [p])[ρ.μ.length]? = some p := by
  have key : ∀ (l : Nat) (a : Addr), (W.t ++ [p])[l]? = some a → (l < W.t.length ∧ W.t[l]? = some a) ∨ (l = W.t.length ∧ a = p) := fun l a h => by
    by_cases q : l < W.t.length
    · rw [List.getElem?_append_left q] at h
      exact .inl ⟨q, h⟩
    · have hl := (List.getElem?_eq_some_iff.mp h).1
      rw [List.length_append, List.length_singleton] at hl; have hl : l = W.t.length := by omega
      subst hl
      rw [List.getElem?_append_right (Nat.le_refl _), Nat.sub_self] at h
      cases h
      exact .inr ⟨rfl, rfl⟩
  have keym : ∀ (l : Nat) (x : M), (ρ.μ ++ [m])[l]? = some x → l < W.t.length → ρ.μ[l]? = some x := fun l x h q => by
    rw [List.getElem?_append_left (by rw [← e.tl]; exact q)] at h
    exact h
  have lastm : ∀ x : M, (ρ.μ ++ [m])[W.t.length]? = some x → x = m := fun x h => by
    rw [e.tl, List.getElem?_append_right (Nat.le_refl _), Nat.sub_self] at h
    cases h
    rfl
  have hp : (W.t ++ [p])[ρ.μ.length]? = some p := by
    rw [← e.tl, List.getElem?_append_right (Nat.le_refl _), Nat.sub_self]
    rfl
  have kl : C.Lt.length ≤ W.t.length := by
    by_cases q : C.Lt.length = 0
    · omega
    · have h1 : C.Lt[C.Lt.length - 1]? = some (C.Lt[C.Lt.length - 1]'(by omega)) := List.getElem?_eq_getElem (by omega)
      have := (List.getElem?_eq_some_iff.mp (e.lent _ _ h1)).1
      omega
  refine ⟨⟨e.ext, e.sub, e.dom0, e.dom, e.len, fun i c h => ?_, ?_, fun l a h => ?_, fun l a x h1 h2 => ?_, fun l a x h1 h2 h3 => ?_, fun l l' a h1 h2 => ?_, e.kk, fun l a h => Pre.snoc _ _ _ _ (e.lent l a h), fun l x h1 h2 => e.ll l x h1 (keym l x h2 (by omega)), e.tab, e.nw⟩, hp⟩
  · obtain ⟨v, h1, h2⟩ := e.cell i c h
    exact ⟨v, h1, h2.mono (Ex.refl _) (Pre.snoc _ _)⟩
  · show (W.t ++ [p]).length = (ρ.μ ++ [m]).length
    rw [List.length_append, List.length_append, e.tl]
    rfl
  · rcases key l a h with ⟨_, g⟩ | ⟨_, g⟩
    · exact e.al l a g
    · rw [g]
      exact e.dom p hA
  · rcases key l a h1 with ⟨q, g⟩ | ⟨q, g⟩
    · exact (e.st l a x g (keym l x h2 q)).mono (Ex.refl _) (Pre.snoc _ _) fun _ o z => z
    · subst q g
      rw [lastm x h2]
      exact hm.mono (Ex.refl _) (Pre.snoc _ _) fun _ o z => z
  · rcases key l a h1 with ⟨q, g⟩ | ⟨q, g⟩
    · exact e.lv l a x g (keym l x h2 q) h3
    · subst g
      exact ⟨hA, nt, fun _ => h0⟩
  · rcases key l a h1 with ⟨q, g⟩ | ⟨q, g⟩
    · rcases key l' a h2 with ⟨q', g'⟩ | ⟨q', g'⟩
      · exact e.inj l l' a g g'
      · exact absurd g (by rw [g']; exact nl l)
    · rcases key l' a h2 with ⟨q', g'⟩ | ⟨q', g'⟩
      · exact absurd g' (by rw [g]; exact nl l')
      · rw [q, q']
/-- the object l is another one now -/
def En.put (ρ : En) (l : Nat) (m : M) : En := { ρ with μ := ρ.μ.set l m }
theorem put_get {μ : List M} {l j : Nat} {m x : M} (h : (μ.set l m)[j]? = some x) : (j = l ∧ x = m) ∨ (j ≠ l ∧ μ[j]? = some x) := by
  by_cases q : j = l
  · subst q
    have hl : j < μ.length := by
      have := (List.getElem?_eq_some_iff.mp h).1
      simpa using this
    rw [List.getElem?_set_self hl] at h
    cases h
    exact .inl ⟨rfl, rfl⟩
  · rw [List.getElem?_set_ne (Ne.symm q)] at h
    exact .inr ⟨q, h⟩
theorem EnvOk.upd (e : EnvOk T C W σ H ρ) {l : Nat} {a : Addr} {m m' : M} {o : HO} (hl : W.t[l]? = some a) (hm : ρ.μ[l]? = some m) (lv : m.live = true) (lv' : m'.live = true) (h : MAt T W.t (hide H W.A) (L2.upd H a o) a m') :
    Post T C W σ H ρ W (L2.upd H a o) (ρ.put l m') := by
  obtain ⟨aA, aT, a0⟩ := e.lv l a m hl hm lv
  have ow : Own W.t ρ.μ a := ⟨l, m, hl, hm, lv⟩
  have hh : hide (L2.upd H a o) W.A = hide H W.A := hide_upd aA
  obtain ⟨o0, ho0, mu⟩ := (e.st l a m hl hm).mut lv
  have nf : ∀ b, H b ≠ none → L2.upd H a o b ≠ none := fun b n z => by
    by_cases y : b = a
    · rw [y, upd_same] at z
      cases z
    · rw [upd_ne y] at z
      exact n z
  have nC : ∀ b x, H b = some (CodeO b x) → L2.upd H a o b = some (CodeO b x) := fun b x z => by
    rw [upd_ne (show b ≠ a from fun y => by rw [y, ho0] at z; exact mu.2 _ _ (Option.some.inj z))]
    exact z
  refine ⟨⟨fun b ob z n t => ?_, e.sub, e.dom0, fun b z => nf b (e.dom b z), e.len, fun i c z => ?_, ?_, fun j b z => nf b (e.al j b z), fun j b x z1 z2 => ?_, fun j b x z1 z2 z3 => ?_, e.inj, e.kk, e.lent, fun j x z1 z2 => ?_, fun q hq => ?_, e.nw⟩, fun b z => .inl z, fun b z _ n => absurd z n, fun b ob z n _ => ?_, Pre.refl _, fun j b z => .inl z, fun j b x z1 z2 z3 => ?_, fun b z => ?_⟩
  · rw [upd_ne (show b ≠ a from fun y => ?_)]
    · exact e.ext b ob z n t
    · subst y
      by_cases q : C.Lt.length ≤ l
      · rw [a0 q] at z
        cases z
      · have q : l < C.Lt.length := by omega
        have h1 : C.Lt[l]? = some (C.Lt[l]'q) := List.getElem?_eq_getElem q
        have h2 := e.lent l _ h1
        rw [hl] at h2
        cases h2
        exact n (List.getElem_mem q)
  · obtain ⟨v, h1, h2⟩ := e.cell i c z
    exact ⟨v, h1, by rw [hh]; exact h2⟩
  · show W.t.length = (ρ.μ.set l m').length
    rw [List.length_set]
    exact e.tl
  · rw [hh]
    rcases put_get z2 with ⟨y1, y2⟩ | ⟨y1, y2⟩
    · subst y1 y2
      rw [hl] at z1
      cases z1
      exact h
    · exact (e.st j b x z1 y2).mono (Ex.refl _) (Pre.refl _) fun _ ob g => by
        rw [upd_ne (show b ≠ a from fun w => y1 (e.inj j l b z1 (w ▸ hl)))]
        exact g
  · rcases put_get z2 with ⟨y1, y2⟩ | ⟨y1, y2⟩
    · subst y1
      rw [hl] at z1
      cases z1
      exact ⟨aA, aT, a0⟩
    · exact e.lv j b x z1 y2 z3
  · rcases put_get z2 with ⟨y1, y2⟩ | ⟨y1, y2⟩
    · rw [y2]
      exact lv'
    · exact e.ll j x z1 y2
  · refine ⟨(e.tab q hq).1, tabS_keep (e.tab q hq).2 (fun ob z => ?_) nC⟩
    rw [upd_ne (show q.1 ≠ a from fun y => aT ⟨q, hq, y⟩)]
    exact z
  · rw [upd_ne (show b ≠ a from fun y => n (y ▸ ow))]
    exact z
  · rcases put_get z2 with ⟨y1, y2⟩ | ⟨y1, y2⟩
    · subst y1
      exact ⟨m, hm, lv⟩
    · exact ⟨x, y2, z3⟩
  · exact Classical.byContradiction fun y => nf b y z
/-- what it is as data -/
def fs1 : List C1 → Option (List D)
  | [] => some []
  | .p d :: cs => (fs1 cs).map (d :: ·)
  | .r _ :: _ => none
  | .fn :: _ => none
def frz : M → Option D
  | .l xs => some (.lst xs)
  | .m ks vs => some (.dct ks vs)
  | .i c ns fs => (fs1 fs).map (.ins c ns)
  | .pen _ => none
  | .z d => some d
theorem fs1_at {t : List Addr} {H : Hp} : ∀ {vs : List V} {cs : List C1} {ds : List D}, FAll T t H vs cs → fs1 cs = some ds → AtAll T H vs ds
  | _, _, _, .nil, e => by cases e; exact .nil
  | _, _, _, .cons (.r h) b, e => by cases e
  | _, _, _, .cons .fn b, e => by cases e
  | _, _, _, @FAll.cons _ _ _ _ _ _ cs (.p (d := d) h) b, e => by
    have e : (fs1 cs).map (d :: ·) = some _ := e
    cases q : fs1 cs with
    | none =>
      rw [q] at e
      cases e
    | some es =>
      rw [q] at e
      cases e
      exact .cons h (fs1_at b q)
/-- the object, no more hidden -/
theorem frz_at {t : List Addr} {A : List Addr} {a : Addr} {m : M} {d : D} (h : MAt T t (hide H A) H a m) (ha : a ∈ A) (e : frz m = some d) : At T (hide H (unh A a)) (.ref a) d := by
  have x1 : Ex (hide H A) (hide H (unh A a)) := ex_hide_le fun b h => (mem_unh.mp h).1
  have nh : ∀ o, H a = some o → hide H (unh A a) a = some o := fun o z => by
    rw [hide_ne fun y => (mem_unh.mp y).2 rfl]
    exact z
  cases m with
  | l xs =>
    obtain ⟨vs, h1, h2⟩ := h
    cases e
    exact .lst (nh _ h1) (h2.mono x1)
  | m ks ds =>
    cases e
    rcases h with ⟨kvs, h1, h2, h3⟩ | ⟨kvs, h1, h2, h3⟩
    · rw [h2]
      exact .dK (nh _ h1) (h3.mono x1)
    · rw [h2]
      exact .dT (nh _ h1) (h3.mono x1)
  | i c ns fs =>
    obtain ⟨dx, gs, h1, h2, h3⟩ := h
    have e : (fs1 fs).map (.ins c ns) = some d := e
    cases q : fs1 fs with
    | none =>
      rw [q] at e
      cases e
    | some es =>
      rw [q] at e
      cases e
      rw [← h2]
      exact .ins (nh _ h1) ((fs1_at h3 q).mono x1)
  | pen n => cases e
  | z d' =>
    cases e
    exact (show At T (hide H A) (.ref a) d from h).mono x1
/-- from now on it is data -/
theorem EnvOk.freeze (e : EnvOk T C W σ H ρ) {l : Nat} {a : Addr} {m : M} {d : D} (hl : W.t[l]? = some a) (hm : ρ.μ[l]? = some m) (lv : m.live = true) (hk : C.Lt.length ≤ l) (hd : frz m = some d) :
    Post T C W σ H ρ ⟨unh W.A a, W.t⟩ H (ρ.put l (.z d)) ∧ At T (hide H (unh W.A a)) (.ref a) d := by
  obtain ⟨aA, aT, a0⟩ := e.lv l a m hl hm lv
  have a0 := a0 hk
  have x1 : Ex (hide H W.A) (hide H (unh W.A a)) := ex_hide_le fun b h => (mem_unh.mp h).1
  have at1 := frz_at (e.st l a m hl hm) aA hd
  refine ⟨⟨⟨e.ext, fun b z => mem_unh.mpr ⟨e.sub b z, fun q => e.dom0 b z (q ▸ a0)⟩, e.dom0, fun b z => e.dom b (mem_unh.mp z).1, e.len, fun i c z => ?_, ?_, e.al, fun j b x z1 z2 => ?_, fun j b x z1 z2 z3 => ?_, e.inj, e.kk, e.lent, fun j x z1 z2 => ?_, fun q hq => ?_, fun b z => e.nw b (mem_unh.mp z).1⟩, fun b z => .inl (mem_unh.mp z).1, fun b z1 _ z2 => ?_, fun _ _ z _ _ => z, Pre.refl _, fun j b z => .inl z, fun j b x z1 z2 z3 => ?_, fun _ z => z⟩, at1⟩
  · obtain ⟨v, h1, h2⟩ := e.cell i c z
    exact ⟨v, h1, h2.mono x1 (Pre.refl _)⟩
  · show W.t.length = (ρ.μ.set l (.z d)).length
    rw [List.length_set]
    exact e.tl
  · rcases put_get z2 with ⟨y1, y2⟩ | ⟨y1, y2⟩
    · subst y1 y2
      have z1 : W.t[j]? = some b := z1
      rw [hl] at z1
      cases z1
      exact at1
    · exact (e.st j b x z1 y2).mono x1 (Pre.refl _) fun _ ob g => g
  · rcases put_get z2 with ⟨y1, y2⟩ | ⟨y1, y2⟩
    · subst y2
      cases z3
    · obtain ⟨g1, g2⟩ := e.lv j b x z1 y2 z3
      exact ⟨mem_unh.mpr ⟨g1, fun w => y1 (e.inj j l b z1 (w ▸ hl))⟩, g2⟩
  · rcases put_get z2 with ⟨y1, y2⟩ | ⟨y1, y2⟩
    · omega
    · exact e.ll j x z1 y2
  · exact ⟨mem_unh.mpr ⟨(e.tab q hq).1, fun y => aT ⟨q, hq, y⟩⟩, (e.tab q hq).2⟩
  · have : b = a := Classical.byContradiction fun q => z2 (mem_unh.mpr ⟨z1, q⟩)
    subst this
    exact ⟨l, m, hl, hm, lv⟩
  · rcases put_get z2 with ⟨y1, y2⟩ | ⟨y1, y2⟩
    · subst y2
      cases z3
    · exact ⟨x, y2, z3⟩
end
end Sd

set_option maxHeartbeats 1000000
/-! S1: expressions, tests and argument lists as transformers of data. -/
namespace Sd
open PySem PySem.Spec PyProof.Rows L2 LamX

/-- a result: data; an object of the store; a new object that nobody else holds -/
inductive RV where
  | d (x : D)
  | r (l : Nat)
  | n (m : M)

/-- Hs: the heap where the expression began -/
inductive RvOk (T : Tab) (C : C0) (Hs : Hp) (W : Wd) (H : Hp) : V → RV → Prop
  | d {v : V} {x : D} : At T (hide H W.A) v x → RvOk T C Hs W H v (.d x)
  | r {a : Addr} {l : Nat} : W.t[l]? = some a → RvOk T C Hs W H (.ref a) (.r l)
  | n {p : Addr} {m : M} : MAt T [] (hide H W.A) H p m → m.live = true → p ∈ W.A → Hs p = none → C.H0 p = none → ¬ T.isT p → (∀ l : Nat, W.t[l]? ≠ some p) → RvOk T C Hs W H (.ref p) (.n m)

def rdO : Option M → (D → Prop) → Prop
  | some m, k => (match frz m with
    | some d => k d
    | none => False)
  | none, _ => False
/-- read, its content at hand: k is told the data -/
def rd : RV → En → (D → Prop) → Prop
  | .d x, _, k => k x
  | .n m, _, k => rdO (some m) k
  | .r l, ρ, k => rdO ρ.μ[l]? k
def escO (l : Nat) (ρ : En) (k : D → En → Prop) : Option M → Prop
  | some m => (match m.live, frz m with
    | false, some d => k d ρ
    | true, some d => Nat.ble ρ.k l = true ∧ k d (ρ.put l (.z d))
    | _, none => False)
  | none => False
/-- handed on: an object that is held alone is data from now on -/
def esc : RV → En → (D → En → Prop) → Prop
  | .d x, ρ, k => k x ρ
  | .n m, ρ, k => rdO (some m) fun x => k x ρ
  | .r l, ρ, k => escO l ρ k ρ.μ[l]?

/-- v bears x, its own object perhaps hidden -/
inductive Sh (T : Tab) (H : Hp) (A : List Addr) : V → D → Prop
  | pure {v : V} {x : D} : At T (hide H A) v x → Sh T H A v x
  | lst {a : Addr} {vs : List V} {xs : List D} : H a = some (.lst vs) → AtAll T (hide H A) vs xs → Sh T H A (.ref a) (.lst xs)
  | dK {a : Addr} {kvs : List (Key × V)} {ds : List D} : H a = some (.dK kvs) → AtAll T (hide H A) (kvs.map (·.2)) ds → Sh T H A (.ref a) (.dct (kvs.map fun p => kD p.1) ds)
  | dT {a : Addr} {kvs : List (List Key × V)} {ds : List D} : H a = some (.dT kvs) → AtAll T (hide H A) (kvs.map (·.2)) ds → Sh T H A (.ref a) (.dct (kvs.map fun p => .tup (p.1.map kD)) ds)
  | ins {a dx : Addr} {c : Str} {fs : List (Str × V)} {ds : List D} : H a = some (.ins (T.ca c) dx fs) → AtAll T (hide H A) (fs.map (·.2)) ds → Sh T H A (.ref a) (.ins c (fs.map (·.1)) ds)
inductive ShAll (T : Tab) (H : Hp) (A : List Addr) : List V → List D → Prop
  | nil : ShAll T H A [] []
  | cons {v : V} {x : D} {vs : List V} {xs : List D} : Sh T H A v x → ShAll T H A vs xs → ShAll T H A (v :: vs) (x :: xs)

section
variable {T : Tab} {C : C0} {W W1 W2 : Wd} {A : List Addr} {σ : L2.St} {Hs H H1 H2 : Hp} {ρ ρ1 ρ2 : En} {v : V} {r : RV}
theorem Sh.full {x : D} (h : Sh T H A v x) : At T H v x := by
  cases h with
  | pure h => exact h.mono (ex_hide H A)
  | lst h1 h2 => exact .lst h1 (h2.mono (ex_hide H A))
  | dK h1 h2 => exact .dK h1 (h2.mono (ex_hide H A))
  | dT h1 h2 => exact .dT h1 (h2.mono (ex_hide H A))
  | ins h1 h2 => exact .ins h1 (h2.mono (ex_hide H A))
theorem Sh.of_mat {t : List Addr} {a : Addr} {m : M} {x : D} (h : MAt T t (hide H A) H a m) (e : frz m = some x) : Sh T H A (.ref a) x := by
  cases m with
  | l xs =>
    obtain ⟨vs, h1, h2⟩ := h
    cases e
    exact .lst h1 h2
  | m ks ds =>
    cases e
    rcases h with ⟨kvs, h1, h2, h3⟩ | ⟨kvs, h1, h2, h3⟩
    · rw [h2]
      exact .dK h1 h3
    · rw [h2]
      exact .dT h1 h3
  | i c ns fs =>
    obtain ⟨dx, gs, h1, h2, h3⟩ := h
    have e : (fs1 fs).map (.ins c ns) = some x := e
    cases q : fs1 fs with
    | none =>
      rw [q] at e
      cases e
    | some es =>
      rw [q] at e
      cases e
      rw [← h2]
      exact .ins h1 (fs1_at h3 q)
  | pen n => cases e
  | z d' =>
    cases e
    exact .pure h
theorem Sh.lst' {xs : List D} (h : Sh T H A v (.lst xs)) : ∃ a vs, v = .ref a ∧ H a = some (.lst vs) ∧ AtAll T (hide H A) vs xs := by
  cases h with
  | pure h =>
    cases h with
    | lst s t => exact ⟨_, _, rfl, ex_hide H A _ _ s, t⟩
  | lst h1 h2 => exact ⟨_, _, rfl, h1, h2⟩
/-- nothing that may be hidden itself -/
def boxed : D → Bool
  | .lst _ => true
  | .dct _ _ => true
  | .ins _ _ _ => true
  | _ => false
theorem Sh.plain {x : D} (h : Sh T H A v x) (n : boxed x = false) : At T (hide H A) v x := by
  cases h with
  | pure h => exact h
  | _ => cases n
theorem RvOk.post (e : EnvOk T C W σ H ρ) (p : Post T C W σ H ρ W1 H1 ρ1) (h : RvOk T C Hs W H v r) : RvOk T C Hs W1 H1 v r := by
  cases h with
  | d h => exact .d (h.mono (p.ex e))
  | r h => exact .r (p.pre _ _ h)
  | @n a m h1 h2 h3 hs h4 h5 h6 =>
    have no : ¬ Own W.t ρ.μ a := fun ⟨l, _, z, _⟩ => h6 l z
    refine .n (h1.mono (p.ex e) (Pre.refl _) fun _ o z => p.keep a o z no h5) h2 (Classical.byContradiction fun q => no (p.gone a h3 (e.dom a h3) q)) hs h4 h5 fun l z => ?_
    rcases p.new l a z with y | y
    · exact h6 l y
    · exact e.dom a h3 y
theorem RvOk.back (p : Post T C W σ H ρ W1 H1 ρ1) (h : RvOk T C H1 W2 H2 v r) : RvOk T C H W2 H2 v r := by
  cases h with
  | d h => exact .d h
  | r h => exact .r h
  | n h1 h2 h3 hs h4 h5 h6 => exact .n h1 h2 h3 (p.th _ hs) h4 h5 h6
theorem rdO_ok {o : Option M} {k : D → Prop} (q : rdO o k) : ∃ m x, o = some m ∧ frz m = some x ∧ k x := by
  cases o with
  | none => exact q.elim
  | some m =>
    have q : (match frz m with
      | some d => k d
      | none => False) := q
    cases z : frz m with
    | none => rw [z] at q; exact q.elim
    | some d =>
      rw [z] at q
      exact ⟨m, d, rfl, z, q⟩
theorem rd_ok {k : D → Prop} (e : EnvOk T C W σ H ρ) (h : RvOk T C Hs W H v r) (q : rd r ρ k) : ∃ x, Sh T H W.A v x ∧ k x := by
  cases h with
  | d h => exact ⟨_, .pure h, q⟩
  | @n p m0 h1 h2 h3 hs h4 h5 h6 =>
    obtain ⟨m, x, z, z1, z2⟩ := rdO_ok (show rdO (some m0) k from q)
    cases z
    exact ⟨x, .of_mat h1 z1, z2⟩
  | @r a l h =>
    obtain ⟨m, x, z, z1, z2⟩ := rdO_ok (show rdO ρ.μ[l]? k from q)
    exact ⟨x, .of_mat (e.st l a m h z) z1, z2⟩
theorem esc_ok {k : D → En → Prop} (e : EnvOk T C W σ H ρ) (P : Post T C W σ H ρ W1 H1 ρ1) (h : RvOk T C H W1 H1 v r) (q : esc r ρ1 k) : ∃ W' x ρ', Post T C W σ H ρ W' H1 ρ' ∧ At T (hide H1 W'.A) v x ∧ k x ρ' := by
  cases h with
  | d h => exact ⟨_, _, _, P, h, q⟩
  | @n p m h1 h2 h3 hs h4 h5 h6 =>
    obtain ⟨m', x, z, z1, z2⟩ := rdO_ok (show rdO (some m) (fun x => k x ρ1) from q)
    cases z
    have x1 : Ex (hide H1 W1.A) (hide H1 (unh W1.A p)) := ex_hide_le fun b h => (mem_unh.mp h).1
    have e1 := P.ok
    refine ⟨⟨unh W1.A p, W1.t⟩, x, ρ1, ⟨⟨e1.ext, fun b z => mem_unh.mpr ⟨e1.sub b z, fun q => e1.dom0 b z (q ▸ h4)⟩, e1.dom0, fun b z => e1.dom b (mem_unh.mp z).1, e1.len, fun i c z => ?_, e1.tl, e1.al, fun j b y z1 z2 => ?_, fun j b y w1 w2 w3 => ?_, e1.inj, e1.kk, e1.lent, e1.ll, fun q hq => ?_, fun b z => e1.nw b (mem_unh.mp z).1⟩,
      fun a h => P.le a (mem_unh.mp h).1, fun a z1 z2 z3 => ?_, P.keep, P.pre, P.new, P.own, P.th⟩, frz_at h1 h3 z1, z2⟩
    · obtain ⟨v, w1, w2⟩ := e1.cell i c z
      exact ⟨v, w1, w2.mono x1 (Pre.refl _)⟩
    · exact (e1.st j b y z1 z2).mono x1 (Pre.refl _) fun _ ob g => g
    · obtain ⟨g1, g2⟩ := e1.lv j b y w1 w2 w3
      exact ⟨mem_unh.mpr ⟨g1, fun w => h6 j (w ▸ w1)⟩, g2⟩
    · exact ⟨mem_unh.mpr ⟨(e1.tab q hq).1, fun y => h5 ⟨q, hq, y⟩⟩, (e1.tab q hq).2⟩
    · refine P.gone a z1 z2 fun m => z3 (mem_unh.mpr ⟨m, fun y => ?_⟩)
      subst y
      exact z2 hs
  | @r a l h =>
    have q : escO l ρ1 k ρ1.μ[l]? := q
    cases hc : ρ1.μ[l]? with
    | none => rw [hc] at q; exact q.elim
    | some m =>
      rw [hc] at q
      unfold escO at q
      dsimp only at q
      cases z1 : m.live with
      | false =>
        cases z2 : frz m with
        | none => rw [z1, z2] at q; exact q.elim
        | some d =>
          rw [z1, z2] at q
          have hm := P.ok.st l a m h hc
          cases m with
          | z d' =>
            cases z2
            exact ⟨_, _, _, P, hm, q⟩
          | _ => cases z1
      | true =>
        cases z2 : frz m with
        | none => rw [z1, z2] at q; exact q.elim
        | some d =>
          rw [z1, z2] at q
          have hk : C.Lt.length ≤ l := by
            rw [← P.ok.kk]
            exact Nat.le_of_ble_eq_true q.1
          obtain ⟨P1, P2⟩ := P.ok.freeze h hc z1 hk z2
          exact ⟨_, _, _, P.trans P1, P2, q.2⟩
theorem Sh.post {x : D} (x1 : Ex H H1) (h : Sh T H A v x) : Sh T H1 A v x := by
  cases h with
  | pure h => exact .pure (h.mono (ex_hide_ex x1))
  | lst h1 h2 => exact .lst (x1 _ _ h1) (h2.mono (ex_hide_ex x1))
  | dK h1 h2 => exact .dK (x1 _ _ h1) (h2.mono (ex_hide_ex x1))
  | dT h1 h2 => exact .dT (x1 _ _ h1) (h2.mono (ex_hide_ex x1))
  | ins h1 h2 => exact .ins (x1 _ _ h1) (h2.mono (ex_hide_ex x1))
end

/-! ### judgements -/
abbrev WE := En → (RV → En → Prop) → Prop
abbrev WT := En → (Bool → En → Prop) → Prop
/-- arguments: handed on as data -/
abbrev WA := En → (List D → En → Prop) → Prop
/-- arguments: read -/
abbrev WR := En → (List RV → En → Prop) → Prop
/-- arguments of a call: data, or objects of the store -/
abbrev WC := En → (List C1 → En → Prop) → Prop
def Pe (T : Tab) (C : C0) (te : TE) (w : WE) : Prop := ∀ (W : Wd) (σ : L2.St) (H : Hp) (ρ : En) (Q : RV → En → Prop) (K : VK), EnvOk T C W σ H ρ → w ρ Q →
  (∀ v H' W' r ρ', Post T C W σ H ρ W' H' ρ' → RvOk T C H W' H' v r → Q r ρ' → K v H') → te σ H K
def Pt (T : Tab) (C : C0) (tt : TT) (w : WT) : Prop := ∀ (W : Wd) (σ : L2.St) (H : Hp) (ρ : En) (Q : Bool → En → Prop) (K : Bool → Hp → Prop), EnvOk T C W σ H ρ → w ρ Q →
  (∀ b H' W' ρ', Post T C W σ H ρ W' H' ρ' → Q b ρ' → K b H') → tt σ H K
def Pa (T : Tab) (C : C0) (ta : TA) (w : WA) : Prop := ∀ (W : Wd) (σ : L2.St) (H : Hp) (ρ : En) (Q : List D → En → Prop) (K : List V → Hp → Prop), EnvOk T C W σ H ρ → w ρ Q →
  (∀ vs H' W' xs ρ', Post T C W σ H ρ W' H' ρ' → AtAll T (hide H' W'.A) vs xs → Q xs ρ' → K vs H') → ta σ H K
def Pc (T : Tab) (C : C0) (ta : TA) (w : WC) : Prop := ∀ (W : Wd) (σ : L2.St) (H : Hp) (ρ : En) (Q : List C1 → En → Prop) (K : List V → Hp → Prop), EnvOk T C W σ H ρ → w ρ Q →
  (∀ vs H' W' xs ρ', Post T C W σ H ρ W' H' ρ' → FAll T W'.t (hide H' W'.A) vs xs → Q xs ρ' → K vs H') → ta σ H K
inductive RvAll (T : Tab) (C : C0) (Hs : Hp) (W : Wd) (H : Hp) : List V → List RV → Prop
  | nil : RvAll T C Hs W H [] []
  | cons {v : V} {r : RV} {vs : List V} {rs : List RV} : RvOk T C Hs W H v r → RvAll T C Hs W H vs rs → RvAll T C Hs W H (v :: vs) (r :: rs)
def Par (T : Tab) (C : C0) (ta : TA) (w : WR) : Prop := ∀ (W : Wd) (σ : L2.St) (H : Hp) (ρ : En) (Q : List RV → En → Prop) (K : List V → Hp → Prop), EnvOk T C W σ H ρ → w ρ Q →
  (∀ vs H' W' rs ρ', Post T C W σ H ρ W' H' ρ' → RvAll T C H W' H' vs rs → Q rs ρ' → K vs H') → ta σ H K
def rdAll : List RV → En → (List D → Prop) → Prop
  | [], _, k => k []
  | r :: rs, ρ, k => rd r ρ fun x => rdAll rs ρ fun xs => k (x :: xs)

/-- what an operation on values leaves: the heap grows, a new object perhaps hidden -/
structure VP (H : Hp) (A : List Addr) (H' : Hp) (A' : List Addr) : Prop where
  ex : Ex H H'
  sub : ∀ a, a ∈ A → a ∈ A'
  new : ∀ a, a ∈ A' → a ∈ A ∨ H a = none
  dom : ∀ a, a ∈ A' → H' a ≠ none
inductive ROk (T : Tab) (H H' : Hp) (A' : List Addr) : V → RV → Prop
  | d {v : V} {x : D} : At T (hide H' A') v x → ROk T H H' A' v (.d x)
  | n {p : Addr} {m : M} : H p = none → MAt T [] (hide H' A') H' p m → m.live = true → p ∈ A' → ROk T H H' A' (.ref p) (.n m)
def VEnd (T : Tab) (H : Hp) (A : List Addr) (Q : RV → Prop) : VK := fun z H' => ∃ A' q, VP H A H' A' ∧ ROk T H H' A' z q ∧ Q q
abbrev F1 := D → (RV → Prop) → Prop
abbrev F2 := D → D → (RV → Prop) → Prop
abbrev FL := List D → (RV → Prop) → Prop
def Op1 (T : Tab) (r : V → Hp → VK → Prop) (f : F1) : Prop := ∀ (H : Hp) (A : List Addr) (x : V) (u : D) (Q : RV → Prop) (K : VK), (∀ a, a ∈ A → H a ≠ none) → Sh T H A x u → f u Q → (∀ z H', VEnd T H A Q z H' → K z H') → r x H K
def Op2 (T : Tab) (r : R2) (f : F2) : Prop := ∀ (H : Hp) (A : List Addr) (x y : V) (u v : D) (Q : RV → Prop) (K : VK), (∀ a, a ∈ A → H a ≠ none) → Sh T H A x u → Sh T H A y v → f u v Q → (∀ z H', VEnd T H A Q z H' → K z H') → r x y H K
def OpL (T : Tab) (r : List V → Hp → VK → Prop) (f : FL) : Prop := ∀ (H : Hp) (A : List Addr) (xs : List V) (us : List D) (Q : RV → Prop) (K : VK), (∀ a, a ∈ A → H a ≠ none) → ShAll T H A xs us → f us Q → (∀ z H', VEnd T H A Q z H' → K z H') → r xs H K

section
variable {T : Tab} {C : C0} {W W1 W2 : Wd} {A A1 : List Addr} {σ : L2.St} {Hs H H1 H2 : Hp} {ρ ρ1 ρ2 : En} {v : V} {r : RV}
theorem VP.refl (d : ∀ a, a ∈ A → H a ≠ none) : VP H A H A := ⟨Ex.refl H, fun _ h => h, fun _ h => .inl h, d⟩
theorem VP.grow (d : ∀ a, a ∈ A → H a ≠ none) (x : Ex H H1) : VP H A H1 A := ⟨x, fun _ h => h, fun _ h => .inl h, fun a h z => d a h (x.free z)⟩
theorem vend_d {Q : RV → Prop} {x : D} (d : ∀ a, a ∈ A → H a ≠ none) (h : At T (hide H A) v x) (q : Q (.d x)) : VEnd T H A Q v H := ⟨A, _, .refl d, .d h, q⟩
/-- a new object -/
theorem vend_m {Q : RV → Prop} {p : Addr} {o : HO} {m : M} (d : ∀ a, a ∈ A → H a ≠ none) (hp : H p = none) (lv : m.live = true) (h : MAt T [] (hide H A) (upd H p o) p m) (q : Q (.n m)) : VEnd T H A Q (.ref p) (upd H p o) := by
  have pA : p ∉ A := fun z => d p z hp
  have x1 : Ex (hide H A) (hide (upd H p o) (p :: A)) := fun a u e => by
    obtain ⟨m, e⟩ := hide_some e
    have ap : a ≠ p := ne_of_none e hp
    rw [hide_ne (fun z => by exact (List.mem_cons.mp z).elim ap m), upd_ne ap]
    exact e
  refine ⟨p :: A, _, ⟨Ex.new hp, fun a h => List.mem_cons_of_mem _ h, fun a h => ?_, fun a h => ?_⟩, .n hp (h.mono x1 (Pre.refl _) fun _ u z => z) lv List.mem_cons_self, q⟩
  · rcases (List.mem_cons.mp h : a = p ∨ a ∈ A) with z | z
    · exact .inr (z ▸ hp)
    · exact .inl z
  · rcases (List.mem_cons.mp h : a = p ∨ a ∈ A) with z | h
    · rw [z, upd_same]; simp
    · have ap : a ≠ p := fun z => pA (z ▸ h)
      rw [upd_ne ap]
      exact d a h
theorem vend_n {Q : RV → Prop} {p : Addr} {vs : List V} {xs : List D} (d : ∀ a, a ∈ A → H a ≠ none) (hp : H p = none) (h : AtAll T (hide H A) vs xs) (q : Q (.n (.l xs))) : VEnd T H A Q (.ref p) (upd H p (.lst vs)) :=
  vend_m (m := .l xs) d hp rfl (show ∃ ws, _ ∧ _ from ⟨vs, upd_same, h⟩) q
/-- a new tuple -/
theorem vend_t {Q : RV → Prop} {p : Addr} {vs : List V} {xs : List D} (d : ∀ a, a ∈ A → H a ≠ none) (hp : H p = none) (h : AtAll T (hide H A) vs xs) (q : Q (.d (.tup xs))) : VEnd T H A Q (.ref p) (upd H p (.tup vs)) := by
  have pA : p ∉ A := fun z => d p z hp
  have x0 : Ex H (upd H p (.tup vs)) := Ex.new hp
  refine ⟨A, _, .grow d x0, .d (.tup (SqT.of ?_) (h.mono (ex_hide_ex x0))), q⟩
  rw [hide_ne pA]
  exact upd_same
theorem vp_post (e : EnvOk T C W σ H ρ) (p : VP H W.A H1 A1) : Post T C W σ H ρ ⟨A1, W.t⟩ H1 ρ := e.post_more p.ex p.sub p.new p.dom
theorem rok_rv (e : EnvOk T C W σ H ρ) (p : VP H W.A H1 A1) (h : ROk T H H1 A1 v r) : RvOk T C H ⟨A1, W.t⟩ H1 v r := by
  cases h with
  | d h => exact .d h
  | n h0 h1 h2 h3 =>
    obtain ⟨_, n1, n2, n3, _⟩ := e.new0 h0
    exact .n h1 h2 h3 h0 n3 n1 n2
/-- the end of an operation, within an expression that began at the first heap -/
theorem fin_v {Q : RV → En → Prop} (P : Post T C W σ H ρ W1 H1 ρ1) {z : V} (h : VEnd T H1 W1.A (fun q => Q q ρ1) z H2) : ∃ W' r ρ', Post T C W σ H ρ W' H2 ρ' ∧ RvOk T C H W' H2 z r ∧ Q r ρ' := by
  obtain ⟨A', q, p, h, hq⟩ := h
  exact ⟨_, q, ρ1, P.trans (vp_post P.ok p), (rok_rv P.ok p h).back P, hq⟩
end
end Sd

set_option maxHeartbeats 1000000
/-! S2: leaves, operations, arguments, displays, tests. -/
namespace Sd
open PySem PySem.Spec PyProof.Rows L2 LamX
section
variable {T : Tab} {C : C0} {W W1 W2 : Wd} {A : List Addr} {σ : L2.St} {Hs H H1 H2 : Hp} {ρ ρ1 ρ2 : En} {v : V} {r : RV}
/-! ### leaves -/
def wC (x : D) : WE := fun ρ Q => Q (.d x) ρ
theorem pe_c {v : V} {x : D} (h : ∀ H, At T H v x) : Pe T C (tC v) (wC x) := fun W σ H ρ Q K e q k => k _ _ _ _ _ (.refl e) (.d (h _)) q
theorem pe_cint {i : Int} : Pe T C (tC (.int i)) (wC (.int i)) := pe_c fun _ => .int i
theorem pe_cbl {b : Bool} : Pe T C (tC (.bl b)) (wC (.bl b)) := pe_c fun _ => .bl b
theorem pe_cstr {x : Str} : Pe T C (tC (.str x)) (wC (.str x)) := pe_c fun _ => .str x
theorem pe_cnon : Pe T C (tC .non) (wC .non) := pe_c fun _ => .non
def wVarC (i : Nat) (ρ : En) (Q : RV → En → Prop) : Option (Option C1) → Prop
  | some (some (.p d)) => Q (.d d) ρ
  | some (some (.r l)) => Q (.r l) ρ
  | _ => False
def wVar (i : Nat) : WE := fun ρ Q => wVarC i ρ Q ρ.s[i]?
theorem pe_v (i : Nat) : Pe T C (tVar i) (wVar i) := fun W σ H ρ Q K e q k => by
  have q : wVarC i ρ Q ρ.s[i]? := q
  cases hc : ρ.s[i]? with
  | none => rw [hc] at q; exact q.elim
  | some c =>
    rw [hc] at q
    cases c with
    | none => exact q.elim
    | some c =>
      obtain ⟨v, h1, h2⟩ := e.cell i c hc
      refine ⟨v, h1, ?_⟩
      cases h2 with
      | p g => exact k _ _ _ _ _ (.refl e) (.d g) q
      | r g => exact k _ _ _ _ _ (.refl e) (.r g) q
      | fn => exact q.elim

/-! ### operations -/
def wOp (f : F2) (wa wb : WE) : WE := fun ρ Q => wa ρ fun r ρ1 => wb ρ1 fun s ρ2 => rd r ρ2 fun x => rd s ρ2 fun y => f x y fun q => Q q ρ2
theorem pe_o {r : R2} {f : F2} {ta tb : TE} {wa wb : WE} (h : Op2 T r f) (ha : Pe T C ta wa) (hb : Pe T C tb wb) : Pe T C (tOp r ta tb) (wOp f wa wb) := fun W σ H ρ Q K e q k =>
  ha W σ H ρ _ _ e q fun v1 H1 W1 r1 ρ1 P1 R1 q1 => hb W1 σ H1 ρ1 _ _ P1.ok q1 fun v2 H2 W2 r2 ρ2 P2 R2 q2 => by
    have P := P1.trans P2
    obtain ⟨x, S1, q3⟩ := rd_ok P.ok (R1.post P1.ok P2) q2
    obtain ⟨y, S2, q4⟩ := rd_ok P.ok (R2.back P1) q3
    exact h H2 W2.A v1 v2 x y _ _ P.ok.dom S1 S2 q4 fun z H' hv => by
      obtain ⟨W', r', ρ', P', R', q'⟩ := fin_v P hv
      exact k _ _ _ _ _ P' R' q'
def wUn (f : F1) (wa : WE) : WE := fun ρ Q => wa ρ fun r ρ1 => rd r ρ1 fun x => f x fun q => Q q ρ1
theorem pe_u {r : V → Hp → VK → Prop} {f : F1} {ta : TE} {wa : WE} (h : Op1 T r f) (ha : Pe T C ta wa) : Pe T C (tUn r ta) (wUn f wa) := fun W σ H ρ Q K e q k =>
  ha W σ H ρ _ _ e q fun v1 H1 W1 r1 ρ1 P R q1 => by
    obtain ⟨x, S, q2⟩ := rd_ok P.ok R q1
    exact h H1 W1.A v1 x _ _ P.ok.dom S q2 fun z H' hv => by
      obtain ⟨W', r', ρ', P', R', q'⟩ := fin_v P hv
      exact k _ _ _ _ _ P' R' q'

/-! ### arguments -/
def wNil : WA := fun ρ Q => Q [] ρ
def wCons (wa : WE) (wr : WA) : WA := fun ρ Q => wa ρ fun r ρ1 => esc r ρ1 fun x ρ2 => wr ρ2 fun xs ρ3 => Q (x :: xs) ρ3
theorem pa_n : Pa T C tNil wNil := fun W σ H ρ Q K e q k => k _ _ _ _ _ (.refl e) .nil q
theorem pa_c {ta : TE} {tr : TA} {wa : WE} {wr : WA} (ha : Pe T C ta wa) (hr : Pa T C tr wr) : Pa T C (tCons ta tr) (wCons wa wr) := fun W σ H ρ Q K e q k =>
  ha W σ H ρ _ _ e q fun v1 H1 W1 r1 ρ1 P1 R1 q1 => by
    obtain ⟨W2, x, ρ2, P2, S2, q2⟩ := esc_ok e P1 R1 q1
    exact hr W2 σ H1 ρ2 _ _ P2.ok q2 fun vs H3 W3 xs ρ3 P3 S3 q3 => k _ _ _ _ _ (P2.trans P3) (.cons (S2.mono (P3.ex P2.ok)) S3) q3
def wNilR : WR := fun ρ Q => Q [] ρ
def wConsR (wa : WE) (wr : WR) : WR := fun ρ Q => wa ρ fun r ρ1 => wr ρ1 fun rs ρ2 => Q (r :: rs) ρ2
theorem RvAll.post (e : EnvOk T C W σ H ρ) (p : Post T C W σ H ρ W1 H1 ρ1) : ∀ {vs : List V} {rs : List RV}, RvAll T C Hs W H vs rs → RvAll T C Hs W1 H1 vs rs
  | _, _, .nil => .nil
  | _, _, .cons a b => .cons (a.post e p) (b.post e p)
theorem RvAll.back (p : Post T C W σ H ρ W1 H1 ρ1) : ∀ {vs : List V} {rs : List RV}, RvAll T C H1 W2 H2 vs rs → RvAll T C H W2 H2 vs rs
  | _, _, .nil => .nil
  | _, _, .cons a b => .cons (a.back p) (b.back p)
theorem par_n : Par T C tNil wNilR := fun W σ H ρ Q K e q k => k _ _ _ _ _ (.refl e) .nil q
theorem par_c {ta : TE} {tr : TA} {wa : WE} {wr : WR} (ha : Pe T C ta wa) (hr : Par T C tr wr) : Par T C (tCons ta tr) (wConsR wa wr) := fun W σ H ρ Q K e q k =>
  ha W σ H ρ _ _ e q fun v1 H1 W1 r1 ρ1 P1 R1 q1 => hr W1 σ H1 ρ1 _ _ P1.ok q1 fun vs H2 W2 rs ρ2 P2 R2 q2 => k _ _ _ _ _ (P1.trans P2) (.cons (R1.post P1.ok P2) (R2.back P1)) q2
theorem rdAll_ok (e : EnvOk T C W σ H ρ) : ∀ {vs : List V} {rs : List RV} {k : List D → Prop}, RvAll T C Hs W H vs rs → rdAll rs ρ k → ∃ xs, ShAll T H W.A vs xs ∧ k xs
  | _, _, _, .nil, q => ⟨_, .nil, q⟩
  | _, _, _, .cons a b, q => by
    obtain ⟨x, h1, q⟩ := rd_ok e a q
    obtain ⟨xs, h2, q⟩ := rdAll_ok e b q
    exact ⟨_, .cons h1 h2, q⟩
/-- a built-in's call -/
def wCB (f : FL) (wa : WR) : WE := fun ρ Q => wa ρ fun rs ρ1 => rdAll rs ρ1 fun xs => f xs fun q => Q q ρ1
theorem pe_cb {r : List V → Hp → VK → Prop} {f : FL} {ta : TA} {wa : WR} (h : OpL T r f) (ha : Par T C ta wa) : Pe T C (tCB r ta) (wCB f wa) := fun W σ H ρ Q K e q k =>
  ha W σ H ρ _ _ e q fun vs H1 W1 rs ρ1 P R q1 => by
    obtain ⟨xs, S, q2⟩ := rdAll_ok P.ok R q1
    exact h H1 W1.A vs xs _ _ P.ok.dom S q2 fun z H' hv => by
      obtain ⟨W', r', ρ', P', R', q'⟩ := fin_v P hv
      exact k _ _ _ _ _ P' R' q'

/-! ### a call's arguments: an object of the store goes as it is, or as data -/
def ent : RV → En → (C1 → En → Prop) → Prop
  | .d x, ρ, k => k (.p x) ρ
  | .n m, ρ, k => rdO (some m) fun x => k (.p x) ρ
  | .r l, ρ, k => k (.r l) ρ ∨ esc (.r l) ρ fun x ρ1 => k (.p x) ρ1
theorem ent_ok {k : C1 → En → Prop} (e : EnvOk T C W σ H ρ) (P : Post T C W σ H ρ W1 H1 ρ1) (h : RvOk T C H W1 H1 v r) (q : ent r ρ1 k) : ∃ W' x ρ', Post T C W σ H ρ W' H1 ρ' ∧ FAt T W'.t (hide H1 W'.A) v x ∧ k x ρ' := by
  cases h with
  | d h => exact ⟨_, _, _, P, .p h, q⟩
  | @n p m h1 h2 h3 hs h4 h5 h6 =>
    obtain ⟨W', x, ρ', P', S', q'⟩ := esc_ok (k := fun x ρ => k (.p x) ρ) e P (RvOk.n h1 h2 h3 hs h4 h5 h6) q
    exact ⟨W', _, ρ', P', .p S', q'⟩
  | @r a l h =>
    rcases q with q | q
    · exact ⟨_, _, _, P, .r h, q⟩
    · obtain ⟨W', x, ρ', P', S', q'⟩ := esc_ok (k := fun x ρ => k (.p x) ρ) e P (RvOk.r h) q
      exact ⟨W', _, ρ', P', .p S', q'⟩
def wNilC : WC := fun ρ Q => Q [] ρ
def wConsC (wa : WE) (wr : WC) : WC := fun ρ Q => wa ρ fun r ρ1 => ent r ρ1 fun x ρ2 => wr ρ2 fun xs ρ3 => Q (x :: xs) ρ3
theorem pc_n : Pc T C tNil wNilC := fun W σ H ρ Q K e q k => k _ _ _ _ _ (.refl e) .nil q
theorem pc_c {ta : TE} {tr : TA} {wa : WE} {wr : WC} (ha : Pe T C ta wa) (hr : Pc T C tr wr) : Pc T C (tCons ta tr) (wConsC wa wr) := fun W σ H ρ Q K e q k =>
  ha W σ H ρ _ _ e q fun v1 H1 W1 r1 ρ1 P1 R1 q1 => by
    obtain ⟨W2, x, ρ2, P2, S2, q2⟩ := ent_ok e P1 R1 q1
    exact hr W2 σ H1 ρ2 _ _ P2.ok q2 fun vs H3 W3 xs ρ3 P3 S3 q3 => k _ _ _ _ _ (P2.trans P3) (.cons (S2.mono (P3.ex P2.ok) P3.pre) S3) q3

/-! ### displays -/
def wLst (wa : WA) : WE := fun ρ Q => wa ρ fun xs ρ1 => szB xs.length = true ∧ Q (.n (.l xs)) ρ1
def wTup (wa : WA) : WE := fun ρ Q => wa ρ fun xs ρ1 => szB xs.length = true ∧ Q (.d (.tup xs)) ρ1
theorem pe_l {ta : TA} {wa : WA} (ha : Pa T C ta wa) : Pe T C (tLst ta) (wLst wa) := fun W σ H ρ Q K e q k =>
  ha W σ H ρ _ _ e q fun vs H1 W1 xs ρ1 P S ⟨q1, q2⟩ => ⟨by rw [S.length]; exact szB_ok q1, fun p hp => by
    obtain ⟨W', r', ρ', P', R', q'⟩ := fin_v (Q := Q) P (vend_n P.ok.dom hp S q2)
    exact k _ _ _ _ _ P' R' q'⟩
theorem pe_t {ta : TA} {wa : WA} (ha : Pa T C ta wa) : Pe T C (tTup ta) (wTup wa) := fun W σ H ρ Q K e q k =>
  ha W σ H ρ _ _ e q fun vs H1 W1 xs ρ1 P S ⟨q1, q2⟩ => ⟨by rw [S.length]; exact szB_ok q1, fun p hp => by
    obtain ⟨W', r', ρ', P', R', q'⟩ := fin_v (Q := Q) P (vend_t P.ok.dom hp S q2)
    exact k _ _ _ _ _ P' R' q'⟩

/-! ### tests -/
/-- a value's truth -/
def tru : D → (Bool → Prop) → Prop
  | .non, k => k false
  | .bl b, k => k b
  | .int i, k => k (i != 0)
  | .str y, k => szB y.length = true ∧ k ((y.length : Int) != 0)
  | .lst xs, k => k (!xs.isEmpty)
  | .tup xs, k => k (!xs.isEmpty)
  | _, _ => False
theorem empty_of {vs : List V} {xs : List D} (h : AtAll T H vs xs) : (!vs.isEmpty) = !xs.isEmpty := by
  cases h <;> rfl
theorem tru_ok {x : D} {v : V} {k : Bool → Prop} (h : Sh T H A v x) (q : tru x k) : ∃ b, TruV T.K v H b ∧ k b := by
  have hf := h.full
  cases hf with
  | non => exact ⟨_, rfl, q⟩
  | bl b => exact ⟨_, rfl, q⟩
  | int i => exact ⟨_, rfl, q⟩
  | str y => exact ⟨_, ⟨szB_ok q.1, rfl⟩, q.2⟩
  | lst s t => exact ⟨_, .inl ⟨_, SqL.of s, rfl⟩, by rw [empty_of t]; exact q⟩
  | tup s t => exact ⟨_, .inr (.inl ⟨_, s, rfl⟩), by rw [empty_of t]; exact q⟩
  | dK _ _ => exact q.elim
  | dT _ _ => exact q.elim
  | ins _ _ => exact q.elim
  | exc _ _ _ => exact q.elim
def wTru (wa : WE) : WT := fun ρ Q => wa ρ fun r ρ1 => rd r ρ1 fun x => tru x fun b => Q b ρ1
theorem pt_tru {ta : TE} {wa : WE} (ha : Pe T C ta wa) : Pt T C (fun σ H Q => ta σ H fun x H' => ∃ k, TruV T.K x H' k ∧ Q k H') (wTru wa) := fun W σ H ρ Q K e q k =>
  ha W σ H ρ _ _ e q fun v1 H1 W1 r1 ρ1 P R q1 => by
    obtain ⟨x, S, q2⟩ := rd_ok P.ok R q1
    obtain ⟨b, h1, h2⟩ := tru_ok S q2
    exact ⟨b, h1, k _ _ _ _ P h2⟩
def wTest (wa : WE) : WT := fun ρ Q => wa ρ fun r ρ1 => rd r ρ1 fun x => ∃ b, x = .bl b ∧ Q b ρ1
theorem pt_t {ta : TE} {wa : WE} (ha : Pe T C ta wa) : Pt T C (tTest ta) (wTest wa) := fun W σ H ρ Q K e q k =>
  ha W σ H ρ _ _ e q fun v1 H1 W1 r1 ρ1 P R q1 => by
    obtain ⟨x, S, b, rfl, q2⟩ := rd_ok P.ok R q1
    have hf := S.full
    cases hf
    exact ⟨b, rfl, k _ _ _ _ P q2⟩
def wAnd (t u : WT) : WT := fun ρ Q => t ρ fun b ρ1 => if b = true then u ρ1 Q else Q false ρ1
def wOr (t u : WT) : WT := fun ρ Q => t ρ fun b ρ1 => if b = true then Q true ρ1 else u ρ1 Q
def wNot (t : WT) : WT := fun ρ Q => t ρ fun b ρ1 => Q (!b) ρ1
theorem pt_and {ta tb : TT} {t u : WT} (ha : Pt T C ta t) (hb : Pt T C tb u) : Pt T C (tAnd ta tb) (wAnd t u) := fun W σ H ρ Q K e q k =>
  ha W σ H ρ _ _ e q fun b H1 W1 ρ1 P q1 => by
    cases b with
    | true => exact hb W1 σ H1 ρ1 Q K P.ok q1 fun b H' W' ρ' P' q' => k _ _ _ _ (P.trans P') q'
    | false => exact k _ _ _ _ P q1
theorem pt_or {ta tb : TT} {t u : WT} (ha : Pt T C ta t) (hb : Pt T C tb u) : Pt T C (tOr ta tb) (wOr t u) := fun W σ H ρ Q K e q k =>
  ha W σ H ρ _ _ e q fun b H1 W1 ρ1 P q1 => by
    cases b with
    | false => exact hb W1 σ H1 ρ1 Q K P.ok q1 fun b H' W' ρ' P' q' => k _ _ _ _ (P.trans P') q'
    | true => exact k _ _ _ _ P q1
theorem pt_n {ta : TT} {t : WT} (ha : Pt T C ta t) : Pt T C (tNot ta) (wNot t) := fun W σ H ρ Q K e q k =>
  ha W σ H ρ _ _ e q fun b H1 W1 ρ1 P q1 => k _ _ _ _ P q1
def wIf (t : WT) (wa wb : WE) : WE := fun ρ Q => t ρ fun b ρ1 => if b = true then wa ρ1 Q else wb ρ1 Q
theorem pe_if {tc : TT} {ta tb : TE} {t : WT} {wa wb : WE} (hc : Pt T C tc t) (ha : Pe T C ta wa) (hb : Pe T C tb wb) : Pe T C (tIf tc ta tb) (wIf t wa wb) := fun W σ H ρ Q K e q k =>
  hc W σ H ρ _ _ e q fun b H1 W1 ρ1 P q1 => by
    cases b with
    | true => exact ha W1 σ H1 ρ1 Q K P.ok q1 fun v H' W' r ρ' P' R' q' => k _ _ _ _ _ (P.trans P') (R'.back P) q'
    | false => exact hb W1 σ H1 ρ1 Q K P.ok q1 fun v H' W' r ρ' P' R' q' => k _ _ _ _ _ (P.trans P') (R'.back P) q'
end
end Sd

set_option maxHeartbeats 1000000
/-! S3: statements as transformers of data. -/
namespace Sd
open PySem PySem.Spec PyProof.Rows L2 LamX

/-! ### what is walked -/
abbrev WI := En → (List D → En → Prop) → Prop
/-- J yields the data xs, one after another, as long as pure things stay -/
structure Walk (T : Tab) (A : List Addr) (H : Hp) (J : It) (xs : List D) : Prop where
  go : ∀ (A2 : List Addr) (H2 : Hp) (i : Nat), Ex (hide H A) (hide H2 A2) → i < xs.length → J.go i H2
  stop : ∀ (A2 : List Addr) (H2 : Hp), Ex (hide H A) (hide H2 A2) → J.stop xs.length H2
  yld : ∀ (A2 : List Addr) (H2 : Hp) (i : Nat) (d : D) (v : V) (H3 : Hp), Ex (hide H A) (hide H2 A2) → (∀ a, a ∈ A2 → H2 a ≠ none) → xs[i]? = some d → J.yld i H2 v H3 → Ex H2 H3 ∧ At T (hide H3 A2) v d
def Pi (T : Tab) (C : C0) (wi : TI) (w : WI) : Prop := ∀ (W : Wd) (σ : L2.St) (H : Hp) (ρ : En) (Q : List D → En → Prop) (K : It → Hp → Prop), EnvOk T C W σ H ρ → w ρ Q →
  (∀ J H' W' xs ρ', Post T C W σ H ρ W' H' ρ' → Walk T W'.A H' J xs → Q xs ρ' → K J H') → wi σ H K

/-! ### targets: of data alone -/
abbrev WG := D → En → (En → Prop) → Prop
abbrev WGs := List D → En → (En → Prop) → Prop
/-- all but the slots js is as it was -/
structure Sto (js : List Nat) (σ : L2.St) (ρ : En) (σ' : L2.St) (ρ' : En) : Prop where
  m : ρ'.μ = ρ.μ
  k : ρ'.k = ρ.k
  len : σ'.length = σ.length
  out : ∀ i, i ∉ js → σ'[i]? = σ[i]? ∧ ρ'.s[i]? = ρ.s[i]?
theorem Sto.refl {js : List Nat} {σ : L2.St} {ρ : En} : Sto js σ ρ σ ρ := ⟨rfl, rfl, rfl, fun _ _ => ⟨rfl, rfl⟩⟩
theorem Sto.trans {js : List Nat} {σ σ1 σ2 : L2.St} {ρ ρ1 ρ2 : En} (a : Sto js σ ρ σ1 ρ1) (b : Sto js σ1 ρ1 σ2 ρ2) : Sto js σ ρ σ2 ρ2 :=
  ⟨b.m.trans a.m, b.k.trans a.k, b.len.trans a.len, fun i h => ⟨(b.out i h).1.trans (a.out i h).1, (b.out i h).2.trans (a.out i h).2⟩⟩
theorem Sto.le {js ks : List Nat} {σ σ' : L2.St} {ρ ρ' : En} (a : Sto js σ ρ σ' ρ') (h : ∀ i, i ∈ js → i ∈ ks) : Sto ks σ ρ σ' ρ' := ⟨a.m, a.k, a.len, fun i q => a.out i fun z => q (h i z)⟩
def Pg (T : Tab) (C : C0) (js : List Nat) (g : TG) (w : WG) : Prop := ∀ (W : Wd) (σ : L2.St) (H : Hp) (ρ : En) (v : V) (x : D) (Q : En → Prop) (K : L2.St → Hp → Prop), EnvOk T C W σ H ρ → At T (hide H W.A) v x → w x ρ Q →
  (∀ σ' ρ', EnvOk T C W σ' H ρ' → Sto js σ ρ σ' ρ' → Q ρ' → K σ' H) → g v σ H K
def Pgs (T : Tab) (C : C0) (js : List Nat) (g : TGs) (w : WGs) : Prop := ∀ (W : Wd) (σ : L2.St) (H : Hp) (ρ : En) (vs : List V) (xs : List D) (Q : En → Prop) (K : L2.St → Hp → Prop), EnvOk T C W σ H ρ → AtAll T (hide H W.A) vs xs → w xs ρ Q →
  (∀ σ' ρ', EnvOk T C W σ' H ρ' → Sto js σ ρ σ' ρ' → Q ρ' → K σ' H) → g vs σ H K
section
variable {T : Tab} {C : C0}
def wgN (i : Nat) : WG := fun x ρ Q => Q (ρ.set i (.p x))
theorem pg_n (i : Nat) : Pg T C [i] (gName i) (wgN i) := fun W σ H ρ v x Q K e h q k => k _ _ (e.setC (.p h)) ⟨rfl, rfl, by simp, fun j hj => by
  have q : i ≠ j := fun z => hj (by simp [z])
  exact ⟨List.getElem?_set_ne q, List.getElem?_set_ne q⟩⟩ q
def wgNil : WGs := fun xs ρ Q => xs = [] ∧ Q ρ
def wgCons (a : WG) (r : WGs) : WGs := fun xs ρ Q => ∃ x ys, xs = x :: ys ∧ a x ρ fun ρ1 => r ys ρ1 Q
theorem pgs_n : Pgs T C [] gNil wgNil := fun W σ H ρ vs xs Q K e h ⟨q1, q2⟩ k => by
  subst q1
  cases h
  exact ⟨rfl, k _ _ e .refl q2⟩
theorem pgs_c {js ks : List Nat} {g : TG} {gs : TGs} {a : WG} {r : WGs} (hg : Pg T C js g a) (hr : Pgs T C ks gs r) : Pgs T C (js ++ ks) (gCons g gs) (wgCons a r) := fun W σ H ρ vs xs Q K e h ⟨x, ys, q1, q2⟩ k => by
  subst q1
  cases h with
  | cons h1 h2 => exact ⟨_, _, rfl, hg W σ H ρ _ x _ _ e h1 q2 fun σ1 ρ1 e1 n1 q3 => hr W σ1 H ρ1 _ ys _ _ e1 h2 q3 fun σ2 ρ2 e2 n2 q4 => k _ _ e2 ((n1.le fun i z => List.mem_append_left _ z).trans (n2.le fun i z => List.mem_append_right _ z)) q4⟩
def wgTup (n : Nat) (r : WGs) : WG := fun x ρ Q => ∃ xs, x = .tup xs ∧ xs.length = n ∧ r xs ρ Q
theorem pg_t {n : Nat} {js : List Nat} {gs : TGs} {r : WGs} (hr : Pgs T C js gs r) : Pg T C js (gTup T.K n gs) (wgTup n r) := fun W σ H ρ v x Q K e h ⟨xs, q1, q2, q3⟩ k => by
  subst q1
  cases h with
  | tup s t => exact ⟨_, _, rfl, (ex_hide H W.A).t s, t.length.trans q2, hr W σ H ρ _ xs Q K e t q3 k⟩
end

/-! ### statements -/
/-- the objects refer to none but the first k -/
def closedB (k : Nat) (ms : List M) : Bool := ms.all fun m => match m with
  | .i _ _ fs => fs.all fun c => match c with
    | .r l => Nat.blt l k
    | .p _ => true
    | .fn => false
  | _ => true
/-- what is wanted: behind it, of what is returned (with the lent objects), at a break, at a continue -/
structure DE where
  nx : En → Prop
  rt : RV → List M → Prop
  bk : En → Prop := fun _ => False
  ct : En → Prop := fun _ => False
abbrev WS := DE → En → Prop
inductive RetOk (T : Tab) (C : C0) (W : Wd) (H : Hp) : V → RV → Prop
  | d {v : V} {x : D} : At T (hide H W.A) v x → RetOk T C W H v (.d x)
  | r {a : Addr} {l : Nat} : C.Lt[l]? = some a → RetOk T C W H (.ref a) (.r l)
  | n {p : Addr} {m : M} : MAt T [] (hide H W.A) H p m → m.live = true → p ∈ W.A → C.H0 p = none → p ∉ C.Lt → ¬ T.isT p → RetOk T C W H (.ref p) (.n m)
/-- B: the pure things that must stay -/
structure Lk (T : Tab) (C : C0) (B : Hp) (E : DE) (F : Ends) : Prop where
  nx : ∀ W σ H ρ, EnvOk T C W σ H ρ → Ex B (hide H W.A) → E.nx ρ → F.nx σ H
  bk : ∀ W σ H ρ, EnvOk T C W σ H ρ → Ex B (hide H W.A) → E.bk ρ → F.bk σ H
  ct : ∀ W σ H ρ, EnvOk T C W σ H ρ → Ex B (hide H W.A) → E.ct ρ → F.ct σ H
  rt : ∀ W σ H ρ v r, EnvOk T C W σ H ρ → Ex B (hide H W.A) → RetOk T C W H v r → closedB ρ.k (ρ.μ.take ρ.k) = true → E.rt r (ρ.μ.take ρ.k) → F.rt v H
def Ps (T : Tab) (C : C0) (ts : TS) (w : WS) : Prop := ∀ (W : Wd) (σ : L2.St) (H : Hp) (ρ : En) (B : Hp) (E : DE) (F : Ends), EnvOk T C W σ H ρ → Ex B (hide H W.A) → Lk T C B E F → w E ρ → ts F σ H

section
variable {T : Tab} {C : C0} {W W1 W2 : Wd} {A : List Addr} {σ : L2.St} {Hs H H1 H2 B B1 : Hp} {ρ ρ1 ρ2 : En} {v : V} {r : RV} {E : DE} {F : Ends}
theorem Lk.next (l : Lk T C B E F) {N : En → Prop} {M : L2.St → Hp → Prop} (h : ∀ W σ H ρ, EnvOk T C W σ H ρ → Ex B (hide H W.A) → N ρ → M σ H) : Lk T C B { E with nx := N } { F with nx := M } := ⟨h, l.bk, l.ct, l.rt⟩
def wNext : WS := fun E ρ => E.nx ρ
def wSeq (a b : WS) : WS := fun E ρ => a { E with nx := b E } ρ
theorem ps_next : Ps T C tNext wNext := fun W σ H ρ B E F e x l w => l.nx _ _ _ _ e x w
theorem ps_seq {t u : TS} {a b : WS} (h1 : Ps T C t a) (h2 : Ps T C u b) : Ps T C (tSeq t u) (wSeq a b) := fun W σ H ρ B E F e x l w =>
  h1 W σ H ρ B _ _ e x (l.next fun W' σ' H' ρ' e' x' w' => h2 W' σ' H' ρ' B E F e' x' l w') w
def wBrk : WS := fun E ρ => E.bk ρ
def wCnt : WS := fun E ρ => E.ct ρ
theorem ps_brk : Ps T C tBreak wBrk := fun W σ H ρ B E F e x l w => l.bk _ _ _ _ e x w
theorem ps_cnt : Ps T C tCont wCnt := fun W σ H ρ B E F e x l w => l.ct _ _ _ _ e x w
def wIfS (t : WT) (a b : WS) : WS := fun E ρ => t ρ fun c ρ1 => if c = true then a E ρ1 else b E ρ1
theorem ps_if {tc : TT} {t u : TS} {w : WT} {a b : WS} (hc : Pt T C tc w) (h1 : Ps T C t a) (h2 : Ps T C u b) : Ps T C (tIfS tc t u) (wIfS w a b) := fun W σ H ρ B E F e x l q =>
  hc W σ H ρ _ _ e q fun c H1 W1 ρ1 P q1 => by
    cases c with
    | true => exact h1 W1 σ H1 ρ1 B E F P.ok (x.trans (P.ex e)) l q1
    | false => exact h2 W1 σ H1 ρ1 B E F P.ok (x.trans (P.ex e)) l q1
def wDrop (a : WE) : WS := fun E ρ => a ρ fun _ ρ1 => E.nx ρ1
theorem ps_drop {te : TE} {a : WE} (h : Pe T C te a) : Ps T C (tDrop te) (wDrop a) := fun W σ H ρ B E F e x l q =>
  h W σ H ρ _ _ e q fun v H1 W1 r ρ1 P R q1 => l.nx _ _ _ _ P.ok (x.trans (P.ex e)) q1
/-! returned -/
def normO (l k : Nat) (K : RV → Prop) : Option M → Prop
  | some (.z d) => K (.d d)
  | some (.l xs) => if Nat.ble k l = true then K (.n (.l xs)) else K (.r l)
  | some (.m ks vs) => if Nat.ble k l = true then K (.n (.m ks vs)) else K (.r l)
  | some _ => Nat.ble k l = false ∧ K (.r l)
  | none => False
def norm : RV → En → (RV → Prop) → Prop
  | .d x, _, k => k (.d x)
  | .n m, _, k => k (.n m)
  | .r l, ρ, k => normO l ρ.k k ρ.μ[l]?
theorem lent_of (e : EnvOk T C W σ H ρ) {l : Nat} {a : Addr} (h : W.t[l]? = some a) (q : Nat.ble ρ.k l = false) : C.Lt[l]? = some a := by
  have hl : l < C.Lt.length := by
    rw [← e.kk]
    exact Nat.lt_of_not_le fun z => by rw [Nat.ble_eq_true_of_le z] at q; cases q
  have h1 : C.Lt[l]? = some (C.Lt[l]'hl) := List.getElem?_eq_getElem hl
  have h2 := e.lent l _ h1
  rw [h] at h2
  cases h2
  exact h1
theorem own_ret (e : EnvOk T C W σ H ρ) {l : Nat} {a : Addr} {m : M} (h : W.t[l]? = some a) (hm : ρ.μ[l]? = some m) (lv : m.live = true) (q : Nat.ble ρ.k l = true) (h0 : MAt T [] (hide H W.A) H a m) : RetOk T C W H (.ref a) (.n m) := by
  obtain ⟨g1, g2, g3⟩ := e.lv l a m h hm lv
  have hk : C.Lt.length ≤ l := by
    rw [← e.kk]
    exact Nat.le_of_ble_eq_true q
  refine .n h0 lv g1 (g3 hk) (fun z => ?_) g2
  obtain ⟨j, hj⟩ := List.mem_iff_getElem?.mp z
  have := e.inj j l a (e.lent j a hj) h
  have := (List.getElem?_eq_some_iff.mp hj).1
  omega
theorem norm_ok {k : RV → Prop} (e : EnvOk T C W σ H ρ) (h : RvOk T C Hs W H v r) (q : norm r ρ k) : ∃ r', RetOk T C W H v r' ∧ k r' := by
  cases h with
  | d h => exact ⟨_, .d h, q⟩
  | n h1 h2 h3 hs h4 h5 h6 =>
    refine ⟨_, .n h1 h2 h3 h4 (fun z => ?_) h5, q⟩
    obtain ⟨j, hj⟩ := List.mem_iff_getElem?.mp z
    exact h6 j (e.lent j _ hj)
  | @r a l h =>
    have q : normO l ρ.k k ρ.μ[l]? := q
    cases hc : ρ.μ[l]? with
    | none => rw [hc] at q; exact q.elim
    | some m =>
      rw [hc] at q
      have hm := e.st l a m h hc
      cases m with
      | z d => exact ⟨_, .d hm, q⟩
      | l xs =>
        have q : (if Nat.ble ρ.k l = true then k (.n (.l xs)) else k (.r l)) := q
        cases z : Nat.ble ρ.k l with
        | true =>
          rw [z] at q
          exact ⟨_, own_ret e h hc rfl z hm, q⟩
        | false =>
          rw [z] at q
          exact ⟨_, .r (lent_of e h z), q⟩
      | m ks vs =>
        have q : (if Nat.ble ρ.k l = true then k (.n (.m ks vs)) else k (.r l)) := q
        cases z : Nat.ble ρ.k l with
        | true =>
          rw [z] at q
          exact ⟨_, own_ret e h hc rfl z hm, q⟩
        | false =>
          rw [z] at q
          exact ⟨_, .r (lent_of e h z), q⟩
      | i c ns fs => exact ⟨_, .r (lent_of e h q.1), q.2⟩
      | pen n => exact ⟨_, .r (lent_of e h q.1), q.2⟩
def retK (E : DE) (r : RV) (ρ : En) : Prop := closedB ρ.k (ρ.μ.take ρ.k) = true ∧ E.rt r (ρ.μ.take ρ.k)
def wRet (a : WE) : WS := fun E ρ => a ρ fun r ρ1 => norm r ρ1 fun r' => retK E r' ρ1
theorem ps_ret {te : TE} {a : WE} (h : Pe T C te a) : Ps T C (tRet te) (wRet a) := fun W σ H ρ B E F e x l q =>
  h W σ H ρ _ _ e q fun v H1 W1 r ρ1 P R q1 => by
    obtain ⟨r', R', q2, q3⟩ := norm_ok P.ok R q1
    exact l.rt _ _ _ _ _ _ P.ok (x.trans (P.ex e)) R' q2 q3
def wRetN : WS := fun E ρ => retK E (.d .non) ρ
theorem ps_retN : Ps T C tRetN wRetN := fun W σ H ρ B E F e x l q => l.rt _ _ _ _ _ _ e x (.d .non) q.1 q.2
/-! stored -/
def asg (i : Nat) (N : En → Prop) : RV → En → Prop
  | .d x, ρ => N (ρ.set i (.p x))
  | .n m, ρ => N ((ρ.add m).set i (.r ρ.μ.length))
  | .r l, ρ => N (ρ.set i (.r l))
def wAsg (i : Nat) (a : WE) : WS := fun E ρ => a ρ fun r ρ1 => asg i E.nx r ρ1
theorem ps_asg {i : Nat} {te : TE} {a : WE} (h : Pe T C te a) : Ps T C (tAsg te (gName i)) (wAsg i a) := fun W σ H ρ B E F e x l q =>
  h W σ H ρ _ _ e q fun v H1 W1 r ρ1 P R q1 => by
    show F.nx (σ.set i (some v)) H1
    cases R with
    | d h => exact l.nx _ _ _ _ (P.ok.setC (.p h)) (x.trans (P.ex e)) q1
    | r h => exact l.nx _ _ _ _ (P.ok.setC (.r h)) (x.trans (P.ex e)) q1
    | n h1 h2 h3 hs h4 h5 h6 =>
      obtain ⟨e2, z⟩ := P.ok.alloc (h1.mono (Ex.refl _) (fun _ _ z => by cases z) fun _ _ z => z) h2 h3 h4 h6 h5
      exact l.nx _ _ _ _ (e2.setC (.r z)) (show Ex B (hide H1 W1.A) from x.trans (P.ex e)) q1
/-- any other target, of data -/
def wAsgG (a : WE) (g : WG) : WS := fun E ρ => a ρ fun r ρ1 => esc r ρ1 fun x ρ2 => g x ρ2 E.nx
theorem ps_asgG {js : List Nat} {te : TE} {g : TG} {a : WE} {w : WG} (h : Pe T C te a) (hg : Pg T C js g w) : Ps T C (tAsg te g) (wAsgG a w) := fun W σ H ρ B E F e x l q =>
  h W σ H ρ _ _ e q fun v H1 W1 r ρ1 P R q1 => by
    obtain ⟨W2, y, ρ2, P2, S2, q2⟩ := esc_ok e P R q1
    exact hg W2 σ H1 ρ2 v y _ _ P2.ok S2 q2 fun σ' ρ' e' _ q' => l.nx _ _ _ _ e' (x.trans (P2.ex e)) q'
/-- a, b = x, y -/
def wPar (i j : Nat) (a : WC) : WS := fun E ρ => a ρ fun xs ρ1 => ∃ x y, xs = [x, y] ∧ E.nx ((ρ1.set i x).set j y)
theorem ps_par {i j : Nat} {ta : TA} {a : WC} (h : Pc T C ta a) : Ps T C (tPar i j ta) (wPar i j a) := fun W σ H ρ B E F e x l q =>
  h W σ H ρ _ _ e q fun vs H1 W1 xs ρ1 P S ⟨y, z, q1, q2⟩ => by
    subst q1
    cases S with
    | cons s1 s2 =>
      cases s2 with
      | cons s2 s3 =>
        cases s3
        exact ⟨_, _, rfl, l.nx _ _ _ _ ((P.ok.setC s1).setC s2) (x.trans (P.ex e)) q2⟩

/-! ### loops -/
def wLoop (g : WG) (b : WS) (E : DE) : List D → En → Prop
  | [], ρ => E.nx ρ
  | x :: xs, ρ => g x ρ fun ρ1 => b { E with nx := wLoop g b E xs, ct := wLoop g b E xs, bk := E.nx } ρ1
def wFor (i : WI) (g : WG) (b : WS) : WS := fun E ρ => i ρ fun xs ρ1 => wLoop g b E xs ρ1
theorem ps_for {wi : TI} {g : TG} {tb : TS} {js : List Nat} {i : WI} {w : WG} {b : WS} (hi : Pi T C wi i) (hg : Pg T C js g w) (hb : Ps T C tb b) : Ps T C (tFor wi g tb) (wFor i w b) := fun W σ H ρ B E F e x l q =>
  hi W σ H ρ _ _ e q fun J H1 W1 xs ρ1 P wk q1 => by
    have x1 : Ex B (hide H1 W1.A) := x.trans (P.ex e)
    refine ⟨fun k m σ' H' => m = xs.length - k ∧ k ≤ xs.length ∧ ∃ W' ρ', EnvOk T C W' σ' H' ρ' ∧ Ex (hide H1 W1.A) (hide H' W'.A) ∧ wLoop w b E (xs.drop k) ρ', ⟨xs.length, rfl, Nat.zero_le _, W1, ρ1, P.ok, Ex.refl _, q1⟩, ?_⟩
    rintro k m σ' H' ⟨rfl, hk, W', ρ', e', x', q'⟩
    by_cases hlt : k < xs.length
    · have hd : xs.drop k = xs[k] :: xs.drop (k + 1) := List.drop_eq_getElem_cons hlt
      rw [hd] at q'
      refine .inr ⟨wk.go W'.A H' k x' hlt, fun σ2 H2 => k + 1 ≤ xs.length ∧ ∃ W2 ρ2, EnvOk T C W2 σ2 H2 ρ2 ∧ Ex (hide H1 W1.A) (hide H2 W2.A) ∧ wLoop w b E (xs.drop (k + 1)) ρ2, fun σ2 H2 ⟨_, p⟩ => ⟨_, by omega, rfl, hlt, p⟩, fun y H3 hy => ?_⟩
      obtain ⟨g1, g2⟩ := wk.yld W'.A H' k xs[k] y H3 x' e'.dom (List.getElem?_eq_getElem hlt) hy
      have e3 := e'.mono g1
      have x3 : Ex (hide H1 W1.A) (hide H3 W'.A) := x'.trans (ex_hide_ex g1)
      refine hg W' σ' H3 ρ' y xs[k] _ _ e3 g2 q' fun σ4 ρ4 e4 _ q4 => ?_
      exact hb W' σ4 H3 ρ4 (hide H1 W1.A) { E with nx := wLoop w b E (xs.drop (k + 1)), ct := wLoop w b E (xs.drop (k + 1)), bk := E.nx } _ e4 x3 ⟨fun A5 σ5 H5 ρ5 e5 x5 q5 => ⟨hlt, A5, ρ5, e5, x5, q5⟩, fun A5 σ5 H5 ρ5 e5 x5 q5 => l.nx _ _ _ _ e5 (x1.trans x5) q5, fun A5 σ5 H5 ρ5 e5 x5 q5 => ⟨hlt, A5, ρ5, e5, x5, q5⟩, fun A5 σ5 H5 ρ5 v5 r5 e5 x5 R5 c5 q5 => l.rt _ _ _ _ _ _ e5 (x1.trans x5) R5 c5 q5⟩ q4
    · have hk2 : k = xs.length := by omega
      subst hk2
      rw [List.drop_length] at q'
      exact .inl ⟨wk.stop W'.A H' x', l.nx _ _ _ _ e' (x1.trans x') q'⟩
/-- while: so many turns at most -/
def wTurns (t : WT) (b : WS) (E : DE) : Nat → En → Prop
  | 0, _ => False
  | k + 1, ρ => t ρ fun c ρ1 => if c = true then b { E with nx := wTurns t b E k, ct := wTurns t b E k, bk := E.nx } ρ1 else E.nx ρ1
def wWhile (t : WT) (b : WS) : WS := fun E ρ => ∃ k, wTurns t b E k ρ
theorem ps_while {tc : TT} {tb : TS} {t : WT} {b : WS} (hc : Pt T C tc t) (hb : Ps T C tb b) : Ps T C (tWhile tc tb) (wWhile t b) := fun W σ H ρ B E F e x l q => by
  obtain ⟨k, q⟩ := q
  refine ⟨fun m σ' H' => ∃ W' ρ', EnvOk T C W' σ' H' ρ' ∧ Ex B (hide H' W'.A) ∧ wTurns t b E m ρ', ⟨k, W, ρ, e, x, q⟩, ?_⟩
  rintro m σ' H' ⟨W', ρ', e', x', q'⟩
  cases m with
  | zero => exact q'.elim
  | succ m =>
    refine hc W' σ' H' ρ' _ _ e' q' fun c H1 W1 ρ1 P q1 => ?_
    cases c with
    | false => exact l.nx _ _ _ _ P.ok (x'.trans (P.ex e')) q1
    | true =>
      refine ⟨fun σ2 H2 => ∃ W2 ρ2, EnvOk T C W2 σ2 H2 ρ2 ∧ Ex B (hide H2 W2.A) ∧ wTurns t b E m ρ2, fun σ2 H2 p => ⟨m, Nat.lt_succ_self m, p⟩, ?_⟩
      exact hb W1 σ' H1 ρ1 B { E with nx := wTurns t b E m, ct := wTurns t b E m, bk := E.nx } _ P.ok (x'.trans (P.ex e')) ⟨fun A5 σ5 H5 ρ5 e5 x5 q5 => ⟨A5, ρ5, e5, x5, q5⟩, fun A5 σ5 H5 ρ5 e5 x5 q5 => l.nx _ _ _ _ e5 x5 q5, fun A5 σ5 H5 ρ5 e5 x5 q5 => ⟨A5, ρ5, e5, x5, q5⟩, fun A5 σ5 H5 ρ5 v5 r5 e5 x5 R5 c5 q5 => l.rt _ _ _ _ _ _ e5 x5 R5 c5 q5⟩ q1
end

/-! ### iterators -/
section
variable {T : Tab} {C : C0}
/-- a list or a tuple -/
def iSq (K : PySem.W.Frag) (tl : TE) : TI := fun σ H R => tl σ H fun x H1 => ∃ a, x = .ref a ∧ (((∃ xs, SqL K H1 a xs) ∧ R (Itl K a) H1) ∨ ((∃ xs, SqT K H1 a xs) ∧ R (Itt K a) H1))
theorem pi_sq {X : Cx} {tg l : Expr} {tl : TE} (hl : PE X l tl) : PI X tg l (iSq X.K tl) := by
  constructor
  intro pins s σ H R I h
  refine thn (hl.run pins s σ H _ I h) fun v s1 hv => ?_
  obtain ⟨x, H1, I1, r1, a, rfl, hq⟩ := hv
  cases r1
  have nw : ∀ b, b ∈ [s1.heap.objs.size] → FpOk X pins H1 b := fun b hb => by
    rw [List.mem_singleton.mp hb]
    exact (I1.fpOk (Nat.le_refl s1.heap.objs.size)) (I1.hok.fresh (Nat.le_refl s1.heap.objs.size))
  rcases hq with ⟨⟨xs, hx⟩, q⟩ | ⟨⟨xs, hx⟩, q⟩
  · obtain ⟨its, rv, p, hz⟩ := I1.list hx
    exact wpAny_pyIter_list p.isList ⟨_, [s1.heap.objs.size], _, _, H1, rfl, I1.kept (t' := s1.toks) (fun b o e => Heap.get?_push_of_some _ e), turn_list a _, ⟨_, Heap.get?_push_size _ rfl, rfl, rfl⟩, nw, q⟩
  · obtain ⟨its, rv, p, hz⟩ := I1.tuple hx
    exact wpAny_pyIter_tuple (show s1.heap.IsTuple a its.toArray from p) ⟨_, [s1.heap.objs.size], _, _, H1, rfl, I1.kept (t' := s1.toks) (fun b o e => Heap.get?_push_of_some _ e), turn_tuple a _, ⟨_, Heap.get?_push_size _ rfl, rfl, rfl⟩, nw, q⟩
theorem walk_l {A : List Addr} {H : Hp} {a : Addr} {vs : List V} {xs : List D} (h : hide H A a = some (.lst vs)) (hs : AtAll T (hide H A) vs xs) : Walk T A H (Itl T.K a) xs where
  go := fun A2 H2 i x hi => ⟨vs, _, SqL.of (hide_some (x _ _ h)).2, List.getElem?_eq_getElem (by rw [hs.length]; exact hi)⟩
  stop := fun A2 H2 x => ⟨vs, SqL.of (hide_some (x _ _ h)).2, by rw [hs.length]; exact Nat.le_refl _⟩
  yld := fun A2 H2 i d v H3 x dm hd hy => by
    obtain ⟨rfl, hy⟩ := hy
    obtain ⟨v', h1, h2⟩ := (hs.mono x).get hd
    have e := hy vs (SqL.of (hide_some (x _ _ h)).2)
    rw [h1] at e
    cases e
    exact ⟨Ex.refl _, h2⟩
theorem walk_t {A : List Addr} {H : Hp} {a : Addr} {vs : List V} {xs : List D} (h : SqT T.K (hide H A) a vs) (hs : AtAll T (hide H A) vs xs) : Walk T A H (Itt T.K a) xs where
  go := fun A2 H2 i x hi => ⟨vs, _, (ex_hide _ _).t (x.t h), List.getElem?_eq_getElem (by rw [hs.length]; exact hi)⟩
  stop := fun A2 H2 x => ⟨vs, (ex_hide _ _).t (x.t h), by rw [hs.length]; exact Nat.le_refl _⟩
  yld := fun A2 H2 i d v H3 x dm hd hy => by
    obtain ⟨rfl, hy⟩ := hy
    obtain ⟨v', h1, h2⟩ := (hs.mono x).get hd
    have e := hy vs ((ex_hide _ _).t (x.t h))
    rw [h1] at e
    cases e
    exact ⟨Ex.refl _, h2⟩
def seqD : D → (List D → Prop) → Prop
  | .lst xs, k => k xs
  | .tup xs, k => k xs
  | _, _ => False
def wiSq (a : WE) : WI := fun ρ Q => a ρ fun r ρ1 => esc r ρ1 fun x ρ2 => seqD x fun xs => Q xs ρ2
theorem pi_s {te : TE} {a : WE} (h : Pe T C te a) : Pi T C (iSq T.K te) (wiSq a) := fun W σ H ρ Q K e q k =>
  h W σ H ρ _ _ e q fun v H1 W1 r ρ1 P R q1 => by
    obtain ⟨W2, y, ρ2, P2, S2, q2⟩ := esc_ok e P R q1
    cases y with
    | lst xs =>
      cases S2 with
      | lst s t => exact ⟨_, rfl, .inl ⟨⟨_, SqL.of (hide_some s).2⟩, k _ _ _ _ _ P2 (walk_l s t) q2⟩⟩
    | tup xs =>
      cases S2 with
      | tup s t => exact ⟨_, rfl, .inr ⟨⟨_, (ex_hide _ _).t s⟩, k _ _ _ _ _ P2 (walk_t s t) q2⟩⟩
    | _ => exact q2.elim
/-- range(n) -/
def intsFrom (lo : Int) : Nat → List D
  | 0 => []
  | n + 1 => .int lo :: intsFrom (lo + 1) n
theorem intsFrom_len : ∀ (n : Nat) (lo : Int), (intsFrom lo n).length = n
  | 0, _ => rfl
  | n + 1, lo => congrArg Nat.succ (intsFrom_len n (lo + 1))
theorem intsFrom_get : ∀ (n : Nat) (lo : Int) (i : Nat) (d : D), (intsFrom lo n)[i]? = some d → d = .int (lo + i)
  | 0, _, _, _, h => by simp [intsFrom] at h
  | n + 1, lo, 0, d, h => by
    have e : D.int lo = d := Option.some.inj h
    rw [← e]
    simp
  | n + 1, lo, i + 1, d, h => by
    have e := intsFrom_get n (lo + 1) i d h
    rw [e]
    congr 1
    omega
theorem walk_r {A : List Addr} {H : Hp} {lo : Int} {n : Nat} : Walk T A H (Itr lo n) (intsFrom lo n) where
  go := fun A2 H2 i x hi => by
    rw [intsFrom_len] at hi
    exact hi
  stop := fun A2 H2 x => by
    rw [intsFrom_len]
    exact Nat.le_refl n
  yld := fun A2 H2 i d v H3 x dm hd hy => by
    obtain ⟨rfl, rfl⟩ := hy
    rw [intsFrom_get n lo i d hd]
    exact ⟨Ex.refl _, .int _⟩
def wRng1 (a : WR) : WI := fun ρ Q => a ρ fun rs ρ1 => rdAll rs ρ1 fun xs => ∃ j : Int, xs = [.int j] ∧ (-(2 ^ 62) ≤ j ∧ j < 2 ^ 62) ∧ Q (intsFrom 0 j.toNat) ρ1
theorem pi_r1 {ta : TA} {a : WR} (h : Par T C ta a) : Pi T C (iRng1 ta) (wRng1 a) := fun W σ H ρ Q K e q k =>
  h W σ H ρ _ _ e q fun vs H1 W1 rs ρ1 P R q1 => by
    obtain ⟨xs, S, j, rfl, hj, q2⟩ := rdAll_ok P.ok R q1
    cases S with
    | cons s1 s2 =>
      cases s2
      have f := s1.full
      cases f
      exact ⟨j, rfl, hj.1, hj.2, k _ _ _ _ _ P walk_r q2⟩
def wRng2 (a : WR) : WI := fun ρ Q => a ρ fun rs ρ1 => rdAll rs ρ1 fun xs => ∃ i j : Int, xs = [.int i, .int j] ∧ (-(2 ^ 62) ≤ i ∧ i < 2 ^ 62 ∧ -(2 ^ 62) ≤ j ∧ j < 2 ^ 62) ∧ Q (intsFrom i (j - i).toNat) ρ1
theorem pi_r2 {ta : TA} {a : WR} (h : Par T C ta a) : Pi T C (iRng2 ta) (wRng2 a) := fun W σ H ρ Q K e q k =>
  h W σ H ρ _ _ e q fun vs H1 W1 rs ρ1 P R q1 => by
    obtain ⟨xs, S, i, j, rfl, hj, q2⟩ := rdAll_ok P.ok R q1
    cases S with
    | cons s1 s2 =>
      cases s2 with
      | cons s2 s3 =>
        cases s3
        have f := s1.full
        cases f
        have f2 := s2.full
        cases f2
        exact ⟨i, j, rfl, hj, k _ _ _ _ _ P walk_r q2⟩
end
end Sd

set_option maxHeartbeats 1000000
/-! S4: comprehensions. -/
namespace Sd
open PySem PySem.Spec PyProof.Rows L2 LamX

/-! ### slots forgotten -/
def wp (s : List (Option C1)) : List Nat → List (Option C1)
  | [] => s
  | v :: vs => (wp s vs).set v none
def En.wipe (ρ : En) (vs : List Nat) : En := { ρ with s := wp ρ.s vs }
theorem wp_len (s : List (Option C1)) : ∀ vs : List Nat, (wp s vs).length = s.length
  | [] => rfl
  | v :: vs => by
    unfold wp
    rw [List.length_set, wp_len s vs]
theorem wp_in {s : List (Option C1)} {i : Nat} {c : C1} : ∀ {vs : List Nat}, (wp s vs)[i]? = some (some c) → s[i]? = some (some c) ∧ i ∉ vs
  | [], h => ⟨h, by simp⟩
  | v :: vs, h => by
    unfold wp at h
    by_cases q : v = i
    · subst q
      by_cases l : v < (wp s vs).length
      · rw [List.getElem?_set_self l] at h
        cases h
      · rw [List.getElem?_eq_none (by simpa using l)] at h
        cases h
    · rw [List.getElem?_set_ne q] at h
      obtain ⟨h1, h2⟩ := wp_in h
      exact ⟨h1, fun z => by rcases List.mem_cons.mp z with z | z; exact q z.symm; exact h2 z⟩
theorem wp_out {s : List (Option C1)} {i : Nat} : ∀ {vs : List Nat}, i ∉ vs → (wp s vs)[i]? = s[i]?
  | [], _ => rfl
  | v :: vs, h => by
    unfold wp
    rw [List.getElem?_set_ne fun z => h (by simp [z])]
    exact wp_out fun z => h (List.mem_cons_of_mem _ z)
theorem wipe_o {σ : L2.St} {i : Nat} : ∀ {vs : List Nat}, i ∉ vs → (wipe σ vs)[i]? = σ[i]?
  | [], _ => rfl
  | v :: vs, h => by
    unfold wipe
    rw [List.getElem?_set_ne fun z => h (by simp [z])]
    exact wipe_o fun z => h (List.mem_cons_of_mem _ z)
theorem wipe_i {σ : L2.St} {i : Nat} (hi : i < σ.length) : ∀ {vs : List Nat}, i ∈ vs → (wipe σ vs)[i]? = some none
  | [], h => by cases h
  | v :: vs, h => by
    unfold wipe
    by_cases q : v = i
    · subst q
      exact List.getElem?_set_self (by rw [wipe_length]; exact hi)
    · rw [List.getElem?_set_ne q]
      exact wipe_i hi ((List.mem_cons.mp h).elim (fun z => absurd z.symm q) id)
theorem wipe_eq {σ σ' : L2.St} {vs : List Nat} (hl : σ'.length = σ.length) (h : ∀ i, i ∉ vs → σ'[i]? = σ[i]?) : wipe σ' vs = wipe σ vs := by
  apply List.ext_getElem?
  intro i
  by_cases m : i ∈ vs
  · by_cases l : i < σ.length
    · rw [wipe_i l m, wipe_i (by omega) m]
    · rw [List.getElem?_eq_none (by rw [wipe_length]; omega), List.getElem?_eq_none (by rw [wipe_length]; omega)]
  · rw [wipe_o m, wipe_o m, h i m]
theorem wipe_wipe {σ : L2.St} {vs : List Nat} : wipe (wipe σ vs) vs = wipe σ vs := wipe_eq (wipe_length σ vs) fun i h => wipe_o h

section
variable {T : Tab} {C : C0} {W W1 W2 : Wd} {A : List Addr} {σ σ' : L2.St} {Hs H H1 H2 B B1 : Hp} {ρ ρ' ρ1 ρ2 : En} {v : V} {r : RV} {E : DE} {F : Ends} {vs : List Nat}
theorem EnvOk.wipe (e : EnvOk T C W σ H ρ) : EnvOk T C W (wipe σ vs) H (ρ.wipe vs) where
  ext := e.ext
  sub := e.sub
  dom0 := e.dom0
  dom := e.dom
  len := by
    show (L2.wipe σ vs).length = (wp ρ.s vs).length
    rw [wipe_length, wp_len, e.len]
  cell := fun i c h => by
    obtain ⟨h1, h2⟩ := wp_in h
    obtain ⟨v, h3, h4⟩ := e.cell i c h1
    exact ⟨v, by rw [wipe_o h2]; exact h3, h4⟩
  tl := e.tl
  al := e.al
  st := e.st
  lv := e.lv
  inj := e.inj
  kk := e.kk
  lent := e.lent
  ll := e.ll
  tab := e.tab
  nw := e.nw
/-- the same store, other slots -/
def En.wm (ρ : En) (μ : List M) : En := ⟨ρ.s, μ, ρ.k⟩
theorem Post.sw (e : EnvOk T C W σ H ρ) (hm : ρ'.μ = ρ.μ) (p : Post T C W σ' H ρ' W1 H1 ρ1) (e' : EnvOk T C W σ' H ρ') : Post T C W σ H ρ W1 H1 (ρ.wm ρ1.μ) where
  ok := {
    ext := p.ok.ext
    sub := p.ok.sub
    dom0 := p.ok.dom0
    dom := p.ok.dom
    len := e.len
    cell := fun i c h => by
      obtain ⟨v, h1, h2⟩ := e.cell i c h
      exact ⟨v, h1, h2.mono (p.ex e') p.pre⟩
    tl := p.ok.tl
    al := p.ok.al
    st := p.ok.st
    lv := p.ok.lv
    inj := p.ok.inj
    kk := e.kk
    lent := p.ok.lent
    ll := p.ok.ll
    tab := p.ok.tab
    nw := p.ok.nw }
  le := p.le
  gone := by rw [← hm]; exact p.gone
  keep := by rw [← hm]; exact p.keep
  pre := p.pre
  new := p.new
  own := by rw [← hm]; exact p.own
  th := p.th
/-- a hidden object that is not the store's is changed; it was not there at first -/
theorem Post.upd_new (p : Post T C W σ H ρ W1 H1 ρ1) {a : Addr} {o o0 : HO} (hD : H a = none) (h0 : C.H0 a = none) (aA : a ∈ W1.A) (nt : ¬ T.isT a) (nl : ∀ l : Nat, W1.t[l]? ≠ some a) (ho : H1 a = some o0) (mu : Mut o0) : Post T C W σ H ρ W1 (L2.upd H1 a o) ρ1 := by
  have e := p.ok
  have hh : hide (L2.upd H1 a o) W1.A = hide H1 W1.A := hide_upd aA
  have nf : ∀ b, H1 b ≠ none → L2.upd H1 a o b ≠ none := fun b n z => by
    by_cases y : b = a
    · rw [y, upd_same] at z
      cases z
    · rw [upd_ne y] at z
      exact n z
  refine ⟨⟨fun b ob z n t => ?_, e.sub, e.dom0, fun b z => nf b (e.dom b z), e.len, fun i c z => ?_, e.tl, fun j b z => nf b (e.al j b z), fun j b x z1 z2 => ?_, e.lv, e.inj, e.kk, e.lent, e.ll, fun q hq => ?_, e.nw⟩, p.le, p.gone, fun b ob z n t => ?_, p.pre, p.new, p.own, fun b z => p.th b (Classical.byContradiction fun y => nf b y z)⟩
  · rw [upd_ne (show b ≠ a from fun y => by rw [y, h0] at z; cases z)]
    exact e.ext b ob z n t
  · obtain ⟨v, h1, h2⟩ := e.cell i c z
    exact ⟨v, h1, by rw [hh]; exact h2⟩
  · rw [hh]
    exact (e.st j b x z1 z2).mono (Ex.refl _) (Pre.refl _) fun _ ob g => by
      rw [upd_ne (show b ≠ a from fun w => nl j (w ▸ z1))]
      exact g
  · refine ⟨(e.tab q hq).1, tabS_keep (e.tab q hq).2 (fun ob z => ?_) fun b x z => ?_⟩
    · rw [upd_ne (show q.1 ≠ a from fun y => nt ⟨q, hq, y⟩)]
      exact z
    · rw [upd_ne (show b ≠ a from fun y => by rw [y, ho] at z; exact mu.2 _ _ (Option.some.inj z))]
      exact z
  · rw [upd_ne (show b ≠ a from fun y => by rw [y, hD] at z; cases z)]
    exact p.keep b ob z n t

/-! ### list comprehensions -/
def wComp (g : WG) (t : WT) (e : WE) (ρ0 : En) (K : List D → List M → Prop) : List D → List D → List M → Prop
  | [], acc, μ => K acc μ
  | x :: xs, acc, μ => g x (ρ0.wm μ) fun ρ1 => t ρ1 fun b ρ2 => if b = true then e ρ2 fun r ρ3 => esc r ρ3 fun y ρ4 => szB (acc.length + 1) = true ∧ wComp g t e ρ0 K xs (acc ++ [y]) ρ4.μ
    else wComp g t e ρ0 K xs acc ρ2.μ
def wLc (i : WI) (g : WG) (t : WT) (e : WE) (vs : List Nat) : WE := fun ρ Q => i ρ fun xs ρ1 => wComp g t e (ρ1.wipe vs) (fun acc μ => Q (.n (.l acc)) (ρ1.wm μ)) xs [] ρ1.μ
theorem pt_yes : Pt T C tYes (fun ρ Q => Q true ρ) := fun W σ H ρ Q K e q k => k _ _ _ _ (.refl e) q
theorem pe_lcD {wi : TI} {g : TG} {tt : TT} {te : TE} {i : WI} {w : WG} {t : WT} {a : WE} {js : List Nat} (hi : Pi T C wi i) (hg : Pg T C js g w) (ht : Pt T C tt t) (he : Pe T C te a) (hj : ∀ j, j ∈ js → j ∈ vs) : Pe T C (tLc wi g tt te vs) (wLc i w t a vs) := fun W σ H ρ Q K e q k =>
  hi W σ H ρ _ _ e q fun J H1 W1 xs ρ1 P wk q1 Dl hD => by
    have e1 := P.ok
    obtain ⟨nA, nT, nl, n0, _⟩ := e1.new0 hD
    have x0 : Ex H1 (upd H1 Dl (.lst [])) := Ex.new hD
    have Pm : Post T C W1 (L2.wipe σ vs) H1 (ρ1.wipe vs) ⟨Dl :: W1.A, W1.t⟩ (upd H1 Dl (.lst [])) (ρ1.wipe vs) := (e1.wipe (vs := vs)).post_more x0 (fun a h => List.mem_cons_of_mem _ h) (fun a h => by
        rcases (List.mem_cons.mp h : a = Dl ∨ a ∈ W1.A) with z | z
        · exact .inr (z ▸ hD)
        · exact .inl z) fun a h => by
        rcases (List.mem_cons.mp h : a = Dl ∨ a ∈ W1.A) with z | z
        · rw [z, upd_same]
          simp
        · exact fun q => e1.dom a z (x0.free q)
    refine ⟨fun n m H' => m = xs.length - n ∧ n ≤ xs.length ∧ ∃ W' μ' acc ys, Post T C W1 (L2.wipe σ vs) H1 (ρ1.wipe vs) W' H' ((ρ1.wipe vs).wm μ') ∧ Dl ∈ W'.A ∧ (∀ l : Nat, W'.t[l]? ≠ some Dl) ∧ H' Dl = some (.lst acc) ∧ AtAll T (hide H' W'.A) acc ys ∧
      wComp w t a (ρ1.wipe vs) (fun acc μ => Q (.n (.l acc)) (ρ1.wm μ)) (xs.drop n) ys μ', ⟨xs.length, rfl, Nat.zero_le _, _, ρ1.μ, [], [], Pm, List.mem_cons_self, nl, upd_same, .nil, q1⟩, ?_⟩
    rintro n m H' ⟨rfl, hn, W', μ', acc, ys, P', dA, dl, hDl, hs, q'⟩
    have x' : Ex (hide H1 W1.A) (hide H' W'.A) := P'.ex e1.wipe
    by_cases hlt : n < xs.length
    · have hd : xs.drop n = xs[n] :: xs.drop (n + 1) := List.drop_eq_getElem_cons hlt
      rw [hd] at q'
      refine .inr ⟨wk.go W'.A H' n x' hlt, fun H5 => n + 1 ≤ xs.length ∧ ∃ W5 μ5 acc ys, Post T C W1 (L2.wipe σ vs) H1 (ρ1.wipe vs) W5 H5 ((ρ1.wipe vs).wm μ5) ∧ Dl ∈ W5.A ∧ (∀ l : Nat, W5.t[l]? ≠ some Dl) ∧ H5 Dl = some (.lst acc) ∧ AtAll T (hide H5 W5.A) acc ys ∧
        wComp w t a (ρ1.wipe vs) (fun acc μ => Q (.n (.l acc)) (ρ1.wm μ)) (xs.drop (n + 1)) ys μ5, fun H5 ⟨_, p⟩ => ⟨_, by omega, rfl, hlt, p⟩, fun y H3 hy => ?_⟩
      obtain ⟨g1, g2⟩ := wk.yld W'.A H' n xs[n] y H3 x' P'.ok.dom (List.getElem?_eq_getElem hlt) hy
      have P3 := P'.trans (P'.ok.post_ex g1)
      have e3 := P3.ok
      refine hg W' (L2.wipe σ vs) H3 _ y xs[n] _ _ e3 g2 q' fun σ2 ρ2 e2 st q2 => ?_
      have st' := st.le hj
      refine ⟨(wipe_eq st'.len fun i h => (st'.out i h).1).trans wipe_wipe, ?_⟩
      refine ht W' σ2 H3 ρ2 _ _ e2 q2 fun b H4 W4 ρ4 P4 q4 => ?_
      have noD : ¬ Own W'.t ρ2.μ Dl := fun ⟨l, _, z, _⟩ => dl l z
      have h3D : H3 Dl = some (.lst acc) := g1 _ _ hDl
      have dln : ∀ {W5 H5 ρ5}, Post T C W' σ2 H3 ρ2 W5 H5 ρ5 → ∀ l : Nat, W5.t[l]? ≠ some Dl := fun p l z => (p.new l Dl z).elim (dl l) fun y => by rw [h3D] at y; cases y
      have dAk : ∀ {W5 H5 ρ5}, Post T C W' σ2 H3 ρ2 W5 H5 ρ5 → Dl ∈ W5.A := fun p => Classical.byContradiction fun z => noD (p.gone Dl dA (by rw [h3D]; simp) z)
      cases b with
      | false =>
        have P5 := Post.sw e3 st.m P4 e2
        exact ⟨hlt, W4, ρ4.μ, acc, ys, P3.trans P5, dAk P4, dln P4, P4.keep Dl _ h3D noD nT, (hs.mono (ex_hide_ex g1)).mono (P4.ex e2), q4⟩
      | true =>
        refine he W4 σ2 H4 ρ4 _ _ P4.ok q4 fun y2 H5 W5 r5 ρ5 P5 R5 q5 => ?_
        obtain ⟨W6, z, ρ6, P6, S6, q6, q7⟩ := esc_ok P4.ok P5 R5 q5
        have P46 := P4.trans P6
        have dA6 : Dl ∈ W6.A := dAk P46
        have hD6 : H5 Dl = some (.lst acc) := P46.keep Dl _ h3D noD nT
        have s6 : AtAll T (hide H5 W6.A) acc ys := (hs.mono (ex_hide_ex g1)).mono (P46.ex e2)
        have P7 := P3.trans (Post.sw e3 st.m P46 e2)
        refine ⟨acc, hD6, by rw [s6.length]; exact szB_ok q6, hlt, W6, ρ6.μ, acc ++ [y2], ys ++ [z], P7.upd_new hD n0 dA6 nT (dln P46) hD6 (mut_lst _), dA6, dln P46, upd_same, ?_, q7⟩
        rw [hide_upd dA6]
        exact s6.append (.cons S6 .nil)
    · have hk2 : n = xs.length := by omega
      subst hk2
      rw [List.drop_length] at q'
      refine .inl ⟨wk.stop W'.A H' x', ?_⟩
      have P8 : Post T C W1 σ H1 ρ1 W' H' (ρ1.wm μ') := Post.sw (ρ' := ρ1.wipe vs) (ρ1 := (ρ1.wipe vs).wm μ') e1 rfl P' e1.wipe
      exact k _ _ _ _ _ (P.trans P8) (RvOk.n (m := .l ys) (show ∃ us, _ ∧ _ from ⟨acc, hDl, hs⟩) rfl dA (P.th _ hD) n0 nT dl) q'
end
end Sd

set_option maxHeartbeats 1000000
/-! S5: operations on data. -/
namespace Sd
open PySem PySem.Spec PyProof.Rows L2 LamX
section
variable {T : Tab} {A : List Addr} {H H1 : Hp}
/-! ### ints -/
def fI (C : Int → Int → Prop) (g : Int → Int → D) : F2
  | .int i, .int j, k => C i j ∧ k (.d (g i j))
  | _, _, _ => False
def fI0 (g : Int → Int → D) : F2
  | .int i, .int j, k => k (.d (g i j))
  | _, _, _ => False
theorem Sh.int {v : V} {i : Int} (h : Sh T H A v (.int i)) : v = .int i := by
  have f := h.full
  cases f
  rfl
theorem Sh.bl {v : V} {b : Bool} (h : Sh T H A v (.bl b)) : v = .bl b := by
  have f := h.full
  cases f
  rfl
theorem Sh.str {v : V} {z : Str} (h : Sh T H A v (.str z)) : v = .str z := by
  have f := h.full
  cases f
  rfl
theorem Sh.non {v : V} (h : Sh T H A v .non) : v = .non := by
  have f := h.full
  cases f
  rfl
theorem op_rI {C : Int → Int → Prop} {g : Int → Int → V} {gd : Int → Int → D} (hg : ∀ i j H, At T H (g i j) (gd i j)) : Op2 T (rI C g) (fI C gd) := fun H A x y u v Q K d hx hy q k => by
  cases u with
  | int i =>
    cases v with
    | int j => exact ⟨i, j, hx.int, hy.int, q.1, k _ _ (vend_d d (hg i j _) q.2)⟩
    | _ => exact q.elim
  | _ => exact q.elim
theorem op_rI0 {g : Int → Int → V} {gd : Int → Int → D} (hg : ∀ i j H, At T H (g i j) (gd i j)) : Op2 T (rI0 g) (fI0 gd) := fun H A x y u v Q K d hx hy q k => by
  cases u with
  | int i =>
    cases v with
    | int j => exact ⟨i, j, hx.int, hy.int, k _ _ (vend_d d (hg i j _) q)⟩
    | _ => exact q.elim
  | _ => exact q.elim
theorem o_add : Op2 T (rI0 fun i j => .int (i + j)) (fI0 fun i j => .int (i + j)) := op_rI0 fun _ _ _ => .int _
theorem o_sub : Op2 T (rI0 fun i j => .int (i - j)) (fI0 fun i j => .int (i - j)) := op_rI0 fun _ _ _ => .int _
theorem o_mul : Op2 T (rI CMul fun i j => .int (i * j)) (fI CMul fun i j => .int (i * j)) := op_rI fun _ _ _ => .int _
theorem o_div : Op2 T (rI CDiv fun i j => .int (i / j)) (fI CDiv fun i j => .int (i / j)) := op_rI fun _ _ _ => .int _
theorem o_mod : Op2 T (rI (fun _ j => 0 < j) fun i j => .int (i % j)) (fI (fun _ j => 0 < j) fun i j => .int (i % j)) := op_rI fun _ _ _ => .int _
theorem o_pow : Op2 T (rI CPow fun i j => .int (i ^ j.toNat)) (fI CPow fun i j => .int (i ^ j.toNat)) := op_rI fun _ _ _ => .int _
theorem o_lt : Op2 T (rI0 fun i j => .bl (decide (i < j))) (fI0 fun i j => .bl (decide (i < j))) := op_rI0 fun _ _ _ => .bl _
theorem o_le : Op2 T (rI0 fun i j => .bl (decide (i ≤ j))) (fI0 fun i j => .bl (decide (i ≤ j))) := op_rI0 fun _ _ _ => .bl _
theorem o_gt : Op2 T (rI0 fun i j => .bl (decide (j < i))) (fI0 fun i j => .bl (decide (j < i))) := op_rI0 fun _ _ _ => .bl _
theorem o_ge : Op2 T (rI0 fun i j => .bl (decide (j ≤ i))) (fI0 fun i j => .bl (decide (j ≤ i))) := op_rI0 fun _ _ _ => .bl _
/-! ### put together -/
def fCatL : F2
  | .lst xs, .lst ys, k => szB (xs.length + ys.length) = true ∧ k (.n (.l (xs ++ ys)))
  | _, _, _ => False
theorem o_cat : Op2 T rCat fCatL := fun H A x y u v Q K d hx hy q k => by
  cases u with
  | lst xs =>
    cases v with
    | lst ys =>
      obtain ⟨a, vs, rfl, h1, s1⟩ := hx.lst'
      obtain ⟨b, ws, rfl, h2, s2⟩ := hy.lst'
      exact ⟨a, b, vs, ws, rfl, rfl, h1, h2, by rw [s1.length, s2.length]; exact szB_ok q.1, fun p hp => k _ _ (vend_n d hp (s1.append s2) q.2)⟩
    | _ => exact q.elim
  | _ => exact q.elim
def fCatS : F2
  | .str x, .str y, k => szB (x.length + y.length) = true ∧ k (.d (.str (x ++ y)))
  | _, _, _ => False
theorem o_catS : Op2 T (fun x y H Q => ∃ i j, x = .str i ∧ y = .str j ∧ i.length + j.length ≤ sizeLine ∧ Q (.str (i ++ j)) H) fCatS := fun H A x y u v Q K d hx hy q k => by
  cases u with
  | str i =>
    cases v with
    | str j => exact ⟨i, j, hx.str, hy.str, szB_ok q.1, k _ _ (vend_d d (.str _) q.2)⟩
    | _ => exact q.elim
  | _ => exact q.elim
theorem Sh.tup {v : V} {xs : List D} (h : Sh T H A v (.tup xs)) : ∃ a vs, v = .ref a ∧ SqT T.K H a vs ∧ AtAll T (hide H A) vs xs := by
  have f := h.plain rfl
  cases f with
  | tup s t => exact ⟨_, _, rfl, (ex_hide H A).t s, t⟩
def fCatT : F2
  | .tup xs, .tup ys, k => szB (xs.length + ys.length) = true ∧ k (.d (.tup (xs ++ ys)))
  | _, _, _ => False
theorem rep_at {vs : List V} {xs : List D} (h : AtAll T H vs xs) : ∀ n : Nat, AtAll T H (List.replicate n vs).flatten (List.replicate n xs).flatten
  | 0 => .nil
  | n + 1 => by
    rw [List.replicate_succ, List.replicate_succ, List.flatten_cons, List.flatten_cons]; exact h.append (rep_at h n)
def fRep : F2
  | .lst xs, .int j, k => (decide (-(2 ^ 63) ≤ j ∧ j < 2 ^ 63) && szB (xs.length * j.toNat)) = true ∧ k (.n (.l (List.replicate j.toNat xs).flatten))
  | _, _, _ => False
theorem o_rep : Op2 T rRep fRep := fun H A x y u v Q K d hx hy q k => by
  cases u with
  | lst xs =>
    cases v with
    | int j =>
      obtain ⟨a, vs, rfl, h1, s1⟩ := hx.lst'
      obtain ⟨q1, q2⟩ := q
      obtain ⟨q3, q4⟩ := Bool.and_eq_true_iff.mp q1
      have q5 := of_decide_eq_true q3
      exact ⟨a, j, vs, rfl, hy.int, h1, q5.1, q5.2, by rw [s1.length]; exact szB_ok q4, fun p hp => k _ _ (vend_n d hp (rep_at s1 _) q2)⟩
    | _ => exact q.elim
  | _ => exact q.elim
/-! ### by place -/
@[irreducible] def atK (xs : List D) (i : Int) (k : RV → Prop) : Prop := match atI xs i with
  | some d => k (.d d)
  | none => False
def fIx : F2
  | .lst xs, .int i, k => atK xs i k
  | .tup xs, .int i, k => atK xs i k
  | .str z, .int i, k => szB z.length = true ∧ (match atI z.cps.toList i with
    | some c => k (.d (.str ⟨#[c]⟩))
    | none => False)
  | _, _, _ => False
theorem atI_get {vs : List V} {xs : List D} {i : Int} {d : D} (s : AtAll T H vs xs) (e : atI xs i = some d) : ∃ v, atI vs i = some v ∧ At T H v d := by
  unfold atI at e ⊢
  rw [← s.length] at e
  cases z : ixN vs.length i with
  | none =>
    rw [z] at e
    cases e
  | some j =>
    rw [z] at e
    exact s.get e
theorem o_ix : Op2 T (rIx T.K) fIx := fun H A x y u v Q K d hx hy q k => by
  cases u with
  | lst xs =>
    cases v with
    | int i =>
      obtain ⟨a, vs, rfl, h1, s1⟩ := hx.lst'
      have q : atK xs i Q := q
      unfold atK at q
      cases e : atI xs i with
      | none => rw [e] at q; exact q.elim
      | some z =>
        rw [e] at q
        obtain ⟨v, e1, h2⟩ := atI_get s1 e
        exact .inl ⟨a, vs, i, v, rfl, hy.int, SqL.of h1, e1, k _ _ (vend_d d h2 q)⟩
    | _ => exact q.elim
  | tup xs =>
    cases v with
    | int i =>
      obtain ⟨a, vs, rfl, h1, s1⟩ := hx.tup
      have q : atK xs i Q := q
      unfold atK at q
      cases e : atI xs i with
      | none => rw [e] at q; exact q.elim
      | some z =>
        rw [e] at q
        obtain ⟨v, e1, h2⟩ := atI_get s1 e
        exact .inr (.inl ⟨a, vs, i, v, rfl, hy.int, h1, e1, k _ _ (vend_d d h2 q)⟩)
    | _ => exact q.elim
  | str z =>
    cases v with
    | int i =>
      obtain ⟨q1, q⟩ := q
      cases e : atI z.cps.toList i with
      | none => rw [e] at q; exact q.elim
      | some c =>
        rw [e] at q
        exact .inr (.inr ⟨z, i, c, hx.str, hy.int, szB_ok q1, e, k _ _ (vend_d d (.str _) q)⟩)
    | _ => exact q.elim
  | _ => exact q.elim
/-! ### equality of data -/
mutual
def D.py : D → Option PyData
  | .non => some .none
  | .bl b => some (.bool b)
  | .int i => some (.int i)
  | .str x => some (.str x)
  | .lst xs => (D.pyAll xs).map .list
  | .tup xs => (D.pyAll xs).map .tuple
  | _ => none
def D.pyAll : List D → Option (List PyData)
  | [] => some []
  | x :: xs => match D.py x, D.pyAll xs with
    | some y, some ys => some (y :: ys)
    | _, _ => none
end
theorem py_all {v : V} {d : D} {xs : List D} {ys : List PyData} {y : PyData} (hy : D.pyAll (d :: xs) = some ys) : ∃ z zs, D.py d = some z ∧ D.pyAll xs = some zs ∧ ys = z :: zs := by
  unfold D.pyAll at hy
  cases e1 : D.py d with
  | none =>
    rw [e1] at hy
    cases hy
  | some z =>
    cases e2 : D.pyAll xs with
    | none =>
      rw [e1, e2] at hy
      cases hy
    | some zs =>
      rw [e1, e2] at hy
      cases hy
      exact ⟨z, zs, rfl, rfl, rfl⟩
mutual
theorem At.dp {K : PySem.W.Frag} (hK : T.K = K) : ∀ {v : V} {d : D} {e : PyData}, At T H v d → D.py d = some e → Dp K H v e
  | _, _, _, .non, q => by cases q; exact .non
  | _, _, _, .bl b, q => by cases q; exact .bl b
  | _, _, _, .int i, q => by cases q; exact .int i
  | _, _, _, .str x, q => by cases q; exact .str x
  | _, _, _, @At.lst _ _ a vs ds s t, q => by
    unfold D.py at q
    cases e1 : D.pyAll ds with
    | none => rw [e1] at q; cases q
    | some zs =>
      rw [e1] at q
      cases q
      exact .lst (SqL.of s) (AtAll.dp hK t e1)
  | _, _, _, @At.tup _ _ a vs ds s t, q => by
    unfold D.py at q
    cases e1 : D.pyAll ds with
    | none => rw [e1] at q; cases q
    | some zs =>
      rw [e1] at q
      cases q
      exact .tup (hK ▸ s) (AtAll.dp hK t e1)
  | _, _, _, .dK _ _, q => by unfold D.py at q; cases q
  | _, _, _, .dT _ _, q => by unfold D.py at q; cases q
  | _, _, _, .ins _ _, q => by unfold D.py at q; cases q
  | _, _, _, .exc _ _ _, q => by unfold D.py at q; cases q
theorem AtAll.dp {K : PySem.W.Frag} (hK : T.K = K) : ∀ {vs : List V} {ds : List D} {es : List PyData}, AtAll T H vs ds → D.pyAll ds = some es → DpAll K H vs es
  | _, _, _, .nil, q => by cases q; exact .nil
  | _, _, _, @AtAll.cons _ _ v vs d ds a b, q => by
    obtain ⟨z, zs, e1, e2, rfl⟩ := py_all (v := .non) (y := .none) q
    exact .cons (At.dp hK a e1) (AtAll.dp hK b e2)
end
@[irreducible] def eqK (g : Bool → Bool) : F2 := fun x y k => match D.py x, D.py y with
  | some d, some e => (SeqAt.shaped d && SeqAt.shaped e) = true ∧ k (.d (.bl (g (PyData.eqv d e))))
  | _, _ => False
theorem eqK_ok {g : Bool → Bool} {u v : D} {k : RV → Prop} (q : eqK g u v k) : ∃ d e, D.py u = some d ∧ D.py v = some e ∧ SeqAt.shaped d = true ∧ SeqAt.shaped e = true ∧ k (.d (.bl (g (PyData.eqv d e)))) := by
  unfold eqK at q
  cases e1 : D.py u with
  | none => rw [e1] at q; exact q.elim
  | some d =>
    cases e2 : D.py v with
    | none => rw [e1, e2] at q; exact q.elim
    | some e =>
      rw [e1, e2] at q
      obtain ⟨q1, q2⟩ := q
      obtain ⟨q3, q4⟩ := Bool.and_eq_true_iff.mp q1
      exact ⟨d, e, rfl, rfl, q3, q4, q2⟩
theorem o_eq : Op2 T (rEqD T.K) (eqK id) := fun H A x y u v Q K d hx hy q k => by
  obtain ⟨d1, d2, e1, e2, s1, s2, q⟩ := eqK_ok q
  exact ⟨d1, d2, At.dp rfl hx.full e1, At.dp rfl hy.full e2, s1, s2, k _ _ (vend_d d (.bl _) q)⟩
theorem o_ne : Op2 T (rNeD T.K) (eqK not) := fun H A x y u v Q K d hx hy q k => by
  obtain ⟨d1, d2, e1, e2, s1, s2, q⟩ := eqK_ok q
  exact ⟨d1, d2, At.dp rfl hx.full e1, At.dp rfl hy.full e2, s1, s2, k _ _ (vend_d d (.bl _) q)⟩
/-! ### built-ins -/
def fLen : FL
  | [.lst xs], k => k (.d (.int (xs.length : Nat)))
  | [.tup xs], k => k (.d (.int (xs.length : Nat)))
  | [.str z], k => szB z.length = true ∧ k (.d (.int (z.length : Nat)))
  | _, _ => False
theorem sh1 {vs : List V} {x : D} (h : ShAll T H A vs [x]) : ∃ v, vs = [v] ∧ Sh T H A v x := by
  cases h with
  | cons a b =>
    cases b
    exact ⟨_, rfl, a⟩
theorem o_len : OpL T (fun xs H Q => ∃ x n, xs = [x] ∧ LenV T.K x H n ∧ Q (.int n) H) fLen := fun H A vs us Q K d hs q k => by
  match us, q with
  | [.lst xs], q =>
    obtain ⟨v, rfl, h⟩ := sh1 hs
    obtain ⟨a, ws, rfl, h1, s1⟩ := h.lst'
    exact ⟨_, _, rfl, .inl ⟨ws, SqL.of h1, rfl⟩, k _ _ (vend_d d (.int _) (by rw [s1.length]; exact q))⟩
  | [.tup xs], q =>
    obtain ⟨v, rfl, h⟩ := sh1 hs
    obtain ⟨a, ws, rfl, h1, s1⟩ := h.tup
    exact ⟨_, _, rfl, .inr ⟨ws, h1, rfl⟩, k _ _ (vend_d d (.int _) (by rw [s1.length]; exact q))⟩
  | [.str z], q =>
    obtain ⟨v, rfl, h⟩ := sh1 hs
    rw [h.str]
    exact ⟨_, _, rfl, ⟨szB_ok q.1, rfl⟩, k _ _ (vend_d d (.int _) q.2)⟩
def fInt : FL
  | [.int i], k => k (.d (.int i))
  | [.bl b], k => k (.d (.int (if b then 1 else 0)))
  | _, _ => False
theorem o_int : OpL T (fun xs H Q => (∃ i, xs = [.int i] ∧ Q (.int i) H) ∨ ∃ k, xs = [.bl k] ∧ Q (.int (if k then 1 else 0)) H) fInt := fun H A vs us Q K d hs q k => by
  match us, q with
  | [.int i], q =>
    obtain ⟨v, rfl, h⟩ := sh1 hs
    rw [h.int]
    exact .inl ⟨i, rfl, k _ _ (vend_d d (.int _) q)⟩
  | [.bl b], q =>
    obtain ⟨v, rfl, h⟩ := sh1 hs
    rw [h.bl]
    exact .inr ⟨b, rfl, k _ _ (vend_d d (.int _) q)⟩
end
end Sd

set_option maxHeartbeats 1000000
/-! S6: calls: objects of the store are lent. -/
namespace Sd
open PySem PySem.Spec PyProof.Rows L2 LamX

/-! ### which objects are lent, and their numbers there -/
def inB (l : Nat) : List Nat → Bool
  | [] => false
  | x :: xs => if Nat.beq x l = true then true else inB l xs
def idx (l : Nat) : List Nat → Nat
  | [] => 0
  | x :: xs => if Nat.beq x l = true then 0 else idx l xs + 1
/-- a reference to what is data from now on is this data -/
def fz (μ : List M) : C1 → C1
  | .p d => .p d
  | .r l => match μ[l]? with
    | some (.z d) => .p d
    | _ => .r l
  | .fn => .fn
def renC (μ : List M) (ls : List Nat) (c : C1) : C1 := match fz μ c with
  | .p d => .p d
  | .r l => .r (idx l ls)
  | .fn => .fn
def renM (μ : List M) (ls : List Nat) : M → M
  | .i c ns fs => .i c ns (fs.map (renC μ ls))
  | m => m
def addR (μ : List M) (ls : List Nat) (c : C1) : List Nat := match fz μ c with
  | .p _ => ls
  | .fn => ls
  | .r l => if inB l ls = true then ls else ls ++ [l]
def addRs (μ : List M) : List Nat → List C1 → List Nat
  | ls, [] => ls
  | ls, c :: cs => addRs μ (addR μ ls c) cs
def clo (μ : List M) : Nat → Nat → List Nat → List Nat
  | 0, _, ls => ls
  | f + 1, i, ls => match ls[i]? with
    | none => ls
    | some l => (match μ[l]? with
      | some (.i _ _ fs) => clo μ f (i + 1) (addRs μ ls fs)
      | _ => clo μ f (i + 1) ls)
def lend (μ : List M) (cs : List C1) : List Nat := clo μ μ.length 0 (addRs μ [] cs)
def refIn (μ : List M) (ls : List Nat) (c : C1) : Bool := match fz μ c with
  | .p _ => true
  | .fn => false
  | .r l => inB l ls
def nodupB : List Nat → Bool
  | [] => true
  | x :: xs => !inB x xs && nodupB xs
def okM (μ : List M) (ls : List Nat) (l : Nat) : Bool := match μ[l]? with
  | some (.i _ _ fs) => fs.all (refIn μ ls)
  | some (.z _) => false
  | some _ => true
  | none => false
def okL (μ : List M) (cs : List C1) (ls : List Nat) : Bool := nodupB ls && (ls.all (okM μ ls) && cs.all (refIn μ ls))
def subM (μ : List M) (ls : List Nat) : List M := ls.map fun l => renM μ ls (μ.getD l (.z .non))
/-- back again -/
def bkC (ls : List Nat) : C1 → C1
  | .p d => .p d
  | .fn => .fn
  | .r j => .r (ls.getD j 0)
def bkM (ls : List Nat) : M → M
  | .i c ns fs => .i c ns (fs.map (bkC ls))
  | m => m
def bkR (ls : List Nat) : RV → RV
  | .r j => .r (ls.getD j 0)
  | r => r
def wb (ls : List Nat) : List M → List Nat → List M → List M
  | μ, l :: ks, m :: ms => wb ls (μ.set l (bkM ls m)) ks ms
  | μ, _, _ => μ

theorem inB_mem {l : Nat} : ∀ {ls : List Nat}, inB l ls = true ↔ l ∈ ls
  | [] => by simp [inB]
  | x :: xs => by
    unfold inB
    by_cases q : x = l
    · subst q
      simp
    · rw [if_neg (by rw [Nat.beq_eq]; exact q), inB_mem (ls := xs)]
      constructor
      · exact List.mem_cons_of_mem _
      · intro h; rcases List.mem_cons.mp h with z | z
        · exact absurd z.symm q
        · exact z
theorem idx_get {l : Nat} : ∀ {ls : List Nat}, l ∈ ls → ls[idx l ls]? = some l
  | [], h => by cases h
  | x :: xs, h => by
    unfold idx
    by_cases q : x = l
    · subst q
      simp
    · rw [if_neg (by rw [Nat.beq_eq]; exact q)]; rcases List.mem_cons.mp h with z | z
      · exact absurd z.symm q
      · exact idx_get z
theorem nodupB_inj : ∀ {ls : List Nat}, nodupB ls = true → ∀ (i j l : Nat), ls[i]? = some l → ls[j]? = some l → i = j
  | [], _, _, _, _, h, _ => by cases h
  | x :: xs, h, i, j, l, hi, hj => by
    unfold nodupB at h
    obtain ⟨h1, h2⟩ := Bool.and_eq_true_iff.mp h
    have h1 : ¬ x ∈ xs := fun z => by rw [inB_mem.mpr z] at h1; cases h1
    cases i with
    | zero =>
      cases j with
      | zero => rfl
      | succ j =>
        cases hi
        exact absurd (List.mem_iff_getElem?.mpr ⟨j, hj⟩) h1
    | succ i =>
      cases j with
      | zero =>
        cases hj
        exact absurd (List.mem_iff_getElem?.mpr ⟨i, hi⟩) h1
      | succ j => rw [nodupB_inj h2 i j l hi hj]
theorem wb_len (ls : List Nat) : ∀ (ks : List Nat) (ms μ : List M), (wb ls μ ks ms).length = μ.length
  | [], _, _ => by unfold wb; rfl
  | _ :: _, [], _ => rfl
  | l :: ks, m :: ms, μ => by
    unfold wb
    rw [wb_len ls ks ms, List.length_set]
theorem wb_out {ls : List Nat} {l : Nat} : ∀ (ks : List Nat) (ms μ : List M), l ∉ ks → (wb ls μ ks ms)[l]? = μ[l]?
  | [], _, _, _ => by unfold wb; rfl
  | _ :: _, [], _, _ => rfl
  | x :: ks, m :: ms, μ, h => by
    unfold wb
    rw [wb_out ks ms _ fun z => h (List.mem_cons_of_mem _ z), List.getElem?_set_ne fun z => h (by rw [z]; exact List.mem_cons_self)]
theorem wb_in {ls : List Nat} {l : Nat} : ∀ (ks : List Nat) (ms μ : List M) (j : Nat) (m : M), nodupB ks = true → ks[j]? = some l → ms[j]? = some m → l < μ.length → (wb ls μ ks ms)[l]? = some (bkM ls m)
  | [], _, _, _, _, _, h, _, _ => by cases h
  | _ :: _, [], _, _, _, _, _, h, _ => by cases h
  | x :: ks, y :: ms, μ, j, m, nd, h1, h2, hl => by
    unfold nodupB at nd
    obtain ⟨n1, n2⟩ := Bool.and_eq_true_iff.mp nd
    have n1 : ¬ x ∈ ks := fun z => by rw [inB_mem.mpr z] at n1; cases n1
    unfold wb
    cases j with
    | zero =>
      cases h1
      cases h2
      rw [wb_out ks ms _ n1, List.getElem?_set_self hl]
    | succ j => exact wb_in ks ms _ j m n2 h1 h2 (by rw [List.length_set]; exact hl)

/-! ### promises -/
/-- at a def's entry -/
structure PreC (T : Tab) (A Lt : List Addr) (H : Hp) (μ : List M) (vs : List V) (cs : List C1) : Prop where
  dom : ∀ a, a ∈ A → H a ≠ none
  args : FAll T Lt (hide H A) vs cs
  len : Lt.length = μ.length
  st : ∀ (l : Nat) (a : Addr) (m : M), Lt[l]? = some a → μ[l]? = some m → MAt T Lt (hide H A) H a m ∧ m.live = true ∧ a ∈ A ∧ ¬ T.isT a
  inj : ∀ (l l' : Nat) (a : Addr), Lt[l]? = some a → Lt[l']? = some a → l = l'
  tab : ∀ q, q ∈ T.tb → q.1 ∈ A ∧ TabS H q.1 q.2
/-- behind it: the heap -/
structure PostH (T : Tab) (A Lt : List Addr) (H : Hp) (A' : List Addr) (H' : Hp) (μ' : List M) : Prop where
  sub : ∀ a, a ∈ A → a ∈ A'
  new : ∀ a, a ∈ A' → a ∈ A ∨ H a = none
  dom : ∀ a, a ∈ A' → H' a ≠ none
  len : Lt.length = μ'.length
  st : ∀ (l : Nat) (a : Addr) (m : M), Lt[l]? = some a → μ'[l]? = some m → MAt T Lt (hide H' A') H' a m ∧ m.live = true
  tab : ∀ q, q ∈ T.tb → TabS H' q.1 q.2
  ext : ∀ a o, H a = some o → a ∉ Lt → ¬ T.isT a → H' a = some o
  th : ∀ a, H' a = none → H a = none
/-- an exception as data -/
def XAt (T : Tab) (H : Hp) (cls : Value) (d : Option Addr) (x : D) : Prop := ∃ (c : Str) (dd : Addr) (fs : List (Str × V)) (ds : List D), x = .exc c (fs.map (·.1)) ds ∧ cls = .ref (T.ca c) ∧ d = some dd ∧ H dd = some (.xd fs) ∧ AtAll T H (fs.map (·.2)) ds
/-- a def's promise: arguments, lent objects; what is wanted of a result, of an exception -/
abbrev RD := List C1 → List M → (RV → List M → Prop) → (D → List M → Prop) → Prop
def SpC (T : Tab) (R : RD) : Sp := fun vs H Q E => ∃ (A Lt : List Addr) (cs : List C1) (μ : List M) (K : RV → List M → Prop) (X : D → List M → Prop), PreC T A Lt H μ vs cs ∧ R cs μ K X ∧
  (∀ v H' A' r μ', PostH T A Lt H A' H' μ' → RetOk T ⟨H, A, Lt, C8.E0, fun _ _ => False⟩ ⟨A', Lt⟩ H' v r → K r μ' → Q v H') ∧
  (∀ cls d H' A' x μ', PostH T A Lt H A' H' μ' → XAt T (hide H' A') cls d x → X x μ' → E cls d H')
section
variable {T : Tab} {C : C0} {W W1 W2 : Wd} {A A' Lt : List Addr} {σ : L2.St} {Hs H H1 H2 : Hp} {ρ ρ1 ρ2 : En} {v : V} {r : RV} {μ' : List M} {ls : List Nat} {cs : List C1} {vs : List V}
theorem fz_at (e : EnvOk T C W σ H ρ) {c : C1} (h : FAt T W.t (hide H W.A) v c) : FAt T W.t (hide H W.A) v (fz ρ.μ c) := by
  cases h with
  | p h => exact .p h
  | fn => exact .fn
  | @r a l h =>
    show FAt T W.t (hide H W.A) (.ref a) (match ρ.μ[l]? with
      | some (.z d) => .p d
      | _ => .r l)
    cases hc : ρ.μ[l]? with
    | none => exact .r h
    | some m =>
      cases m with
      | z d => exact .p (e.st l a _ h hc)
      | _ => exact .r h
/-- where the lent ones lie -/
def ltOf (t : List Addr) (ls : List Nat) : List Addr := ls.map fun l => t.getD l 0
theorem lt_get {t : List Addr} {ls : List Nat} {j l : Nat} {a : Addr} (h1 : ls[j]? = some l) (h2 : t[l]? = some a) : (ltOf t ls)[j]? = some a := by
  unfold ltOf
  rw [List.getElem?_map, h1]
  show some (t.getD l 0) = some a
  rw [List.getD_eq_getElem?_getD, h2]
  rfl
theorem renC_at (e : EnvOk T C W σ H ρ) {c : C1} (h : FAt T W.t (hide H W.A) v c) (hi : refIn ρ.μ ls c = true) : FAt T (ltOf W.t ls) (hide H W.A) v (renC ρ.μ ls c) := by
  have g := fz_at e h
  unfold refIn at hi
  unfold renC
  cases q : fz ρ.μ c with
  | p d =>
    rw [q] at g
    cases g with
    | p g => exact .p g
  | r l =>
    rw [q] at g hi
    cases g with
    | r g => exact .r (lt_get (idx_get (inB_mem.mp hi)) g)
  | fn =>
    rw [q] at hi
    cases hi
theorem renC_all (e : EnvOk T C W σ H ρ) : ∀ {vs : List V} {cs : List C1}, FAll T W.t (hide H W.A) vs cs → cs.all (refIn ρ.μ ls) = true → FAll T (ltOf W.t ls) (hide H W.A) vs (cs.map (renC ρ.μ ls))
  | _, _, .nil, _ => .nil
  | _, _, .cons a b, h => by
    rw [List.all_cons] at h
    obtain ⟨h1, h2⟩ := Bool.and_eq_true_iff.mp h
    exact .cons (renC_at e a h1) (renC_all e b h2)
theorem lt_inv (e : EnvOk T C W σ H ρ) (hl : ls.all (okM ρ.μ ls) = true) {j : Nat} {a : Addr} (h : (ltOf W.t ls)[j]? = some a) : ∃ l m, ls[j]? = some l ∧ W.t[l]? = some a ∧ ρ.μ[l]? = some m ∧ m.live = true ∧ okM ρ.μ ls l = true := by
  unfold ltOf at h
  rw [List.getElem?_map] at h
  cases q : ls[j]? with
  | none => rw [q] at h; cases h
  | some l =>
    rw [q] at h
    have ok : okM ρ.μ ls l = true := List.all_eq_true.mp hl l (List.mem_iff_getElem?.mpr ⟨j, q⟩)
    have ok0 := ok
    unfold okM at ok
    cases hm : ρ.μ[l]? with
    | none => rw [hm] at ok; cases ok
    | some m =>
      have ll : l < W.t.length := by
        rw [e.tl]
        exact (List.getElem?_eq_some_iff.mp hm).1
      have h2 : W.t[l]? = some (W.t[l]'ll) := List.getElem?_eq_getElem ll
      have h : some (W.t.getD l 0) = some a := h
      rw [List.getD_eq_getElem?_getD, h2] at h
      refine ⟨l, m, rfl, by rw [h2]; exact h, hm, ?_, ok0⟩
      rw [hm] at ok
      cases m with
      | z d => cases ok
      | _ => rfl
theorem sub_get {j l : Nat} {m : M} {μ : List M} (h1 : ls[j]? = some l) (h2 : μ[l]? = some m) : (subM μ ls)[j]? = some (renM μ ls m) := by
  unfold subM
  rw [List.getElem?_map, h1]
  show some (renM μ ls (μ.getD l (.z .non))) = _
  rw [List.getD_eq_getElem?_getD, h2]
  rfl
theorem renM_at (e : EnvOk T C W σ H ρ) {l : Nat} {a : Addr} {m : M} (h1 : W.t[l]? = some a) (h2 : ρ.μ[l]? = some m) (ok : okM ρ.μ ls l = true) : MAt T (ltOf W.t ls) (hide H W.A) H a (renM ρ.μ ls m) ∧ (renM ρ.μ ls m).live = true := by
  have h := e.st l a m h1 h2
  unfold okM at ok
  rw [h2] at ok
  cases m with
  | l xs => exact ⟨h, rfl⟩
  | m ks ds => exact ⟨h, rfl⟩
  | pen n => exact ⟨h, rfl⟩
  | z d => cases ok
  | i c ns fs =>
    obtain ⟨dx, gs, g1, g2, g3⟩ := h
    exact ⟨⟨dx, gs, g1, g2, renC_all e g3 ok⟩, rfl⟩
theorem pre_c (e : EnvOk T C W σ H ρ) (hv : FAll T W.t (hide H W.A) vs cs) (ok : okL ρ.μ cs ls = true) : PreC T W.A (ltOf W.t ls) H (subM ρ.μ ls) vs (cs.map (renC ρ.μ ls)) := by
  unfold okL at ok
  obtain ⟨o1, ok⟩ := Bool.and_eq_true_iff.mp ok
  obtain ⟨o2, o3⟩ := Bool.and_eq_true_iff.mp ok
  refine ⟨e.dom, renC_all e hv o3, by simp [ltOf, subM], fun j a m h1 h2 => ?_, fun i j a h1 h2 => ?_, e.tab⟩
  · obtain ⟨l, m', g1, g2, g3, g4, g5⟩ := lt_inv e o2 h1
    rw [sub_get g1 g3] at h2
    cases h2
    obtain ⟨k1, k2⟩ := renM_at e g2 g3 g5
    obtain ⟨k3, k4, _⟩ := e.lv l a m' g2 g3 g4
    exact ⟨k1, k2, k3, k4⟩
  · obtain ⟨l, m', g1, g2, _⟩ := lt_inv e o2 h1
    obtain ⟨l', m2, g1', g2', _⟩ := lt_inv e o2 h2
    have := e.inj l l' a g2 g2'
    subst this
    exact nodupB_inj o1 i j l g1 g1'
end
end Sd

set_option maxHeartbeats 1000000
/-! S7: calls: what is lent comes back; a def's body keeps the def's promise. -/
namespace Sd
open PySem PySem.Spec PyProof.Rows L2 LamX
section
variable {T : Tab} {C : C0} {W W1 W2 : Wd} {A A' Lt : List Addr} {σ : L2.St} {Hs H H' H1 H2 : Hp} {ρ ρ1 ρ2 : En} {v : V} {r : RV} {μ' : List M} {ls : List Nat} {cs : List C1} {vs : List V}
theorem bkC_at (e : EnvOk T C W σ H ρ) (hl : ls.all (okM ρ.μ ls) = true) {Hh : Hp} {c : C1} (h : FAt T (ltOf W.t ls) Hh v c) : FAt T W.t Hh v (bkC ls c) := by
  cases h with
  | p h => exact .p h
  | fn => exact .fn
  | @r a j h =>
    obtain ⟨l, m, g1, g2, _⟩ := lt_inv e hl h
    refine .r (show W.t[ls.getD j 0]? = some a from ?_)
    rw [List.getD_eq_getElem?_getD, g1]
    exact g2
theorem bkC_all (e : EnvOk T C W σ H ρ) (hl : ls.all (okM ρ.μ ls) = true) {Hh : Hp} : ∀ {vs : List V} {cs : List C1}, FAll T (ltOf W.t ls) Hh vs cs → FAll T W.t Hh vs (cs.map (bkC ls))
  | _, _, .nil => .nil
  | _, _, .cons a b => .cons (bkC_at e hl a) (bkC_all e hl b)
theorem bkM_at (e : EnvOk T C W σ H ρ) (hl : ls.all (okM ρ.μ ls) = true) {Hh H1 : Hp} {a : Addr} {m : M} (h : MAt T (ltOf W.t ls) Hh H1 a m) : MAt T W.t Hh H1 a (bkM ls m) ∧ (m.live = true → (bkM ls m).live = true) := by
  cases m with
  | i c ns fs =>
    obtain ⟨dx, gs, g1, g2, g3⟩ := h
    exact ⟨⟨dx, gs, g1, g2, bkC_all e hl g3⟩, fun _ => rfl⟩
  | _ => exact ⟨h, fun z => z⟩
theorem EnvOk.called (e : EnvOk T C W σ H ρ) (ok : okL ρ.μ cs ls = true) (p : PostH T W.A (ltOf W.t ls) H A' H' μ') : Post T C W σ H ρ ⟨A', W.t⟩ H' (ρ.wm (wb ls ρ.μ ls μ')) := by
  unfold okL at ok
  obtain ⟨o1, ok⟩ := Bool.and_eq_true_iff.mp ok
  obtain ⟨o2, o3⟩ := Bool.and_eq_true_iff.mp ok
  have lA : ∀ a, a ∈ ltOf W.t ls → a ∈ W.A := fun a h => by
    obtain ⟨j, hj⟩ := List.mem_iff_getElem?.mp h
    obtain ⟨l, m, g1, g2, g3, g4, _⟩ := lt_inv e o2 hj
    exact (e.lv l a m g2 g3 g4).1
  have inLt : ∀ {l : Nat} {a : Addr}, l ∈ ls → W.t[l]? = some a → ∃ j, ls[j]? = some l ∧ (ltOf W.t ls)[j]? = some a := fun {l a} h1 h2 => by
    obtain ⟨j, hj⟩ := List.mem_iff_getElem?.mp h1
    exact ⟨j, hj, lt_get hj h2⟩
  have notLt : ∀ {l : Nat} {a : Addr}, l ∉ ls → W.t[l]? = some a → a ∉ ltOf W.t ls := fun {l a} h1 h2 z => by
    obtain ⟨j, hj⟩ := List.mem_iff_getElem?.mp z
    obtain ⟨l', m, g1, g2, _⟩ := lt_inv e o2 hj
    rw [e.inj l l' a h2 g2] at h1
    exact h1 (List.mem_iff_getElem?.mpr ⟨j, g1⟩)
  have x1 : Ex (hide H W.A) (hide H' A') := fun a o h => by
    obtain ⟨m, h⟩ := hide_some h
    rw [hide_ne fun z => (p.new a z).elim m fun q => by rw [h] at q; cases q]
    exact p.ext a o h (fun z => m (lA a z)) (e.not_tab m)
  -- an object behind the call: lent, or as before
  have key : ∀ (l : Nat) (a : Addr) (m : M), W.t[l]? = some a → (wb ls ρ.μ ls μ')[l]? = some m → (l ∈ ls ∧ MAt T W.t (hide H' A') H' a m ∧ m.live = true ∧ ∃ m0, ρ.μ[l]? = some m0 ∧ m0.live = true) ∨ (l ∉ ls ∧ ρ.μ[l]? = some m) := fun l a m h1 h2 => by
    by_cases q : l ∈ ls
    · obtain ⟨j, g1, g2⟩ := inLt q h1
      obtain ⟨l', m0, k1, k2, k3, k4, _⟩ := lt_inv e o2 g2
      rw [g1] at k1
      cases k1
      have jl : j < μ'.length := by
        rw [← p.len]
        exact (List.getElem?_eq_some_iff.mp g2).1
      have hj : μ'[j]? = some (μ'[j]'jl) := List.getElem?_eq_getElem jl
      rw [wb_in ls μ' ρ.μ j _ o1 g1 hj (List.getElem?_eq_some_iff.mp k3).1] at h2
      cases h2
      obtain ⟨s1, s2⟩ := p.st j a _ g2 hj
      obtain ⟨b1, b2⟩ := bkM_at e o2 s1
      exact .inl ⟨q, b1, b2 s2, m0, k3, k4⟩
    · rw [wb_out ls μ' ρ.μ q] at h2
      exact .inr ⟨q, h2⟩
  refine ⟨⟨fun a o h n t => ?_, fun a h => p.sub a (e.sub a h), e.dom0, p.dom, e.len, fun i c h => ?_, ?_, fun l a h z => e.al l a h (p.th a z), fun l a m h1 h2 => ?_, fun l a m h1 h2 h3 => ?_, e.inj, e.kk, e.lent, fun l m h1 h2 => ?_, fun q hq => ⟨p.sub _ (e.tab q hq).1, p.tab q hq⟩, fun a h => (p.new a h).elim (e.nw a) fun z => .inr (e.new0 z).2.2.2.1⟩,
    p.new, fun a h _ z => absurd (p.sub a h) z, fun a o h n t => p.ext a o h (fun z => n ?_) t, Pre.refl _, fun l a h => .inl h, fun l a m h1 h2 h3 => ?_, p.th⟩
  · refine p.ext a o (e.ext a o h n t) (fun z => ?_) t
    obtain ⟨j, hj⟩ := List.mem_iff_getElem?.mp z
    obtain ⟨l, m, g1, g2, g3, g4, _⟩ := lt_inv e o2 hj
    obtain ⟨_, _, k3⟩ := e.lv l a m g2 g3 g4
    by_cases q : C.Lt.length ≤ l
    · rw [k3 q] at h
      cases h
    · have q : l < C.Lt.length := by omega
      have h1 : C.Lt[l]? = some (C.Lt[l]'q) := List.getElem?_eq_getElem q
      have h2 := e.lent l _ h1
      rw [g2] at h2
      cases h2
      exact n (List.getElem_mem q)
  · obtain ⟨w, h1, h2⟩ := e.cell i c h
    exact ⟨w, h1, h2.mono x1 (Pre.refl _)⟩
  · show W.t.length = (wb ls ρ.μ ls μ').length
    rw [wb_len]
    exact e.tl
  · rcases key l a m h1 h2 with ⟨_, g, _⟩ | ⟨q, g⟩
    · exact g
    · exact (e.st l a m h1 g).mono x1 (Pre.refl _) fun lv o z => p.ext a o z (notLt q h1) (e.lv l a m h1 g lv).2.1
  · rcases key l a m h1 h2 with ⟨_, _, _, m0, g1, g2⟩ | ⟨q, g⟩
    · obtain ⟨k1, k2⟩ := e.lv l a m0 h1 g1 g2
      exact ⟨p.sub a k1, k2⟩
    · obtain ⟨k1, k2⟩ := e.lv l a m h1 g h3
      exact ⟨p.sub a k1, k2⟩
  · have hl : l < W.t.length := by
      have : l < (wb ls ρ.μ ls μ').length := (List.getElem?_eq_some_iff.mp h2).1
      rw [wb_len, ← e.tl] at this
      exact this
    rcases key l _ m (List.getElem?_eq_getElem hl) h2 with ⟨_, _, g, _⟩ | ⟨q, g⟩
    · exact g
    · exact e.ll l m h1 g
  · obtain ⟨j, hj⟩ := List.mem_iff_getElem?.mp z
    obtain ⟨l, m, g1, g2, g3, g4, _⟩ := lt_inv e o2 hj
    exact ⟨l, m, g2, g3, g4⟩
  · rcases key l a m h1 h2 with ⟨_, _, _, m0, g1, g2⟩ | ⟨q, g⟩
    · exact ⟨m0, g1, g2⟩
    · exact ⟨m, g, h3⟩
theorem EnvOk.result (e : EnvOk T C W σ H ρ) (ok : okL ρ.μ cs ls = true) {XE : XK} {XD : D → List M → Prop} (h : RetOk T ⟨H, W.A, ltOf W.t ls, XE, XD⟩ ⟨A', ltOf W.t ls⟩ H' v r) : RvOk T C H ⟨A', W.t⟩ H' v (bkR ls r) := by
  unfold okL at ok
  obtain ⟨o1, ok⟩ := Bool.and_eq_true_iff.mp ok
  obtain ⟨o2, o3⟩ := Bool.and_eq_true_iff.mp ok
  cases h with
  | d h => exact .d h
  | @r a j h =>
    have h : (ltOf W.t ls)[j]? = some a := h
    obtain ⟨l, m, g1, g2, _⟩ := lt_inv e o2 h
    refine .r (show W.t[ls.getD j 0]? = some a from ?_)
    rw [List.getD_eq_getElem?_getD, g1]
    exact g2
  | n h1 h2 h3 h4 h5 h6 =>
    have h4 : H _ = none := h4
    obtain ⟨n1, n2, n3, n4, _⟩ := e.new0 h4
    exact .n h1 h2 h3 h4 n4 n2 n3
/-- a call -/
def wCall (R : RD) (X : D → List M → Prop) (wa : WC) : WE := fun ρ Q => wa ρ fun cs ρ1 => okL ρ1.μ cs (lend ρ1.μ cs) = true ∧
  R (cs.map (renC ρ1.μ (lend ρ1.μ cs))) (subM ρ1.μ (lend ρ1.μ cs)) (fun r μ' => Q (bkR (lend ρ1.μ cs) r) (ρ1.wm (wb (lend ρ1.μ cs) ρ1.μ (lend ρ1.μ cs) μ')))
    fun x μ' => X x ((wb (lend ρ1.μ cs) ρ1.μ (lend ρ1.μ cs) μ').take ρ1.k) ∧ closedB ρ1.k ((wb (lend ρ1.μ cs) ρ1.μ (lend ρ1.μ cs) μ').take ρ1.k) = true
/-- what is wanted of an exception is what the layer wants -/
def Link (T : Tab) (C : C0) (E : XK) (X : D → List M → Prop) : Prop := ∀ (W : Wd) (σ : L2.St) (H : Hp) (ρ : En) (cls : Value) (d : Option Addr) (x : D), EnvOk T C W σ H ρ → XAt T (hide H W.A) cls d x → closedB ρ.k (ρ.μ.take ρ.k) = true → X x (ρ.μ.take ρ.k) → E cls d H
theorem link0 : Link T C C8.E0 (fun _ _ => False) := fun _ _ _ _ _ _ _ _ _ _ h => h.elim
theorem pe_callD {R : RD} {ta : TA} {wa : WC} {E : XK} {X : D → List M → Prop} (lk : Link T C E X) (ha : Pc T C ta wa) : Pe T C (tCall (SpC T R) [] E ta) (wCall R X wa) := fun W σ H ρ Q K e q k =>
  ha W σ H ρ _ _ e q fun vs H1 W1 cs ρ1 P S ⟨q0, q1⟩ => by
    rw [List.append_nil]
    refine ⟨W1.A, ltOf W1.t (lend ρ1.μ cs), _, _, _, _, pre_c P.ok S q0, q1, fun v H' A' r μ' p hr q2 => ?_, fun cls d H' A' x μ' p hx q2 => ?_⟩
    · have P2 := P.ok.called q0 p
      exact k _ _ _ _ _ (P.trans P2) ((P.ok.result q0 hr).back P) q2
    · have P2 := P.ok.called q0 p
      exact lk _ _ _ _ _ _ _ P2.ok hx q2.2 q2.1
end
end Sd

set_option maxHeartbeats 1000000
/-! S8: a def's body keeps the def's promise; a law's body. -/
namespace Sd
open PySem PySem.Spec PyProof.Rows L2 LamX
section
variable {T : Tab} {C : C0} {W W1 W2 : Wd} {A A' Lt : List Addr} {σ : L2.St} {Hs H H' H1 H2 : Hp} {ρ ρ1 ρ2 : En} {v : V} {r : RV} {μ μ' : List M} {ls : List Nat} {cs : List C1} {vs : List V}
/-- the slots at the entry -/
def st0 (k : Nat) (cs : List C1) : List (Option C1) := cs.map some ++ List.replicate k none
theorem st0_get {k : Nat} {cs : List C1} {i : Nat} {c : C1} (h : (st0 k cs)[i]? = some (some c)) : cs[i]? = some c := by
  unfold st0 at h
  by_cases q : i < cs.length
  · rw [List.getElem?_append_left (by simpa using q), List.getElem?_map] at h
    cases e : cs[i]? with
    | none =>
      rw [e] at h
      cases h
    | some d =>
      rw [e] at h
      have h : some (some d) = some (some c) := h
      cases h
      rfl
  · rw [List.getElem?_append_right (by simpa using q)] at h
    rw [List.getElem?_replicate] at h
    split at h <;> cases h
theorem pre_env {N : List Str} {XE : XK} {XD : D → List M → Prop} (p : PreC T A Lt H μ vs cs) : EnvOk T ⟨H, A, Lt, XE, XD⟩ ⟨A, Lt⟩ (start N vs) H ⟨st0 (N.length - vs.length) cs, μ, Lt.length⟩ where
  ext := fun a o h _ _ => h
  sub := fun a h => h
  dom0 := p.dom
  dom := p.dom
  len := by
    show (vs.map some ++ List.replicate (N.length - vs.length) none).length = (st0 (N.length - vs.length) cs).length
    simp [st0, p.args.length]
  cell := fun i c h => by
    obtain ⟨v, h1, h2⟩ := p.args.get (st0_get h)
    refine ⟨v, ?_, h2⟩
    show (vs.map some ++ List.replicate (N.length - vs.length) none)[i]? = _
    have l : i < vs.length := (List.getElem?_eq_some_iff.mp h1).1
    rw [List.getElem?_append_left (by simpa using l), List.getElem?_map, h1]
    rfl
  tl := p.len
  al := fun l a h => by
    have hl : l < μ.length := by
      rw [← p.len]; exact (List.getElem?_eq_some_iff.mp h).1
    exact p.dom a (p.st l a _ h (List.getElem?_eq_getElem hl)).2.2.1
  st := fun l a m h1 h2 => (p.st l a m h1 h2).1
  lv := fun l a m h1 h2 _ => ⟨(p.st l a m h1 h2).2.2.1, (p.st l a m h1 h2).2.2.2, fun z => absurd (List.getElem?_eq_some_iff.mp h1).1 (Nat.not_lt.mpr z)⟩
  inj := p.inj
  kk := rfl
  lent := fun _ _ h => h
  ll := fun l m h1 h2 => (p.st l _ m (List.getElem?_eq_getElem h1) h2).2.1
  tab := p.tab
  nw := fun a h => .inl h
theorem cut_fall {t : List Addr} {k : Nat} {Hh : Hp} (hp : ∀ (l : Nat) (a : Addr), l < k → t[l]? = some a → Lt[l]? = some a) : ∀ {vs : List V} {fs : List C1}, FAll T t Hh vs fs → (fs.all fun c => match c with
    | .r l => Nat.blt l k
    | .p _ => true
    | .fn => false) = true → FAll T Lt Hh vs fs
  | _, _, .nil, _ => .nil
  | _, _, .cons a b, h => by
    rw [List.all_cons] at h
    obtain ⟨h1, h2⟩ := Bool.and_eq_true_iff.mp h
    refine .cons ?_ (cut_fall hp b h2)
    cases a with
    | p a => exact .p a
    | fn => cases h1
    | @r a l q => exact .r (hp l a (by simpa [Nat.blt_eq] using h1) q)
theorem EnvOk.post_h (e : EnvOk T C W σ H ρ) (cl : closedB ρ.k (ρ.μ.take ρ.k) = true) : PostH T C.A0 C.Lt C.H0 W.A H (ρ.μ.take ρ.k) where
  sub := e.sub
  new := e.nw
  dom := e.dom
  len := by
    rw [List.length_take, e.kk]
    have kl : C.Lt.length ≤ ρ.μ.length := by
      rw [← e.tl]
      by_cases q : C.Lt.length = 0
      · omega
      · have h1 : C.Lt[C.Lt.length - 1]? = some (C.Lt[C.Lt.length - 1]'(by omega)) := List.getElem?_eq_getElem (by omega)
        have := (List.getElem?_eq_some_iff.mp (e.lent _ _ h1)).1
        omega
    omega
  st := fun l a m h1 h2 => by
    have hl : l < C.Lt.length := (List.getElem?_eq_some_iff.mp h1).1
    have hm : m ∈ ρ.μ.take ρ.k := List.mem_iff_getElem?.mpr ⟨l, h2⟩
    have h3 : ρ.μ[l]? = some m := by
      rw [List.getElem?_take_of_lt (by rw [e.kk]; exact hl)] at h2
      exact h2
    refine ⟨?_, e.ll l m hl h3⟩
    have g := e.st l a m (e.lent l a h1) h3
    have c1 := List.all_eq_true.mp cl m hm
    cases m with
    | i c ns fs =>
      obtain ⟨dx, gs, g1, g2, g3⟩ := g
      refine ⟨dx, gs, g1, g2, cut_fall (k := ρ.k) (fun j b q1 q2 => ?_) g3 c1⟩
      have q1 : j < C.Lt.length := by rw [← e.kk]; exact q1
      have z := e.lent j _ (List.getElem?_eq_getElem q1)
      rw [q2] at z
      cases z
      exact List.getElem?_eq_getElem q1
    | _ => exact g
  tab := fun q hq => (e.tab q hq).2
  ext := e.ext
  th := fun a z => (e.new0 z).2.2.2.1
theorem RetOk.core {XE XE' : XK} {XD XD' : D → List M → Prop} {t t' : List Addr} (h : RetOk T ⟨H1, A, Lt, XE, XD⟩ ⟨A', t⟩ H v r) : RetOk T ⟨H1, A, Lt, XE', XD'⟩ ⟨A', t'⟩ H v r := by
  cases h with
  | d h => exact .d h
  | r h => exact .r h
  | n h1 h2 h3 h4 h5 h6 => exact .n h1 h2 h3 h4 h5 h6
/-- what is wanted where a def's body ends -/
def bodyE (K : RV → List M → Prop) : DE := { nx := fun ρ => closedB ρ.k (ρ.μ.take ρ.k) = true ∧ K (.d .non) (ρ.μ.take ρ.k), rt := K }
/-- a def's body keeps the def's promise -/
theorem body_ok {ts : XK → TS} {w : (D → List M → Prop) → WS} {R : RD} {N : List Str} {m : Nat} (h : ∀ C E X, Link T C E X → Ps T C (ts E) (w X))
    (hR : ∀ cs μ K X, R cs μ K X → cs.length = m ∧ w X (bodyE K) ⟨st0 (N.length - m) cs, μ, μ.length⟩) {Q : VK} {E : XK} (hs : SpC T R vs H Q E) : ts E { nx := fun _ H' => Q .non H', rt := Q } (start N vs) H := by
  obtain ⟨A, Lt, cs, μ, K, X, p, hr, fin, finx⟩ := hs
  obtain ⟨hl, hw⟩ := hR cs μ K X hr
  have e := pre_env (N := N) (XE := C8.E0) (XD := fun _ _ => False) p
  have hv : vs.length = m := p.args.length.trans hl
  rw [hv, p.len] at e
  refine h ⟨H, A, Lt, C8.E0, fun _ _ => False⟩ E X (fun W σ H' ρ cls d x e' hx cl q => finx cls d H' W.A x _ (e'.post_h cl) hx q) ⟨A, Lt⟩ (start N vs) H _ (fun _ => none) (bodyE K) _ e (fun a o z => nomatch z) ⟨?_, ?_, ?_, ?_⟩ hw
  · exact fun W σ H' ρ e' _ q => fin .non H' W.A (.d .non) _ (e'.post_h q.1) (.d .non) q.2
  · exact fun _ _ _ _ _ _ z => False.elim z
  · exact fun _ _ _ _ _ _ z => False.elim z
  · exact fun W σ H' ρ v r e' _ R' cl q => fin v H' W.A r _ (e'.post_h cl) R'.core q
end
/-! ### whatever the cells -/
def SpA (K : PySem.W.Frag) (ca : Str → Addr) (tb : List (Addr × Str)) (R : RD) : Sp := fun vs H Q E => ∃ (ms : List Int) (f0 : Addr), ms.length ≤ 63 ∧ SpC ⟨K, ca, ms, tb, f0⟩ R vs H Q E
section
variable {T : Tab} {C : C0}
theorem pe_call {R : RD} {ta : TA} {wa : WC} {E : XK} {X : D → List M → Prop} (hz : T.cs.length ≤ 63) (lk : Link T C E X) (ha : Pc T C ta wa) : Pe T C (tCall (SpA T.K T.ca T.tb R) [] E ta) (wCall R X wa) := fun W σ H ρ Q K e q k =>
  ha W σ H ρ _ _ e q fun vs H1 W1 cs ρ1 P S ⟨q0, q1⟩ => by
    rw [List.append_nil]
    refine ⟨T.cs, T.f0, hz, W1.A, ltOf W1.t (lend ρ1.μ cs), _, _, _, _, pre_c P.ok S q0, q1, fun v H' A' r μ' p hr q2 => ?_, fun cls d H' A' x μ' p hx q2 => ?_⟩
    · have P2 := P.ok.called q0 p
      exact k _ _ _ _ _ (P.trans P2) ((P.ok.result q0 hr).back P) q2
    · have P2 := P.ok.called q0 p
      exact lk _ _ _ _ _ _ _ P2.ok hx q2.2 q2.1
theorem SpA.len {K : PySem.W.Frag} {ca : Str → Addr} {tb : List (Addr × Str)} {R : RD} {m : Nat} (hR : ∀ cs μ Q X, R cs μ Q X → cs.length = m) {vs : List V} {H : Hp} {Q : VK} {E : XK} (h : SpA K ca tb R vs H Q E) : vs.length = m := by
  obtain ⟨ms, _, _, A, Lt, cs, μ, K', X, pr, hr, _⟩ := h
  exact pr.args.length.trans (hR _ _ _ _ hr)
/-- a def's body keeps the promise, whatever the cells -/
theorem bodyA {K : PySem.W.Frag} {ca : Str → Addr} {tb : List (Addr × Str)} {ts : XK → TS} {R : RD} {N : List Str} {m : Nat} {w : List Int → (D → List M → Prop) → WS} (h : ∀ (ms : List Int) (f0 : Addr), ms.length ≤ 63 → ∀ C E X, Link ⟨K, ca, ms, tb, f0⟩ C E X → Ps ⟨K, ca, ms, tb, f0⟩ C (ts E) (w ms X))
    (hR : ∀ ms : List Int, ms.length ≤ 63 → ∀ cs μ Q X, R cs μ Q X → cs.length = m ∧ w ms X (bodyE Q) ⟨st0 (N.length - m) cs, μ, μ.length⟩)
    {vs : List V} {H : Hp} {Q : VK} {E : XK} (hs : SpA K ca tb R vs H Q E) : ts E { nx := fun _ H' => Q .non H', rt := Q } (start N vs) H := by
  obtain ⟨ms, f0, hz, hs⟩ := hs
  exact body_ok (h ms f0 hz) (hR ms hz) hs
end
end Sd

set_option maxHeartbeats 1000000
/-! S9: what draws; a law's body. -/
namespace Sd
open PySem PySem.Spec PyProof.Rows L2 LamX
section
variable {T : Tab} {C : C0} {W W1 W2 : Wd} {σ : L2.St} {Hs H H1 H2 : Hp} {ρ ρ1 ρ2 : En} {v : V} {r : RV}
def penM (l : Nat) (k : Nat → Nat → Prop) : Option M → Prop
  | some (.pen n) => k l n
  | _ => False
def penO (ρ : En) (k : Nat → Nat → Prop) : Option (Option C1) → Prop
  | some (some (.r l)) => penM l k ρ.μ[l]?
  | _ => False
/-- the slot holds what draws: the object l, n draws done at most -/
def penK (i : Nat) (ρ : En) (k : Nat → Nat → Prop) : Prop := penO ρ k ρ.s[i]?
theorem pen_at {k : Nat → Nat → Prop} (e : EnvOk T C W σ H ρ) {i : Nat} (h : penK i ρ k) : ∃ l n p c j r, k l n ∧ σ[i]? = some (some (.ref p)) ∧ W.t[l]? = some p ∧ ρ.μ[l]? = some (.pen n) ∧ H p = some (.lst [.ref c, .int j, .int r]) ∧ hide H W.A c = some (.lst (T.cs.map V.int)) ∧ 0 ≤ j ∧ j ≤ (n : Int) ∧ 0 ≤ r := by
  have h : penO ρ k ρ.s[i]? := h
  match hc : ρ.s[i]?, h with
  | some (some (.r l)), h =>
    have h : penM l k ρ.μ[l]? := h
    match hm : ρ.μ[l]?, h with
    | some (.pen n), h =>
      obtain ⟨v, h1, h2⟩ := e.cell i _ hc
      cases h2 with
      | @r a _ g =>
        obtain ⟨c, j, r, g1, g2, g3, g4, g5⟩ := e.st l a _ g hm
        exact ⟨l, n, a, c, j, r, h, h1, g, hm, g1, g2, g3, g4, g5⟩
def wPen0 (cs : List Int) (i : Nat) : WE := fun ρ Q => penK i ρ fun _ _ => Q (.d (.lst (cs.map D.int))) ρ
def wPen1 (i : Nat) : WE := fun ρ Q => penK i ρ fun _ n => ∀ j : Int, 0 ≤ j → j ≤ n → Q (.d (.int j)) ρ
def wPen2 (i : Nat) : WE := fun ρ Q => penK i ρ fun _ _ => ∀ j : Int, 0 ≤ j → Q (.d (.int j)) ρ
theorem ints_at {T : Tab} {H : Hp} : ∀ ns : List Int, AtAll T H (ns.map V.int) (ns.map D.int)
  | [] => .nil
  | n :: ns => .cons (.int n) (ints_at ns)
theorem pe_pen0 {i : Nat} {cs : List Int} (hc : T.cs = cs) : Pe T C (tOp (rIx T.K) (tVar i) (tC (.int 0))) (wPen0 cs i) := fun W σ H ρ Q K e q k => by
  subst hc
  obtain ⟨l, n, p, c, j, r, q2, h1, _, _, h3, h4, _⟩ := pen_at e q
  exact ⟨_, h1, .inl ⟨p, _, 0, .ref c, rfl, rfl, SqL.of h3, rfl, k _ _ _ _ _ (.refl e) (.d (.lst h4 (ints_at _))) q2⟩⟩
theorem pe_pen1 {i : Nat} : Pe T C (tOp (rIx T.K) (tVar i) (tC (.int 1))) (wPen1 i) := fun W σ H ρ Q K e q k => by
  obtain ⟨l, n, p, c, j, r, q2, h1, _, _, h3, h4, h5, h6, h7⟩ := pen_at e q
  exact ⟨_, h1, .inl ⟨p, _, 1, .int j, rfl, rfl, SqL.of h3, rfl, k _ _ _ _ _ (.refl e) (.d (.int j)) (q2 j h5 h6)⟩⟩
theorem pe_pen2 {i : Nat} : Pe T C (tOp (rIx T.K) (tVar i) (tC (.int 2))) (wPen2 i) := fun W σ H ρ Q K e q k => by
  obtain ⟨l, n, p, c, j, r, q2, h1, _, _, h3, h4, h5, h6, h7⟩ := pen_at e q
  exact ⟨_, h1, .inl ⟨p, _, 2, .int r, rfl, rfl, SqL.of h3, rfl, k _ _ _ _ _ (.refl e) (.d (.int r)) (q2 r h7)⟩⟩
theorem EnvOk.pen_upd (e : EnvOk T C W σ H ρ) {l n m : Nat} {p c : Addr} {i r : Int} (hl : W.t[l]? = some p) (hm : ρ.μ[l]? = some (.pen n)) (hc : hide H W.A c = some (.lst (T.cs.map V.int))) (h0 : 0 ≤ i) (h1 : i ≤ m) (h2 : 0 ≤ r) :
    Post T C W σ H ρ W (L2.upd H p (.lst [.ref c, .int i, .int r])) (ρ.put l (.pen m)) := e.upd (m' := .pen m) hl hm rfl rfl (show PenAt _ _ _ _ _ from ⟨c, i, r, upd_same, hc, h0, h1, h2⟩)
def wPenW1 (i : Nat) (a : WE) : WS := fun E ρ => a ρ fun r ρ1 => ∃ j : Int, r = .d (.int j) ∧ penK i ρ1 fun l n => 0 ≤ j ∧ j ≤ (n : Int) + 1 ∧ E.nx (ρ1.put l (.pen (n + 1)))
def wPenW2 (i : Nat) (a : WE) : WS := fun E ρ => a ρ fun r ρ1 => ∃ j : Int, r = .d (.int j) ∧ penK i ρ1 fun l n => 0 ≤ j ∧ E.nx (ρ1.put l (.pen n))
theorem ps_pen1 {i : Nat} {te : TE} {a : WE} (h : Pe T C te a) : Ps T C (tAsg te (gSub (tVar i) (tC (.int 1)) rSetL)) (wPenW1 i a) := fun W σ H ρ B E F e x l q =>
  h W σ H ρ _ _ e q fun v H1 W1 r ρ1 P R ⟨j, er, q1⟩ => by
    subst er
    cases R with
    | d g =>
      cases g
      obtain ⟨pl, n, p, c, j0, r0, ⟨q2, q3, q4⟩, h1, hl, hm, h3, h4, h5, h6, h7⟩ := pen_at P.ok q1
      have P2 := P.ok.pen_upd (m := n + 1) hl hm h4 q2 (by omega) h7
      exact ⟨_, h1, p, _, 1, 1, rfl, rfl, h3, rfl, l.nx _ _ _ _ P2.ok (x.trans ((P.trans P2).ex e)) q4⟩
theorem ps_pen2 {i : Nat} {te : TE} {a : WE} (h : Pe T C te a) : Ps T C (tAsg te (gSub (tVar i) (tC (.int 2)) rSetL)) (wPenW2 i a) := fun W σ H ρ B E F e x l q =>
  h W σ H ρ _ _ e q fun v H1 W1 r ρ1 P R ⟨j, er, q1⟩ => by
    subst er
    cases R with
    | d g =>
      cases g
      obtain ⟨pl, n, p, c, j0, r0, ⟨q2, q4⟩, h1, hl, hm, h3, h4, h5, h6, h7⟩ := pen_at P.ok q1
      have P2 := P.ok.pen_upd (m := n) hl hm h4 h5 h6 q2
      exact ⟨_, h1, p, _, 2, 2, rfl, rfl, h3, rfl, l.nx _ _ _ _ P2.ok (x.trans ((P.trans P2).ex e)) q4⟩
end
/-! ### a law -/
/-- what makes the pen: [list(script[:63]), 0, 0] -/
def spPen (K : PySem.W.Frag) : Sp := fun vs H Q _ => ∃ (l : Addr) (ns : List Int), vs = [.ref l] ∧ SqL K H l (ns.map V.int) ∧
  ∀ (p c : Addr) (H' : Hp) (ms : List Int), ms.length ≤ 63 → p ≠ c → Ex H H' → H p = none → H' c = some (.lst (ms.map V.int)) → H' p = some (.lst [.ref c, .int 0, .int 0]) → Q (.ref p) H'
def tPenB (K : PySem.W.Frag) : TS := tRet (tLst (tCons (tCB (Evl.rListS K) (tCons (tSl (rSlL K) (tVar 0) tNoPart (tPart (tC (.int 63)))) tNil)) (tCons (tC (.int 0)) (tCons (tC (.int 0)) tNil))))
theorem cut_ints (ns : List Int) : ∃ ms : List Int, ms.length ≤ 63 ∧ cutV (ns.map V.int) none (some 63) = ms.map V.int := by
  refine ⟨(ns.drop (HT.sIx (ns.map V.int).length 0 none)).take (HT.sIx (ns.map V.int).length (ns.map V.int).length (some 63) - HT.sIx (ns.map V.int).length 0 none), ?_, ?_⟩
  · rw [List.length_take]
    refine Nat.le_trans (Nat.min_le_left _ _) (Nat.le_trans (Nat.sub_le _ _) ?_)
    simp [HT.sIx]
    omega
  · unfold cutV
    rw [← List.map_drop, ← List.map_take]
theorem pen_run {K : PySem.W.Frag} {N : List Str} {vs : List V} {H : Hp} {Q : VK} {E : XK} (h : spPen K vs H Q E) : tPenB K { nx := fun _ H' => Q .non H', rt := Q } (start N vs) H := by
  obtain ⟨l, ns, rfl, hs, q⟩ := h
  have s0 : (start N [V.ref l])[0]? = some (some (V.ref l)) := rfl
  obtain ⟨ms, hz, hc⟩ := cut_ints ns
  refine ⟨_, s0, 63, rfl, l, ns.map V.int, rfl, hs, fun d hd => ?_⟩
  refine ⟨d, ms.map V.int, rfl, .inl (SqL.of (by rw [upd_same, hc])), fun c hcn => ⟨by show 3 ≤ sizeLine; rw [sizeLine_eq]; decide, fun p hp => ?_⟩⟩
  have x1 : Ex H (upd H d (.lst (cutV (ns.map V.int) none (some 63)))) := Ex.new hd
  have x2 := x1.trans (Ex.new (o := .lst (ms.map V.int)) hcn)
  have pc : p ≠ c := fun z => by
    rw [z, upd_same] at hp
    cases hp
  exact q p c _ ms hz pc (x2.trans (Ex.new hp)) (x2.free hp) (by rw [upd_ne (Ne.symm pc), upd_same]) upd_same
/-- a law's: True, whatever the script, where the tables of code are in order -/
def spTrue (K : PySem.W.Frag) (tb : List (Addr × Str)) : Sp := fun vs H Q _ => ∃ (l : Addr) (ns : List Int), vs = [.ref l] ∧ SqL K H l (ns.map V.int) ∧ Tabs tb H ∧ ∀ H', Q (.bl true) H'
/-- the slots behind the pen's making -/
def lawSt (n i : Nat) : List (Option C1) := (List.replicate n none).set i (some (.r 0))
/-- pen = make(script); .. -/
theorem law_run {K : PySem.W.Frag} {ca : Str → Addr} {tb : List (Addr × Str)} {ts : TS} {N : List Str} {i : Nat} {w : List Int → WS} (hi : i < N.length) (hN : 1 ≤ N.length) (h : ∀ (ms : List Int), ms.length ≤ 63 → ∀ C, Ps ⟨K, ca, ms, tb, 0⟩ C ts (w ms))
    (hw : ∀ ms : List Int, ms.length ≤ 63 → w ms { nx := fun _ => False, rt := fun r _ => r = .d (.bl true) } ⟨lawSt N.length i, [.pen 0], 0⟩)
    {vs : List V} {H : Hp} {Q : VK} {E : XK} (hs : spTrue K tb vs H Q E) : tSeq (tAsg (tCall (spPen K) [] E0 (tCons (tVar 0) tNil)) (gName i)) ts { nx := fun _ H' => Q .non H', rt := Q } (start N vs) H := by
  obtain ⟨a, ns, rfl, hS, hT, q⟩ := hs
  have s0 : (start N [V.ref a])[0]? = some (some (V.ref a)) := rfl
  have lsz : (start N [V.ref a]).length = N.length := by
    unfold L2.start
    rw [List.length_append, List.length_map, List.length_replicate]; show 1 + (N.length - 1) = N.length
    omega
  refine ⟨_, s0, a, ns, rfl, hS, fun p c H' ms hz pc xH hp h1 h2 => ?_⟩
  let T : Tab := ⟨K, ca, ms, tb, 0⟩
  have hT' : Tabs tb H' := hT.ext xH
  have tne : ∀ q, q ∈ tb → q.1 ≠ p := fun q hq z => by
    obtain ⟨ps, g, _⟩ := hT q hq
    rw [z, hp] at g
    cases g
  have tnc : ∀ q, q ∈ tb → q.1 ≠ c := fun q hq z => by
    obtain ⟨ps, g, _⟩ := hT' q hq
    rw [z, h1] at g
    cases g
  let A : List Addr := p :: tb.map (·.1)
  have dA : ∀ b, b ∈ A → H' b ≠ none := fun b hb => by
    rcases (List.mem_cons.mp hb) with z | z
    · rw [z, h2]
      exact fun y => nomatch y
    · obtain ⟨q, hq, rfl⟩ := List.mem_map.mp z
      obtain ⟨ps, g, _⟩ := hT' q hq
      rw [g]
      exact fun y => nomatch y
  have cA : c ∉ A := fun z => by
    rcases (List.mem_cons.mp z) with z | z
    · exact pc z.symm
    · obtain ⟨q, hq, z⟩ := List.mem_map.mp z
      exact tnc q hq z
  have nTp : ¬ T.isT p := fun ⟨q, hq, z⟩ => tne q hq z
  have key : ∀ (j : Nat) (x : C1), (lawSt N.length i)[j]? = some (some x) → j = i ∧ x = .r 0 := fun j x hx => by
    unfold lawSt at hx
    by_cases z : i = j
    · subst z
      rw [List.getElem?_set_self (by rw [List.length_replicate]; exact hi)] at hx
      cases hx
      exact ⟨rfl, rfl⟩
    · rw [List.getElem?_set_ne z, List.getElem?_replicate] at hx
      split at hx <;> cases hx
  have one : ∀ {l : Nat} {b : Addr}, ([p] : List Addr)[l]? = some b → l = 0 ∧ b = p := fun {l b} z => by
    cases l with
    | zero =>
      cases z
      exact ⟨rfl, rfl⟩
    | succ l => cases z
  -- at the entry of what follows: the heap without the pen
  let H0 : Hp := fun b => if b = p then none else H' b
  have n0 : ∀ {b o}, H0 b = some o → b ≠ p ∧ H' b = some o := fun {b o} z => by
    by_cases y : b = p
    · rw [show H0 b = none from if_pos y] at z
      cases z
    · rw [show H0 b = H' b from if_neg y] at z
      exact ⟨y, z⟩
  let C : C0 := ⟨H0, tb.map (·.1), [], C8.E0, fun _ _ => False⟩
  have e : EnvOk T C ⟨A, [p]⟩ ((L2.start N [V.ref a]).set i (some (.ref p))) H' ⟨lawSt N.length i, [.pen 0], 0⟩ := by
    refine ⟨fun b o z _ _ => (n0 z).2, fun b z => List.mem_cons_of_mem _ z, fun b hb => ?_, dA, ?_, fun j x hx => ?_, rfl, fun l b z => ?_, fun l b m z1 z2 => ?_, fun l b m z1 z2 z3 => ?_, fun l l' b z1 z2 => (one z1).1.trans (one z2).1.symm, rfl, fun l b z => (nomatch z), fun l m z => absurd z (Nat.not_lt_zero l), fun q hq => ⟨List.mem_cons_of_mem _ (List.mem_map.mpr ⟨q, hq, rfl⟩), hT' q hq⟩, fun b hb => ?_⟩
    · obtain ⟨q, hq, rfl⟩ := List.mem_map.mp hb; rw [show C.H0 q.1 = H' q.1 from if_neg (tne q hq)]
      exact dA _ (List.mem_cons_of_mem _ hb)
    · show ((L2.start N [V.ref a]).set i (some (.ref p))).length = (lawSt N.length i).length
      unfold lawSt
      rw [List.length_set, List.length_set, List.length_replicate, lsz]
    · obtain ⟨rfl, rfl⟩ := key j x hx
      exact ⟨.ref p, List.getElem?_set_self (by rw [lsz]; exact hi), .r rfl⟩
    · obtain ⟨_, rfl⟩ := one z
      rw [h2]
      exact fun y => nomatch y
    · obtain ⟨rfl, rfl⟩ := one z1
      cases z2
      exact ⟨c, 0, 0, h2, by rw [hide_ne cA]; exact h1, Int.le_refl _, Int.le_refl _, Int.le_refl _⟩
    · obtain ⟨rfl, rfl⟩ := one z1
      exact ⟨List.mem_cons_self, nTp, fun _ => if_pos rfl⟩
    · rcases List.mem_cons.mp hb with z | z
      · exact .inr (if_pos z)
      · exact .inl z
  refine h ms hz C ⟨A, [p]⟩ _ H' ⟨lawSt N.length i, [.pen 0], 0⟩ (fun _ => none) { nx := fun _ => False, rt := fun r _ => r = .d (.bl true) } _ e (fun _ _ z => (nomatch z)) ⟨fun _ _ _ _ _ _ z => z.elim, fun _ _ _ _ _ _ z => False.elim z, fun _ _ _ _ _ _ z => False.elim z, fun W σ H2 ρ v r e2 _ R cl k' => ?_⟩ (hw ms hz)
  have k' : r = .d (.bl true) := k'
  subst k'
  cases R with
  | d g =>
    cases g
    exact q _
end Sd

set_option maxHeartbeats 4000000
/-! Ex0: an own exception class with an own __init__ is called, also with keywords. -/
namespace PySem
namespace ExZ
open PySem.W PySem.Calls PyProof.Rows PySem.HandSPX
/-- the class object at C: its row of bases behind itself, what makes its instances -/
def ClsAt (h : Heap) (C : Addr) (nId : String) (bm : List Value) : Prop :=
  ∃ (nm q : Str) (N : Addr) (bs sub : List Value) (hd ab : Bool) (sn : List Str) (col : Option Bool) (dd : Option Addr) (k0 k1 k2 k3 k5 : Option Value), h.get? C = some (excClassObj nm q C N bs bm hd sn sub ab col dd k0 k1 k2 k3 k5 nId)
/-- what the making asks of the row of bases -/
structure NewT (B : String) (bm bmB : List Value) : Prop where
  b : bm.contains (.type B) = bmB.contains (.type B)
  a : bm.contains (.type "AttributeError") = bmB.contains (.type "AttributeError")
  n : bm.contains (.type "NameError") = bmB.contains (.type "NameError")
/-- what the built-in __init__ wants -/
structure InitF (B iId : String) : Prop where
  sl : Slot B "__init__" iId
  en : entryFor table iId = some Builtin.«BaseException.__init__»
  ki : builtinKind iId = some .slot
  ro : Manifest.signature? iId = some ⟨.positional, "*", B, .self, [⟨"args", .varPos, false⟩]⟩
  st : (B != "*") = true
theorem InitF.of {B nId iId : String} (F : ExcCallFacts B nId iId) : InitF B iId := ⟨F.init, F.initEntry, F.initKind, F.initRow, F.noStar⟩
section
variable {P : Program} {w : World} {M : Model} {A : Around} {E : Value → Shared → Prop} {R : Result → Shared → Prop} {s : Shared}
variable {C : Addr} {bm bmB : List Value} {B nId iId : String} {us : List Value} {kw : List (Str × Value)}
theorem NewT.has (T : NewT B bm bmB) (F : ExcBaseFacts B nId iId bmB) : (Value.ref C :: bm).contains (.type B) = true ∧ (Value.ref C :: bm).contains (.type "AttributeError") = false ∧ (Value.ref C :: bm).contains (.type "NameError") = false := by
  refine ⟨?_, ?_, ?_⟩ <;> rw [List.contains_cons]
  · rw [T.b, F.hasB, Bool.or_true]
  · rw [T.a, F.noAttr]; rfl
  · rw [T.n, F.noName]; rfl
theorem chk_new (F : ExcBaseFacts B nId iId bmB) (T : NewT B bm bmB) (c : ClsAt s.heap C nId bm) {Q : Unit → Shared → Prop} (k : Q () s) : wpAny M A (checkBuiltinCall nId ⟨.ref C :: us, kw⟩) Q E s := by
  obtain ⟨h, g, d, t, os⟩ := s
  obtain ⟨nm, q, N, bs, sub, hd, ab, sn, col, dd, k0, k1, k2, k3, k5, hC⟩ := c
  have st := F.noStar
  have hb := (T.has (C := C) F).1
  simp only [F.newRow, F.newSplit, F.newKind, checkBuiltinCall]
  repeat (first | refine wpAny_madeBy_exc hC ?_ | refine wpAny_staticBase_exc hC ?_ | (refine wpAny_isSubtype_exc hC ?_; rw [hb]) | refine wpAny_loadPart_at hC ?_ | simp only [Bool.false_eq_true, if_false, bne_self_eq_false] | wp_step)
  exact k
/-- the new object, its arguments as given by place -/
abbrev newH (h : Heap) (C : Addr) (us : List Value) : Heap := (h.push (kdv_tup us)).push (excO C h.objs.size)
theorem run_new (F : ExcBaseFacts B nId iId bmB) (T : NewT B bm bmB) (c : ClsAt s.heap C nId bm) (hz : us.length ≤ sizeLine) (k : R (.ok (.ret (.ref (s.heap.objs.size + 1)))) { s with heap := newH s.heap C us }) :
    codeAny (model P w) A (.builtin nId ⟨.ref C :: us, kw⟩) R s := by
  obtain ⟨h, g, d, t, os⟩ := s
  obtain ⟨nm, q, N, bs, sub, hd, ab, sn, col, dd, k0, k1, k2, k3, k5, hC⟩ := c
  have en := F.ends
  obtain ⟨b1, b2, b3⟩ := T.has (C := C) F
  refine codeAny_builtinAt F.entry (by
    unfold Builtin.«BaseException.__new__»; refine PySem.wpAt_bind (show PySem.wpAt _ _ _ (stack >>= _) _ _ _ from PySem.wpAt_bind (PySem.wpAt_stack fun p below => PySem.wpAt_of_wpAny ?_))
    wp_walk
    refine PySem.wpAt_of_wpAny ?_
    rw [F.owner]
    repeat (first | (with_reducible refine wpAny_isSubtype_exc hC ?_; first | rw [b1] | rw [b2] | rw [b3]) | with_reducible refine wpAny_loadPart_at hC ?_ | with_reducible refine wpAny_madeHere_exc F.canon hC ?_ | wp_step)
    show R (.ok (.ret (.ref (h.push _).objs.size))) _
    rw [Heap.size_push]
    exact k)
theorem new_at {h : Heap} : (newH h C us).get? (h.objs.size + 1) = some (excO C h.objs.size) := by heap_get
theorem new_old {h : Heap} {b : Addr} {o : Obj} (e : h.get? b = some o) : (newH h C us).get? b = some o := Heap.get?_push_of_some _ (Heap.get?_push_of_some _ e)
/-- what is wanted behind __init__ -/
abbrev InitQ (h : Heap) (E : Value → Shared → Prop) (Q : Fin → Shared → Prop) : Result → Shared → Prop := fun r s' => match r with
  | .ok (.ret v) => v = .none ∧ Q (.done (.ret (.ref (h.objs.size + 1)))) s'
  | .ok _ => False
  | .error e => E e s'
theorem run_type (F : ExcBaseFacts B nId iId bmB) (T : NewT B bm bmB) (c : ClsAt s.heap C nId bm) {fI : Addr} {Q : Fin → Shared → Prop} (hi : Looks (model P w) s.heap (typeLookup (.ref C) "__init__") (some (.ref fI)))
    (hb : ∀ x, Looks (model P w) s.heap (bindSpecial (.ref fI) x) (.ref fI, [x])) (hz : us.length ≤ sizeLine)
    (k : codeAny (model P w) A (.call (.ref fI) ⟨.ref (s.heap.objs.size + 1) :: us, kw⟩) (InitQ s.heap E Q) { s with heap := newH s.heap C us }) : wpAny (model P w) A (Builtin.«type.__call__» ⟨.ref C :: us, kw⟩) Q E s := by
  have c0 := c
  obtain ⟨h, g, d, t, os⟩ := s
  obtain ⟨nm, q, N, bs, sub, hd, ab, sn, col, dd, k0, k1, k2, k3, k5, hC⟩ := c
  unfold Builtin.«type.__call__»; repeat (first | with_reducible refine wpAny_madeBy_exc hC ?_ | with_reducible refine wpAny_loadPart_at hC ?_ | wp_step)
  refine codeAny_call_builtin_code (Code.quiet_builtin _ F.quiet) (chk_new F T c0 (run_new F T c0 hz (show wpAny _ _ _ _ _ _ from ?_)))
  have hn := new_old (C := C) (us := us) hC
  have hx : (newH h C us).get? (h.objs.size + 1) = some (excO C h.objs.size) := new_at
  have own : (Value.ref C :: bm).contains (.ref C) = true := by rw [List.contains_cons, beq_self_eq_true, Bool.true_or]
  have li := hi.keeps fun b o e => new_old (C := C) (us := us) e
  have lb := (hb (.ref (h.objs.size + 1))).keeps fun b o e => new_old (C := C) (us := us) e
  unfold isInstance
  repeat (first | (with_reducible refine wpAny_isSubtype_exc hn ?_; rw [own]) | with_reducible refine wpAny_loadPart_at hx ?_ | wp_step)
  refine (show wpAny _ _ (typeLookup (.ref C) _) _ _ _ from li.at (wpAny_holding (wpAny_bind (lb.at (wpAny_bind (wpAny_call (codeAny_mono k fun r s' z => ?_)))))))
  match r, z with
  | .error _, z => exact z
  | .ok (.ret v), ⟨ev, z⟩ =>
    subst ev
    first | exact wpAny_pure (wpAny_pure z) | (wp_walk; exact z)
/-- C(..): the object, then __init__ -/
theorem call_ownK (F : ExcBaseFacts B nId iId bmB) (T : NewT B bm bmB) (c : ClsAt s.heap C nId bm) {fI : Addr} (hi : Looks (model P w) s.heap (typeLookup (.ref C) "__init__") (some (.ref fI)))
    (hb : ∀ x, Looks (model P w) s.heap (bindSpecial (.ref fI) x) (.ref fI, [x])) (hz : us.length ≤ sizeLine)
    (k : codeAny (model P w) (A.under (.builtin "type.__call__" ⟨.ref C :: us, kw⟩)) (.call (.ref fI) ⟨.ref (s.heap.objs.size + 1) :: us, kw⟩) (InitBack (s.heap.objs.size + 1) R) { s with heap := newH s.heap C us }) :
    codeAny (model P w) A (.call (.ref C) ⟨us, kw⟩) R s := by
  have c0 := c
  obtain ⟨h, g, d, t, os⟩ := s
  obtain ⟨nm, q, N, bs, sub, hd, ab, sn, col, dd, k0, k1, k2, k3, k5, hC⟩ := c
  have f1 := tc_lookup
  have f2 := tc_bind (.ref C)
  have ty : Shared.TypeIs ⟨h, g, d, t, os⟩ (.ref C) "type" := ⟨_, hC, rfl⟩
  refine codeAny_of_tree (show wpAny _ _ (callAny (.ref C) ⟨us, kw⟩) _ _ _ from ?_)
  repeat (any_goals (first | with_reducible refine wpAny_loadPart_at hC ?_ | assumption | wp_step))
  exact ⟨rfl, codeAny_call_builtin_at (Code.quiet_builtin _ (by decide +kernel)) entry_typeCall (wpAny_check_type_call_sub hC (run_type F T c0 hi hb hz (codeAny_mono k fun r s' z => by
    match r, z with
    | .error _, z => exact z
    | .ok (.ret _), z => exact z)))⟩
/-! ### super().__init__(..), the built-in one bound to the new exception -/
theorem chk_mw (F : InitF B iId) (c : ClsAt s.heap C nId bm) {e : Addr} {oe : Obj} (he : s.heap.get? e = some oe) (hc : oe.cls = .ref C) {Q : Unit → Shared → Prop} (k : Q () s) : wpAny M A (checkBoundCall iId ⟨.ref e :: us, []⟩) Q E s := by
  obtain ⟨h, g, d, t, os⟩ := s
  obtain ⟨nm, q, N, bs, sub, hd, ab, sn, col, dd, k0, k1, k2, k3, k5, hC⟩ := c
  have st := F.st
  have free : ∀ (a b : String) (n : Nat), Bind.check ⟨.positional, "*", B, .self, [⟨"args", .varPos, false⟩]⟩ a b n (List.map (·.1) ({ pos := Value.ref e :: us } : Args).kw) = pure () := fun a b n => check_star_args "*" B a b .self n
  simp only [F.ro, F.ki, checkBoundCall]
  repeat (first | with_reducible refine wpAny_loadPart_at hC ?_ | (with_reducible refine wpAny_loadPart_at he ?_; rw [hc]) | wp_step)
  refine wpAny_onRaise (by rw [free]; exact wpAny_pure k)
theorem call_mw (F : InitF B iId) (c : ClsAt s.heap C nId bm) {u e t0 : Addr} (he : s.heap.get? e = some (excO C t0)) (hm : s.heap.get? u = some (kxs_mw iId e)) (hz : us.length ≤ sizeLine) {Q : Value → Shared → Prop}
    (k : ∀ h' t1, (∀ b o, b ≠ e → s.heap.get? b = some o → h'.get? b = some o) → h'.get? e = some (excO C t1) → Q .none { s with heap := h' }) : wpAny (model P w) A (call (.ref u) us) Q E s := by
  have c0 := c
  obtain ⟨h, g, d, t, os⟩ := s
  have wrap : (Value.type "method-wrapper" == Value.type "method" || Value.type "method-wrapper" == Value.type "builtin_function_or_method" || Value.type "method-wrapper" == Value.type "method-wrapper") = true := by decide
  refine wpAny_call (codeAny_of_tree (show wpAny _ A.in1 (callAny (.ref u) ⟨us, []⟩) _ _ _ from ?_))
  simp only [callAny]; refine wpAny_bind (wpAny_load hm ?_); simp only [if_true, wrap]
  exact KFB.if_so (by decide) (wpAny_bind (chk_mw F c0 he rfl (wpAny_bind (wpAny_pure (wpAny_pure ⟨plainId_quiet F.sl.plain _, codeAny_builtin F.en (exc_init_tree (cls := .ref C) (t0 := t0) (dv := none) (c2 := .none) (c3 := .none) (b4 := .bool false) he hz fun h' q e' _ => k h' _ q e')⟩)))))
end
end ExZ
end PySem

set_option maxHeartbeats 4000000
/-! Ex1: facts of the built-in bases. -/
namespace PySem
namespace ExZ
open PySem.W PySem.Calls PyProof.Rows PySem.HandSPX
theorem osa_slot {B : String} (h1 : typeLookup (.type B) "__setattr__" = pure (some (.builtin "object.__setattr__"))) (h2 : isSubtype (.type B) (.type "object") = pure true) : Slot B "__setattr__" "object.__setattr__" :=
  .of (owner := "object") (n := "__setattr__") h1 (by decide +kernel) (by decide +kernel) (by decide +kernel) (by first | exact .inr (by decide +kernel) | exact .inl (by decide +kernel)) h2
theorem osa_args (a b c : Value) : argsOk "object.__setattr__" ⟨[a, b, c], []⟩ := by
  unfold argsOk
  kernel_rfl
theorem st_KeyError : StoreFacts "KeyError" [.type "KeyError", .type "LookupError", .type "Exception", .type "BaseException", .type "object"] "object.__setattr__" "object" :=
  ⟨by kernel_rfl, osa_slot (by rw [typeLookup_type, builtinLookup_eq_fast]; kernel_rfl) (by rw [isSubtype_type]; kernel_rfl), F.entry_object_sa, by decide +kernel, by decide +kernel, by decide +kernel, osa_args, fun x => by kernel_rfl⟩
theorem st_IndexError : StoreFacts "IndexError" [.type "IndexError", .type "LookupError", .type "Exception", .type "BaseException", .type "object"] "object.__setattr__" "object" :=
  ⟨by kernel_rfl, osa_slot (by rw [typeLookup_type, builtinLookup_eq_fast]; kernel_rfl) (by rw [isSubtype_type]; kernel_rfl), F.entry_object_sa, by decide +kernel, by decide +kernel, by decide +kernel, osa_args, fun x => by kernel_rfl⟩
theorem st_LookupError : StoreFacts "LookupError" [.type "LookupError", .type "Exception", .type "BaseException", .type "object"] "object.__setattr__" "object" :=
  ⟨by kernel_rfl, osa_slot (by rw [typeLookup_type, builtinLookup_eq_fast]; kernel_rfl) (by rw [isSubtype_type]; kernel_rfl), F.entry_object_sa, by decide +kernel, by decide +kernel, by decide +kernel, osa_args, fun x => by kernel_rfl⟩
theorem st_RuntimeError : StoreFacts "RuntimeError" [.type "RuntimeError", .type "Exception", .type "BaseException", .type "object"] "object.__setattr__" "object" :=
  ⟨by kernel_rfl, osa_slot (by rw [typeLookup_type, builtinLookup_eq_fast]; kernel_rfl) (by rw [isSubtype_type]; kernel_rfl), F.entry_object_sa, by decide +kernel, by decide +kernel, by decide +kernel, osa_args, fun x => by kernel_rfl⟩
theorem st_OverflowError : StoreFacts "OverflowError" [.type "OverflowError", .type "ArithmeticError", .type "Exception", .type "BaseException", .type "object"] "object.__setattr__" "object" :=
  ⟨by kernel_rfl, osa_slot (by rw [typeLookup_type, builtinLookup_eq_fast]; kernel_rfl) (by rw [isSubtype_type]; kernel_rfl), F.entry_object_sa, by decide +kernel, by decide +kernel, by decide +kernel, osa_args, fun x => by kernel_rfl⟩
theorem if_KeyError : InitF "KeyError" "KeyError.__init__" :=
  ⟨.of (owner := "KeyError") (n := "__init__") (by rw [typeLookup_type, builtinLookup_eq_fast]; kernel_rfl) (by decide +kernel) (by decide +kernel) (by decide +kernel) (by first | exact .inr (by decide +kernel) | exact .inl (by decide +kernel)) (by rw [isSubtype_type]; kernel_rfl),
    entryFor_alias (id' := "BaseException.__init__") (by rw [fastTable_eq_tree]; kernel_rfl) (by first | decide +kernel | rfl) (by decide +kernel) (by rw [fastTable_eq_tree]; kernel_rfl), by kernel_rfl, by kernel_rfl, by decide +kernel⟩
theorem kx_KeyError : KxsFacts "KeyError" "KeyError.__init__" := ⟨show builtinType _ = _ by rw [builtinType_eq_fast]; kernel_rfl, by first | rfl | kernel_rfl⟩
end ExZ
end PySem

set_option maxHeartbeats 4000000
/-! Ex2: an own exception's __init__ that says super().__init__(..) and keeps its fields. -/
namespace PySem
namespace ExZ
open PySem.W PySem.Calls PyProof.Rows PySem.HandSPX
/-- a built-in base -/
structure BaseF (iB initId newId : String) (bmI : List Value) : Prop where
  ini : InitF iB initId
  kxs : KxsFacts iB initId
  st : StoreFacts iB bmI "object.__setattr__" "object"
  new : ∃ B iN bmB, ExcBaseFacts B newId iN bmB ∧ ∀ bm : List Value, (∀ X : String, bm.contains (.type X) = bmI.contains (.type X)) → NewT B bm bmB
theorem newT_same {B : String} {bm bmB : List Value} (h : ∀ X : String, bm.contains (.type X) = bmB.contains (.type X)) : NewT B bm bmB := ⟨h _, h _, h _⟩
theorem bf_ValueError : BaseF "ValueError" "ValueError.__init__" "ValueError.__new__" [.type "ValueError", .type "Exception", .type "BaseException", .type "object"] :=
  ⟨.of F.excBase_ValueError.toExcCallFacts, kxs_ValueError, F.store_ValueError, _, _, _, F.excBase_ValueError, fun _ h => newT_same h⟩
theorem bf_LookupError : BaseF "LookupError" "LookupError.__init__" "LookupError.__new__" [.type "LookupError", .type "Exception", .type "BaseException", .type "object"] :=
  ⟨.of F.excBase_LookupError.toExcCallFacts, kxs_LookupError, st_LookupError, _, _, _, F.excBase_LookupError, fun _ h => newT_same h⟩
theorem bf_IndexError : BaseF "IndexError" "IndexError.__init__" "IndexError.__new__" [.type "IndexError", .type "LookupError", .type "Exception", .type "BaseException", .type "object"] :=
  ⟨.of F.excBase_IndexError.toExcCallFacts, kxs_IndexError, st_IndexError, _, _, _, F.excBase_IndexError, fun _ h => newT_same h⟩
theorem bf_RuntimeError : BaseF "RuntimeError" "RuntimeError.__init__" "RuntimeError.__new__" [.type "RuntimeError", .type "Exception", .type "BaseException", .type "object"] :=
  ⟨.of F.excBase_RuntimeError.toExcCallFacts, kxs_RuntimeError, st_RuntimeError, _, _, _, F.excBase_RuntimeError, fun _ h => newT_same h⟩
theorem bf_OverflowError : BaseF "OverflowError" "OverflowError.__init__" "OverflowError.__new__" [.type "OverflowError", .type "ArithmeticError", .type "Exception", .type "BaseException", .type "object"] :=
  ⟨.of F.excBase_OverflowError.toExcCallFacts, kxs_OverflowError, st_OverflowError, _, _, _, F.excBase_OverflowError, fun _ h => newT_same h⟩
theorem bf_KeyError : BaseF "KeyError" "KeyError.__init__" "LookupError.__new__" [.type "KeyError", .type "LookupError", .type "Exception", .type "BaseException", .type "object"] :=
  ⟨if_KeyError, kx_KeyError, st_KeyError, _, _, _, F.excBase_LookupError, fun _ h => ⟨by rw [h]; decide +kernel, by rw [h]; decide +kernel, by rw [h]; decide +kernel⟩⟩

/-- what the written part says of an own exception class at C with its __init__ at fI -/
structure XcTxt (P : Program) (K : Frag) (C fI cda cc : Addr) (iB initId newId : String) (bmI : List Value) (fs : List Str) : Prop where
  bf : BaseF iB initId newId bmI
  qi : excInitIn K C bmI newId = true
  ov : excOver K C bmI = true
  hd : hasDictIn K C = true
  aS : findIn K (.ref C) "__setattr__" = some (some (.builtin "object.__setattr__"))
  aG : findIn K (.ref C) "__getattribute__" = some (some (.builtin "BaseException.__getattribute__"))
  aH : findIn K (.ref C) "__getattr__" = some none
  noN : ∀ p ∈ fs, findIn K (.ref C) p = some none
  aI : findIn K (.ref C) "__init__" = some (some (.ref fI))
  fnI : isFn K (.ref fI) = true
  sup : ks_superIn K C C "__init__" = some (some (.builtin initId))
  subB : subIn K (.ref C) (.type iB) = some true
  subC : mroIn K C (.ref C) = some true
  any : nsIn K cStatics "thirdparty.any" = some none
  kC : keepIn K (.ref C) = true
  eB : subIn K (.ref C) (.type "BaseException") = some true
  tB : typeIn K (.ref C) = some (.type "type")
  code : ∃ ccl cdd ccs vs file tf, K.lookup cda = some ⟨ccl, cdd, .fields vs, ccs⟩ ∧ vs[2]? = some (.str file tf) ∧ ((P.main.file : Str) == file) = true
  cell : ∃ cl cld csl, K.lookup cc = some ⟨cl, cld, .cell (some (.ref C)), csl⟩
  top : (P.main.scope.names.lookup ("super" : Str)).isSome = false
theorem take_none {K : Frag} {C : Addr} {f : Str} (h : findIn K (.ref C) f = some none) : takerIn K C f = some none := by
  unfold takerIn
  rw [h]
  rfl
section
variable {P : Program} {w : World} {A : Around} {E : Value → Shared → Prop} {R : Result → Shared → Prop} {h : Heap} {g : Array GenState} {d : Drawn} {t : Nat} {os : OsState}
variable {K : Frag} {C fI cda cc x t0 L : Addr} {iB initId newId : String} {bmI : List Value} {fs : List Str} {mg : Str → Option Value} {base : Heap} {m : Str → Option Value}

/-- super().__init__(..) -/
theorem sup_call (T : XcTxt P K C fI cda cc iB initId newId bmI fs) (Md : L2.Mod K mg base) (hsup : mg "super" = none) (hk0 : ∀ b o, base.get? b = some o → h.get? b = some o)
    {qual : Str} {pa : Arguments} {body : List Stmt} {sc : Scope} {dV kV doc pm ct : Value} {an od : Option Addr} {oc : Value} {osl : Array (Option Value)} {ar : Arg}
    (lk : K.lookup fI = some ⟨oc, od, .func (ksFn "__init__" qual pa body sc dV kV doc pm an (.ref cda) ct cc), osl⟩)
    (har : (pa.posonlyargs ++ pa.args).head? = some ar) (has : ar.arg = "self")
    (hn : h.Ns L m) (hms : m "self" = some (.ref x)) (hx : h.get? x = some (excO C t0)) (hxC : x ≠ C)
    (hks : sc.names.lookup ("super" : Str) = some .globalImplicit) (hkc : sc.names.lookup ("__class__" : Str) = some .free) (hka : sc.names.lookup ("self" : Str) = some .local) (hk : sc.kind = .function)
    {e : Expr} {rest : List Expr} {us : List Value} {p0 p1 p2 pos : Pos} {Q : Value → Shared → Prop}
    (hargs : ∀ (h' : Heap) (t' : Nat) (Q' : List Value → Shared → Prop), h'.Ns L m → Q' us ⟨h', g, d, t', os⟩ → wpAny (model P w) A (spliced (backTo pos (starEach (e :: rest) (ksEnv qual sc L fI (.ref cda) cc)))) Q' E ⟨h', g, d, t', os⟩) (hz : us.length ≤ sizeLine)
    (hst : starEach (e :: rest) (ksEnv qual sc L fI (.ref cda) cc) = (false, eval e (ksEnv qual sc L fI (.ref cda) cc)) :: starEach rest (ksEnv qual sc L fI (.ref cda) cc)) (hpl : (backTo pos (starEach rest (ksEnv qual sc L fI (.ref cda) cc))).any (·.1) = false)
    {pl : Sem Bool} (he : eval (.Call (.Attribute (.Call (.Name "super" p0) [] [] p1) "__init__" p2) (e :: rest) [] pos) (ksEnv qual sc L fI (.ref cda) cc) = (do
      let ov ← attributeBase (.Call (.Name "super" p0) [] [] p1) "__init__" (ksEnv qual sc L fI (.ref cda) cc) (eval (.Call (.Name "super" p0) [] [] p1) (ksEnv qual sc L fI (.ref cda) cc))
      standAt p2.atName
      let (f1, as1) ← holding [ov] (getMethod ov "__init__" pl)
      callWith pos f1 as1 (backTo pos (starEach (e :: rest) (ksEnv qual sc L fI (.ref cda) cc))) []))
    (hq : ∀ h' t1 tk, (∀ b o, b ≠ x → h.get? b = some o → h'.get? b = some o) → h'.get? x = some (excO C t1) → Q .none ⟨h', g, d, tk, os⟩) :
    _root_.PySem.wpAt (model P w) A (.func body (ksEnv qual sc L fI (.ref cda) cc)) (eval (.Call (.Attribute (.Call (.Name "super" p0) [] [] p1) "__init__" p2) (e :: rest) [] pos) (ksEnv qual sc L fI (.ref cda) cc)) Q E ⟨h, g, d, t, os⟩ := by
  have X : K.In h := Md.kin.keeps hk0
  obtain ⟨ccl, cdd, ccs, vs, file, tf, hcode, hvs, hfile⟩ := T.code
  obtain ⟨cl, cld, csl, hce⟩ := T.cell
  obtain ⟨nm, N', qn, bs, bm, hdct, sn, sub, ab, col, dd, k0, k1', k2', k3, k5, hC, hT⟩ := excInit_of X T.qi
  obtain ⟨mb, hb1, hb2⟩ := Md.blt
  have hsd : mb "super" = some (.type "super") := (hb2 "super" (by decide)).trans (by decide +kernel)
  refine ks_wpAt_MethodCall ?_ he
  refine ks_wpAt_super_base (env := ksEnv qual sc L fI (.ref cda) cc) hks hkc rfl rfl (X _ _ lk) rfl har rfl (X _ _ hcode) rfl hvs hfile T.top ?_
  refine ks_loadName_global hk hks (loadGlobal_builtin (env := ksEnv qual sc L fI (.ref cda) cc) (Md.glob.keeps hk0) hsup (hb1.keeps hk0) hsd ⟨rfl, ?_⟩)
  refine wpAny_loadName_free hk hkc rfl ⟨_, X _ _ hce, rfl⟩ ?_
  rw [has]
  refine wpAny_loadName_local hk hka hn hms ?_
  refine ks_wpAny_isType_cls hC rfl ⟨rfl, ?_⟩
  refine ks_wpAny_call_super hC rfl hx rfl (fun c e => by cases e) (looks_mroIn X T.subC) (fun h1 e1 k1 => ?_)
  have X1 : K.In h1 := X.keeps k1
  have I1 : InstAt h1 x (excO C t0) C none := ⟨k1 _ _ hx, rfl, rfl, trivial⟩
  have hI : Looks (model P w) h1 (isInstance (.ref x) (.type iB)) true := I1.type.andThen (looks_subIn X1 T.subB)
  have hsp := T.sup
  have hxs : h.objs.size ≠ x := fun z => absurd (Heap.lt_size hx) (by rw [z]; exact Nat.lt_irrefl _)
  cases hc : clsIn K C with
  | none => unfold ks_superIn at hsp; rw [hc] at hsp; cases hsp
  | some cd =>
    unfold ks_superIn at hsp
    rw [hc] at hsp
    refine kxs_getMethod T.bf.kxs e1 (looks_opaque X1 T.any) (l₀ := cd.mro) (fun A Q E s k q => wpAny_bind ((looks_clsIn X1 hc) A _ E s k (wpAny_pure q))) rfl X1 hsp hI hxC rfl ?_
    have k2 : ∀ b o, h1.get? b = some o → (h1.push (kxs_mw initId x)).get? b = some o := fun b o e => Heap.get?_push_of_some _ e
    have hu : (h1.push (kxs_mw initId x)).get? h1.objs.size = some (kxs_mw initId x) := Heap.get?_push_at rfl rfl
    show wpAny _ _ (callWith pos (.ref h1.objs.size) [] (backTo pos (starEach (e :: rest) (ksEnv qual sc L fI (.ref cda) cc))) []) _ _ _
    have hargs2 := hargs (h1.push (kxs_mw initId x)) (t + 1) (fun vs s₁ => KxsAt initId h1.objs.size x s₁.heap ∧ wpAny (model P w) A (call (.ref h1.objs.size) ([] ++ vs)) Q E s₁) ((hn.keeps k1).keeps k2) ⟨hu, call_mw T.bf.ini ⟨nm, qn, N', bs, sub, hdct, ab, sn, col, dd, k0, k1', k2', k3, k5, k2 _ _ (k1 _ _ hC)⟩ (k2 _ _ (k1 _ _ hx)) hu hz fun h' t1 k' e' => hq h' t1 _ (fun b o hb e => k' b o hb (k2 b o (k1 b o e))) e'⟩
    rw [hst] at hargs2 ⊢
    refine kxs_callWith (i := initId) (x := x) (by show (false || (backTo pos (starEach rest (ksEnv qual sc L fI (.ref cda) cc))).any (·.1)) = false; rw [hpl]; rfl) ?_
    exact evalArgs_plain hargs2
end
end ExZ
end PySem

set_option maxHeartbeats 4000000
/-! Ex3: fields kept, the whole __init__, the class called. -/
namespace PySem
namespace ExZ
open PySem.W PySem.Calls PyProof.Rows PySem.HandSPX
section
open Builtin Builtin.ObjectAttr
variable {P : Program} {w : World} {A : Around} {E : Value → Shared → Prop} {R : Result → Shared → Prop} {h : Heap} {g : Array GenState} {d : Drawn} {t : Nat} {os : OsState}
variable {K : Frag} {C fI cda cc x t0 L : Addr} {iB initId newId : String} {bmI : List Value} {fs : List Str} {mg : Str → Option Value} {base : Heap} {m : Str → Option Value}
theorem ost_new (T : XcTxt P K C fI cda cc iB initId newId bmI fs) (X : K.In h) {f : Str} {v : Value} {fv : Array Value} (hx : h.get? x = some { cls := .ref C, data := .fields fv }) (ha : findIn K (.ref C) f = some none) {Q : Unit → Shared → Prop}
    (k : ∀ h' tk' dx, (∀ b o, b ≠ x → h.get? b = some o → h'.get? b = some o) → h.objs.size ≤ dx → dx ≠ x → h'.get? x = some { cls := .ref C, dict := some dx, data := .fields fv } → h'.Ns1 dx (fun y => if y = f then some v else none) → Q () ⟨h', g, d, tk', os⟩) :
    wpAny (model P w) A (setAttr (.ref x) f v) Q E ⟨h, g, d, t, os⟩ := by
  have xn : x ≠ h.objs.size := fun z => absurd (Heap.lt_size hx) (by rw [← z]; exact Nat.lt_irrefl _)
  have I : InstAt h x { cls := .ref C, data := .fields fv } C none := ⟨hx, rfl, rfl, trivial⟩
  obtain ⟨⟨c1, c2, c3, c4, c5, hd, c7, c8, c9, c10, c11⟩, ec, hh⟩ := any_some (show (clsIn K C).any (·.hasDict) = true from T.hd)
  have lc : Looks (model P w) h (classData C) _ := looks_clsIn X ec
  obtain rfl : hd = true := hh
  refine set_plain X I T.aS (osa_openX T.bf.st X I T.ov (take_none ha) fun b => show wpAny _ _ (storeInOwnDict (.ref x) (.ref C) _ f v b) _ _ _ from ?_)
  unfold storeInOwnDict ownDictForStores; repeat (first | with_reducible refine lc.at ?_ | with_reducible refine wpAny_loadPart_at hx ?_ | with_reducible refine HandSPX.store_in_new ?_ ?_ | wp_step)
  · refine ⟨_, #[], _, (Heap.get?_update_ne _ _ _ _ (Ne.symm xn)).trans (Heap.get?_push_at rfl rfl), rfl, ?_, fun _ => rfl⟩
    exact fun y hy => absurd hy (by simp)
  · intro h' tk' n1 sm
    have old : ∀ b o, b ≠ x → h.get? b = some o → h'.get? b = some o := fun b o hb ho => by
      rw [sm.2 b (Nat.ne_of_lt (Heap.lt_size ho)), Heap.get?_update_ne _ _ _ _ hb]; exact Heap.get?_push_of_some _ ho
    refine k h' tk' h.objs.size old (Nat.le_refl _) (Ne.symm xn) ?_ n1
    rw [sm.2 x xn]
    exact Heap.get?_update_self _ (Heap.get?_push_of_some _ hx) rfl
theorem ost_old (T : XcTxt P K C fI cda cc iB initId newId bmI fs) (X : K.In h) {f : Str} {v : Value} {fv : Array Value} {dx : Addr} {m0 : Str → Option Value} {nl : List Str} (hx : h.get? x = some { cls := .ref C, dict := some dx, data := .fields fv }) (n0 : h.Ns1 dx m0) (hw : Within m0 nl) (hz : nl.length ≤ 1000) (ha : findIn K (.ref C) f = some none) {Q : Unit → Shared → Prop}
    (k : ∀ h' tk', (∀ b o, b ≠ dx → h.get? b = some o → h'.get? b = some o) → h'.Ns1 dx (fun y => if y = f then some v else m0 y) → Q () ⟨h', g, d, tk', os⟩) : wpAny (model P w) A (setAttr (.ref x) f v) Q E ⟨h, g, d, t, os⟩ := by
  obtain ⟨oD, _, _, hoD, _, _⟩ := n0.count hw
  have I : InstAt h x { cls := .ref C, dict := some dx, data := .fields fv } C (some oD) := ⟨hx, rfl, rfl, hoD⟩
  obtain ⟨⟨c1, c2, c3, c4, c5, hd, c7, c8, c9, c10, c11⟩, ec, hh⟩ := any_some (show (clsIn K C).any (·.hasDict) = true from T.hd)
  have lc : Looks (model P w) h (classData C) _ := looks_clsIn X ec
  obtain rfl : hd = true := hh
  refine set_plain X I T.aS (osa_openX T.bf.st X I T.ov (take_none ha) fun b => show wpAny _ _ (storeInOwnDict (.ref x) (.ref C) _ f v b) _ _ _ from ?_)
  unfold storeInOwnDict ownDictForStores; repeat (first | with_reducible refine lc.at ?_ | with_reducible refine wpAny_loadPart_at hx ?_ | with_reducible refine PySem.OEX.store_in_old n0 hw hz ?_ | wp_step)
  exact fun h' tk' n1 sm => k h' tk' (fun b o hb e => (sm.2 b hb).trans e) n1
end

/-! ### what __init__ is written like -/
def iA1 (p : Str) (p1 p2 : Pos) : Arguments := { posonlyargs := [], args := [{ arg := "self", annotation := none, pos := p1 }, { arg := p, annotation := none, pos := p2 }], vararg := none, kwonlyargs := [], kw_defaults := [], kwarg := none, defaults := [] }
def iB1 (p : Str) (q1 q2 q3 q4 q5 q6 q7 q8 q9 q10 : Pos) : List Stmt :=
  [.Expr (.Call (.Attribute (.Call (.Name "super" q1) [] [] q2) "__init__" q3) [.Name p q4] [] q5) q6, .Assign [.Attribute (.Name "self" q7) p q8] (.Name p q9) q10]
def iA2 (p r : Str) (p1 p2 p3 : Pos) : Arguments := { posonlyargs := [], args := [{ arg := "self", annotation := none, pos := p1 }, { arg := p, annotation := none, pos := p2 }, { arg := r, annotation := none, pos := p3 }], vararg := none, kwonlyargs := [], kw_defaults := [], kwarg := none, defaults := [] }
def iB2 (p r : Str) (q1 q2 q3 q4 q5 q6 q7 q8 q9 q10 q11 q12 q13 q14 q15 : Pos) : List Stmt :=
  [.Expr (.Call (.Attribute (.Call (.Name "super" q1) [] [] q2) "__init__" q3) [.Name p q4, .Name r q5] [] q6) q7, .Assign [.Attribute (.Name "self" q8) p q9] (.Name p q10) q11, .Assign [.Attribute (.Name "self" q12) r q13] (.Name r q14) q15]
/-- the scope: self and the parameters are local, super global, __class__ free -/
abbrev HEv (q1 q2 q3 pos : Pos) (es : List Expr) (env : Env) : Prop := ∃ pl : Sem Bool, eval (.Call (.Attribute (.Call (.Name "super" q1) [] [] q2) "__init__" q3) es [] pos) env = (do
      let ov ← attributeBase (.Call (.Name "super" q1) [] [] q2) "__init__" env (eval (.Call (.Name "super" q1) [] [] q2) env)
      standAt q3.atName
      let (f1, as1) ← holding [ov] (getMethod ov "__init__" pl)
      callWith pos f1 as1 (backTo pos (starEach es env)) [])
structure IScp (sc : Scope) (fs : List Str) : Prop where
  ks : sc.names.lookup ("super" : Str) = some .globalImplicit
  kc : sc.names.lookup ("__class__" : Str) = some .free
  ka : sc.names.lookup ("self" : Str) = some .local
  kp : ∀ p ∈ fs, sc.names.lookup p = some .local
  cells : ∀ x ∈ sc.names, x.2 ≠ .cell
  kind : sc.kind = .function
  co : sc.isCoroutine = false
  gen : sc.isGenerator = false
/-- behind __init__ of the new exception at x -/
structure InitEnd (h h' : Heap) (x C dx t1 : Addr) (mA : Str → Option Value) : Prop where
  stay : ∀ b o, b ≠ x → h.get? b = some o → h'.get? b = some o
  at_x : h'.get? x = some { cls := .ref C, dict := some dx, data := .fields #[.ref t1, .none, .none, .none, .bool false, .none] }
  dbig : h.objs.size ≤ dx
  dne : dx ≠ x
  ns : h'.Ns1 dx mA
theorem inter_of {env : Env} (h : env.scope.kind = .function) : interactive env = false := by simp [interactive, h]
theorem ldC {M : Model} {A : Around} {s : Shared} {env : Env} {m : Str → Option Value} {x : Str} {pos : Pos} {v : Value} {Q : Value → Shared → Prop} {E : Value → Shared → Prop} (hn : s.heap.Ns env.locals m) (hv : m x = some v) (hk : env.scope.kind = .function) (hl : env.kindOf x = some .local) (h : Q v s)
    (hd : (x == ("__debug__" : Str)) = false) : wpAny M A (eval (.Name x pos) env) Q E s := wpAny_Name (wpAny_loadName_local hk hl hn hv h) hd
section
variable {P : Program} {w : World} {A : Around} {E : Value → Shared → Prop} {R : Result → Shared → Prop} {s : Shared}
variable {K : Frag} {C fI cda cc x t0 : Addr} {iB initId newId : String} {bmI : List Value} {mg : Str → Option Value} {base : Heap}
theorem init1 {p : Str} (T : XcTxt P K C fI cda cc iB initId newId bmI [p]) (Md : L2.Mod K mg base) (hsup : mg "super" = none) (hk0 : ∀ b o, base.get? b = some o → s.heap.get? b = some o)
    {qual : Str} {sc : Scope} {dV kV doc pm ct : Value} {an od : Option Addr} {oc : Value} {osl : Array (Option Value)} {p1 p2 q1 q2 q3 q4 q5 q6 q7 q8 q9 q10 : Pos}
    (lk : K.lookup fI = some ⟨oc, od, .func (ksFn "__init__" qual (iA1 p p1 p2) (iB1 p q1 q2 q3 q4 q5 q6 q7 q8 q9 q10) sc dV kV doc pm an (.ref cda) ct cc), osl⟩) (hcd : codeIn K (.ref cda) qual = true)
    (hE : ∀ L : Addr, HEv q1 q2 q3 q5 [.Name p q4] (ksEnv qual sc L fI (.ref cda) cc))
    (S : IScp sc [p]) (hps : p ≠ "self") (hpd : (p == ("__debug__" : Str)) = false) {v : Value} {args : Args}
    (hbind : BindsTo s (ksFn "__init__" qual (iA1 p p1 p2) (iB1 p q1 q2 q3 q4 q5 q6 q7 q8 q9 q10) sc dV kV doc pm an (.ref cda) ct cc) args [("self", .ref x), (p, v)])
    (hx : s.heap.get? x = some (excO C t0)) (hnx : K.lookup x = none) (hroom : A.depth < recursionLimit)
    (hq : ∀ h' tk dx t1, InitEnd s.heap h' x C dx t1 (fun y => if y = p then some v else none) → R (.ok (.ret .none)) { s with heap := h', toks := tk }) :
    codeAny (model P w) A (.call (.ref fI) args) R s := by
  have X : K.In s.heap := Md.kin.keeps hk0
  have hxC : x ≠ C := fun z => by
    obtain ⟨nm, N', qn, bs, bm, hdct, sn, sub, ab, col, dd, k0, k1, k2, k3, k5, hC, hT⟩ := excInit_of X T.qi
    rw [z, hC] at hx
    cases hx
  have bC : ∀ b o, base.get? b = some o → b ≠ x ∨ K.lookup b = none := fun b o e => by
    by_cases z : b = x
    · exact .inr (z ▸ hnx)
    · exact .inl z
  refine ks_codeAny_call_defAt (fd := ksFn "__init__" qual (iA1 p p1 p2) (iB1 p q1 q2 q3 q4 q5 q6 q7 q8 q9 q10) sc dV kV doc pm an (.ref cda) ct cc) (body := iB1 p q1 q2 q3 q4 q5 q6 q7 q8 q9 q10) hroom (X _ _ lk) rfl (Md.nolimit.keeps hk0) (codeRec_of X hcd) rfl hbind S.cells (fun y hy => ?_) (fun h₁ hns hk₁ => ?_) S.co S.gen S.kind
  · simp only [List.mem_cons, List.not_mem_nil, or_false] at hy
    rcases hy with z | z <;> subst z
    · exact S.ka
    · exact S.kp _ List.mem_cons_self
  obtain ⟨hp, gs, dr, tk, os⟩ := s
  have hms : (fun y => List.lookup y (List.reverse [(("self" : Str), Value.ref x), (p, v)])) "self" = some (Value.ref x) := by
    have e : (("self" : Str) == p) = false := by simpa using fun z : ("self" : Str) = p => hps z.symm
    show List.lookup ("self" : Str) [(p, v), ("self", Value.ref x)] = _
    simp [List.lookup, e]
  have hmp : (fun y => List.lookup y (List.reverse [(("self" : Str), Value.ref x), (p, v)])) p = some v := by
    show List.lookup p [(p, v), ("self", Value.ref x)] = _
    simp [List.lookup]
  have kp : sc.names.lookup p = some .local := S.kp p List.mem_cons_self
  show _root_.PySem.wpAt (model P w) _ (.func _ (ksEnv qual sc hp.objs.size fI (.ref cda) cc)) (execs _ (ksEnv qual sc hp.objs.size fI (.ref cda) cc)) _ _ _
  have hx1 := hk₁ _ _ hx
  have hxL : hp.objs.size ≠ x := Nat.ne_of_gt (Heap.lt_size hx)
  obtain ⟨pl, he⟩ := hE hp.objs.size
  refine ks_wpAt_execs_cons (ks_wpAt_Expr_any (sup_call T Md hsup (fun b o e => hk₁ b o (hk0 b o e)) lk rfl rfl hns hms hx1 hxC S.ks S.kc S.ka S.kind (us := [v]) (fun h' t' Q' hn' hq' => ?_) (by show 1 ≤ sizeLine; rw [sizeLine_eq]; decide) rfl rfl he (fun h2 t1 tk2 k2 e2 => ?_)) (inter_of S.kind))
  · refine Calls.spliced_cons (ldC hn' hmp S.kind kp ?_ hpd)
    exact Calls.spliced_nil hq'
  · have hns2 : h2.Ns hp.objs.size _ := hns.at fun o e => k2 _ o hxL e
    have X2 : K.In h2 := fun a o e => k2 a o (fun z => by rw [z, hnx] at e; cases e) (hk₁ a o (X a o e))
    refine wpAt_of_wpAny (wpAny_execs_cons (plainObj_wpAny_Assign_Attribute ?_))
    refine ldC hns2 hmp S.kind kp (ldC hns2 hms S.kind S.ka ?_ rfl) hpd
    refine ost_new T X2 e2 (T.noN p List.mem_cons_self) (fun h3 tk3 dx k3 dn dne hx3 hn3 => ?_)
    show wpAny _ _ (execs [] _) _ _ _
    have z : hp.objs.size ≤ dx := Nat.le_of_lt (Nat.lt_of_lt_of_le hns2.lt dn)
    exact wpAny_execs_nil (hq h3 tk3 dx t1 ⟨fun b o hb e => k3 b o hb (k2 b o hb (hk₁ b o e)), hx3, z, dne, hn3⟩)
theorem init2 {p r : Str} (T : XcTxt P K C fI cda cc iB initId newId bmI [p, r]) (Md : L2.Mod K mg base) (hsup : mg "super" = none) (hk0 : ∀ b o, base.get? b = some o → s.heap.get? b = some o)
    {qual : Str} {sc : Scope} {dV kV doc pm ct : Value} {an od : Option Addr} {oc : Value} {osl : Array (Option Value)} {p1 p2 p3 q1 q2 q3 q4 q5 q6 q7 q8 q9 q10 q11 q12 q13 q14 q15 : Pos}
    (lk : K.lookup fI = some ⟨oc, od, .func (ksFn "__init__" qual (iA2 p r p1 p2 p3) (iB2 p r q1 q2 q3 q4 q5 q6 q7 q8 q9 q10 q11 q12 q13 q14 q15) sc dV kV doc pm an (.ref cda) ct cc), osl⟩) (hcd : codeIn K (.ref cda) qual = true)
    (hE : ∀ L : Addr, HEv q1 q2 q3 q6 [.Name p q4, .Name r q5] (ksEnv qual sc L fI (.ref cda) cc))
    (S : IScp sc [p, r]) (hps : p ≠ "self") (hrs : r ≠ "self") (hpr : p ≠ r) (hpd : (p == ("__debug__" : Str)) = false) (hrd : (r == ("__debug__" : Str)) = false) {v u : Value} {args : Args}
    (hbind : BindsTo s (ksFn "__init__" qual (iA2 p r p1 p2 p3) (iB2 p r q1 q2 q3 q4 q5 q6 q7 q8 q9 q10 q11 q12 q13 q14 q15) sc dV kV doc pm an (.ref cda) ct cc) args [("self", .ref x), (p, v), (r, u)])
    (hx : s.heap.get? x = some (excO C t0)) (hnx : K.lookup x = none) (hroom : A.depth < recursionLimit)
    (hq : ∀ h' tk dx t1, InitEnd s.heap h' x C dx t1 (fun y => if y = r then some u else if y = p then some v else none) → R (.ok (.ret .none)) { s with heap := h', toks := tk }) :
    codeAny (model P w) A (.call (.ref fI) args) R s := by
  have X : K.In s.heap := Md.kin.keeps hk0
  have hxC : x ≠ C := fun z => by
    obtain ⟨nm, N', qn, bs, bm, hdct, sn, sub, ab, col, dd, k0, k1, k2, k3, k5, hC, hT⟩ := excInit_of X T.qi
    rw [z, hC] at hx
    cases hx
  refine ks_codeAny_call_defAt (fd := ksFn "__init__" qual (iA2 p r p1 p2 p3) (iB2 p r q1 q2 q3 q4 q5 q6 q7 q8 q9 q10 q11 q12 q13 q14 q15) sc dV kV doc pm an (.ref cda) ct cc) (body := iB2 p r q1 q2 q3 q4 q5 q6 q7 q8 q9 q10 q11 q12 q13 q14 q15) hroom (X _ _ lk) rfl (Md.nolimit.keeps hk0) (codeRec_of X hcd) rfl hbind S.cells (fun y hy => ?_) (fun h₁ hns hk₁ => ?_) S.co S.gen S.kind
  · simp only [List.mem_cons, List.not_mem_nil, or_false] at hy
    rcases hy with z | z | z <;> subst z
    · exact S.ka
    · exact S.kp _ List.mem_cons_self
    · exact S.kp _ (List.mem_cons_of_mem _ List.mem_cons_self)
  obtain ⟨hp, gs, dr, tk, os⟩ := s
  have hms : (fun y => List.lookup y (List.reverse [(("self" : Str), Value.ref x), (p, v), (r, u)])) "self" = some (Value.ref x) := by
    have e : (("self" : Str) == p) = false := by simpa using fun z : ("self" : Str) = p => hps z.symm
    have e2 : (("self" : Str) == r) = false := by simpa using fun z : ("self" : Str) = r => hrs z.symm
    show List.lookup ("self" : Str) [(r, u), (p, v), ("self", Value.ref x)] = _
    simp [List.lookup, e, e2]
  have hmp : (fun y => List.lookup y (List.reverse [(("self" : Str), Value.ref x), (p, v), (r, u)])) p = some v := by
    have e2 : (p == r) = false := by simpa using hpr
    show List.lookup p [(r, u), (p, v), ("self", Value.ref x)] = _
    simp [List.lookup, e2]
  have hmr : (fun y => List.lookup y (List.reverse [(("self" : Str), Value.ref x), (p, v), (r, u)])) r = some u := by
    show List.lookup r [(r, u), (p, v), ("self", Value.ref x)] = _
    simp [List.lookup]
  have kp : sc.names.lookup p = some .local := S.kp p List.mem_cons_self
  have kr : sc.names.lookup r = some .local := S.kp r (List.mem_cons_of_mem _ List.mem_cons_self)
  show _root_.PySem.wpAt (model P w) _ (.func _ (ksEnv qual sc hp.objs.size fI (.ref cda) cc)) (execs _ (ksEnv qual sc hp.objs.size fI (.ref cda) cc)) _ _ _
  have hx1 := hk₁ _ _ hx
  have hxL : hp.objs.size ≠ x := Nat.ne_of_gt (Heap.lt_size hx)
  obtain ⟨pl, he⟩ := hE hp.objs.size
  refine ks_wpAt_execs_cons (ks_wpAt_Expr_any (sup_call T Md hsup (fun b o e => hk₁ b o (hk0 b o e)) lk rfl rfl hns hms hx1 hxC S.ks S.kc S.ka S.kind (us := [v, u]) (fun h' t' Q' hn' hq' => ?_) (by show 2 ≤ sizeLine; rw [sizeLine_eq]; decide) rfl rfl he (fun h2 t1 tk2 k2 e2 => ?_)) (inter_of S.kind))
  · refine Calls.spliced_cons (ldC hn' hmp S.kind kp ?_ hpd)
    refine Calls.spliced_cons (ldC hn' hmr S.kind kr ?_ hrd)
    exact Calls.spliced_nil hq'
  · have hns2 : h2.Ns hp.objs.size _ := hns.at fun o e => k2 _ o hxL e
    have X2 : K.In h2 := fun a o e => k2 a o (fun z => by rw [z, hnx] at e; cases e) (hk₁ a o (X a o e))
    refine wpAt_of_wpAny (wpAny_execs_cons (plainObj_wpAny_Assign_Attribute ?_))
    refine ldC hns2 hmp S.kind kp (ldC hns2 hms S.kind S.ka ?_ rfl) hpd
    refine ost_new T X2 e2 (T.noN p List.mem_cons_self) (fun h3 tk3 dx k3 dn dne hx3 hn3 => ?_)
    have hns3 : h3.Ns hp.objs.size _ := hns2.at fun o e => k3 _ o hxL e
    have X3 : K.In h3 := fun a o e => k3 a o (fun z => by rw [z, hnx] at e; cases e) (X2 a o e)
    have z : hp.objs.size < dx := Nat.lt_of_lt_of_le hns2.lt dn
    refine wpAny_execs_cons (plainObj_wpAny_Assign_Attribute (ldC hns3 hmr S.kind kr (ldC hns3 hms S.kind S.ka ?_ rfl) hrd))
    refine ost_old T X3 hx3 hn3 (Within.cons p v Within.nil) (by show 1 ≤ 1000; decide) (T.noN r (List.mem_cons_of_mem _ List.mem_cons_self)) (fun h4 tk4 k4 hn4 => ?_)
    show wpAny _ _ (execs [] _) _ _ _
    have db : ∀ b o, hp.get? b = some o → b ≠ dx := fun b o e => Nat.ne_of_lt (Nat.lt_trans (Heap.lt_size e) z)
    exact wpAny_execs_nil (hq h4 tk4 dx t1 ⟨fun b o hb e => k4 b o (db b o e) (k3 b o hb (k2 b o hb (hk₁ b o e))), k4 x _ (Ne.symm dne) hx3, Nat.le_of_lt z, dne, hn4⟩)

/-- a new exception at e, its dict at d -/
structure Made (h h' : Heap) (e C d : Addr) (mA : Str → Option Value) : Prop where
  stay : ∀ b o, h.get? b = some o → h'.get? b = some o
  new : h.objs.size ≤ e
  obj : ∃ t1 : Addr, h'.get? e = some { cls := .ref C, dict := some d, data := .fields #[.ref t1, .none, .none, .none, .bool false, .none] }
  dnew : h.objs.size ≤ d
  dne : d ≠ e
  ns : h'.Ns1 d mA
theorem out_of {K : Frag} {h : Heap} {a : Addr} (X : K.In h) (ha : h.objs.size ≤ a) : K.lookup a = none :=
  Option.eq_none_iff_forall_ne_some.mpr fun o q => absurd (Heap.lt_size (X a o q)) (Nat.not_lt.mpr ha)
theorem made {fs : List Str} (T : XcTxt P K C fI cda cc iB initId newId bmI fs) (X : K.In s.heap) {us : List Value} {kw : List (Str × Value)} {mA : Str → Option Value} (hroom : A.depth + 1 < recursionLimit) (hz : us.length ≤ sizeLine)
    (hinit : ∀ (x t0 : Addr) (A' : Around) (s' : Shared) (R' : Result → Shared → Prop), (∀ b o, s.heap.get? b = some o → s'.heap.get? b = some o) → s'.heap.get? x = some (excO C t0) → K.lookup x = none → A'.depth < recursionLimit →
      (∀ h' tk dx t1, InitEnd s'.heap h' x C dx t1 mA → R' (.ok (.ret .none)) { s' with heap := h', toks := tk }) → codeAny (model P w) A' (.call (.ref fI) ⟨.ref x :: us, kw⟩) R' s')
    (hq : ∀ h' tk e d, Made s.heap h' e C d mA → R (.ok (.ret (.ref e))) { s with heap := h', toks := tk }) :
    codeAny (model P w) A (.call (.ref C) ⟨us, kw⟩) R s := by
  obtain ⟨nm, N', qn, bs, bm, hdct, sn, sub, ab, col, dd, k0, k1, k2, k3, k5, hC, hT⟩ := excInit_of X T.qi
  obtain ⟨B, iN, bmB, FB, hTn⟩ := T.bf.new
  obtain ⟨oI, lI, hcI⟩ := Option.map_eq_some_iff.mp (show (K.lookup fI).map (·.cls) = some (.type "function") from beq_iff_eq.mp T.fnI)
  refine call_ownK FB (hTn bm hT) ⟨nm, qn, N', bs, sub, hdct, ab, sn, col, dd, k0, k1, k2, k3, k5, hC⟩ (looks_findIn X T.aI) (fun x => exc_bind (X _ _ lI) hcI x) hz ?_
  refine hinit (s.heap.objs.size + 1) s.heap.objs.size _ { s with heap := newH s.heap C us } _ (fun b o q => new_old q) new_at (out_of X (Nat.le_succ _)) (show A.depth + 1 < recursionLimit from hroom) fun h' tk' dx t1 N => ⟨rfl, hq h' tk' _ dx ⟨fun b o q => ?_, Nat.le_succ _, ⟨_, N.at_x⟩, ?_, N.dne, N.ns⟩⟩
  · exact N.stay b o (Nat.ne_of_lt (Nat.lt_succ_of_lt (Heap.lt_size q))) (new_old q)
  · have z := N.dbig
    have e : (newH s.heap C us).objs.size = s.heap.objs.size + 1 + 1 := (Heap.size_push _ _).trans (congrArg Nat.succ (Heap.size_push _ _))
    have z2 : s.heap.objs.size + 1 + 1 ≤ dx := e ▸ z
    exact Nat.le_trans (Nat.le_trans (Nat.le_succ _) (Nat.le_succ _)) z2
end
end ExZ
end PySem

set_option maxHeartbeats 4000000
/-! Ex4: own exceptions as values, over the layer. -/
namespace PySem
namespace ExZ
open PySem.W PySem.Calls PyProof.Rows PySem.HandSPX
section
variable {prog : Program} {w : World} {A : Around} {E : Value → Shared → Prop} {s : Shared} {K : Frag} {x D : Addr} {ox : Obj} {od : Option Obj}
theorem obj_bind {C : Addr} {f : Str} {a g : Value} (hc : (clsIn K C).isSome = true) (ha : findIn K (.ref C) f = some (some a)) (hg : specialIn K a "__get__" = some (some g)) (ht : takesIn K a = some true) : findObj K C od f = some (.bind g a) := by
  unfold findObj
  obtain ⟨cd, ec⟩ := Option.isSome_iff_exists.mp hc
  simp [ec, ha, hg, ht]
theorem own_ga : (Value.builtin "BaseException.__getattribute__" == Value.builtin "object.__getattribute__") = false := by decide +kernel
theorem cls_of (Y : L2.ExcC K D) : ∃ c0 d0 cd sl, K.lookup D = some ⟨c0, d0, .cls cd, sl⟩ := by
  obtain ⟨cd, ec, _⟩ := any_some (show (clsIn K D).any (·.hasDict) = true from Y.hd)
  unfold clsIn at ec; split at ec
  · exact ⟨_, _, _, _, ‹_›⟩
  · cases ec
/-- e.__class__, e an exception that may have its dict -/
theorem class_read (Y : L2.ExcC K D) (X : K.In s.heap) (I : InstAt s.heap x ox D od) {Q : Option Value → Shared → Prop} (k : Q (some (.ref D)) { s with toks := s.toks + 1 }) : wpAny (model prog w) A (getAttr? (.ref x) "__class__") Q E s := by
  have some_cls : (clsIn K D).isSome = true := by
    obtain ⟨c0, d0, cd, sl, e⟩ := cls_of Y
    unfold clsIn; rw [e]; rfl
  have lt : Looks (model prog w) s.heap (typeOf (.ref x)) (.ref D) := I.type
  have lg : Looks (model prog w) s.heap (typeLookup (.ref D) "__getattribute__") (some (.builtin "BaseException.__getattribute__")) := looks_findIn X Y.hg
  have lh : Looks (model prog w) s.heap (typeLookup (.ref D) "__getattr__") none := looks_findIn X Y.hk
  have lf := looks_find (M := model prog w) X I (obj_bind (od := od) some_cls Y.ha Y.hn Y.ht)
  have li : Looks (model prog w) s.heap (isInstance (.ref x) (.type "BaseException")) true := lt.andThen (looks_subIn X Y.hs)
  have n1 : (onTheHeap (.ref D) && Value.builtin "BaseException.__getattribute__" == Value.builtin "object.__getattribute__") = false := by rw [own_ga, Bool.and_false]
  have n2 : (false && onTheHeap (.builtin "BaseException.__getattribute__")) = false := Bool.false_and _
  obtain ⟨hp, gs, dr, tk, os⟩ := s
  -- the built-in's body: the descriptor of object is called
  have body : ∀ (A' : Around) (R : Fin → Shared → Prop) (E' : Value → Shared → Prop), R (.done (.ret (.ref D))) ⟨hp, gs, dr, tk + 1, os⟩ → wpAny (model prog w) A' (Builtin.«object.__getattribute__» ⟨[.ref x, .str "__class__" tk], []⟩) R E' ⟨hp, gs, dr, tk + 1, os⟩ := fun A' R E' q => by
    unfold Builtin.«object.__getattribute__»; refine wpAny_bind (wpAny_of_eq (a := ((.ref x : Value), [.str "__class__" tk])) (by first | (simp only [slotArgs]; rfl) | rfl) ?_)
    refine wpAny_bind (wpAny_pure (wpAny_bind (lt.at (wpAny_bind (lf.at ?_ )))))
    have q1 : wpAny (model prog w) A' (call (.builtin "getset_descriptor.__get__") [.builtin "object.__class__", .ref x, .ref D]) (fun v s' => wpAny (model prog w) A' (ret v) R E' s') E' ⟨hp, gs, dr, tk + 1, os⟩ := wpAny_call (class_get (s := ⟨hp, gs, dr, tk + 1, os⟩) (ox := ox) (od := od) X I Y.hm (wpAny_pure q))
    exact wpAny_bind (wpAny_holding q1)
  unfold getAttr? getAttrBy? getAttrBy; refine wpAny_bind (wpAny_mkText (wpAny_bind (wpAny_attempt (wpAny_holding (wpAny_bind (lt.at (wpAny_bind (lg.at ?_))))))))
  refine (show wpAny _ _ (if (onTheHeap (.ref D) && Value.builtin "BaseException.__getattribute__" == Value.builtin "object.__getattribute__") = true then _ else _) _ _ _ from ?_); rw [n1, if_neg Bool.false_ne_true]; unfold getAttrByItsOwn hookBefore; refine wpAny_bind ?_
  have oh : onTheHeap (Value.ref D) = true := rfl
  rw [if_pos oh]; refine lh.at ?_; refine wpAny_bind (wpAny_attempt (wpAny_holding ?_)); unfold callGetattribute; rw [n2, if_neg Bool.false_ne_true]; unfold boundAndCalled; rw [F.excAttr_ValueError.ga.bind (.ref x)]
  refine wpAny_bind (wpAny_pure (show wpAny _ _ (call (.builtin "BaseException.__getattribute__") [.ref x, .str "__class__" tk]) _ _ _ from wpAny_call (codeAny_call_builtin F.excAttr_ValueError.ga.plain F.entry_bexc_ga ?_)))
  refine (@check_slot (model prog w) _ _ ⟨hp, gs, dr, tk + 1, os⟩ "BaseException.__getattribute__" "BaseException" "__getattribute__" (.ref x) [.str "__class__" tk] [] _ (by decide +kernel) (by decide +kernel) li (F.args_bexc_ga (.ref x) (.str "__class__" tk)) (body _ _ _ ?_))
  refine (show wpAny _ _ (handedOut (.ref D)) _ _ _ from ?_); rw [handedOut_of (v := .ref D) (by rfl)]
  first | exact wpAny_pure (wpAny_pure k) | exact wpAny_pure (wpAny_bind (wpAny_pure (wpAny_pure k))) | exact wpAny_pure k
/-- isinstance asks such an exception rightly -/
theorem kit_exc (Y : L2.ExcC K D) : KitX K (.ref x) (.ref D) (fun h => InstAt h x ox D od) := by
  obtain ⟨c0, d0, cd, sl, e⟩ := cls_of Y
  refine ⟨fun _ _ _ I => I.type, fun _ _ X _ A' Q' E' s' k q => ?_, fun h tp _ _ _ _ X ht => ?_, fun X I k => class_read Y X I k⟩
  · unfold isType loadHead; exact wpAny_bind (wpAny_loadPart (k _ _ (X _ _ e)) (wpAny_pure q))
  · by_cases z : D = tp
    · rw [← z, X _ _ e] at ht
      cases ht
    · simp [z]
end
end ExZ
end PySem
namespace L2
open PySem PySem.Spec PyProof.Rows PySem.ExZ
/-- what calls the class at C: n values by place | by name, kept as the fields ns -/
structure MkX (P : Program) (w : World) (K : PySem.W.Frag) (mg : Str → Option Value) (base : Heap) (C : Addr) (kw : Bool) (ns : List Str) : Prop where
  run : Mod K mg base → ∀ (A : Around) (s : Shared) (R : Result → Shared → Prop) (us : List Value) (vs : List V), (∀ b o, base.get? b = some o → s.heap.get? b = some o) → A.depth + 1 < recursionLimit → Vals vs us → vs.length = ns.length →
    (∀ h' tk e d mA, Made s.heap h' e C d mA → (∀ f, RelO ((ns.zip vs).lookup f) (mA f)) → R (.ok (.ret (.ref e))) { s with heap := h', toks := tk }) →
    codeAny (model P w) A (.call (.ref C) (bif kw then ⟨[], ns.zip us⟩ else ⟨us, []⟩)) R s
  keeps : PySem.W.keepIn K (.ref C) = true
def tMkX (C : Addr) (ns : List Str) (ta : TA) : TE := fun σ H Q => ta σ H fun vs H1 => vs.length = ns.length ∧ ∀ e d, H1 e = none → H1 d = none → d ≠ e → Q (.ref e) (upd (upd H1 d (.xd (ns.zip vs))) e (Sd.ExcA C d e))
section
variable {X : Cx} {pins : List (Addr × Obj)} {σ : St} {H : Hp} {s : Shared} {C : Addr} {ns : List Str} {Q : VK}
theorem Inv.madeX {h' : Heap} {tk : Nat} {e d : Addr} {mA : Str → Option Value} {fs : List (Str × V)} (I : Inv X pins σ H s) (M : Made s.heap h' e C d mA) (r : ∀ f, RelO (fs.lookup f) (mA f)) (q : ∀ e d, H e = none → H d = none → d ≠ e → Q (.ref e) (upd (upd H d (.xd fs)) e (Sd.ExcA C d e))) :
    EP X pins σ Q (.ref e) { s with heap := h', toks := tk } := by
  obtain ⟨hp, gs, dr, t0, os⟩ := s
  obtain ⟨t1, hoe⟩ := M.obj
  -- the dict first, in a heap without the exception itself
  obtain ⟨G, gIn, gOut⟩ := restrict h' fun b => !decide (b = e)
  have at_ : ∀ {b : Addr}, b ≠ e → G.get? b = h'.get? b := fun {b} hb => gIn b (by simp [hb])
  have Ge : G.get? e = none := gOut e (by simp)
  have up : ∀ b o, hp.get? b = some o → G.get? b = some o := fun b o z => by
    have lo : b < hp.objs.size := Heap.lt_size z
    have hi : hp.objs.size ≤ e := M.new
    rw [at_ (Nat.ne_of_lt (Nat.lt_of_lt_of_le lo hi))]
    exact M.stay b o z
  have od : ObjOk X.prog X.w (upd H d (.xd fs)) G d (.xd fs) := ⟨mA, M.ns.at (fun o z => (at_ M.dne).trans z), r⟩
  have J : Inv X pins σ (upd H d (.xd fs)) ⟨G, gs, dr, tk, os⟩ := I.laid (t' := tk) up M.dnew od
  have he : H e = none := I.hok.fresh M.new
  have hd : H d = none := I.hok.fresh M.dnew
  have he1 : upd H d (.xd fs) e = none := (upd_ne (Ne.symm M.dne)).trans he
  have back : ∀ b o, G.get? b = some o → h'.get? b = some o := fun b o z => by
    by_cases y : b = e
    · rw [y, Ge] at z
      cases z
    · rw [← at_ y]
      exact z
  have ox : ObjOk X.prog X.w (upd (upd H d (.xd fs)) e (Sd.ExcA C d e)) h' e (Sd.ExcA C d e) := ⟨⟨_, _, hoe, rfl, rfl, rfl⟩, ⟨_, hoe⟩, fun _ _ ⟨oe, vs, z1, z2⟩ k => ⟨oe, vs, k _ z1, z2⟩⟩
  exact ⟨.ref e, _, Inv.laidN (s := ⟨G, gs, dr, tk, os⟩) (h' := h') (t' := tk) J back Ge he1 ox, rfl, q e d he hd M.dne⟩
/-- the class c called by place -/
theorem pe_mkX {x : Str} {e : Expr} {es : List Expr} {ta : TA} {p pos : Pos} {k : Nat} (M : MkX X.prog X.w X.K X.mg X.base C false ns) (hr : Room k X.A) (hg : Gl X x) (hm : X.mg x = some (.ref C)) (ha : PA X (e :: es) ta)
    (hdb : (x == ("__debug__" : Str)) = false := by decide) (hst : starEach (e :: es) X.env = (false, eval e X.env) :: starEach es X.env := by rfl) (hnk : (backTo pos (starEach es X.env)).any (·.1) = false := by rfl) :
    PE X (.Call (.Name x p) (e :: es) [] pos) (tMkX C ns ta) := .mk fun pins s σ H Q I h =>
  wpAny_Call_Name_kw (ld_glob I hg hm (PySem.W.callWith_K (h₀ := X.base) I.ok.mod.kin M.keeps (thn (ha.run pos pins s σ H _ I h) fun us s1 ⟨vs, H1, J, r, hl, q⟩ =>
    ⟨J.kIn, show wpAny _ _ (call (.ref C) us) _ _ _ from wpAny_call (M.run J.ok.mod X.A s1 _ us vs J.bk (by have := hr.dp; omega) r hl fun h' tk e d mA Md rr => J.madeX (tk := tk) Md rr q)⟩) hst hnk) hdb)
/-- .. by name -/
theorem pe_mkXK {x : Str} {kws : List Keyword} {tk : TA} {p pos : Pos} {k : Nat} (M : MkX X.prog X.w X.K X.mg X.base C true ns) (hr : Room k X.A) (hg : Gl X x) (hm : X.mg x = some (.ref C)) (hkw : PK X kws tk)
    (hall : (backToKw pos (keywordEach kws X.env)).all (·.1.isSome) = true := by rfl) (hks : (backToKw pos (keywordEach kws X.env)).filterMap (·.1) = ns := by rfl) (hdb : (x == ("__debug__" : Str)) = false := by decide)
    (hnk : ((backTo pos (starEach [] X.env)).any (·.1) || (backToKw pos (keywordEach kws X.env)).any (·.1.isNone)) = false := by rfl) : PE X (.Call (.Name x p) [] kws pos) (tMkX C ns tk) := .mk fun pins s σ H Q I h =>
  wpAny_Call_Name_kw (ld_glob I hg hm (PySem.W.callWith_KW0 (h₀ := X.base) I.ok.mod.kin M.keeps hall (thn (hkw.run pos pins s σ H _ I h) fun us s1 ⟨vs, H1, J, r, hl, q⟩ => by
    rw [hks]
    exact ⟨J.kIn, wpAny_call (M.run J.ok.mod X.A s1 _ us vs J.bk (by have := hr.dp; omega) r hl fun h' tk e d mA Md rr => J.madeX (tk := tk) Md rr q)⟩) hnk) hdb)
/-- x.n, x an exception -/
def tFx (K : PySem.W.Frag) (n : Str) (te : TE) : TE := fun σ H Q => te σ H fun x H1 => ∃ (a C d : Addr) (fs : List (Str × V)) (v : V), x = .ref a ∧ H1 a = some (Sd.ExcA C d a) ∧ XfC K C ∧ PySem.W.findIn K (.ref C) n = some none ∧ H1 d = some (.xd fs) ∧ fs.lookup n = some v ∧ Q v H1
/-- what lies in the heap for it -/
theorem excA_at {P : Program} {w : World} {H : Hp} {h : Heap} {C d a : Addr} {fs : List (Str × V)} (ok : HOk P w H h) (e : H a = some (Sd.ExcA C d a)) (ed : H d = some (.xd fs)) :
    ∃ (oe od : Obj) (mA : Str → Option Value), PySem.W.InstAt h a oe C (some od) ∧ (∀ f, PySem.W.lookIn f od = some (mA f)) ∧ ∀ f, RelO (fs.lookup f) (mA f) := by
  have x : ObjOk P w H h a (.ext fun h => ∃ (oe : Obj) (vs : Array Value), h.get? a = some oe ∧ oe.cls = .ref C ∧ oe.dict = some d ∧ oe.data = .fields vs) := ok a _ e
  have y : ObjOk P w H h d (.xd fs) := ok d _ ed
  obtain ⟨oe, vs, e1, e2, e3, e4⟩ := x.1
  obtain ⟨mA, n, r⟩ := y
  obtain ⟨od, eo, l⟩ := lookIn_ns n
  refine ⟨oe, od, mA, ⟨e1, e2, ?_, ?_⟩, l, r⟩
  · unfold PySem.W.notCls
    rw [e4]
  · rw [e3]
    exact eo
theorem pe_fx {e : Expr} {te : TE} {pos : Pos} {n : Str} (he : PE X e te) (hb : attributeBase e n X.env (eval e X.env) = eval e X.env := by rfl) : PE X (.Attribute e n pos) (tFx X.K n te) :=
  .mk fun pins s σ H Q I h => attr_of hb (thn (he.run pins s σ H _ I h) fun u s1 ⟨x, H1, J, rx, a, C, d, fs, v, ex, ea, T, hno, ed, l, q⟩ => by
    subst ex
    have eu : u = .ref a := rx
    subst eu
    obtain ⟨oe, od, mA, Y, lk, r⟩ := excA_at J.hok ea ed
    obtain ⟨w, ew, rw'⟩ := RelO.some_of (v := v) (o := mA n) (l ▸ r n)
    exact HandSPX.exc_get J.kIn Y T.ga T.gg T.exC (PySem.W.findObj_own T.hdC hno rfl ((lk n).trans (congrArg some ew))) (handed_of rw') ⟨v, H1, J.tok _, rw', q⟩)
/-- isinstance(x, c), x an exception -/
def rIsX (K : PySem.W.Frag) : List V → Hp → VK → Prop := fun xs H Q => ∃ (a D d : Addr) (fs : List (Str × V)) (c : V) (cv : Value) (b : Bool), xs = [.ref a, c] ∧ H a = some (Sd.ExcA D d a) ∧ H d = some (.xd fs) ∧ ExcC K D ∧ (∀ u, RelV c u → u = cv) ∧ PySem.W.kitOne K (.ref D) cv = some b ∧ Q (.bl b) H
theorem call_isX : CallR X (.builtin "isinstance") (rIsX X.K) := fun pins s σ H xs us Q I r ⟨a, D, d, fs, c, cv, b, ex, ea, ed, Y, hcv, ek, q⟩ => by
  subst ex
  match us, r with
  | [_, u2], .cons rx (.cons rt .nil) =>
    have eu := hcv _ rt
    subst eu
    cases rx
    obtain ⟨oe, od, mA, Z, _, _⟩ := excA_at I.hok ea ed
    exact PySem.W.kia_one (PySem.ExZ.kit_exc Y) I.kIn Z ek (fun z => nomatch z) fun tk => ⟨.bl b, H, I.kept (t' := tk) fun _ _ z => z, rfl, q⟩
end
end L2

set_option maxHeartbeats 1000000
/-! G0: promises that hold where no repr is under way. -/
namespace L2
open PySem PySem.Spec PyProof.Rows
/-- no repr is under way -/
def NoG (A : Around) : Prop := A.guards = some []
/-- FnOk, where no repr is under way -/
structure FnG (P : Program) (w : World) (K : PySem.W.Frag) (mg : Str → Option Value) (base : Heap) (CX : CXT) (k : Nat) (f : Addr) (fd : FuncData) (ps : List Str) (sp : Sp) : Prop where
  many : ∀ vs H Q E, sp vs H Q E → vs.length = ps.length
  go : ∀ (A : Around) (outer : List Env) (s : Shared) (H : Hp) (args : Args) (us : List Value) (vs : List V) (Q : VK) (E : XK), Room k A → NoG A → Env0 P w K mg base A outer s H → BindsTo s fd args (ps.zip us) → Vals vs us → sp vs H Q E → codeAny (model P w) A (.call (.ref f) args) (CR CX outer P w H s Q E) s
section
variable {P : Program} {w : World} {K : PySem.W.Frag} {mg : Str → Option Value} {base : Heap} {CX : CXT} {k : Nat} {f : Addr} {fd : FuncData} {ps : List Str} {sp : Sp}
theorem FnOk.g (F : FnOk P w K mg base CX k f fd ps sp) : FnG P w K mg base CX k f fd ps sp := ⟨F.len, fun A outer s H args us vs Q E hr _ => F.run A outer s H args us vs Q E hr⟩
/-- THE RULE, the body may use that no repr is under way -/
theorem FunD.okG {x qual : Str} {params : Arguments} {body : List Stmt} {scope : Scope} {dvs : List V} {kws : List (Str × V)} {N : List Str} (F : FunD K x qual params body scope dvs kws f fd) (S : FnScope N ps scope) (len : ∀ vs H Q E, sp vs H Q E → vs.length = ps.length)
    (hbody : ∀ (cdv : Value) (A : Around) (outer : List Env) (s : Shared) (H : Hp) (vs : List V) (Q : VK) (E : XK), Room k (A.deeper (envOfC qual scope s.heap.objs.size f cdv)) → NoG (A.deeper (envOfC qual scope s.heap.objs.size f cdv)) → sp vs H Q E →
      ∃ t, PSs (cxOf CX P w K mg base N qual scope f cdv A outer s H E) body t ∧ t { nx := fun _ H' => Q .non H', rt := Q } (start N vs) H) : FnG P w K mg base CX (k + 1) f fd ps sp := by
  refine ⟨len, fun A outer s H args us vs Q E hr hg e0 hb r hsp => ?_⟩
  -- the promise of this one call alone: nothing else is asked of the layer's rule
  let spA : Sp := fun vs' H' Q' E' => vs' = vs ∧ H' = H ∧ Q' = Q ∧ E' = E
  obtain ⟨oc, od, dV, kV, doc, pm, an, cdv, ct, osl, rfl, lk, hcd, hd, hk⟩ := F.ex
  have hl := len _ _ _ _ hsp
  have KX : K.In s.heap := e0.mod.kin.keeps fun b o z => (e0.bs b o z).1
  have e1 := hb
  have par : ∀ y ∈ ps.zip us, scope.names.lookup y.1 = some .local ∨ (scope.names.lookup y.1 = some .cell ∧ ((cellsFrom (s.heap.objs.size + 1) scope.names []).lookup y.1).isSome = true) := fun y hy =>
    (S.par y.1 (List.of_mem_zip (show (y.1, y.2) ∈ ps.zip us from hy)).1).imp_right fun q => ⟨q, PySem.W.cellsFrom_some _ _ _ (.inl q)⟩
  refine codeAny_call_function hr.depth (KX _ _ lk) rfl S.co S.gen rfl (PySem.W.codeRec_of KX hcd) (e1 _ _ _ _ (wpAny_newFunctionEnv_cells S.kind par fun env he s1 x => ?_))
  subst he
  obtain ⟨t, ht, hq⟩ := hbody cdv A outer s H vs Q E (hr.deeper _) (show A.guards = some [] from hg) hsp
  have J0 := inv_start (CX := CX) (E := E) S hr.hd e0 hl r x
  refine ⟨(e0.mod.nolimit.keeps fun b o e => (e0.bs b o e).1).keeps x.toInCall.keep, codeAny_func (wpAny_mono (ht.run [] s1 (start N vs) H _ J0 hq) (fun fl s' hs => ?_) fun _ _ z => z)⟩
  have out : ∀ {σ' : St} {H' : Hp} {v : V} {u : Value}, Inv (cxOf CX P w K mg base N qual scope f cdv A outer s H E) [] σ' H' s' → RelV v u → Q v H' → CE outer P w H s Q u s' :=
    fun J rv q => ⟨_, _, J.os, J.bare, J.base, J.hok, rv, q⟩
  match fl, hs with
  | .ret _, ⟨_, _, _, J, rv, q⟩ => exact out J rv q
  | .next, ⟨_, _, J, q⟩ => exact out (v := .non) (u := .none) J rfl q
  | .brk, ⟨_, _, _, q⟩ => exact q.elim
  | .cont, ⟨_, _, _, q⟩ => exact q.elim
end
section
variable {X : Cx} {CX : CXT} {k : Nat} {f : Addr} {fd : FuncData} {ps : List Str} {sp : Sp} {dvs : List V} {ds : List Value} {E : XK} {x : Str} {p pos : Pos} {e : Expr} {es : List Expr} {t : TA}
/-- f(e, ..) where no repr is under way -/
theorem pe_callG (F : FnG X.prog X.w X.K X.mg X.base CX k f fd ps sp) (hr : Room k X.A) (hG : NoG X.A) (hg : Gl X x) (hm : X.mg x = some (.ref f)) (hk : PySem.W.keepIn X.K (.ref f) = true) (hb : Binds X.K fd ps ds) (hd : Vals dvs ds) (hx : Passes CX X E)
    (ha : PA X (e :: es) t) (hdb : (x == ("__debug__" : Str)) = false := by decide) (hst : starEach (e :: es) X.env = (false, eval e X.env) :: starEach es X.env := by rfl) (hnk : (backTo pos (starEach es X.env)).any (·.1) = false := by rfl) : PE X (.Call (.Name x p) (e :: es) [] pos) (tCall sp dvs E t) := by
  constructor
  intro pins s σ H Q I h
  refine wpAny_Call_Name_kw (ld_glob I hg hm (PySem.W.callWith_K (h₀ := X.base) I.ok.mod.kin hk (thn (ha.run pos pins s σ H _ I h) ?_) hst hnk) hdb)
  rintro us s1 ⟨vs, H1, I1, r, q⟩
  have r2 : Vals (vs ++ dvs) (us ++ ds) := Vals.append r hd
  refine ⟨I1.kIn, wpAny_call (codeAny_mono (F.go X.A X.stack s1 H1 ⟨us, []⟩ (us ++ ds) (vs ++ dvs) Q E hr hG I1.env0 (hb s1 us I1.kIn (r2.length.symm.trans (F.many _ _ _ _ q))) r2 q) fun r s' hq => ?_)⟩
  match r, hq with
  | .error e, hq => exact hx pins σ H1 s1 e s' I1 hq
  | .ok (.ret u), hq => exact I1.after hq
end
/-- the law's promise at the heap behind the top -/
theorem law_callG {P : Program} {w : World} {K : PySem.W.Frag} {mg mb : Str → Option Value} {CX : CXT} {k : Nat} {fa a : Addr} {fd : FuncData} {x : Str} {sp : Sp} {s1 : Shared} {vs : List Value} {ns : List Int}
    (KX : K.In s1.heap) (hns : s1.heap.Ns mainGlobals mg) (hb : s1.heap.Ns builtinsNs mb) (hbb : ∀ x : Str, x ≠ "__name__" → mb x = bootBuiltins x) (hlim : s1.heap.NoLimit) (hg : s1.gens = #[])
    (ha : s1.heap.get? a = some { cls := .type "list", data := .seq vs.toArray }) (hi : IntsAre vs ns) (hl : ns.length ≤ sizeLine) (hr : Room k callerA)
    (F : ∀ base : Heap, K.In base → base.Ns mainGlobals mg → FnG P w K mg base CX k fa fd [x] sp) (hbind : ∀ (s : Shared) (u : Value), BindsTo s fd ⟨[u], []⟩ [(x, u)])
    (hsp : ∀ H : Hp, Only H → SqL K H a (ns.map V.int) → sp [.ref a] H (fun v _ => v = .bl true) fun _ _ _ => False) (hCX : ∀ H e s', CX [] H s1 (fun _ _ _ => False) e s' → False) :
    codeAny (model P w) callerA (.call (.ref fa) ⟨[.ref a], []⟩) (fun r s' => r = .ok (.ret (.bool true)) ∧ OldK s1.heap s'.heap ∧ s'.os = s1.os ∧ AllBare s'.gens) s1 := by
  have rv := vals_ints hi
  -- the script: tracked (and frozen) unless the written part has it
  obtain ⟨ob, eob⟩ : ∃ ob : Obj, ob = { cls := .type "list", data := .seq vs.toArray } := ⟨_, rfl⟩
  rw [← eob] at ha
  obtain ⟨H, hHa, hHn, hS⟩ : ∃ H : Hp, (∀ b u, H b = some u → b = a ∧ K.lookup a = none ∧ u = .frz ob (.lst (ns.map V.int))) ∧ (K.lookup a = none → H a = some (.frz ob (.lst (ns.map V.int)))) ∧ SqL K H a (ns.map V.int) := by
    rcases (show K.lookup a = none ∨ ∃ o, K.lookup a = some o by cases K.lookup a <;> simp) with q | ⟨o, q⟩
    · refine ⟨fun b => if b = a then some (.frz ob (.lst (ns.map V.int))) else none, fun b u z => ?_, fun _ => if_pos rfl, .inl (.inr ⟨ob, if_pos rfl⟩)⟩
      by_cases hb : b = a
      · have z2 := (if_pos hb).symm.trans z
        cases z2
        exact ⟨hb, q, rfl⟩
      · have z2 := (if_neg hb).symm.trans z
        cases z2
    · have z := KX a o q
      rw [ha] at z
      cases z
      subst eob
      exact ⟨fun _ => none, fun b u z => (by cases z), fun z => (by rw [q] at z; cases z), .inr ⟨_, vs.toArray, _, q, rfl, rfl, rfl, by rw [List.size_toArray, hi.length]; exact hl, by simpa using rv⟩⟩
  have hok : HOk P w H s1.heap := fun b u z => by
    obtain ⟨rfl, _, rfl⟩ := hHa b u z
    have h2 := ha
    rw [eob] at h2
    exact ⟨ha, (by rw [List.length_map]; exact hl : (ns.map V.int).length ≤ sizeLine), vs, _, rv, h2⟩
  have old : ∀ {b : Addr} {o : Obj}, s1.heap.get? b = some o → o.data ≠ .seq vs.toArray _ → (hidT s1.heap H).get? b = some o := fun {b o} e d => hidT_get e (by
    cases q : H b with
    | none => rfl
    | some u =>
      obtain ⟨rfl, _, _⟩ := hHa b u q
      rw [ha] at e
      cases e
      exact absurd (by rw [eob]) d)
  have nsK : ∀ {b : Addr} {m : Str → Option Value}, s1.heap.Ns b m → (hidT s1.heap H).Ns b m := fun ⟨o, es, ep, e, d, z⟩ => ⟨o, es, ep, old e (by rw [d]; exact fun q => nomatch q), d, z⟩
  have hKb : K.In (hidT s1.heap H) := fun b o e => hidT_get (KX b o e) (by
    cases q : H b with
    | none => rfl
    | some u =>
      obtain ⟨rfl, n, _⟩ := hHa b u q
      rw [n] at e
      cases e)
  have hM : Mod K mg (hidT s1.heap H) := ⟨hKb, nsK hns, ⟨mb, nsK hb, hbb⟩, hlim.imp fun mc h => ⟨nsK h.1, h.2⟩⟩
  have e0 : Env0 P w K mg (hidT s1.heap H) callerA [] s1 H := ⟨rfl, hM, fun b o e => of_hidT e, Nat.le_of_eq (hidT_size _ _), trivial, fun b hb => absurd (show b ∈ ([] : List Addr) from hb) List.not_mem_nil, hok, .of_eq hg⟩
  have hO : Only H := fun b => by
    cases q : H b with
    | none => exact .inl rfl
    | some u =>
      obtain ⟨_, _, rfl⟩ := hHa b u q
      exact .inr ⟨_, _, rfl⟩
  refine codeAny_mono ((F _ hKb (nsK hns)).go callerA [] s1 H ⟨[.ref a], []⟩ [.ref a] [.ref a] _ _ hr rfl e0 (hbind s1 (.ref a)) (.cons rfl .nil) (hsp H hO hS)) fun r s' h => ?_
  match r, h with
  | .error e, h => exact (hCX H e s' h).elim
  | .ok (.ret u), ⟨v, H', os, bare, un, hok', r', q⟩ =>
    have q' : v = .bl true := q
    subst q'
    have eu : u = .bool true := r'
    subst eu
    refine ⟨rfl, .of_keep fun b o e => ?_, os, bare⟩
    cases q : H b with
    | none => exact un.keep b o e q (fun z => by cases z) (fun z => by cases z)
    | some u =>
      obtain ⟨rfl, _, rfl⟩ := hHa b u q
      have z := (hok' b _ (un.frzs b ob _ q)).1
      rw [ha] at e
      cases e
      exact z
/-- a law over a head by facts: F gives the written part, the function object, the promise over every base -/
theorem walk_ofG {l : PySem.W.OpenLaw} {n k : Nat} {q : Program} {loose : List Str} {XP : (Str → Option Value) → Heap → Prop} {YP : World → Heap → Prop} {d : DefRec} {CX : CXT} {x : Str}
    (most : l.most = some n) (few : n ≤ sizeLine) (noDfl : d.params.defaults = []) (room : Room k callerA)
    (F : ∀ (w : World) (mg : Str → Option Value) (f : Addr) (h : Heap), YP w h → h.Ns mainGlobals mg → mg d.name = some (.ref f) → ∃ (K : PySem.W.Frag) (fd : FuncData) (sp : Sp), K.In h ∧ (∀ (s : Shared) (u : Value), BindsTo s fd ⟨[u], []⟩ [(x, u)]) ∧
      (∀ (H : Hp) (a : Addr) (ns : List Int), ns.length ≤ n → Only H → SqL K H a (ns.map V.int) → sp [.ref a] H (fun z _ => z = .bl true) fun _ _ _ => False) ∧ ∀ base : Heap, K.In base → base.Ns mainGlobals mg → FnG l.prog w K mg base CX k f fd [x] sp)
    (none_out : ∀ (H : Hp) (s : Shared) (e : Value) (s' : Shared), CX [] H s (fun _ _ _ => False) e s' → False) : PySem.W.WalkO q loose XP YP l.row.toRowW d [] (fun f vs => PySem.call f vs) :=
  Att.attach_call most noDfl fun w s0 s1 mg mb f o pm cd doc a vs ns G Y ho hd hcd hmg hobj hints hlen hg =>
    let ⟨_, _, _, KX, hb, hsp, hF⟩ := F w mg f _ Y G.T.g hmg
    law_callG KX G.T.g G.T.b G.T.builtins G.T.nolimit hg hobj hints (Nat.le_trans hlen few) room hF hb (fun H hO hS => hsp H a ns hlen hO hS) fun H e s' => none_out H s1 e s'
end L2

set_option maxHeartbeats 1000000
/-! S10: texts of data; own exceptions as data. -/
namespace Sd
open PySem PySem.Spec PyProof.Rows L2 LamX
/-! ### repr -/
mutual
def D.pyR : D → Option PyData
  | .non => some .none
  | .bl b => some (.bool b)
  | .int i => some (.int i)
  | .str x => some (.str x)
  | .lst xs => (D.pyRs xs).map .list
  | .tup xs => (D.pyRs xs).map .tuple
  | .dct ks vs => match D.pyKs ks, D.pyRs vs with
    | some a, some b => some (.dict (a.zip b))
    | _, _ => none
  | _ => none
def D.pyRs : List D → Option (List PyData)
  | [] => some []
  | x :: xs => match D.pyR x, D.pyRs xs with
    | some y, some ys => some (y :: ys)
    | _, _ => none
/-- keys: ints and texts alone -/
def D.pyKs : List D → Option (List PyData)
  | [] => some []
  | .int i :: xs => (D.pyKs xs).map (.int i :: ·)
  | .str x :: xs => (D.pyKs xs).map (.str x :: ·)
  | _ :: _ => none
end
theorem pyRs_cons {d : D} {xs : List D} {ys : List PyData} (h : D.pyRs (d :: xs) = some ys) : ∃ z zs, D.pyR d = some z ∧ D.pyRs xs = some zs ∧ ys = z :: zs := by
  unfold D.pyRs at h
  cases e1 : D.pyR d with
  | none =>
    rw [e1] at h
    cases h
  | some z =>
    cases e2 : D.pyRs xs with
    | none =>
      rw [e1, e2] at h
      cases h
    | some zs =>
      rw [e1, e2] at h
      cases h
      exact ⟨z, zs, rfl, rfl, rfl⟩
def kP : Key → PyData
  | .inl i => .int i
  | .inr s => .str s
theorem pyKs_dK : ∀ {ks : List Key} {ps : List PyData}, D.pyKs (ks.map kD) = some ps → ps = ks.map kP
  | [], _, h => by cases h; rfl
  | .inl i :: ks, ps, h => by
    have h : (D.pyKs (ks.map kD)).map (.int i :: ·) = some ps := h
    cases e : D.pyKs (ks.map kD) with
    | none => rw [e] at h; exact nomatch h
    | some zs =>
      rw [e] at h
      cases h
      rw [pyKs_dK e]
      rfl
  | .inr s :: ks, ps, h => by
    have h : (D.pyKs (ks.map kD)).map (.str s :: ·) = some ps := h
    cases e : D.pyKs (ks.map kD) with
    | none => rw [e] at h; exact nomatch h
    | some zs =>
      rw [e] at h
      cases h
      rw [pyKs_dK e]
      rfl
theorem keys_read {P : Program} {w : World} {h : Heap} : ∀ {es : List DictEntry} {kvs : List (Key × Value)}, Pairs (mixKind P w) es kvs → ReadsAll h (es.map (·.key)) (kvs.map fun p => kP p.1) []
  | _, _, .nil => .nil
  | _, _, @Pairs.cons _ _ _ _ _ e kv es kvs hk hv r => by
    have q := keys_read (h := h) r
    have r1 : Reads h e.key (kP kv.1) [] := by
      rcases keyIs_shape (show keyIs kv.1 e.key = true from hk) with ⟨i, t, e1, e2⟩ | ⟨z, t, e1, e2⟩
      · rw [e1, e2]
        exact .int i t
      · rw [e1, e2]
        exact .str z t
    exact ReadsAll.cons r1 q
theorem vals_of {P : Program} {w : World} : ∀ {es : List DictEntry} {kvs : List (Key × Value)}, Pairs (mixKind P w) es kvs → es.map (·.val) = kvs.map (·.2)
  | _, _, .nil => rfl
  | _, _, @Pairs.cons _ _ _ _ _ e kv es kvs hk hv r => by
    show e.val :: es.map (·.val) = kv.2 :: kvs.map (·.2)
    rw [hv, vals_of r]
theorem kv_vals : ∀ {kvs : List (Key × V)} {us : List (Key × Value)}, KV kvs us → Vals (kvs.map (·.2)) (us.map (·.2)) ∧ kvs.map (·.1) = us.map (·.1)
  | _, _, .nil => ⟨.nil, rfl⟩
  | _, _, .cons ⟨e, r⟩ t => ⟨.cons r (kv_vals t).1, by rw [List.map_cons, List.map_cons, e, (kv_vals t).2]⟩
theorem zip_fst {α β : Type} : ∀ {as : List α} {bs : List β}, as.length = bs.length → (as.zip bs).map (·.1) = as
  | [], [], _ => rfl
  | a :: as, b :: bs, h => by
    rw [List.zip_cons_cons, List.map_cons, zip_fst (by simpa using h)]
theorem zip_snd {α β : Type} : ∀ {as : List α} {bs : List β}, as.length = bs.length → (as.zip bs).map (·.2) = bs
  | [], [], _ => rfl
  | a :: as, b :: bs, h => by
    rw [List.zip_cons_cons, List.map_cons, zip_snd (by simpa using h)]
theorem pyRs_len : ∀ {ds : List D} {ps : List PyData}, D.pyRs ds = some ps → ds.length = ps.length
  | [], _, h => by cases h; rfl
  | d :: ds, ps, h => by
    obtain ⟨z, zs, e1, e2, rfl⟩ := pyRs_cons h
    exact congrArg Nat.succ (pyRs_len e2)
section
variable {T : Tab} {X : Cx} {pins : List (Addr × Obj)} {σ : L2.St} {H : Hp} {s : Shared}
mutual
theorem At.reads (hK : T.K = X.K) (I : Inv X pins σ H s) : ∀ {v : V} {d : D} {e : PyData} {u : Value}, At T H v d → D.pyR d = some e → RelV v u → ∃ as, Reads s.heap u e as ∧ ∀ b ∈ as, H b ≠ none
  | _, _, _, _, .non, q, r => by cases q; cases r; exact ⟨_, .none, fun b hb => by cases hb⟩
  | _, _, _, _, .bl b, q, r => by cases q; cases r; exact ⟨_, .bool b, fun b hb => by cases hb⟩
  | _, _, _, _, .int i, q, r => by cases q; obtain ⟨t, rfl⟩ := r; exact ⟨_, .int i t, fun b hb => by cases hb⟩
  | _, _, _, _, .str x, q, r => by cases q; obtain ⟨t, rfl⟩ := r; exact ⟨_, .str x t, fun b hb => by cases hb⟩
  | _, _, _, _, @At.lst _ _ a vs ds h t, q, r => by
    unfold D.pyR at q
    cases e1 : D.pyRs ds with
    | none => rw [e1] at q; cases q
    | some zs =>
      rw [e1] at q
      cases q
      cases r
      obtain ⟨its, rv, ⟨o, n, ho, hc, _, hd⟩, _⟩ := I.list (SqL.of h)
      obtain ⟨as, hr, hn⟩ := AtAll.reads hK I t e1 rv
      refine ⟨_, .list ho hc hd hr, fun b hb => ?_⟩
      rcases (List.mem_cons.mp hb : b = a ∨ _) with z | z
      · rw [z, h]
        exact fun q => nomatch q
      · exact hn b z
  | _, _, _, _, @At.tup _ _ a vs ds h t, q, r => by
    unfold D.pyR at q
    cases e1 : D.pyRs ds with
    | none => rw [e1] at q; cases q
    | some zs =>
      rw [e1] at q
      cases q
      cases r
      obtain ⟨its, rv, ⟨o, ho, hc, n, hd⟩, _⟩ := I.tuple (hK ▸ h)
      obtain ⟨as, hr, hn⟩ := AtAll.reads hK I t e1 rv
      exact ⟨_, .tuple ho hc hd hr, hn⟩
  | _, _, _, _, @At.dK _ _ a kvs ds h t, q, r => by
    unfold D.pyR at q
    have km : (kvs.map fun p => kD p.1) = (kvs.map (·.1)).map kD := by rw [List.map_map]; rfl
    cases e0 : D.pyKs (kvs.map fun p => kD p.1) with
    | none => rw [e0] at q; cases q
    | some ps =>
      cases e1 : D.pyRs ds with
      | none => rw [e0, e1] at q; cases q
      | some zs =>
        rw [e0, e1] at q
        cases q
        cases r
        obtain ⟨hl, hs, us, kv, o, es, ep, ho, hx, hd, _, pr, _⟩ := I.hok a _ h
        obtain ⟨rv, rk⟩ := kv_vals kv
        rw [← vals_of pr] at rv
        obtain ⟨as, hr, hn⟩ := AtAll.reads hK I t e1 rv
        have ek : ps = us.map fun p => kP p.1 := by
          rw [km] at e0
          rw [pyKs_dK e0, rk, List.map_map]
          rfl
        have hle : ps.length = zs.length := by
          rw [ek, ← pyRs_len e1, ← t.length, List.length_map, List.length_map, ← kv.length]
        have k1 : ReadsAll s.heap (es.toList.map (·.key)) ((ps.zip zs).map (·.1)) [] := by
          rw [zip_fst hle, ek]
          exact keys_read pr
        have k2 : ReadsAll s.heap (es.toList.map (·.val)) ((ps.zip zs).map (·.2)) as := by
          rw [zip_snd hle]
          exact hr
        refine ⟨_, .dict ho hx.1 hd k1 k2, fun b hb => ?_⟩
        rcases (List.mem_cons.mp hb : b = a ∨ _) with z | z
        · rw [z, h]
          exact fun q => nomatch q
        · exact hn b z
  | _, _, _, _, @At.dT _ _ a kvs ds h t, q, r => by
    unfold D.pyR at q
    cases kvs with
    | nil =>
      cases t
      have q : (some (.dict []) : Option PyData) = some _ := q
      cases q
      cases r
      obtain ⟨hl, hs, us, kv, o, es, ep, ho, hx, hd, he, _⟩ := I.hok a _ h
      cases kv
      have k1 : ReadsAll s.heap (es.toList.map (·.key)) ([] : List (PyData × PyData)).unzip.1 [] := by rw [he]; exact .nil
      have k2 : ReadsAll s.heap (es.toList.map (·.val)) ([] : List (PyData × PyData)).unzip.2 [] := by rw [he]; exact .nil
      refine ⟨_, .dict ho hx.1 hd (kvs := []) (as := []) (bs := []) (by rw [he]; exact .nil) (by rw [he]; exact .nil), fun b hb => ?_⟩
      rcases (List.mem_cons.mp hb : b = a ∨ _) with z | z
      · rw [z, h]
        exact fun q => nomatch q
      · cases z
    | cons p ps =>
      have q : (match (none : Option (List PyData)), D.pyRs ds with
        | some a, some b => some (PyData.dict (a.zip b))
        | _, _ => none) = some _ := q
      cases q
  | _, _, _, _, .ins _ _, q, _ => by unfold D.pyR at q; cases q
  | _, _, _, _, .exc _ _ _, q, _ => by unfold D.pyR at q; cases q
theorem AtAll.reads (hK : T.K = X.K) (I : Inv X pins σ H s) : ∀ {vs : List V} {ds : List D} {es : List PyData} {us : List Value}, AtAll T H vs ds → D.pyRs ds = some es → Vals vs us → ∃ as, ReadsAll s.heap us es as ∧ ∀ b ∈ as, H b ≠ none
  | _, _, _, _, .nil, q, r => by cases q; cases r; exact ⟨_, .nil, fun b hb => by cases hb⟩
  | _, _, _, _, @AtAll.cons _ _ v vs d ds a b, q, r => by
    obtain ⟨z, zs, e1, e2, rfl⟩ := pyRs_cons q
    cases r with
    | cons r1 r2 =>
      obtain ⟨as, h1, n1⟩ := At.reads hK I a e1 r1
      obtain ⟨bs, h2, n2⟩ := AtAll.reads hK I b e2 r2
      exact ⟨_, .cons h1 h2, fun x hx => (List.mem_append.mp hx).elim (n1 x) (n2 x)⟩
end
end
/-- repr of a list, a tuple, a dict -/
def rRepr (T : Tab) : List V → Hp → VK → Prop := fun xs H Q => ∃ (a : Addr) (d : D) (e : PyData), xs = [.ref a] ∧ At T H (.ref a) d ∧ D.pyR d = some e ∧ e.showable = true ∧ e.depth ≤ 60 ∧ e.shown.length ≤ sizeLine ∧ Q (.str e.shown) H
theorem call_reprD {T : Tab} {X : Cx} (hK : T.K = X.K) (hg : NoG X.A) (hu : X.A.units + 64 < cLine) (hs : ∃ o, X.K.lookup sysModules = some o) : CallR X (.builtin "repr") (rRepr T) := by
  intro pins s σ H xs us Q inv rv h
  obtain ⟨a, d, e, rfl, hat, he, h1, h2, h3, q⟩ := h
  cases rv with
  | cons rx rr =>
    cases rr
    cases rx
    obtain ⟨as, hr, hn⟩ := At.reads hK inv hat he rfl
    obtain ⟨o, ho⟩ := hs
    have ns : sysModules ∉ as := fun z => hn _ z (inv.bs _ _ (inv.mod.kin _ _ ho)).2
    exact repr_of_reads' hr h1 (fun _ => ns) hg (by omega) (fun _ _ z => z) (fun h' u tk k => ⟨.str e.shown, H, inv.kept (t' := tk) k, ⟨u, rfl⟩, q⟩) h3
@[irreducible] def fRepr : FL
  | [d], k => (match D.pyR d with
    | some e => (e.showable && (decide (e.depth ≤ 60) && szB e.shown.length)) = true ∧ k (.d (.str e.shown))
    | none => False)
  | _, _ => False
theorem fRepr_of {d : D} {e : PyData} {k : RV → Prop} (h : D.pyR d = some e) (h2 : (e.showable && (decide (e.depth ≤ 60) && szB e.shown.length)) = true) (q : k (.d (.str e.shown))) : fRepr [d] k := by
  unfold fRepr
  show (match D.pyR d with
    | some e => (e.showable && (decide (e.depth ≤ 60) && szB e.shown.length)) = true ∧ k (.d (.str e.shown))
    | none => False)
  rw [h]
  exact ⟨h2, q⟩
/-- d can be shown -/
def showB (d : D) : Bool := match D.pyR d with
  | some e => e.showable && (decide (e.depth ≤ 60) && (e.leavesShort 64 && Nat.ble (66 * e.weight + 64) 16777216))
  | none => false
theorem showB_ok {d : D} (h : showB d = true) : ∃ e, D.pyR d = some e ∧ (e.showable && (decide (e.depth ≤ 60) && szB e.shown.length)) = true := by
  unfold showB at h
  cases q : D.pyR d with
  | none =>
    rw [q] at h
    cases h
  | some e =>
    rw [q] at h
    obtain ⟨h1, h2⟩ := Bool.and_eq_true_iff.mp h
    obtain ⟨h3, h4⟩ := Bool.and_eq_true_iff.mp h2
    obtain ⟨h5, h6⟩ := Bool.and_eq_true_iff.mp h4
    have h7 := PyData.shown_le 64 (by decide) e h5
    have h8 : szB e.shown.length = true := Nat.ble_eq_true_of_le (Nat.le_trans h7 (Nat.le_of_ble_eq_true h6))
    exact ⟨e, rfl, by rw [h1, h3, h8]; rfl⟩
/-- what is shown here: a list, a tuple, a dict -/
def isBox : D → Bool
  | .lst _ => true
  | .tup _ => true
  | .dct _ _ => true
  | _ => false
def fReprB : FL := fun xs k => xs.all isBox = true ∧ fRepr xs k
theorem o_repr {T : Tab} : OpL T (rRepr T) fReprB := fun H W vs us Q K d hs q k => by
  match us, q with
  | [], ⟨_, q⟩ =>
    unfold fRepr at q
    exact q.elim
  | _ :: _ :: _, ⟨_, q⟩ =>
    unfold fRepr at q
    exact q.elim
  | [x], ⟨q0, q⟩ =>
    obtain ⟨v, rfl, h⟩ := sh1 hs
    have hf := h.full
    have hx : isBox x = true := by simpa using q0
    obtain ⟨a, rfl⟩ : ∃ a, v = .ref a := by
      cases hf with
      | lst _ _ => exact ⟨_, rfl⟩
      | tup _ _ => exact ⟨_, rfl⟩
      | dK _ _ => exact ⟨_, rfl⟩
      | dT _ _ => exact ⟨_, rfl⟩
      | _ => cases hx
    unfold fRepr at q
    have q : (match D.pyR x with
      | some e => (e.showable && (decide (e.depth ≤ 60) && szB e.shown.length)) = true ∧ Q (.d (.str e.shown))
      | none => False) := q
    cases e1 : D.pyR x with
    | none => rw [e1] at q; exact q.elim
    | some e =>
      rw [e1] at q
      obtain ⟨q1, q2⟩ := q
      obtain ⟨b1, b2⟩ := Bool.and_eq_true_iff.mp q1
      obtain ⟨b3, b4⟩ := Bool.and_eq_true_iff.mp b2
      exact ⟨a, x, e, rfl, hf, e1, b1, of_decide_eq_true b3, szB_ok b4, k _ _ (vend_d d (.str _) q2)⟩
/-! ### own exceptions -/
section
variable {T : Tab} {C : C0} {W W1 : Wd} {A A1 : List Addr} {σ : L2.St} {H H1 : Hp} {ρ ρ1 : En} {v : V} {r : RV}
def wMkX (c : Str) (ns : List Str) (wa : WA) : WE := fun ρ Q => wa ρ fun xs ρ1 => (xs.length == ns.length) = true ∧ Q (.d (.exc c ns xs)) ρ1
theorem vend_x {Q : RV → Prop} {e d : Addr} {c : Str} {fs : List (Str × V)} {xs : List D} (dm : ∀ a, a ∈ A → H a ≠ none) (he : H e = none) (hd : H d = none) (ne : d ≠ e) (h : AtAll T (hide H A) (fs.map (·.2)) xs) (q : Q (.d (.exc c (fs.map (·.1)) xs))) :
    VEnd T H A Q (.ref e) (upd (upd H d (.xd fs)) e (ExcA (T.ca c) d e)) := by
  have x1 : Ex H (upd H d (.xd fs)) := Ex.new hd
  have he1 : upd H d (.xd fs) e = none := by rw [upd_ne (Ne.symm ne)]; exact he
  have x2 : Ex H (upd (upd H d (.xd fs)) e (ExcA (T.ca c) d e)) := x1.trans (Ex.new he1)
  refine ⟨A, _, .grow dm x2, .d (.exc (d := d) (fs := fs) ?_ ?_ (h.mono (ex_hide_ex x2))), q⟩
  · rw [hide_ne fun z => dm e z he, upd_same]
  · rw [hide_ne fun z => dm d z hd, upd_ne ne, upd_same]
theorem pe_mkx {c : Str} {ns : List Str} {ta : TA} {wa : WA} {Ca : Addr} (hc : T.ca c = Ca) (ha : Pa T C ta wa) : Pe T C (tMkX Ca ns ta) (wMkX c ns wa) := fun W σ H ρ Q K e q k =>
  ha W σ H ρ _ _ e q fun vs H1 W1 xs ρ1 P S ⟨q1, q2⟩ => by
    have hl : vs.length = ns.length := S.length.trans (beq_iff_eq.mp q1)
    refine ⟨hl, fun e d he hd ne => ?_⟩
    have S2 : AtAll T (hide H1 W1.A) ((ns.zip vs).map (·.2)) xs := by rw [zip_snd hl.symm]; exact S
    subst hc
    obtain ⟨W', r', ρ', P', R', q'⟩ := fin_v (Q := Q) P (vend_x (Q := fun q => Q q ρ1) (c := c) P.ok.dom he hd ne S2 (by rw [zip_fst hl.symm]; exact q2))
    exact k _ _ _ _ _ P' R' q'
/-- x.n -/
def rFx (K : PySem.W.Frag) (n : Str) : V → Hp → VK → Prop := fun x H1 Q => ∃ (a C d : Addr) (fs : List (Str × V)) (v : V), x = .ref a ∧ H1 a = some (Sd.ExcA C d a) ∧ XfC K C ∧ PySem.W.findIn K (.ref C) n = some none ∧ H1 d = some (.xd fs) ∧ fs.lookup n = some v ∧ Q v H1
def fFx (cs : List Str) (n : Str) : F1
  | .exc c ns vs, k => cs.contains c = true ∧ (match (ns.zip vs).lookup n with
    | some d => k (.d d)
    | none => False)
  | _, _ => False
theorem look_at {n : Str} {d : D} : ∀ {fs : List (Str × V)} {ds : List D}, AtAll T H (fs.map (·.2)) ds → ((fs.map (·.1)).zip ds).lookup n = some d → ∃ v, fs.lookup n = some v ∧ At T H v d
  | [], _, _, e => by cases e
  | (m, v) :: fs, _, .cons a b, e => by
    rw [List.map_cons, List.zip_cons_cons, List.lookup_cons] at e
    rw [List.lookup_cons]
    cases q : n == m with
    | true =>
      rw [q] at e
      cases e
      exact ⟨v, rfl, a⟩
    | false =>
      rw [q] at e
      exact look_at b e
theorem o_fx {cs : List Str} {n : Str} (hc : ∀ c, cs.contains c = true → XfC T.K (T.ca c) ∧ PySem.W.findIn T.K (.ref (T.ca c)) n = some none) : Op1 T (rFx T.K n) (fFx cs n) := fun H A x u Q K d hx q k => by
  cases u with
  | exc c ns vs =>
    obtain ⟨q1, q⟩ := q
    have h := hx.plain rfl
    cases h with
    | @exc a dd _ fs _ h1 h2 h3 =>
      cases e : ((fs.map (·.1)).zip vs).lookup n with
      | none => rw [e] at q; exact q.elim
      | some w =>
        rw [e] at q
        obtain ⟨v, e1, e2⟩ := look_at h3 e
        exact ⟨a, _, dd, fs, v, rfl, (hide_some h1).2, (hc c q1).1, (hc c q1).2, (hide_some h2).2, e1, k _ _ (vend_d d e2 q)⟩
  | _ => exact q.elim
/-- isinstance(x, the class c) -/
@[irreducible] def fIs (tbl : Str → Option Bool) : F1
  | .exc c _ _, k => (match tbl c with
    | some b => k (.d (.bl b))
    | none => False)
  | _, _ => False
theorem o_is {tbl : Str → Option Bool} {cv : V} {cu : Value} (hu : ∀ u, RelV cv u → u = cu) (ht : ∀ c b, tbl c = some b → ExcC T.K (T.ca c) ∧ PySem.W.kitOne T.K (.ref (T.ca c)) cu = some b) : Op1 T (fun x H Q => rIsX T.K [x, cv] H Q) (fIs tbl) := fun H A x u Q K d hx q k => by
  cases u with
  | exc c ns vs =>
    have h := hx.plain rfl
    cases h with
    | @exc a dd _ fs _ h1 h2 h3 =>
      unfold fIs at q
      have q : (match tbl c with
        | some b => Q (.d (.bl b))
        | none => False) := q
      cases e : tbl c with
      | none => rw [e] at q; exact q.elim
      | some b =>
        rw [e] at q
        obtain ⟨t1, t2⟩ := ht c b e
        exact ⟨a, _, dd, fs, cv, cu, b, rfl, (hide_some h1).2, (hide_some h2).2, t1, hu, t2, k _ _ (vend_d d (.bl _) q)⟩
  | _ => unfold fIs at q; exact q.elim
theorem fIs_of {tbl : Str → Option Bool} {c : Str} {ns : List Str} {vs : List D} {b : Bool} {k : RV → Prop} (h : tbl c = some b) (q : k (.d (.bl b))) : fIs tbl (.exc c ns vs) k := by
  unfold fIs
  show (match tbl c with
    | some b => k (.d (.bl b))
    | none => False)
  rw [h]
  exact q
theorem pe_is {te : TE} {wa : WE} {tbl : Str → Option Bool} {cv : V} {cu : Value} (hu : ∀ u, RelV cv u → u = cu) (ht : ∀ c b, tbl c = some b → ExcC T.K (T.ca c) ∧ PySem.W.kitOne T.K (.ref (T.ca c)) cu = some b) (h : Pe T C te wa) :
    Pe T C (tCB (rIsX T.K) (tCons te (tCons (tC cv) tNil))) (wUn (fIs tbl) wa) := pe_u (o_is hu ht) h
end
end Sd
namespace Sd
open PySem PySem.Spec PyProof.Rows L2
/-- repr, whatever the cells and tables -/
def rReprA (K : PySem.W.Frag) (ca : Str → Addr) : List V → Hp → VK → Prop := fun xs H Q => ∃ (ms : List Int) (tb : List (Addr × Str)) (f0 : Addr), rRepr ⟨K, ca, ms, tb, f0⟩ xs H Q
theorem call_reprA {X : Cx} {ca : Str → Addr} (hg : NoG X.A) (hu : X.A.units + 64 < cLine) (hs : ∃ o, X.K.lookup sysModules = some o) : CallR X (.builtin "repr") (rReprA X.K ca) := fun pins s σ H xs us Q I r h => by
  obtain ⟨ms, tb, f0, h⟩ := h
  exact call_reprD (T := ⟨X.K, ca, ms, tb, f0⟩) rfl hg hu hs pins s σ H xs us Q I r h
theorem o_reprA {T : Tab} : OpL T (rReprA T.K T.ca) fReprB := fun H A vs us Q K' d hs q k => ⟨T.cs, T.tb, T.f0, o_repr (T := T) H A vs us Q K' d hs q k⟩
end Sd

set_option maxHeartbeats 1000000
/-! S11: operators of any kind, dict displays. -/
namespace Sd
open PySem PySem.Spec PyProof.Rows L2 LamX
abbrev rStrCat : R2 := fun x y H Q => ∃ i j, x = .str i ∧ y = .str j ∧ i.length + j.length ≤ sizeLine ∧ Q (.str (i ++ j)) H
/-- + -/
def rAddU (K : PySem.W.Frag) : R2 := fun x y H Q => rI0 (fun i j => .int (i + j)) x y H Q ∨ rStrCat x y H Q ∨ rCat x y H Q ∨ rCatA K x y H Q
theorem op_addU {X : Cx} : OpR X (binaryOp .Add) (rAddU X.K) := fun pins s σ H x y u v Q I rx ry h => by
  rcases h with h | h | h | h
  · exact op_add pins s σ H x y u v Q I rx ry h
  · exact op_add_str pins s σ H x y u v Q I rx ry h
  · exact op_cat pins s σ H x y u v Q I rx ry h
  · exact op_catA pins s σ H x y u v Q I rx ry h
/-- * -/
def rMulU : R2 := fun x y H Q => rI CMul (fun i j => .int (i * j)) x y H Q ∨ rRep x y H Q
theorem op_mulU {X : Cx} : OpR X (binaryOp .Mult) rMulU := fun pins s σ H x y u v Q I rx ry h => by
  rcases h with h | h
  · exact op_mul pins s σ H x y u v Q I rx ry h
  · exact op_rep pins s σ H x y u v Q I rx ry h
section
variable {T : Tab} {A A1 : List Addr} {H H1 : Hp}
def fAddU : F2
  | .int i, .int j, k => k (.d (.int (i + j)))
  | .str x, .str y, k => szB (x.length + y.length) = true ∧ k (.d (.str (x ++ y)))
  | .lst xs, .lst ys, k => szB (xs.length + ys.length) = true ∧ k (.n (.l (xs ++ ys)))
  | .tup xs, .tup ys, k => szB (xs.length + ys.length) = true ∧ k (.d (.tup (xs ++ ys)))
  | _, _, _ => False
theorem tupA_ok {xs ys : List D} {x y : V} {Q : RV → Prop} {K : VK} (d : ∀ a, a ∈ A → H a ≠ none) (hx : Sh T H A x (.tup xs)) (hy : Sh T H A y (.tup ys)) (q1 : szB (xs.length + ys.length) = true) (q2 : Q (.d (.tup (xs ++ ys)))) (k : ∀ z H', VEnd T H A Q z H' → K z H') : rCatA T.K x y H K := by
  obtain ⟨a, vs, rfl, h1, s1⟩ := hx.tup
  obtain ⟨b, ws, rfl, h2, s2⟩ := hy.tup
  refine ⟨a, b, vs, ws, rfl, rfl, h1, h2, by rw [s1.length, s2.length]; exact szB_ok q1, fun z => ?_, fun _ z => ?_, fun _ _ p hp => k _ _ (vend_t d hp (s1.append s2) q2)⟩
  · subst z
    cases s1
    exact k _ _ (vend_d d (hy.plain rfl) q2)
  · subst z
    cases s2
    rw [List.append_nil] at q2
    exact k _ _ (vend_d d (hx.plain rfl) q2)
theorem o_addU : Op2 T (rAddU T.K) fAddU := fun H A x y u v Q K d hx hy q k => by
  match u, v, q with
  | .int i, .int j, q => exact .inl ⟨i, j, hx.int, hy.int, k _ _ (vend_d d (.int _) q)⟩
  | .str i, .str j, q => exact .inr (.inl (o_catS H A x y (.str i) (.str j) Q K d hx hy q k))
  | .lst xs, .lst ys, q => exact .inr (.inr (.inl (o_cat H A x y (.lst xs) (.lst ys) Q K d hx hy q k)))
  | .tup xs, .tup ys, q => exact .inr (.inr (.inr (tupA_ok d hx hy q.1 q.2 k)))
def fMulU : F2
  | .int i, .int j, k => CMul i j ∧ k (.d (.int (i * j)))
  | .lst xs, .int j, k => (decide (-(2 ^ 63) ≤ j ∧ j < 2 ^ 63) && szB (xs.length * j.toNat)) = true ∧ k (.n (.l (List.replicate j.toNat xs).flatten))
  | _, _, _ => False
theorem o_mulU : Op2 T rMulU fMulU := fun H A x y u v Q K d hx hy q k => by
  match u, v, q with
  | .int i, .int j, q => exact .inl ⟨i, j, hx.int, hy.int, q.1, k _ _ (vend_d d (.int _) q.2)⟩
  | .lst xs, .int j, q => exact .inr (o_rep H A x y (.lst xs) (.int j) Q K d hx hy q k)
end
/-! ### {} -/
section
variable {T : Tab} {C : C0} {W W1 W2 : Wd} {σ : L2.St} {Hs H H1 H2 : Hp} {ρ ρ1 ρ2 : En} {v : V} {r : RV}
/-- a new dict: its keys ints and texts -/
def wD0 : WE := fun ρ Q => Q (.n (.m [] [])) ρ
theorem pe_d0 : Pe T C tDNewK wD0 := fun W σ H ρ Q K e q k p hp => by
  have hv : VEnd T H W.A (fun r => Q r ρ) (.ref p) (upd H p (.dK [])) := vend_m (m := .m [] []) e.dom hp rfl (.inl ⟨[], upd_same, rfl, .nil⟩) q
  obtain ⟨W', r', ρ', P', R', q'⟩ := fin_v (Post.refl e) hv
  exact k _ _ _ _ _ P' R' q'
end
end Sd

set_option maxHeartbeats 1000000
/-! S12: lists of the store, changed; slices. -/
namespace Sd
open PySem PySem.Spec PyProof.Rows L2 LamX
section
variable {T : Tab} {C : C0} {W W1 W2 : Wd} {A : List Addr} {σ : L2.St} {Hs H H1 H2 : Hp} {ρ ρ1 ρ2 : En} {v : V} {r : RV}
def lsM (l : Nat) (k : Nat → List D → Prop) : Option M → Prop
  | some (.l xs) => k l xs
  | _ => False
def lsO (ρ : En) (k : Nat → List D → Prop) : Option (Option C1) → Prop
  | some (some (.r l)) => lsM l k ρ.μ[l]?
  | _ => False
/-- the slot's list: the object l -/
def lsK (i : Nat) (ρ : En) (k : Nat → List D → Prop) : Prop := lsO ρ k ρ.s[i]?
theorem lsK_ok {k : Nat → List D → Prop} (e : EnvOk T C W σ H ρ) {i : Nat} (h : lsK i ρ k) : ∃ l xs a vs, k l xs ∧ σ[i]? = some (some (.ref a)) ∧ W.t[l]? = some a ∧ ρ.μ[l]? = some (.l xs) ∧ H a = some (.lst vs) ∧ AtAll T (hide H W.A) vs xs := by
  have h : lsO ρ k ρ.s[i]? := h
  match hc : ρ.s[i]?, h with
  | some (some (.r l)), h =>
    have h : lsM l k ρ.μ[l]? := h
    match hm : ρ.μ[l]?, h with
    | some (.l xs), h =>
      obtain ⟨v, h1, h2⟩ := e.cell i _ hc
      cases h2 with
      | @r a _ g =>
        obtain ⟨vs, g1, g2⟩ := e.st l a _ g hm
        exact ⟨l, xs, a, vs, h, h1, g, hm, g1, g2⟩
theorem EnvOk.ls_upd (e : EnvOk T C W σ H ρ) {l : Nat} {a : Addr} {xs ys : List D} {ws : List V} (hl : W.t[l]? = some a) (hm : ρ.μ[l]? = some (.l xs)) (hw : AtAll T (hide H W.A) ws ys) :
    Post T C W σ H ρ W (L2.upd H a (.lst ws)) (ρ.put l (.l ys)) := e.upd (m' := .l ys) hl hm rfl rfl (show ∃ us, _ ∧ _ from ⟨ws, upd_same, hw⟩)
/-- x.append(e) -/
def wApp (i : Nat) (wa : WE) : WE := fun ρ Q => lsK i ρ fun _ _ => wa ρ fun r ρ1 => esc r ρ1 fun x ρ2 => lsK i ρ2 fun l xs => szB (xs.length + 1) = true ∧ Q (.d .non) (ρ2.put l (.l (xs ++ [x])))
theorem pe_app {i : Nat} {te : TE} {wa : WE} (h : Pe T C te wa) : Pe T C (tBM T.K "list" rAppend (tVar i) (tCons te tNil)) (wApp i wa) := fun W σ H ρ Q K e q k => by
  obtain ⟨_, xs0, a, vs0, q, hs, _, _, hv, _⟩ := lsK_ok e q
  refine ⟨_, hs, .inl ⟨rfl, _, SqL.of hv⟩, ?_⟩
  refine h W σ H ρ _ _ e q fun v1 H1 W1 r1 ρ1 P R q1 => ?_
  obtain ⟨W2, x, ρ2, P2, S2, q2⟩ := esc_ok e P R q1
  obtain ⟨l, xs, a', vs, ⟨q3, q4⟩, hs', hl, hm, hv', hx⟩ := lsK_ok P2.ok q2
  rw [hs] at hs'
  cases hs'
  have P3 := P2.ok.ls_upd hl hm (hx.append (.cons S2 .nil))
  have lt : vs.length < sizeLine := by
    rw [hx.length]
    exact szB_ok q3
  exact ⟨a, vs, v1, rfl, rfl, hv', lt, k _ _ _ _ _ (P2.trans P3) (.d .non) q4⟩
/-- x.pop() -/
def wPop (i : Nat) : WE := fun ρ Q => lsK i ρ fun l xs => match xs[xs.length - 1]? with
  | some d => Q (.d d) (ρ.put l (.l xs.dropLast))
  | none => False
theorem dropLast_at : ∀ {vs : List V} {xs : List D}, AtAll T H vs xs → AtAll T H vs.dropLast xs.dropLast
  | _, _, .nil => .nil
  | _, _, .cons _ .nil => .nil
  | _, _, .cons a (.cons b c) => .cons a (dropLast_at (.cons b c))
theorem pe_pop {i : Nat} : Pe T C (tBM0 T.K "list" rPop (tVar i)) (wPop i) := fun W σ H ρ Q K e q k => by
  obtain ⟨l, xs, a, vs, q, hs, hl, hm, hv, hx⟩ := lsK_ok e q
  cases z : xs[xs.length - 1]? with
  | none => rw [z] at q; exact q.elim
  | some d =>
    rw [z] at q
    obtain ⟨y, y1, y2⟩ := hx.get z
    have P3 := e.ls_upd hl hm (dropLast_at hx)
    have hh : hide (upd H a (.lst vs.dropLast)) W.A = hide H W.A := hide_upd (e.lv l a _ hl hm rfl).1
    refine ⟨_, hs, .inl ⟨rfl, _, SqL.of hv⟩, a, vs, y, rfl, rfl, hv, by rw [hx.length]; exact y1, k _ _ _ _ _ P3 (.d (by rw [hh]; exact y2)) q⟩
/-! ### slices -/
abbrev WO := En → (Option Int → En → Prop) → Prop
def Po (T : Tab) (C : C0) (to : TO) (w : WO) : Prop := ∀ (W : Wd) (σ : L2.St) (H : Hp) (ρ : En) (Q : Option Int → En → Prop) (K : Option Int → Hp → Prop), EnvOk T C W σ H ρ → w ρ Q →
  (∀ o H' W' ρ', Post T C W σ H ρ W' H' ρ' → Q o ρ' → K o H') → to σ H K
theorem po_n : Po T C tNoPart (fun ρ Q => Q none ρ) := fun W σ H ρ Q K e q k => k _ _ _ _ (.refl e) q
def wPart (wa : WE) : WO := fun ρ Q => wa ρ fun r ρ1 => rd r ρ1 fun x => ∃ i : Int, x = .int i ∧ Q (some i) ρ1
theorem po_s {te : TE} {wa : WE} (h : Pe T C te wa) : Po T C (tPart te) (wPart wa) := fun W σ H ρ Q K e q k =>
  h W σ H ρ _ _ e q fun v1 H1 W1 r1 ρ1 P R q1 => by
    obtain ⟨x, S, i, rfl, q2⟩ := rd_ok P.ok R q1
    exact ⟨i, S.int, k _ _ _ _ P q2⟩
/-- xs[lo:hi] -/
def cutD (xs : List D) (lo hi : Option Int) : List D := (xs.drop (HT.sIx xs.length 0 lo)).take (HT.sIx xs.length xs.length hi - HT.sIx xs.length 0 lo)
theorem cut_at {vs : List V} {xs : List D} (h : AtAll T H vs xs) (lo hi : Option Int) : AtAll T H (cutV vs lo hi) (cutD xs lo hi) := by
  unfold cutV cutD
  rw [h.length]
  exact (h.drop _).take _
def rSlU (K : PySem.W.Frag) : V → Option Int → Option Int → Hp → VK → Prop := fun x lo hi H Q => rSlL K x lo hi H Q ∨ rSlA K x lo hi H Q ∨ rSlS x lo hi H Q
theorem sl_U {X : Cx} {K : PySem.W.Frag} (hK : X.K = K) : SlR X (rSlU K) := fun pins s σ H x v vl vu lo hi sl Q I rx hs pl pu h => by
  subst hK
  rcases h with h | h | h
  · exact sl_list pins s σ H x v vl vu lo hi sl Q I rx hs pl pu h
  · exact sl_tupA pins s σ H x v vl vu lo hi sl Q I rx hs pl pu h
  · exact sl_str pins s σ H x v vl vu lo hi sl Q I rx hs pl pu h
def fSl (u : D) (lo hi : Option Int) (k : RV → Prop) : Prop := match u with
  | .lst xs => k (.n (.l (cutD xs lo hi)))
  | .tup xs => k (.d (.tup (cutD xs lo hi)))
  | .str z => szB z.length = true ∧ k (.d (.str (cutS z lo hi)))
  | _ => False
theorem cut_all {xs : List D} {lo hi : Option Int} (h : HT.sIx xs.length 0 lo = 0 ∧ HT.sIx xs.length xs.length hi = xs.length) : cutD xs lo hi = xs := by
  unfold cutD
  rw [h.1, h.2, List.drop_zero, Nat.sub_zero, List.take_length]
def wSl (wa : WE) (wl wh : WO) : WE := fun ρ Q => wa ρ fun r ρ1 => wl ρ1 fun lo ρ2 => wh ρ2 fun hi ρ3 => rd r ρ3 fun x => fSl x lo hi fun q => Q q ρ3
theorem pe_sl {te : TE} {tl th : TO} {wa : WE} {wl wh : WO} (h : Pe T C te wa) (hl : Po T C tl wl) (hh : Po T C th wh) : Pe T C (tSl (rSlU T.K) te tl th) (wSl wa wl wh) := fun W σ H ρ Q K e q k =>
  h W σ H ρ _ _ e q fun v1 H1 W1 r1 ρ1 P1 R1 q1 => hl W1 σ H1 ρ1 _ _ P1.ok q1 fun lo H2 W2 ρ2 P2 q2 => hh W2 σ H2 ρ2 _ _ P2.ok q2 fun hi H3 W3 ρ3 P3 q3 => by
    have P23 := P2.trans P3
    have P := P1.trans P23
    obtain ⟨u, S, q4⟩ := rd_ok P.ok (R1.post P1.ok P23) q3
    have fin : ∀ z H', VEnd T H3 W3.A (fun q => Q q ρ3) z H' → K z H' := fun z H' hv => by
      obtain ⟨W', r', ρ', P', R', q'⟩ := fin_v P hv
      exact k _ _ _ _ _ P' R' q'
    match u, q4 with
    | .lst xs, q4 =>
      obtain ⟨a, vs, rfl, hv, hx⟩ := S.lst'
      exact .inl ⟨a, vs, rfl, SqL.of hv, fun p hp => fin _ _ (vend_n P.ok.dom hp (cut_at hx lo hi) q4)⟩
    | .tup xs, q4 =>
      have S0 := S
      obtain ⟨a, vs, rfl, hv, hx⟩ := S.tup
      refine .inr (.inl ⟨a, vs, rfl, hv, fun w => ?_, fun _ p hp => fin _ _ (vend_t P.ok.dom hp (cut_at hx lo hi) q4)⟩)
      rw [hx.length] at w
      have q4 : Q (.d (.tup (cutD xs lo hi))) ρ3 := q4
      rw [cut_all w] at q4
      exact fin _ _ (vend_d P.ok.dom (S0.plain rfl) q4)
    | .str z, ⟨q4, q5⟩ => exact .inr (.inr ⟨z, S.str, szB_ok q4, fin _ _ (vend_d P.ok.dom (.str _) q5)⟩)
end
end Sd

set_option maxHeartbeats 1000000
/-! S13: what is known of a law's defs and of the program's classes. -/
namespace Sd
open PySem PySem.Spec PyProof.Rows L2 LamX
/-- the law's def x, n parameters -/
structure Kn (P : Program) (w : World) (K : PySem.W.Frag) (mg : Str → Option Value) (base : Heap) (ca : Str → Addr) (tb : List (Addr × Str)) (x : Str) (k : Nat) (R : RD) : Prop where
  ex : ∃ (f : Addr) (fd : FuncData) (ps : List Str), FnOk P w K mg base CX0 k f fd ps (SpA K ca tb R) ∧ mg x = some (.ref f) ∧ PySem.W.keepIn K (.ref f) = true ∧ Binds K fd ps []
theorem pe_kn {X : Cx} {ca : Str → Addr} {tb : List (Addr × Str)} {x : Str} {k j : Nat} {R : RD} {p pos : Pos} {e : Expr} {es : List Expr} {t : TA} (F : Kn X.prog X.w X.K X.mg X.base ca tb x k R) (hr : Room j X.A) (hj : k ≤ j) (hg : Gl X x) (ha : PA X (e :: es) t)
    (hdb : (x == ("__debug__" : Str)) = false := by decide) (hst : starEach (e :: es) X.env = (false, eval e X.env) :: starEach es X.env := by rfl) (hnk : (backTo pos (starEach es X.env)).any (·.1) = false := by rfl) :
    PE X (.Call (.Name x p) (e :: es) [] pos) (tCall (SpA X.K ca tb R) [] E0 t) := by
  obtain ⟨f, fd, ps, F1, g, kp, b⟩ := F.ex
  exact L2.pe_call F1 (hr.mono hj) hg g kp b .nil pass0 ha hdb hst hnk
/-- an own exception class c, its fields ns, by names in the order ks -/
structure Xc (P : Program) (w : World) (K : PySem.W.Frag) (mg : Str → Option Value) (base : Heap) (ca : Str → Addr) (c : Str) (ns ks : List Str) : Prop where
  m : MkX P w K mg base (ca c) false ns
  k : MkX P w K mg base (ca c) true ks
  g : mg c = some (.ref (ca c))
section
variable {T : Tab}
def fAbs : FL
  | [.int i], k => k (.d (.int (if i < 0 then -i else i)))
  | _, _ => False
theorem o_abs : OpL T (fun xs H Q => ∃ i, xs = [.int i] ∧ Q (.int (if i < 0 then -i else i)) H) fAbs := fun H W vs us Q K d hs q k => by
  match us, q with
  | [.int i], q =>
    obtain ⟨v, rfl, h⟩ := sh1 hs
    rw [h.int]
    exact ⟨i, rfl, k _ _ (vend_d d (.int _) q)⟩
def seqB : D → Bool
  | .lst _ => true
  | .tup _ => true
  | _ => false
def fList : FL
  | [.lst xs], k => k (.n (.l xs))
  | [.tup xs], k => k (.n (.l xs))
  | _, _ => False
theorem o_list : OpL T (fun xs H Q => ∃ p ys, xs = [.ref p] ∧ (SqL T.K H p ys ∨ SqT T.K H p ys) ∧ ∀ l, H l = none → Q (.ref l) (upd H l (.lst ys))) fList := fun H W vs us Q K d hs q k => by
  match us, q with
  | [.lst xs], q =>
    obtain ⟨v, rfl, h⟩ := sh1 hs
    obtain ⟨a, ws, rfl, h1, s1⟩ := h.lst'
    exact ⟨a, ws, rfl, .inl (SqL.of h1), fun p hp => k _ _ (vend_n d hp s1 q)⟩
  | [.tup xs], q =>
    obtain ⟨v, rfl, h⟩ := sh1 hs
    obtain ⟨a, ws, rfl, h1, s1⟩ := h.tup
    exact ⟨a, ws, rfl, .inr h1, fun p hp => k _ _ (vend_n d hp s1 q)⟩
def fNeg : F1
  | .int i, k => k (.d (.int (-i)))
  | _, _ => False
theorem o_neg : Op1 T (rU fun i => .int (-i)) fNeg := fun H A x u Q K d hx q k => by
  match u, q with
  | .int i, q => exact ⟨i, hx.int, k _ _ (vend_d d (.int _) q)⟩
/-- by place, wherever within -/
theorem atK_of {xs : List D} {i : Int} {Q : RV → Prop} (h0 : 0 ≤ i) (h1 : i < xs.length) (h : ∀ d ∈ xs, Q (.d d)) : atK xs i Q := by
  unfold atK
  have e : atI xs i = xs[i.toNat]? := by
    unfold atI ixN
    rw [if_pos h0, if_pos h1]
    rfl
  rw [e, List.getElem?_eq_getElem (show i.toNat < xs.length by omega)]
  exact h _ (List.getElem_mem _)
end
end Sd
namespace Sd
open PySem PySem.Spec PyProof.Rows L2 LamX
theorem atK_at {xs : List D} {i : Int} {d : D} {Q : RV → Prop} (h : atI xs i = some d) (q : Q (.d d)) : atK xs i Q := by
  unfold atK
  rw [h]
  exact q
theorem ite_b {c : Bool} {A B : Prop} (h1 : c = true → A) (h2 : c = false → B) : if c = true then A else B := by
  cases c
  · rw [if_neg Bool.false_ne_true]
    exact h2 rfl
  · rw [if_pos rfl]
    exact h1 rfl
theorem py_ints : ∀ ns : List Int, D.pyAll (ns.map D.int) = some (ns.map PyData.int)
  | [] => rfl
  | n :: ns => by
    show (match D.py (.int n), D.pyAll (ns.map D.int) with
      | some y, some ys => some (y :: ys)
      | _, _ => none) = _
    rw [py_ints ns]
    rfl
theorem lay_ints : ∀ ns : List Int, PyData.canLayAll0 (ns.map PyData.int) = true ∧ PyData.depthAll (ns.map PyData.int) = 0
  | [] => ⟨rfl, rfl⟩
  | n :: ns => by
    obtain ⟨h1, h2⟩ := lay_ints ns
    refine ⟨?_, ?_⟩
    · show (true && PyData.canLayAll0 (ns.map PyData.int)) = true
      rw [h1]
      rfl
    · show max 0 (PyData.depthAll (ns.map PyData.int)) = 0
      rw [h2]
      rfl
theorem shaped_ints (ns : List Int) : SeqAt.shaped (.list (ns.map PyData.int)) = true := by
  obtain ⟨h1, h2⟩ := lay_ints ns
  have e : SeqAt.shaped (.list (ns.map PyData.int)) = (PyData.canLayAll0 (ns.map PyData.int) && decide (PyData.depthAll (ns.map PyData.int) + 1 ≤ 64)) := rfl
  rw [e, h1, h2]
  rfl
/-- data of known shape beside one another -/
theorem eqK_of {g : Bool → Bool} {u v : D} {d e : PyData} {k : RV → Prop} (h1 : D.py u = some d) (h2 : D.py v = some e) (h3 : (SeqAt.shaped d && SeqAt.shaped e) = true) (h : k (.d (.bl (g (PyData.eqv d e))))) : eqK g u v k := by
  unfold eqK
  rw [h1, h2]
  exact ⟨h3, h⟩
/-- a list of ints beside [] -/
theorem ne_nil {ns : List Int} {k : RV → Prop} (h : k (.d (.bl (!ns.isEmpty)))) : eqK not (.lst (ns.map D.int)) (.lst []) k := by
  have e1 : D.py (.lst (ns.map D.int)) = some (.list (ns.map PyData.int)) := by
    show (D.pyAll (ns.map D.int)).map PyData.list = _
    rw [py_ints]
    rfl
  have e2 : PyData.eqv (.list (ns.map PyData.int)) (.list []) = ns.isEmpty := by cases ns <;> rfl
  have goal : (match D.py (.lst (ns.map D.int)), D.py (.lst []) with
    | some d, some e => (SeqAt.shaped d && SeqAt.shaped e) = true ∧ k (.d (.bl (!(PyData.eqv d e))))
    | _, _ => False) := by
    rw [e1]
    show (SeqAt.shaped (.list (ns.map PyData.int)) && SeqAt.shaped (.list [])) = true ∧ k (.d (.bl (!(PyData.eqv (.list (ns.map PyData.int)) (.list [])))))
    rw [shaped_ints, e2]
    exact ⟨rfl, h⟩
  unfold eqK
  exact goal
theorem atK_ints {ns : List Int} {i : Int} {Q : RV → Prop} (h0 : 0 ≤ i) (h1 : i < ns.length) (h : ∀ c : Int, Q (.d (.int c))) : atK (ns.map D.int) i Q :=
  atK_of h0 (by rw [List.length_map]; exact h1) fun d hd => by
    obtain ⟨c, _, rfl⟩ := List.mem_map.mp hd
    exact h c
end Sd
namespace Sd
open PySem PySem.Spec PyProof.Rows L2 LamX
theorem loop_inv {g : WG} {b : WS} {E : DE} {I : List D → En → Prop} (h0 : ∀ ρ, I [] ρ → E.nx ρ)
    (h1 : ∀ x xs ρ, I (x :: xs) ρ → (∀ ρ', I xs ρ' → wLoop g b E xs ρ') → g x ρ fun ρ1 => b { E with nx := wLoop g b E xs, ct := wLoop g b E xs, bk := E.nx } ρ1) : ∀ (xs : List D) (ρ : En), I xs ρ → wLoop g b E xs ρ
  | [], ρ, h => h0 ρ h
  | x :: xs, ρ, h => h1 x xs ρ h fun ρ' h' => loop_inv h0 h1 xs ρ' h'
theorem if_t {c : Bool} {A B : Prop} (h : c = true) (a : A) : if c = true then A else B := by
  rw [if_pos h]
  exact a
theorem if_f {c : Bool} {A B : Prop} (h : c = false) (b : B) : if c = true then A else B := by
  rw [h, if_neg Bool.false_ne_true]
  exact b
/-- == and != : texts, any data -/
def eqU (g : Bool → Bool) (u v : D) (k : RV → Prop) : Prop := match u, v with
  | .str x, .str y => k (.d (.bl (g (decide (x = y)))))
  | _, _ => eqK g u v k
def rEqU (K : PySem.W.Frag) : R2 := fun x y H Q => rEq x y H Q ∨ rEqD K x y H Q
def rNeU (K : PySem.W.Frag) : R2 := fun x y H Q => rNe x y H Q ∨ rNeD K x y H Q
theorem op_eqU {X : Cx} {K : PySem.W.Frag} (hK : X.K = K) (hu : X.A.units + 64 < cLine) : OpR X (compareOp .Eq) (rEqU K) := fun pins s σ H x y u v Q I rx ry h =>
  h.elim (op_eq pins s σ H x y u v Q I rx ry) fun h => by
    subst hK
    exact op_eqD hu pins s σ H x y u v Q I rx ry h
theorem op_neU {X : Cx} {K : PySem.W.Frag} (hK : X.K = K) (hu : X.A.units + 64 < cLine) : OpR X (compareOp .NotEq) (rNeU K) := fun pins s σ H x y u v Q I rx ry h =>
  h.elim (op_ne pins s σ H x y u v Q I rx ry) fun h => by
    subst hK
    exact op_neD hu pins s σ H x y u v Q I rx ry h
theorem eqU_cases {g : Bool → Bool} {u v : D} {k : RV → Prop} (q : eqU g u v k) : (∃ x y, u = .str x ∧ v = .str y ∧ k (.d (.bl (g (decide (x = y)))))) ∨ eqK g u v k := by
  unfold eqU at q
  split at q
  · exact .inl ⟨_, _, rfl, rfl, q⟩
  · exact .inr q
theorem dec_str (x y : Str) : decide (V.str x = V.str y) = decide (x = y) := by
  by_cases h : x = y
  · rw [decide_eq_true h, decide_eq_true (by rw [h])]
  · rw [decide_eq_false h, decide_eq_false (fun z => h (by cases z; rfl))]
theorem o_eqU {T : Tab} : Op2 T (rEqU T.K) (eqU id) := fun H A x y u v Q K d hx hy q k => by
  rcases eqU_cases q with ⟨a, b, rfl, rfl, q⟩ | q
  · refine .inl ⟨?_, k _ _ ?_⟩
    · rw [hx.str, hy.str]
      rfl
    · rw [hx.str, hy.str, dec_str]
      exact vend_d d (.bl _) q
  · exact .inr (o_eq H A x y u v Q K d hx hy q k)
theorem o_neU {T : Tab} : Op2 T (rNeU T.K) (eqU not) := fun H A x y u v Q K d hx hy q k => by
  rcases eqU_cases q with ⟨a, b, rfl, rfl, q⟩ | q
  · refine .inl ⟨?_, k _ _ ?_⟩
    · rw [hx.str, hy.str]
      rfl
    · rw [hx.str, hy.str, dec_str]
      exact vend_d d (.bl _) q
  · exact .inr (o_ne H A x y u v Q K d hx hy q k)
theorem if_self {x : Str} {A B : Prop} (b : B) : if (!decide (x = x)) = true then A else B := if_f (by rw [decide_eq_true rfl]; rfl) b
end Sd
namespace Sd
open PySem PySem.Spec PyProof.Rows L2 LamX
/-! the layer's rules, the written part named -/
section
variable {X : Cx} {K : PySem.W.Frag}
theorem op_eqK (hK : X.K = K) (hu : X.A.units + 64 < cLine) : OpR X (compareOp .Eq) (rEqD K) := hK ▸ op_eqD hu
theorem op_neK (hK : X.K = K) (hu : X.A.units + 64 < cLine) : OpR X (compareOp .NotEq) (rNeD K) := hK ▸ op_neD hu
theorem op_addK (hK : X.K = K) : OpR X (binaryOp .Add) (rAddU K) := hK ▸ op_addU
theorem ix_K (hK : X.K = K) : IxR X (rIx K) := hK ▸ ix_seq
theorem pi_K {tg l : Expr} {tl : TE} (hK : X.K = K) (hl : PE X l tl) : PI X tg l (iSq K tl) := hK ▸ pi_sq hl
theorem len_K (hK : X.K = K) : CallR X (.builtin "len") (fun xs H Q => ∃ x n, xs = [x] ∧ LenV K x H n ∧ Q (.int n) H) := hK ▸ call_len
theorem isX_K (hK : X.K = K) : CallR X (.builtin "isinstance") (rIsX K) := hK ▸ call_isX
theorem list_K (hK : X.K = K) : CallR X (.type "list") (fun xs H Q => ∃ p ys, xs = [.ref p] ∧ (SqL K H p ys ∨ SqT K H p ys) ∧ ∀ l, H l = none → Q (.ref l) (upd H l (.lst ys))) := hK ▸ call_list_of
theorem fx_K {e : Expr} {te : TE} {pos : Pos} {n : Str} (hK : X.K = K) (he : PE X e te) (hb : attributeBase e n X.env (eval e X.env) = eval e X.env := by rfl) : PE X (.Attribute e n pos) (tFx K n te) := hK ▸ pe_fx he hb
theorem repr_K {ca : Str → Addr} (hK : X.K = K) (hg : NoG X.A) (hu : X.A.units + 64 < cLine) (hs : ∃ o, K.lookup sysModules = some o) : CallR X (.builtin "repr") (rReprA K ca) := by
  subst hK
  exact call_reprA hg hu hs
end
end Sd
namespace Sd
open PySem PySem.Spec PyProof.Rows L2 LamX
/-- a comprehension whose items do nothing else -/
theorem comp_map {j : Nat} {e : WE} {K : List D → List M → Prop} {f : D → D} {isP : D → Bool} {ρ0 : En} {μ : List M} (he : ∀ x, isP x = true → ∀ Q : RV → En → Prop, Q (.d (f x)) ((ρ0.wm μ).set j (.p x)) → e ((ρ0.wm μ).set j (.p x)) Q) :
    ∀ (xs acc : List D), xs.all isP = true → acc.length + xs.length ≤ 16777216 → K (acc ++ xs.map f) μ → wComp (wgN j) (fun ρ Q => Q true ρ) e ρ0 K xs acc μ
  | [], acc, _, _, k => by
    rw [List.map_nil, List.append_nil] at k
    exact k
  | x :: xs, acc, hp, hl, k => by
    rw [List.all_cons] at hp
    obtain ⟨p1, p2⟩ := Bool.and_eq_true_iff.mp hp
    rw [List.length_cons] at hl
    show (if true = true then e ((ρ0.wm μ).set j (.p x)) (fun r ρ3 => esc r ρ3 fun y ρ4 => szB (acc.length + 1) = true ∧ wComp (wgN j) (fun ρ Q => Q true ρ) e ρ0 K xs (acc ++ [y]) ρ4.μ) else wComp (wgN j) (fun ρ Q => Q true ρ) e ρ0 K xs acc ((ρ0.wm μ).set j (.p x)).μ)
    rw [if_pos rfl]
    refine he x p1 _ ⟨Nat.ble_eq_true_of_le (by omega), ?_⟩
    refine comp_map he xs (acc ++ [f x]) p2 (by rw [List.length_append, List.length_cons, List.length_nil]; omega) ?_
    rw [List.append_assoc]
    exact k
def isInt : D → Bool
  | .int _ => true
  | _ => false
def isBl : D → Bool
  | .bl _ => true
  | _ => false
def blInt : D → D
  | .bl b => .int (if b then 1 else 0)
  | x => x
def eqInt (k : Int) : D → D
  | .int a => .bl (a == k)
  | x => x
end Sd

set_option maxHeartbeats 1000000
/-! S14: instances of own classes: made. -/
namespace Sd
open PySem PySem.Spec PyProof.Rows L2 LamX
section
variable {T : Tab} {C : C0} {W W1 W2 : Wd} {A : List Addr} {σ : L2.St} {Hs H H1 H2 : Hp} {ρ ρ1 ρ2 : En} {v : V} {r : RV}
theorem EnvOk.post_alloc (e : EnvOk T C W σ H ρ) {p : Addr} {m : M} (hm : MAt T W.t (hide H1 (p :: W.A)) H1 p m) (hl : m.live = true) (hp : H p = none) (x : Ex H H1) (h1 : H1 p ≠ none) :
    Post T C W σ H ρ ⟨p :: W.A, W.t ++ [p]⟩ H1 (ρ.add m) ∧ (W.t ++ [p])[ρ.μ.length]? = some p := by
  obtain ⟨_, nT, nl, n0, _⟩ := e.new0 hp
  have P1 := e.post_more (A1 := p :: W.A) x (fun a h => List.mem_cons_of_mem _ h) (fun a h => by
      rcases (List.mem_cons.mp h : a = p ∨ a ∈ W.A) with z | z
      · exact .inr (z ▸ hp)
      · exact .inl z) fun a h => by
      rcases (List.mem_cons.mp h : a = p ∨ a ∈ W.A) with z | z
      · rw [z]
        exact h1
      · exact fun q => e.dom a z (x.free q)
  obtain ⟨e2, z⟩ := P1.ok.alloc (p := p) hm hl List.mem_cons_self n0 nl nT
  refine ⟨⟨e2, P1.le, P1.gone, P1.keep, Pre.snoc _ _, fun l a h => ?_, fun l a m' h2 h3 h4 => ?_, P1.th⟩, z⟩
  · by_cases q : l < W.t.length
    · have h : (W.t ++ [p])[l]? = some a := h
      rw [List.getElem?_append_left q] at h
      exact .inl h
    · have h : (W.t ++ [p])[l]? = some a := h
      have hl' := (List.getElem?_eq_some_iff.mp h).1
      rw [List.length_append, List.length_singleton] at hl'
      have e0 : l = W.t.length := by omega
      subst e0
      rw [List.getElem?_append_right (Nat.le_refl _), Nat.sub_self] at h
      cases h
      exact .inr hp
  · have ll := (List.getElem?_eq_some_iff.mp h2).1
    rw [e.tl] at ll
    have h3 : (ρ.μ ++ [m])[l]? = some m' := h3
    rw [List.getElem?_append_left ll] at h3
    exact ⟨m', h3, h4⟩
/-- C(e, .., k = v, ..): a new object, handed to __init__ -/
def wMake (c : Str) (R : RD) (X : D → List M → Prop) (g : List C1 → List C1 → List C1) (wa wk : WC) : WE := fun ρ Q => wa ρ fun cs ρ1 => wk ρ1 fun ks ρ2 =>
  wCall R X (fun ρ Q => Q (g (.r ρ2.μ.length :: cs) ks) ρ) (ρ2.add (.i c [] [])) fun r ρ3 => r = .d .non ∧ Q (.r ρ2.μ.length) ρ3
theorem pe_makeD {c : Str} {Ca : Addr} {n m : Nat} {R : RD} {g : List C1 → List C1 → List C1} {gV : List V → List V → List V} {t tk : TA} {wa wk : WC} {E : XK} {X : D → List M → Prop} (hz : T.cs.length ≤ 63) (lk : Link T C E X) (hc : T.ca c = Ca)
    (hg : ∀ {t : List Addr} {H : Hp} {vs zs : List V} {cs ks : List C1}, FAll T t H vs cs → FAll T t H zs ks → FAll T t H (gV vs zs) (g cs ks)) (hn : ∀ ρ Q, wa ρ Q → wa ρ fun cs ρ1 => cs.length = n ∧ Q cs ρ1) (hm : ∀ ρ Q, wk ρ Q → wk ρ fun cs ρ1 => cs.length = m ∧ Q cs ρ1)
    (ha : Pc T C t wa) (hk : Pc T C tk wk) : Pe T C (tMakeK Ca n m (SpA T.K T.ca T.tb R) gV E t tk) (wMake c R X g wa wk) := fun W σ H ρ Q K e q k =>
  ha W σ H ρ _ _ e (hn _ _ q) fun vs H1 W1 cs ρ1 P1 S1 ⟨l1, q1⟩ => hk W1 σ H1 ρ1 _ _ P1.ok (hm _ _ q1) fun zs H2 W2 ks ρ2 P2 S2 ⟨l2, q2⟩ => by
    subst hc
    refine ⟨S1.length.trans l1, S2.length.trans l2, fun x dx hx hd ne => ?_⟩
    have x1 : Ex H2 (upd H2 dx (.own x)) := Ex.new hd
    have hx1 : upd H2 dx (.own x) x = none := by rw [upd_ne (Ne.symm ne)]; exact hx
    have x2 : Ex H2 (upd (upd H2 dx (.own x)) x (.ins (T.ca c) dx [])) := x1.trans (Ex.new hx1)
    obtain ⟨P3, hp⟩ := P2.ok.post_alloc (m := .i c [] []) (p := x) (H1 := upd (upd H2 dx (.own x)) x (.ins (T.ca c) dx [])) (show ∃ dx gs, _ ∧ _ from ⟨dx, [], upd_same, rfl, .nil⟩) rfl hx x2 (by rw [upd_same]; exact fun z => nomatch z)
    have S : FAll T (W2.t ++ [x]) (hide (upd (upd H2 dx (.own x)) x (.ins (T.ca c) dx [])) (x :: W2.A)) (gV (.ref x :: vs) zs) (g (.r ρ2.μ.length :: cs) ks) :=
      hg (.cons (.r hp) ((S1.mono (P2.ex P1.ok) P2.pre).mono (P3.ex P2.ok) P3.pre)) (S2.mono (P3.ex P2.ok) P3.pre)
    have P := (P1.trans P2).trans P3
    obtain ⟨q0, q3⟩ := q2
    refine ⟨T.cs, T.f0, hz, x :: W2.A, _, _, _, _, _, pre_c P3.ok S q0, q3, fun v H' A' r μ' p hr q4 => ?_, fun cls d H' A' y μ' p hy q4 => ?_⟩
    · have P4 := P3.ok.called q0 p
      obtain ⟨er, q5⟩ := q4
      have hr' := P3.ok.result q0 hr
      rw [er] at hr'
      cases hr' with
      | d h =>
        cases h
        exact ⟨rfl, k _ _ _ _ _ (P.trans P4) (.r (show _ = _ from P4.pre _ _ hp)) q5⟩
    · have P4 := P3.ok.called q0 p
      exact lk _ _ _ _ _ _ _ P4.ok hy q4.2 q4.1
end
end Sd

set_option maxHeartbeats 1000000
/-! S15: fields of instances. -/
namespace Sd
open PySem PySem.Spec PyProof.Rows L2 LamX
section
variable {T : Tab} {C : C0} {W W1 W2 : Wd} {A : List Addr} {t : List Addr} {σ : L2.St} {Hs H H1 H2 : Hp} {ρ ρ1 ρ2 : En} {v : V} {r : RV}
theorem look_f {n : Str} {c : C1} : ∀ {fs : List (Str × V)} {cs : List C1}, FAll T t H (fs.map (·.2)) cs → ((fs.map (·.1)).zip cs).lookup n = some c → ∃ v, fs.lookup n = some v ∧ FAt T t H v c
  | [], _, _, e => by cases e
  | (m, v) :: fs, _, .cons a b, e => by
    rw [List.map_cons, List.zip_cons_cons, List.lookup_cons] at e
    rw [List.lookup_cons]
    cases q : n == m with
    | true =>
      rw [q] at e
      cases e
      exact ⟨v, rfl, a⟩
    | false =>
      rw [q] at e
      exact look_f b e
def fldD (cs : List Str) (f : Str) (k : D → Prop) : D → Prop
  | .ins c ns vs => cs.contains c = true ∧ (match (ns.zip vs).lookup f with
    | some d => k d
    | none => False)
  | _ => False
def c1K (k : RV → Prop) : Option C1 → Prop
  | some (.p d) => k (.d d)
  | some (.r l) => k (.r l)
  | some .fn => False
  | none => False
def fldM (cs : List Str) (f : Str) (k : RV → Prop) : Option M → Prop
  | some (.i c ns fs) => cs.contains c = true ∧ c1K k ((ns.zip fs).lookup f)
  | some (.z d) => fldD cs f (fun x => k (.d x)) d
  | _ => False
/-- x.f -/
def fldK (cs : List Str) (f : Str) : RV → En → (RV → Prop) → Prop
  | .d d, _, k => fldD cs f (fun x => k (.d x)) d
  | .r l, ρ, k => fldM cs f k ρ.μ[l]?
  | .n _, _, _ => False
def wFld (cs : List Str) (f : Str) (a : WE) : WE := fun ρ Q => a ρ fun r ρ1 => fldK cs f r ρ1 fun q => Q q ρ1
theorem fldD_ok {cs : List Str} {f : Str} {k : D → Prop} {x : D} (h : At T H v x) (q : fldD cs f k x) : ∃ a c dx fs u d, v = .ref a ∧ H a = some (.ins (T.ca c) dx fs) ∧ cs.contains c = true ∧ fs.lookup f = some u ∧ At T H u d ∧ k d := by
  cases h with
  | @ins a dx c fs ds h1 h2 =>
    obtain ⟨q1, q2⟩ := q
    cases z : ((fs.map (·.1)).zip ds).lookup f with
    | none => rw [z] at q2; exact q2.elim
    | some d =>
      rw [z] at q2
      obtain ⟨u, u1, u2⟩ := look_at h2 z
      exact ⟨a, c, dx, fs, u, d, rfl, h1, q1, u1, u2, q2⟩
  | _ => exact q.elim
theorem pe_fldD {cs : List Str} {f : Str} {te : TE} {a : WE} (hc : ∀ c, cs.contains c = true → Cls T.K (T.ca c) ∧ NoAttr T.K (T.ca c) f) (h : Pe T C te a) : Pe T C (tFld T.K te f) (wFld cs f a) := fun W σ H ρ Q K e q k =>
  h W σ H ρ _ _ e q fun v H1 W1 r ρ1 P R q1 => by
    cases R with
    | d g =>
      obtain ⟨b, c, dx, fs, u, d, rfl, g1, g2, g3, g4, g5⟩ := fldD_ok g q1
      exact ⟨b, _, dx, fs, u, rfl, (hide_some g1).2, (hc c g2).1, (hc c g2).2, g3, k _ _ _ _ _ P (.d g4) g5⟩
    | n _ _ _ _ _ _ _ => exact q1.elim
    | @r b l g =>
      have q1 : fldM cs f (fun q => Q q ρ1) ρ1.μ[l]? := q1
      cases hm : ρ1.μ[l]? with
      | none => rw [hm] at q1; exact q1.elim
      | some m =>
        rw [hm] at q1
        have hs := P.ok.st l b m g hm
        cases m with
        | z d =>
          obtain ⟨b', c, dx, fs, u, d', eb, g1, g2, g3, g4, g5⟩ := fldD_ok hs q1
          cases eb
          exact ⟨b, _, dx, fs, u, rfl, (hide_some g1).2, (hc c g2).1, (hc c g2).2, g3, k _ _ _ _ _ P (.d g4) g5⟩
        | i c ns fs =>
          obtain ⟨dx, gs, g1, g2, g3⟩ := hs
          obtain ⟨q1, q2⟩ := q1
          subst g2
          cases z : ((gs.map (·.1)).zip fs).lookup f with
          | none => rw [z] at q2; exact q2.elim
          | some x =>
            rw [z] at q2
            obtain ⟨u, u1, u2⟩ := look_f g3 z
            refine ⟨b, _, dx, gs, u, rfl, g1, (hc c q1).1, (hc c q1).2, u1, ?_⟩
            cases u2 with
            | p y => exact k _ _ _ _ _ P (.d y) q2
            | r y => exact k _ _ _ _ _ P (.r y) q2
            | fn => exact q2.elim
        | _ => exact q1.elim
end
end Sd

set_option maxHeartbeats 1000000
/-! S16: fields of instances, written. -/
namespace Sd
open PySem PySem.Spec PyProof.Rows L2 LamX
section
variable {T : Tab} {C : C0} {W W1 W2 : Wd} {A : List Addr} {t : List Addr} {σ : L2.St} {Hs H H1 H2 : Hp} {ρ ρ1 ρ2 : En} {v : V} {r : RV}
def pn (f : Str) : List Str → List Str
  | [] => [f]
  | g :: gs => if (g == f) = true then f :: gs else g :: pn f gs
def pv (f : Str) (x : C1) : List Str → List C1 → List C1
  | [], _ => [x]
  | g :: gs, c :: cs => if (g == f) = true then x :: cs else c :: pv f x gs cs
  | _ :: _, [] => [x]
theorem put_f {f : Str} {y : V} {x : C1} (h : FAt T t H y x) : ∀ {gs : List (Str × V)} {cs : List C1}, FAll T t H (gs.map (·.2)) cs → (putF f y gs).map (·.1) = pn f (gs.map (·.1)) ∧ FAll T t H ((putF f y gs).map (·.2)) (pv f x (gs.map (·.1)) cs)
  | [], _, .nil => ⟨rfl, .cons h .nil⟩
  | (g, w) :: gs, _, .cons a b => by
    obtain ⟨h1, h2⟩ := put_f h b
    by_cases q : g = f
    · have e : putF f y ((g, w) :: gs) = (g, y) :: gs := if_pos q
      rw [e]
      subst q
      refine ⟨?_, ?_⟩
      · show g :: gs.map (·.1) = pn g (g :: gs.map (·.1))
        unfold pn
        rw [if_pos (beq_self_eq_true g)]
      · show FAll T t H (y :: gs.map (·.2)) (pv g x (g :: gs.map (·.1)) (_ :: _))
        unfold pv
        rw [if_pos (beq_self_eq_true g)]
        exact .cons h b
    · have e : putF f y ((g, w) :: gs) = (g, w) :: putF f y gs := if_neg q
      have nb : ¬ (g == f) = true := fun z => q (beq_iff_eq.mp z)
      rw [e]
      refine ⟨?_, ?_⟩
      · show g :: (putF f y gs).map (·.1) = pn f (g :: gs.map (·.1))
        unfold pn
        rw [if_neg nb, h1]
      · show FAll T t H (w :: (putF f y gs).map (·.2)) (pv f x (g :: gs.map (·.1)) (_ :: _))
        unfold pv
        rw [if_neg nb]
        exact .cons a h2
def inM (l : Nat) (k : Nat → Str → List Str → List C1 → Prop) : Option M → Prop
  | some (.i c ns fs) => k l c ns fs
  | _ => False
def inO (ρ : En) (k : Nat → Str → List Str → List C1 → Prop) : Option (Option C1) → Prop
  | some (some (.r l)) => inM l k ρ.μ[l]?
  | _ => False
/-- the slot's instance: the object l -/
def inK (i : Nat) (ρ : En) (k : Nat → Str → List Str → List C1 → Prop) : Prop := inO ρ k ρ.s[i]?
theorem inK_ok {k : Nat → Str → List Str → List C1 → Prop} (e : EnvOk T C W σ H ρ) {i : Nat} (h : inK i ρ k) : ∃ l c ns fs a dx gs, k l c ns fs ∧ σ[i]? = some (some (.ref a)) ∧ W.t[l]? = some a ∧ ρ.μ[l]? = some (.i c ns fs) ∧ H a = some (.ins (T.ca c) dx gs) ∧ gs.map (·.1) = ns ∧ FAll T W.t (hide H W.A) (gs.map (·.2)) fs := by
  have h : inO ρ k ρ.s[i]? := h
  match hc : ρ.s[i]?, h with
  | some (some (.r l)), h =>
    have h : inM l k ρ.μ[l]? := h
    match hm : ρ.μ[l]?, h with
    | some (.i c ns fs), h =>
      obtain ⟨v, h1, h2⟩ := e.cell i _ hc
      cases h2 with
      | @r a _ g =>
        obtain ⟨dx, gs, g1, g2, g3⟩ := e.st l a _ g hm
        exact ⟨l, c, ns, fs, a, dx, gs, h, h1, g, hm, g1, g2, g3⟩
/-- what is stored: a new object comes into the store -/
def sto (N : C1 → En → Prop) : RV → En → Prop
  | .d x, ρ => N (.p x) ρ
  | .n m, ρ => N (.r ρ.μ.length) (ρ.add m)
  | .r l, ρ => N (.r l) ρ
theorem sto_ok {N : C1 → En → Prop} (P : Post T C W σ H ρ W1 H1 ρ1) (R : RvOk T C H W1 H1 v r) (q : sto N r ρ1) : ∃ W2 ρ2 c, EnvOk T C W2 σ H1 ρ2 ∧ W2.A = W1.A ∧ FAt T W2.t (hide H1 W2.A) v c ∧ N c ρ2 := by
  cases R with
  | d h => exact ⟨W1, ρ1, _, P.ok, rfl, .p h, q⟩
  | r h => exact ⟨W1, ρ1, _, P.ok, rfl, .r h, q⟩
  | n h1 h2 h3 hs h4 h5 h6 =>
    obtain ⟨e2, z⟩ := P.ok.alloc (h1.mono (Ex.refl _) (fun _ _ z => by cases z) fun _ _ z => z) h2 h3 h4 h6 h5
    exact ⟨_, _, _, e2, rfl, .r z, q⟩
/-- x.f = e -/
def wSetF (cs : List Str) (f : Str) (i : Nat) (wa : WE) : WS := fun E ρ => wa ρ fun r ρ1 => sto (fun x ρ2 => inK i ρ2 fun l c ns fs => cs.contains c = true ∧ Nat.ble ns.length 900 = true ∧ E.nx (ρ2.put l (.i c (pn f ns) (pv f x ns fs)))) r ρ1
theorem ps_setF {cs : List Str} {f : Str} {i : Nat} {te : TE} {wa : WE} (hc : ∀ c, cs.contains c = true → Cls T.K (T.ca c) ∧ NoAttr T.K (T.ca c) f) (h : Pe T C te wa) : Ps T C (sFld T.K (tVar i) te f) (wSetF cs f i wa) := fun W σ H ρ B E F e x l q =>
  h W σ H ρ _ _ e q fun v H1 W1 r ρ1 P R q1 => by
    obtain ⟨W2, ρ2, c1, e2, eA, hv, q2⟩ := sto_ok P R q1
    obtain ⟨j, c, ns, fs, a, dx, gs, ⟨q3, q4, q5⟩, hs, hl, hm, g1, g2, g3⟩ := inK_ok e2 q2
    refine ⟨_, hs, a, _, dx, gs, rfl, g1, (hc c q3).1, (hc c q3).2, ?_, ?_⟩
    · have := Nat.le_of_ble_eq_true q4
      rw [← g2, List.length_map] at this
      omega
    · obtain ⟨p1, p2⟩ := put_f hv g3
      subst g2
      have P3 := e2.upd (m' := .i c (pn f (gs.map (·.1))) (pv f c1 (gs.map (·.1)) fs)) (o := .ins (T.ca c) dx (putF f v gs)) hl hm rfl rfl (show ∃ dx gs', _ ∧ _ from ⟨dx, _, upd_same, p1, p2⟩)
      refine l.nx _ _ _ _ P3.ok ((x.trans (P.ex e)).trans ?_) q5
      have := P3.ex e2
      rw [eA] at this
      rw [eA]
      exact this
end
end Sd

set_option maxHeartbeats 1000000
/-! Ex5: what a head tells of own exception classes. -/
namespace L2
open PySem PySem.Spec PyProof.Rows PySem.ExZ
/-- one own exception class: its name, its built-in base, its fields, its __init__ -/
structure ExD where
  c : Str
  iB : String
  initId : String
  newId : String
  bmI : List Value
  fs : List Str
  qual : Str
  st : Stmt
abbrev FnC : Type := Option (Str × Str × Arguments × FuncBody × Scope × Addr × List Str × Addr × Value)
def fnC (K : PySem.W.Frag) (C : Addr) : FnC := match K.lookup (He.ma K C "__init__") with
  | some ⟨_, _, .func fd, _⟩ => some (fd.name, fd.qualname, fd.params, fd.body, fd.scope, fd.globals, fd.closure.map (·.1), fd.builtins, fd.defaults)
  | _ => none
def ExD.val (d : ExD) : FnC := some ("__init__", d.qual, defArgs d.st, .stmts (defBody d.st), defScope d.st, mainGlobals, ["__class__"], builtinsNs, .none)
def cellB (K : PySem.W.Frag) (C : Addr) : List (Str × Addr) → Bool
  | [(_, cc)] => (match K.lookup cc with
    | some ⟨_, _, .cell (some (.ref D)), _⟩ => decide (D = C)
    | _ => false)
  | _ => false
def fileB (P : Program) (K : PySem.W.Frag) (cd : Value) : Bool := match cd with
  | .ref cda => (match K.lookup cda with
    | some ⟨_, _, .fields vs, _⟩ => (match (vs[2]? : Option Value) with
      | some (Value.str file _) => (P.main.file : Str) == file
      | _ => false)
    | _ => false)
  | _ => false
def ExD.fnB (P : Program) (K : PySem.W.Frag) (d : ExD) : Bool := match K.lookup (He.ma K (He.ga K d.c) "__init__") with
  | some ⟨_, _, .func fd, _⟩ => cellB K (He.ga K d.c) fd.closure && (fileB P K fd.code && PySem.W.codeIn K fd.code d.qual)
  | _ => false
def ExD.clB (K : PySem.W.Frag) (d : ExD) : List Bool :=
  let C := He.ga K d.c
  [PySem.W.excInitIn K C d.bmI d.newId, PySem.W.excOver K C d.bmI, PySem.W.hasDictIn K C, He.eqO (PySem.W.findIn K (.ref C) "__setattr__") (some (some (.builtin "object.__setattr__"))),
   He.eqO (PySem.W.findIn K (.ref C) "__getattribute__") (some (some (.builtin "BaseException.__getattribute__"))), He.eqO (PySem.W.findIn K (.ref C) "__getattr__") (some none),
   d.fs.all fun p => He.eqO (PySem.W.findIn K (.ref C) p) (some none), He.eqO (PySem.W.findIn K (.ref C) "__init__") (some (some (.ref (He.ma K C "__init__")))), PySem.W.isFn K (.ref (He.ma K C "__init__")),
   He.eqO (PySem.W.ks_superIn K C C "__init__") (some (some (.builtin d.initId))), decide (PySem.W.subIn K (.ref C) (.type d.iB) = some true), decide (PySem.W.mroIn K C (.ref C) = some true), He.eqO (PySem.W.nsIn K cStatics "thirdparty.any") (some none),
   PySem.W.keepIn K (.ref C), decide (PySem.W.subIn K (.ref C) (.type "BaseException") = some true), decide (PySem.W.typeIn K (.ref C) = some (.type "type"))]
def ExD.ok (P : Program) (K : PySem.W.Frag) (d : ExD) : Bool := d.fnB P K && (d.clB K).all id
theorem ExD.txt {P : Program} {K : PySem.W.Frag} {d : ExD} (B : BaseF d.iB d.initId d.newId d.bmI) (ht : (P.main.scope.names.lookup ("super" : Str)).isSome = false) (e : fnC K (He.ga K d.c) = d.val) (h : d.ok P K = true) :
    ∃ (cda cc : Addr) (oc : Value) (od : Option Addr) (osl : Array (Option Value)) (kV doc pm ct : Value) (an : Option Addr), XcTxt P K (He.ga K d.c) (He.ma K (He.ga K d.c) "__init__") cda cc d.iB d.initId d.newId d.bmI d.fs ∧
      K.lookup (He.ma K (He.ga K d.c) "__init__") = some ⟨oc, od, .func (PySem.W.ksFn "__init__" d.qual (defArgs d.st) (defBody d.st) (defScope d.st) .none kV doc pm an (.ref cda) ct cc), osl⟩ ∧ PySem.W.codeIn K (.ref cda) d.qual = true := by
  obtain ⟨h1, h2⟩ := Bool.and_eq_true_iff.mp h
  have ha : ∀ b ∈ d.clB K, b = true := fun b hb => List.all_eq_true.mp h2 b hb
  unfold ExD.fnB at h1
  unfold fnC at e
  cases q : K.lookup (He.ma K (He.ga K d.c) "__init__") with
  | none => rw [q] at h1; cases h1
  | some o =>
    obtain ⟨oc, od, dt, osl⟩ := o
    rw [q] at h1 e
    cases dt with
    | func fd =>
      obtain ⟨m1, m2, m3, m4, m5, m6, n7, m8, n9, n10, n11, n12, n13, n14, m15⟩ := fd
      have e2 : (some (m1, m2, m3, m4, m5, m6, n7.map (·.1), m15, m8) : FnC) = some (("__init__" : Str), d.qual, defArgs d.st, FuncBody.stmts (defBody d.st), defScope d.st, mainGlobals, (["__class__"] : List Str), builtinsNs, Value.none) := e
      simp only [Prod.mk.injEq, Option.some.injEq] at e2
      obtain ⟨g1, g2, g3, g4, g5, g6, g7, g8, g9⟩ := e2
      subst g1 g2 g3 g4 g5 g6 g8 g9
      have k0 : (cellB K (He.ga K d.c) n7 && (fileB P K n13 && PySem.W.codeIn K n13 d.qual)) = true := h1
      obtain ⟨k1, k2⟩ := Bool.and_eq_true_iff.mp k0
      obtain ⟨k3, k4⟩ := Bool.and_eq_true_iff.mp k2
      -- the cell
      match n7, g7, k1 with
      | [(x, cc)], g7, k1 =>
        have ex : x = ("__class__" : Str) := by
          have g7 : [x] = (["__class__"] : List Str) := g7
          exact List.head_eq_of_cons_eq g7
        subst ex
        have k1 : (match K.lookup cc with
          | some ⟨_, _, .cell (some (.ref D)), _⟩ => decide (D = He.ga K d.c)
          | _ => false) = true := k1
        have kc : ∃ cl cld csl, K.lookup cc = some ⟨cl, cld, .cell (some (.ref (He.ga K d.c))), csl⟩ := by
          split at k1
          · rename_i z
            have z2 := of_decide_eq_true k1
            subst z2
            exact ⟨_, _, _, z⟩
          · cases k1
        have kf : ∃ cda, n13 = .ref cda ∧ ∃ ccl cdd ccs vs file tf, K.lookup cda = some ⟨ccl, cdd, .fields vs, ccs⟩ ∧ vs[2]? = some (.str file tf) ∧ ((P.main.file : Str) == file) = true := by
          unfold fileB at k3
          split at k3
          · split at k3
            · split at k3
              · exact ⟨_, rfl, _, _, _, _, _, _, ‹_›, ‹_›, k3⟩
              · cases k3
            · cases k3
          · cases k3
        obtain ⟨cda, rfl, kf⟩ := kf
        refine ⟨cda, cc, oc, od, osl, n9, n10, n11, n14, n12, ?_, rfl, k4⟩
        exact ⟨B, ha _ (by simp [ExD.clB]), ha _ (by simp [ExD.clB]), ha _ (by simp [ExD.clB]), He.eqO_ok (ha _ (by simp [ExD.clB])), He.eqO_ok (ha _ (by simp [ExD.clB])), He.eqO_ok (ha _ (by simp [ExD.clB])),
          fun p hp => He.eqO_ok (List.all_eq_true.mp (ha (d.fs.all fun p => He.eqO (PySem.W.findIn K (.ref (He.ga K d.c)) p) (some none)) (by simp [ExD.clB])) p hp), He.eqO_ok (ha _ (by simp [ExD.clB])), ha _ (by simp [ExD.clB]), He.eqO_ok (ha _ (by simp [ExD.clB])),
          of_decide_eq_true (ha _ (by simp [ExD.clB])), of_decide_eq_true (ha _ (by simp [ExD.clB])), He.eqO_ok (ha _ (by simp [ExD.clB])), ha _ (by simp [ExD.clB]), of_decide_eq_true (ha _ (by simp [ExD.clB])), of_decide_eq_true (ha _ (by simp [ExD.clB])), kf, kc, ht⟩
    | _ => cases h1
theorem two_of {vs : List V} {us : List Value} (h : Vals vs us) (hl : vs.length = 2) : ∃ v u v' u', vs = [v, u] ∧ us = [v', u'] ∧ RelV v v' ∧ RelV u u' := by
  cases h with
  | nil => cases hl
  | cons r1 r2 =>
    cases r2 with
    | nil => cases hl
    | cons r2 r3 =>
      cases r3 with
      | nil => exact ⟨_, _, _, _, rfl, rfl, r1, r2⟩
      | cons _ _ => cases hl
theorem relO_1 {p : Str} {v : V} {u : Value} (r : RelV v u) (f : Str) : RelO ((List.zip [p] [v]).lookup f) (if f = p then some u else none) := relO_put (fs := []) (mA := fun _ => none) r (fun _ => True.intro) f
section
variable {P : Program} {w : World} {K : PySem.W.Frag} {mg : Str → Option Value} {base : Heap} {d : ExD}
/-- a class of one field -/
theorem ExD.mk1 {p : Str} {p1 p2 q1 q2 q3 q4 q5 q6 q7 q8 q9 q10 : Pos} (B : BaseF d.iB d.initId d.newId d.bmI) (hf : d.fs = [p]) (ea : defArgs d.st = iA1 p p1 p2) (eb : defBody d.st = iB1 p q1 q2 q3 q4 q5 q6 q7 q8 q9 q10)
    (hE : ∀ (L fI cda cc : Addr), HEv q1 q2 q3 q5 [.Name p q4] (PySem.W.ksEnv d.qual (defScope d.st) L fI (.ref cda) cc)) (S : IScp (defScope d.st) [p]) (hps : p ≠ "self") (hpd : (p == ("__debug__" : Str)) = false)
    (bP : ∀ (kV doc pm ct : Value) (an : Option Addr) (cdv : Value) (cc x : Addr) (v : Value), bindArgs (PySem.W.ksFn "__init__" d.qual (defArgs d.st) (defBody d.st) (defScope d.st) .none kV doc pm an cdv ct cc) ⟨[.ref x, v], []⟩ = pure [(("self" : Str), .ref x), (p, v)])
    (bK : ∀ (kV doc pm ct : Value) (an : Option Addr) (cdv : Value) (cc x : Addr) (v : Value), bindArgs (PySem.W.ksFn "__init__" d.qual (defArgs d.st) (defBody d.st) (defScope d.st) .none kV doc pm an cdv ct cc) ⟨[.ref x], [(p, v)]⟩ = pure [(("self" : Str), .ref x), (p, v)])
    (ht : (P.main.scope.names.lookup ("super" : Str)).isSome = false) (e : fnC K (He.ga K d.c) = d.val) (h : d.ok P K = true) (hsup : mg "super" = none) : MkX P w K mg base (He.ga K d.c) false [p] ∧ MkX P w K mg base (He.ga K d.c) true [p] := by
  obtain ⟨cda, cc, oc, od, osl, kV, doc, pm, ct, an, T, lk, hcd⟩ := d.txt B ht e h
  rw [hf] at T
  have key : ∀ (kw : Bool) (Md : Mod K mg base) (A : Around) (s : Shared) (R : Result → Shared → Prop) (us : List Value) (vs : List V), (∀ b o, base.get? b = some o → s.heap.get? b = some o) → A.depth + 1 < recursionLimit → Vals vs us → vs.length = 1 →
      (∀ h' tk e' d' mA, Made s.heap h' e' (He.ga K d.c) d' mA → (∀ f, RelO (([p].zip vs).lookup f) (mA f)) → R (.ok (.ret (.ref e'))) { s with heap := h', toks := tk }) →
      codeAny (model P w) A (.call (.ref (He.ga K d.c)) (bif kw then ⟨[], [p].zip us⟩ else ⟨us, []⟩)) R s := fun kw Md A s R us vs hk hr rv hl hq => by
    cases rv with
    | nil => cases hl
    | @cons v u vs us r1 r2 =>
      cases r2 with
      | cons _ _ => cases hl
      | nil =>
        have X : K.In s.heap := Md.kin.keeps hk
        rw [ea, eb] at lk
        have ini : ∀ (args : Args) (x t0 : Addr) (A' : Around) (s' : Shared) (R' : Result → Shared → Prop), BindsTo s' (PySem.W.ksFn "__init__" d.qual (defArgs d.st) (defBody d.st) (defScope d.st) .none kV doc pm an (.ref cda) ct cc) args [("self", .ref x), (p, u)] →
            (∀ b o, s.heap.get? b = some o → s'.heap.get? b = some o) → s'.heap.get? x = some (PySem.HandSPX.excO (He.ga K d.c) t0) → K.lookup x = none → A'.depth < recursionLimit →
            (∀ h' tk dx t1, InitEnd s'.heap h' x (He.ga K d.c) dx t1 (fun y => if y = p then some u else none) → R' (.ok (.ret .none)) { s' with heap := h', toks := tk }) → codeAny (model P w) A' (.call (.ref (He.ma K (He.ga K d.c) "__init__")) args) R' s' := fun args x t0 A' s' R' hb k hx hn hr' hq' => by
          rw [ea, eb] at hb
          exact init1 T Md hsup (fun b o z => k b o (hk b o z)) lk hcd (fun L => hE L _ _ _) S hps hpd hb hx hn hr' hq'
        have fin : ∀ h' tk e' d', Made s.heap h' e' (He.ga K d.c) d' (fun y => if y = p then some u else none) → R (.ok (.ret (.ref e'))) { s with heap := h', toks := tk } := fun h' tk e' d' M => hq h' tk e' d' _ M fun f => relO_1 r1 f
        cases kw with
        | false => exact made T X hr (by show 1 ≤ sizeLine; rw [sizeLine_eq]; decide) (fun x t0 A' s' R' k hx hn hr' hq' => ini _ x t0 A' s' R' (.of_eq (bP _ _ _ _ _ _ _ _ _)) k hx hn hr' hq') fin
        | true => exact made (us := []) (kw := [(p, u)]) T X hr (Nat.zero_le _) (fun x t0 A' s' R' k hx hn hr' hq' => ini _ x t0 A' s' R' (.of_eq (bK _ _ _ _ _ _ _ _ _)) k hx hn hr' hq') fin
  exact ⟨⟨key false, T.kC⟩, ⟨key true, T.kC⟩⟩
/-- a class of two; by names the other way round -/
theorem ExD.mk2 {p r : Str} {p1 p2 p3 q1 q2 q3 q4 q5 q6 q7 q8 q9 q10 q11 q12 q13 q14 q15 : Pos} (B : BaseF d.iB d.initId d.newId d.bmI) (hf : d.fs = [p, r]) (ea : defArgs d.st = iA2 p r p1 p2 p3) (eb : defBody d.st = iB2 p r q1 q2 q3 q4 q5 q6 q7 q8 q9 q10 q11 q12 q13 q14 q15)
    (hE : ∀ (L fI cda cc : Addr), HEv q1 q2 q3 q6 [.Name p q4, .Name r q5] (PySem.W.ksEnv d.qual (defScope d.st) L fI (.ref cda) cc)) (S : IScp (defScope d.st) [p, r]) (hps : p ≠ "self") (hrs : r ≠ "self") (hpr : p ≠ r) (hpd : (p == ("__debug__" : Str)) = false) (hrd : (r == ("__debug__" : Str)) = false)
    (bP : ∀ (kV doc pm ct : Value) (an : Option Addr) (cdv : Value) (cc x : Addr) (v u : Value), bindArgs (PySem.W.ksFn "__init__" d.qual (defArgs d.st) (defBody d.st) (defScope d.st) .none kV doc pm an cdv ct cc) ⟨[.ref x, v, u], []⟩ = pure [(("self" : Str), .ref x), (p, v), (r, u)])
    (bK : ∀ (kV doc pm ct : Value) (an : Option Addr) (cdv : Value) (cc x : Addr) (v u : Value), bindArgs (PySem.W.ksFn "__init__" d.qual (defArgs d.st) (defBody d.st) (defScope d.st) .none kV doc pm an cdv ct cc) ⟨[.ref x], [(r, u), (p, v)]⟩ = pure [(("self" : Str), .ref x), (p, v), (r, u)])
    (ht : (P.main.scope.names.lookup ("super" : Str)).isSome = false) (e : fnC K (He.ga K d.c) = d.val) (h : d.ok P K = true) (hsup : mg "super" = none) : MkX P w K mg base (He.ga K d.c) false [p, r] ∧ MkX P w K mg base (He.ga K d.c) true [r, p] := by
  obtain ⟨cda, cc, oc, od, osl, kV, doc, pm, ct, an, T, lk, hcd⟩ := d.txt B ht e h
  rw [hf] at T
  rw [ea, eb] at lk
  have ini : ∀ (Md : Mod K mg base) (s : Shared) (hk : ∀ b o, base.get? b = some o → s.heap.get? b = some o) (v u : Value) (args : Args) (x t0 : Addr) (A' : Around) (s' : Shared) (R' : Result → Shared → Prop), BindsTo s' (PySem.W.ksFn "__init__" d.qual (defArgs d.st) (defBody d.st) (defScope d.st) .none kV doc pm an (.ref cda) ct cc) args [("self", .ref x), (p, v), (r, u)] →
      (∀ b o, s.heap.get? b = some o → s'.heap.get? b = some o) → s'.heap.get? x = some (PySem.HandSPX.excO (He.ga K d.c) t0) → K.lookup x = none → A'.depth < recursionLimit →
      (∀ h' tk dx t1, InitEnd s'.heap h' x (He.ga K d.c) dx t1 (fun y => if y = r then some u else if y = p then some v else none) → R' (.ok (.ret .none)) { s' with heap := h', toks := tk }) → codeAny (model P w) A' (.call (.ref (He.ma K (He.ga K d.c) "__init__")) args) R' s'   := fun Md s hk v u args x t0 A' s' R' hb k hx hn hr' hq' => by
    rw [ea, eb] at hb
    exact init2 T Md hsup (fun b o z => k b o (hk b o z)) lk hcd (fun L => hE L _ _ _) S hps hrs hpr hpd hrd hb hx hn hr' hq'
  have r0 : ∀ {v u : V} {v' u' : Value}, RelV v v' → RelV u u' → ∀ f, RelO ([(p, v), (r, u)].lookup f) (if f = r then some u' else if f = p then some v' else none) := fun {v u v' u'} rv ru f => by
    rw [lookup_put, lookup_put]
    by_cases h1 : f = p
    · have h2 : f ≠ r := fun z => hpr (h1.symm.trans z)
      rw [if_pos h1, if_neg h2, if_pos h1]
      exact rv
    · rw [if_neg h1]
      by_cases h2 : f = r
      · rw [if_pos h2, if_pos h2]
        exact ru
      · rw [if_neg h2, if_neg h2, if_neg h1]
        exact True.intro
  have r1 : ∀ {v u : V} {v' u' : Value}, RelV v v' → RelV u u' → ∀ f, RelO ([(r, u), (p, v)].lookup f) (if f = r then some u' else if f = p then some v' else none) := fun {v u v' u'} rv ru f => relO_put (fs := [(p, v)]) (mA := fun f => if f = p then some v' else none) ru (fun g => relO_put (fs := []) (mA := fun _ => none) rv (fun _ => True.intro) g) f
  refine ⟨⟨fun Md A s R us vs hk hr rv hl hq => ?_, T.kC⟩, ⟨fun Md A s R us vs hk hr rv hl hq => ?_, T.kC⟩⟩
  · obtain ⟨v, u, v', u', rfl, rfl, rv, ru⟩ := two_of rv hl
    exact made T (Md.kin.keeps hk) hr (by show 2 ≤ sizeLine; rw [sizeLine_eq]; decide) (fun x t0 A' s' R' k hx hn hr' hq' => ini Md s hk v' u' _ x t0 A' s' R' (.of_eq (bP _ _ _ _ _ _ _ _ _ _)) k hx hn hr' hq') fun h' tk e' d' M => hq h' tk e' d' _ M (r0 rv ru)
  · obtain ⟨u, v, u', v', rfl, rfl, ru, rv⟩ := two_of rv hl
    exact made (us := []) (kw := [(r, u'), (p, v')]) T (Md.kin.keeps hk) hr (Nat.zero_le _) (fun x t0 A' s' R' k hx hn hr' hq' => ini Md s hk v' u' _ x t0 A' s' R' (.of_eq (bK _ _ _ _ _ _ _ _ _ _)) k hx hn hr' hq') fun h' tk e' d' M => hq h' tk e' d' _ M (r1 rv ru)
end
end L2

set_option maxHeartbeats 1000000
/-! P0: the same as functions: expressions, arguments, tests. -/
namespace Sd
open PySem PySem.Spec PyProof.Rows L2 LamX
/-- how it ends: with a result, by an exception, or beyond what is told here -/
inductive Ot (α : Type) where
  | ok (a : α) (ρ : En)
  | ex (x : D) (ρ : En)
  | no
abbrev Xw := D → En → Prop
def wo {α : Type} (X : Xw) (Q : α → En → Prop) : Ot α → Prop
  | .ok a ρ => Q a ρ
  | .ex x ρ => X x ρ
  | .no => False
def Ot.bind {α β : Type} : Ot α → (α → En → Ot β) → Ot β
  | .ok a ρ, k => k a ρ
  | .ex x ρ, _ => .ex x ρ
  | .no, _ => .no
def opt {α : Type} : Option α → En → Ot α
  | some a, ρ => .ok a ρ
  | none, _ => .no
abbrev FE := En → Ot RV
abbrev FT := En → Ot Bool
abbrev FA := En → Ot (List D)
abbrev FR := En → Ot (List RV)
abbrev FC := En → Ot (List C1)
abbrev FI := En → Ot (List D)
def we {α : Type} (X : Xw) (f : En → Ot α) : En → (α → En → Prop) → Prop := fun ρ Q => wo X Q (f ρ)
theorem wo_bind {α β : Type} {X : Xw} {Q : β → En → Prop} {o : Ot α} {k : α → En → Ot β} (h : wo X Q (o.bind k)) : wo X (fun a ρ => wo X Q (k a ρ)) o := by
  cases o <;> exact h
theorem wo_mono {α : Type} {X : Xw} {Q Q' : α → En → Prop} {o : Ot α} (h : ∀ a ρ, Q a ρ → Q' a ρ) (q : wo X Q o) : wo X Q' o := by
  cases o with
  | ok a ρ => exact h a ρ q
  | _ => exact q
theorem wo_opt {α : Type} {X : Xw} {Q : α → En → Prop} {o : Option α} {ρ : En} (h : wo X Q (opt o ρ)) : ∃ a, o = some a ∧ Q a ρ := by
  cases o with
  | some a => exact ⟨a, rfl, h⟩
  | none => exact h.elim
section
variable {T : Tab} {C : C0} {X : Xw}
theorem Pe.wk {te : TE} {w w' : WE} (h : Pe T C te w) (k : ∀ ρ Q, w' ρ Q → w ρ Q) : Pe T C te w' := fun W σ H ρ Q K e q => h W σ H ρ Q K e (k ρ Q q)
theorem Pt.wk {te : TT} {w w' : WT} (h : Pt T C te w) (k : ∀ ρ Q, w' ρ Q → w ρ Q) : Pt T C te w' := fun W σ H ρ Q K e q => h W σ H ρ Q K e (k ρ Q q)
theorem Pa.wk {te : TA} {w w' : WA} (h : Pa T C te w) (k : ∀ ρ Q, w' ρ Q → w ρ Q) : Pa T C te w' := fun W σ H ρ Q K e q => h W σ H ρ Q K e (k ρ Q q)
theorem Par.wk {te : TA} {w w' : WR} (h : Par T C te w) (k : ∀ ρ Q, w' ρ Q → w ρ Q) : Par T C te w' := fun W σ H ρ Q K e q => h W σ H ρ Q K e (k ρ Q q)
theorem Pc.wk {te : TA} {w w' : WC} (h : Pc T C te w) (k : ∀ ρ Q, w' ρ Q → w ρ Q) : Pc T C te w' := fun W σ H ρ Q K e q => h W σ H ρ Q K e (k ρ Q q)
theorem Pi.wk {te : TI} {w w' : WI} (h : Pi T C te w) (k : ∀ ρ Q, w' ρ Q → w ρ Q) : Pi T C te w' := fun W σ H ρ Q K e q => h W σ H ρ Q K e (k ρ Q q)
/-! ### leaves -/
def fC (x : D) : FE := fun ρ => .ok (.d x) ρ
def varO (ρ : En) : Option (Option C1) → Ot RV
  | some (some (.p d)) => .ok (.d d) ρ
  | some (some (.r l)) => .ok (.r l) ρ
  | _ => .no
def fVar (i : Nat) : FE := fun ρ => varO ρ ρ.s[i]?
theorem q_v (i : Nat) : Pe T C (tVar i) (we X (fVar i)) := (pe_v i).wk fun ρ Q q => by
  have q : wo X Q (varO ρ ρ.s[i]?) := q
  show wVarC i ρ Q ρ.s[i]?
  cases h : ρ.s[i]? with
  | none => rw [h] at q; exact q.elim
  | some c =>
    rw [h] at q
    cases c with
    | none => exact q.elim
    | some c => cases c <;> first | exact q | exact q.elim
theorem q_c {te : TE} {x : D} (h : Pe T C te (wC x)) : Pe T C te (we X (fC x)) := h
theorem q_int {i : Int} : Pe T C (tC (.int i)) (we X (fC (.int i))) := pe_cint
theorem q_bl {b : Bool} : Pe T C (tC (.bl b)) (we X (fC (.bl b))) := pe_cbl
theorem q_str {x : Str} : Pe T C (tC (.str x)) (we X (fC (.str x))) := pe_cstr
theorem q_non : Pe T C (tC .non) (we X (fC .non)) := pe_cnon
/-! ### read, handed on -/
def frzO : Option M → Option D
  | some m => frz m
  | none => none
def rdF : RV → En → Option D
  | .d x, _ => some x
  | .n m, _ => frz m
  | .r l, ρ => frzO ρ.μ[l]?
theorem rd_of {r : RV} {ρ : En} {x : D} {k : D → Prop} (h : rdF r ρ = some x) (q : k x) : rd r ρ k := by
  cases r with
  | d y => cases h; exact q
  | n m =>
    show rdO (some m) k
    show (match frz m with | some d => k d | none => False)
    rw [show frz m = some x from h]
    exact q
  | r l =>
    show rdO ρ.μ[l]? k
    have h : frzO ρ.μ[l]? = some x := h
    cases hm : ρ.μ[l]? with
    | none => (rw [hm] at h; cases h)
    | some m =>
      rw [hm] at h
      show (match frz m with | some d => k d | none => False)
      rw [show frz m = some x from h]
      exact q
def escM (l : Nat) (ρ : En) : Option M → Option (D × En)
  | some m => match frz m with
    | some d => if m.live = true then (if Nat.ble ρ.k l = true then some (d, ρ.put l (.z d)) else none) else some (d, ρ)
    | none => none
  | none => none
def escF : RV → En → Option (D × En)
  | .d x, ρ => some (x, ρ)
  | .n m, ρ => match frz m with
    | some x => some (x, ρ)
    | none => none
  | .r l, ρ => escM l ρ ρ.μ[l]?
theorem esc_of {r : RV} {ρ ρ1 : En} {x : D} {k : D → En → Prop} (h : escF r ρ = some (x, ρ1)) (q : k x ρ1) : esc r ρ k := by
  cases r with
  | d y => cases h; exact q
  | n m =>
    have h : (match frz m with | some x => some (x, ρ) | none => none) = some (x, ρ1) := h
    show (match frz m with | some d => k d ρ | none => False)
    cases e : frz m with
    | none => (rw [e] at h; cases h)
    | some y => rw [e] at h; cases h; exact q
  | r l =>
    have h : escM l ρ ρ.μ[l]? = some (x, ρ1) := h
    show escO l ρ k ρ.μ[l]?
    cases hm : ρ.μ[l]? with
    | none => (rw [hm] at h; cases h)
    | some m =>
      rw [hm] at h
      unfold escM at h
      unfold escO
      dsimp only at h ⊢
      cases e : frz m with
      | none => (rw [e] at h; cases h)
      | some d =>
        rw [e] at h
        dsimp only at h
        cases lv : m.live with
        | false => rw [lv] at h; cases h; exact q
        | true =>
          rw [lv, if_pos rfl] at h
          dsimp only
          split at h
          · rename_i z
            cases h
            exact ⟨z, q⟩
          · cases h
/-! ### operations -/
abbrev O1 := D → Option RV
abbrev O2 := D → D → Option RV
abbrev OL := List D → Option RV
def C1f (f : F1) (o : O1) : Prop := ∀ u q k, o u = some q → k q → f u k
def C2f (f : F2) (o : O2) : Prop := ∀ u v q k, o u v = some q → k q → f u v k
def CLf (f : FL) (o : OL) : Prop := ∀ us q k, o us = some q → k q → f us k
def ap1 (o : O1) (ρ : En) : Option D → Ot RV
  | some x => opt (o x) ρ
  | none => .no
def ap2 (o : O2) (ρ : En) : Option D → Option D → Ot RV
  | some x, some y => opt (o x y) ρ
  | _, _ => .no
def fOp (o : O2) (fa fb : FE) : FE := fun ρ => (fa ρ).bind fun r ρ1 => (fb ρ1).bind fun s ρ2 => ap2 o ρ2 (rdF r ρ2) (rdF s ρ2)
def fUn (o : O1) (fa : FE) : FE := fun ρ => (fa ρ).bind fun r ρ1 => ap1 o ρ1 (rdF r ρ1)
theorem q_o {r : R2} {f : F2} {o : O2} {ta tb : TE} {fa fb : FE} (h : Op2 T r f) (c : C2f f o) (ha : Pe T C ta (we X fa)) (hb : Pe T C tb (we X fb)) : Pe T C (tOp r ta tb) (we X (fOp o fa fb)) := (pe_o h ha hb).wk fun ρ Q q =>
  wo_mono (fun r ρ1 q => wo_mono (fun s ρ2 q => by
    cases e1 : rdF r ρ2 with
    | none => rw [e1] at q; exact q.elim
    | some x =>
      cases e2 : rdF s ρ2 with
      | none => rw [e1, e2] at q; exact q.elim
      | some y =>
        rw [e1, e2] at q
        obtain ⟨z, ez, q⟩ := wo_opt q
        exact rd_of e1 (rd_of e2 (c _ _ _ _ ez q))) (wo_bind q)) (wo_bind q)
theorem q_u {r : V → Hp → VK → Prop} {f : F1} {o : O1} {ta : TE} {fa : FE} (h : Op1 T r f) (c : C1f f o) (ha : Pe T C ta (we X fa)) : Pe T C (tUn r ta) (we X (fUn o fa)) := (pe_u h ha).wk fun ρ Q q =>
  wo_mono (fun r ρ1 q => by
    cases e1 : rdF r ρ1 with
    | none => rw [e1] at q; exact q.elim
    | some x =>
      rw [e1] at q
      obtain ⟨z, ez, q⟩ := wo_opt q
      exact rd_of e1 (c _ _ _ ez q)) (wo_bind q)
/-! ### arguments -/
def aN : FA := fun ρ => .ok [] ρ
def aC (fa : FE) (fr : FA) : FA := fun ρ => (fa ρ).bind fun r ρ1 => (opt (escF r ρ1) ρ1).bind fun p _ => (fr p.2).bind fun xs ρ3 => .ok (p.1 :: xs) ρ3
theorem qa_n : Pa T C tNil (we X aN) := pa_n
theorem qa_c {ta : TE} {tr : TA} {fa : FE} {fr : FA} (ha : Pe T C ta (we X fa)) (hr : Pa T C tr (we X fr)) : Pa T C (tCons ta tr) (we X (aC fa fr)) := (pa_c ha hr).wk fun ρ Q q =>
  wo_mono (fun r ρ1 q => by
    obtain ⟨p, ep, q⟩ := wo_opt (wo_bind q)
    exact esc_of (x := p.1) (ρ1 := p.2) ep (wo_mono (fun xs ρ3 q => q) (wo_bind q))) (wo_bind q)
def rN : FR := fun ρ => .ok [] ρ
def rC (fa : FE) (fr : FR) : FR := fun ρ => (fa ρ).bind fun r ρ1 => (fr ρ1).bind fun rs ρ2 => .ok (r :: rs) ρ2
theorem qr_n : Par T C tNil (we X rN) := par_n
theorem qr_c {ta : TE} {tr : TA} {fa : FE} {fr : FR} (ha : Pe T C ta (we X fa)) (hr : Par T C tr (we X fr)) : Par T C (tCons ta tr) (we X (rC fa fr)) := (par_c ha hr).wk fun ρ Q q =>
  wo_mono (fun r ρ1 q => wo_mono (fun rs ρ2 q => q) (wo_bind q)) (wo_bind q)
def rdL : List RV → En → Option (List D)
  | [], _ => some []
  | r :: rs, ρ => match rdF r ρ, rdL rs ρ with
    | some x, some xs => some (x :: xs)
    | _, _ => none
theorem rdL_of : ∀ {rs : List RV} {ρ : En} {xs : List D} {k : List D → Prop}, rdL rs ρ = some xs → k xs → rdAll rs ρ k
  | [], _, _, _, e, q => by cases e; exact q
  | r :: rs, ρ, xs, k, e, q => by
    unfold rdL at e
    cases e1 : rdF r ρ with
    | none => rw [e1] at e; cases e
    | some x =>
      cases e2 : rdL rs ρ with
      | none => rw [e1, e2] at e; cases e
      | some ys =>
        rw [e1, e2] at e
        cases e
        exact rd_of e1 (rdL_of e2 q)
def apL (o : OL) (ρ : En) : Option (List D) → Ot RV
  | some xs => opt (o xs) ρ
  | none => .no
def fCB (o : OL) (fa : FR) : FE := fun ρ => (fa ρ).bind fun rs ρ1 => apL o ρ1 (rdL rs ρ1)
theorem q_cb {r : List V → Hp → VK → Prop} {f : FL} {o : OL} {ta : TA} {fa : FR} (h : OpL T r f) (c : CLf f o) (ha : Par T C ta (we X fa)) : Pe T C (tCB r ta) (we X (fCB o fa)) := (pe_cb h ha).wk fun ρ Q q =>
  wo_mono (fun rs ρ1 q => by
    cases e1 : rdL rs ρ1 with
    | none => rw [e1] at q; exact q.elim
    | some xs =>
      rw [e1] at q
      obtain ⟨z, ez, q⟩ := wo_opt q
      exact rdL_of e1 (c _ _ _ ez q)) (wo_bind q)
/-- a call's arguments -/
def cN : FC := fun ρ => .ok [] ρ
/-- as data -/
def cD (fa : FE) (fr : FC) : FC := fun ρ => (fa ρ).bind fun r ρ1 => (opt (escF r ρ1) ρ1).bind fun p _ => (fr p.2).bind fun xs ρ3 => .ok (.p p.1 :: xs) ρ3
/-- an object of the store as it is -/
def refO : RV → Option C1
  | .d x => some (.p x)
  | .n m => match frz m with
    | some x => some (.p x)
    | none => none
  | .r l => some (.r l)
def cR (fa : FE) (fr : FC) : FC := fun ρ => (fa ρ).bind fun r ρ1 => (opt (refO r) ρ1).bind fun c _ => (fr ρ1).bind fun xs ρ3 => .ok (c :: xs) ρ3
theorem qc_n : Pc T C tNil (we X cN) := pc_n
theorem ent_esc {r : RV} {ρ ρ1 : En} {x : D} {k : C1 → En → Prop} (h : escF r ρ = some (x, ρ1)) (q : k (.p x) ρ1) : ent r ρ k := by
  cases r with
  | d y => cases h; exact q
  | n m => exact esc_of (r := .n m) (k := fun x ρ => k (.p x) ρ) h q
  | r l => exact .inr (esc_of (r := .r l) (k := fun x ρ => k (.p x) ρ) h q)
theorem ent_ref {r : RV} {ρ : En} {c : C1} {k : C1 → En → Prop} (h : refO r = some c) (q : k c ρ) : ent r ρ k := by
  cases r with
  | d y => cases h; exact q
  | n m =>
    have h : (match frz m with | some x => some (C1.p x) | none => none) = some c := h
    show (match frz m with | some d => k (.p d) ρ | none => False)
    cases e : frz m with
    | none => (rw [e] at h; cases h)
    | some y => rw [e] at h; cases h; exact q
  | r l => cases h; exact .inl q
theorem qc_d {ta : TE} {tr : TA} {fa : FE} {fr : FC} (ha : Pe T C ta (we X fa)) (hr : Pc T C tr (we X fr)) : Pc T C (tCons ta tr) (we X (cD fa fr)) := (pc_c ha hr).wk fun ρ Q q =>
  wo_mono (fun r ρ1 q => by
    obtain ⟨p, ep, q⟩ := wo_opt (wo_bind q)
    exact ent_esc (x := p.1) (ρ1 := p.2) ep (wo_mono (fun xs ρ3 q => q) (wo_bind q))) (wo_bind q)
theorem qc_r {ta : TE} {tr : TA} {fa : FE} {fr : FC} (ha : Pe T C ta (we X fa)) (hr : Pc T C tr (we X fr)) : Pc T C (tCons ta tr) (we X (cR fa fr)) := (pc_c ha hr).wk fun ρ Q q =>
  wo_mono (fun r ρ1 q => by
    obtain ⟨c, ec, q⟩ := wo_opt (wo_bind q)
    exact ent_ref ec (wo_mono (fun xs ρ3 q => q) (wo_bind q))) (wo_bind q)
/-! ### displays -/
def fLst (fa : FA) : FE := fun ρ => (fa ρ).bind fun xs ρ1 => if szB xs.length = true then .ok (.n (.l xs)) ρ1 else .no
def fTup (fa : FA) : FE := fun ρ => (fa ρ).bind fun xs ρ1 => if szB xs.length = true then .ok (.d (.tup xs)) ρ1 else .no
theorem wo_if {α : Type} {Q : α → En → Prop} {c : Bool} {o : Ot α} (h : wo X Q (if c = true then o else .no)) : c = true ∧ wo X Q o := by
  cases c with
  | true => exact ⟨rfl, h⟩
  | false => exact (show False from h).elim
theorem q_l {ta : TA} {fa : FA} (ha : Pa T C ta (we X fa)) : Pe T C (tLst ta) (we X (fLst fa)) := (pe_l ha).wk fun ρ Q q => wo_mono (fun xs ρ1 q => by exact wo_if (X := X) (c := szB xs.length) (o := Ot.ok (RV.n (M.l xs)) ρ1) q) (wo_bind q)
theorem q_t {ta : TA} {fa : FA} (ha : Pa T C ta (we X fa)) : Pe T C (tTup ta) (we X (fTup fa)) := (pe_t ha).wk fun ρ Q q => wo_mono (fun xs ρ1 q => by exact wo_if (X := X) (c := szB xs.length) (o := Ot.ok (RV.d (D.tup xs)) ρ1) q) (wo_bind q)
/-! ### tests -/
def truF : D → Option Bool
  | .non => some false
  | .bl b => some b
  | .int i => some (i != 0)
  | .str y => if szB y.length = true then some ((y.length : Int) != 0) else none
  | .lst xs => some (!xs.isEmpty)
  | .tup xs => some (!xs.isEmpty)
  | _ => none
theorem tru_of {x : D} {b : Bool} {k : Bool → Prop} (h : truF x = some b) (q : k b) : tru x k := by
  cases x with
  | str y =>
    have h : (if szB y.length = true then some ((y.length : Int) != 0) else none) = some b := h
    split at h
    · rename_i z
      cases h
      exact ⟨z, q⟩
    · cases h
  | non => cases h; exact q
  | bl _ => cases h; exact q
  | int _ => cases h; exact q
  | lst _ => cases h; exact q
  | tup _ => cases h; exact q
  | _ => cases h
def apT (ρ : En) : Option D → Ot Bool
  | some x => opt (truF x) ρ
  | none => .no
def tTr (fa : FE) : FT := fun ρ => (fa ρ).bind fun r ρ1 => apT ρ1 (rdF r ρ1)
theorem qt_tru {ta : TE} {fa : FE} (ha : Pe T C ta (we X fa)) : Pt T C (fun σ H Q => ta σ H fun x H' => ∃ k, TruV T.K x H' k ∧ Q k H') (we X (tTr fa)) := (pt_tru ha).wk fun ρ Q q =>
  wo_mono (fun r ρ1 q => by
    cases e1 : rdF r ρ1 with
    | none => rw [e1] at q; exact q.elim
    | some x =>
      rw [e1] at q
      obtain ⟨z, ez, q⟩ := wo_opt q
      exact rd_of e1 (tru_of ez q)) (wo_bind q)
def apB (ρ : En) : Option D → Ot Bool
  | some (.bl b) => .ok b ρ
  | _ => .no
/-- of a bool alone -/
def tB (fa : FE) : FT := fun ρ => (fa ρ).bind fun r ρ1 => apB ρ1 (rdF r ρ1)
theorem qt_t {ta : TE} {fa : FE} (ha : Pe T C ta (we X fa)) : Pt T C (L2.tTest ta) (we X (tB fa)) := (pt_t ha).wk fun ρ Q q =>
  wo_mono (fun r ρ1 q => by
    cases e1 : rdF r ρ1 with
    | none => rw [e1] at q; exact q.elim
    | some x =>
      rw [e1] at q
      cases x with
      | bl b => exact rd_of e1 ⟨b, rfl, q⟩
      | _ => exact q.elim) (wo_bind q)
def tAn (t u : FT) : FT := fun ρ => (t ρ).bind fun b ρ1 => if b = true then u ρ1 else .ok false ρ1
def tO (t u : FT) : FT := fun ρ => (t ρ).bind fun b ρ1 => if b = true then .ok true ρ1 else u ρ1
def tN (t : FT) : FT := fun ρ => (t ρ).bind fun b ρ1 => .ok (!b) ρ1
theorem wo_ite {α : Type} {Q : α → En → Prop} {c : Bool} {o o' : Ot α} (h : wo X Q (if c = true then o else o')) : if c = true then wo X Q o else wo X Q o' := by
  cases c <;> exact h
theorem qt_and {ta tb : TT} {t u : FT} (ha : Pt T C ta (we X t)) (hb : Pt T C tb (we X u)) : Pt T C (tAnd ta tb) (we X (tAn t u)) := (pt_and ha hb).wk fun ρ Q q => wo_mono (fun b ρ1 q => by exact wo_ite (X := X) (c := b) (o := u ρ1) (o' := Ot.ok false ρ1) q) (wo_bind q)
theorem qt_or {ta tb : TT} {t u : FT} (ha : Pt T C ta (we X t)) (hb : Pt T C tb (we X u)) : Pt T C (tOr ta tb) (we X (tO t u)) := (pt_or ha hb).wk fun ρ Q q => wo_mono (fun b ρ1 q => by exact wo_ite (X := X) (c := b) (o := Ot.ok true ρ1) (o' := u ρ1) q) (wo_bind q)
theorem qt_n {ta : TT} {t : FT} (ha : Pt T C ta (we X t)) : Pt T C (tNot ta) (we X (tN t)) := (pt_n ha).wk fun ρ Q q => wo_mono (fun b ρ1 q => q) (wo_bind q)
def fIf (t : FT) (fa fb : FE) : FE := fun ρ => (t ρ).bind fun b ρ1 => if b = true then fa ρ1 else fb ρ1
theorem q_if {tc : TT} {ta tb : TE} {t : FT} {fa fb : FE} (hc : Pt T C tc (we X t)) (ha : Pe T C ta (we X fa)) (hb : Pe T C tb (we X fb)) : Pe T C (tIf tc ta tb) (we X (fIf t fa fb)) := (pe_if hc ha hb).wk fun ρ Q q => wo_mono (fun b ρ1 q => by exact wo_ite (X := X) (c := b) (o := fa ρ1) (o' := fb ρ1) q) (wo_bind q)
end
end Sd

set_option maxHeartbeats 1000000
/-! P1: statements, loops, comprehensions as functions. -/
namespace Sd
open PySem PySem.Spec PyProof.Rows L2 LamX
inductive Fl where
  | nx (ρ : En)
  | rt (r : RV) (μ : List M)
  | bk (ρ : En)
  | ct (ρ : En)
  | ex (x : D) (ρ : En)
  | no
abbrev FS := En → Fl
def wl (X : Xw) (E : DE) : Fl → Prop
  | .nx ρ => E.nx ρ
  | .rt r μ => E.rt r μ
  | .bk ρ => E.bk ρ
  | .ct ρ => E.ct ρ
  | .ex x ρ => X x ρ
  | .no => False
def ws (X : Xw) (f : FS) : WS := fun E ρ => wl X E (f ρ)
def Ot.to {α : Type} : Ot α → (α → En → Fl) → Fl
  | .ok a ρ, k => k a ρ
  | .ex x ρ, _ => .ex x ρ
  | .no, _ => .no
def Fl.sq : Fl → FS → Fl
  | .nx ρ, b => b ρ
  | .rt r μ, _ => .rt r μ
  | .bk ρ, _ => .bk ρ
  | .ct ρ, _ => .ct ρ
  | .ex x ρ, _ => .ex x ρ
  | .no, _ => .no
theorem wl_to {α : Type} {X : Xw} {E : DE} {o : Ot α} {k : α → En → Fl} (h : wl X E (o.to k)) : wo X (fun a ρ => wl X E (k a ρ)) o := by
  cases o <;> exact h
theorem wl_sq {X : Xw} {E : DE} {o : Fl} {b : FS} (h : wl X E (o.sq b)) : wl X { E with nx := fun ρ => wl X E (b ρ) } o := by
  cases o <;> exact h
abbrev FG := D → En → Option En
abbrev FGs := List D → En → Option En
def wg (g : FG) : WG := fun x ρ Q => ∃ ρ1, g x ρ = some ρ1 ∧ Q ρ1
def wgs (g : FGs) : WGs := fun x ρ Q => ∃ ρ1, g x ρ = some ρ1 ∧ Q ρ1
section
variable {T : Tab} {C : C0} {X : Xw}
theorem Ps.wk {ts : TS} {w w' : WS} (h : Ps T C ts w) (k : ∀ E ρ, w' E ρ → w E ρ) : Ps T C ts w' := fun W σ H ρ B E F e x l q => h W σ H ρ B E F e x l (k E ρ q)
theorem Pg.wk {js : List Nat} {g : TG} {w w' : WG} (h : Pg T C js g w) (k : ∀ x ρ Q, w' x ρ Q → w x ρ Q) : Pg T C js g w' := fun W σ H ρ v x Q K e a q => h W σ H ρ v x Q K e a (k x ρ Q q)
theorem Pgs.wk {js : List Nat} {g : TGs} {w w' : WGs} (h : Pgs T C js g w) (k : ∀ x ρ Q, w' x ρ Q → w x ρ Q) : Pgs T C js g w' := fun W σ H ρ v x Q K e a q => h W σ H ρ v x Q K e a (k x ρ Q q)
/-! ### targets -/
def gN (i : Nat) : FG := fun x ρ => some (ρ.set i (.p x))
def gNil : FGs
  | [], ρ => some ρ
  | _ :: _, _ => none
def gCons (a : FG) (r : FGs) : FGs
  | [], _ => none
  | x :: xs, ρ => (a x ρ).bind fun ρ1 => r xs ρ1
def gT (n : Nat) (r : FGs) : FG
  | .tup xs, ρ => if xs.length == n then r xs ρ else none
  | _, _ => none
theorem qg_n (i : Nat) : Pg T C [i] (gName i) (wg (gN i)) := (pg_n i).wk fun x ρ Q ⟨ρ1, e, q⟩ => by
  cases e
  exact q
theorem qgs_n : Pgs T C [] L2.gNil (wgs gNil) := pgs_n.wk fun x ρ Q ⟨ρ1, e, q⟩ => by
  cases x with
  | nil => cases e; exact ⟨rfl, q⟩
  | cons _ _ => cases e
theorem qgs_c {js ks : List Nat} {g : TG} {gs : TGs} {a : FG} {r : FGs} (hg : Pg T C js g (wg a)) (hr : Pgs T C ks gs (wgs r)) : Pgs T C (js ++ ks) (L2.gCons g gs) (wgs (gCons a r)) := (pgs_c hg hr).wk fun x ρ Q ⟨ρ1, e, q⟩ => by
  cases x with
  | nil => cases e
  | cons y ys =>
    have e : ((a y ρ).bind fun ρ1 => r ys ρ1) = some ρ1 := e
    cases h : a y ρ with
    | none => rw [h] at e; cases e
    | some ρ2 =>
      rw [h] at e
      exact ⟨y, ys, rfl, ρ2, h, ρ1, e, q⟩
theorem qg_t {n : Nat} {js : List Nat} {gs : TGs} {r : FGs} (hr : Pgs T C js gs (wgs r)) : Pg T C js (gTup T.K n gs) (wg (gT n r)) := (pg_t hr).wk fun x ρ Q ⟨ρ1, e, q⟩ => by
  cases x with
  | tup xs =>
    have e : (if xs.length == n then r xs ρ else none) = some ρ1 := e
    split at e
    · rename_i h
      exact ⟨xs, rfl, beq_iff_eq.mp h, ρ1, e, q⟩
    · cases e
  | _ => cases e
/-! ### statements -/
def sN : FS := .nx
def sSeq (a b : FS) : FS := fun ρ => (a ρ).sq b
def sIf (t : FT) (a b : FS) : FS := fun ρ => (t ρ).to fun c ρ1 => if c = true then a ρ1 else b ρ1
def sDrop (e : FE) : FS := fun ρ => (e ρ).to fun _ ρ1 => .nx ρ1
theorem qs_n : Ps T C tNext (ws X sN) := ps_next
theorem qs_brk : Ps T C tBreak (ws X .bk) := ps_brk
theorem qs_cnt : Ps T C tCont (ws X .ct) := ps_cnt
theorem qs_seq {t u : TS} {a b : FS} (h1 : Ps T C t (ws X a)) (h2 : Ps T C u (ws X b)) : Ps T C (tSeq t u) (ws X (sSeq a b)) := (ps_seq h1 h2).wk fun E ρ q => wl_sq q
theorem wl_ite {E : DE} {c : Bool} {o o' : Fl} (h : wl X E (if c = true then o else o')) : if c = true then wl X E o else wl X E o' := by
  cases c <;> exact h
theorem qs_if {tc : TT} {t u : TS} {w : FT} {a b : FS} (hc : Pt T C tc (we X w)) (h1 : Ps T C t (ws X a)) (h2 : Ps T C u (ws X b)) : Ps T C (tIfS tc t u) (ws X (sIf w a b)) := (ps_if hc h1 h2).wk fun E ρ q => wo_mono (fun c ρ1 q => by exact wl_ite q) (wl_to q)
theorem qs_drop {te : TE} {a : FE} (h : Pe T C te (we X a)) : Ps T C (tDrop te) (ws X (sDrop a)) := (ps_drop h).wk fun E ρ q => wo_mono (fun c ρ1 q => q) (wl_to q)
/-! returned -/
def normF (l k : Nat) : Option M → Option RV
  | some (.z d) => some (.d d)
  | some (.l xs) => some (if Nat.ble k l = true then .n (.l xs) else .r l)
  | some (.m ks vs) => some (if Nat.ble k l = true then .n (.m ks vs) else .r l)
  | some (.i _ _ _) => if Nat.ble k l = true then none else some (.r l)
  | some (.pen _) => if Nat.ble k l = true then none else some (.r l)
  | none => none
def retV : RV → En → Option RV
  | .d x, _ => some (.d x)
  | .n m, _ => some (.n m)
  | .r l, ρ => normF l ρ.k ρ.μ[l]?
def retO (ρ : En) : Option RV → Fl
  | some r => if closedB ρ.k (ρ.μ.take ρ.k) = true then .rt r (ρ.μ.take ρ.k) else .no
  | none => .no
theorem norm_of {r r' : RV} {ρ : En} {k : RV → Prop} (h : retV r ρ = some r') (q : k r') : norm r ρ k := by
  cases r with
  | d x => cases h; exact q
  | n m => cases h; exact q
  | r l =>
    have h : normF l ρ.k ρ.μ[l]? = some r' := h
    show normO l ρ.k k ρ.μ[l]?
    cases hm : ρ.μ[l]? with
    | none => (rw [hm] at h; cases h)
    | some m =>
      rw [hm] at h
      cases m with
      | z d => cases h; exact q
      | l xs =>
        cases h
        show (if Nat.ble ρ.k l = true then k (.n (.l xs)) else k (.r l))
        split
        · rename_i z
          rw [if_pos z] at q
          exact q
        · rename_i z
          rw [if_neg z] at q
          exact q
      | m ks vs =>
        cases h
        show (if Nat.ble ρ.k l = true then k (.n (.m ks vs)) else k (.r l))
        split
        · rename_i z
          rw [if_pos z] at q
          exact q
        · rename_i z
          rw [if_neg z] at q
          exact q
      | i c ns fs =>
        have h : (if Nat.ble ρ.k l = true then none else some (RV.r l)) = some r' := h
        split at h
        · cases h
        · rename_i z
          cases h
          exact ⟨Bool.eq_false_iff.mpr z, q⟩
      | pen n =>
        have h : (if Nat.ble ρ.k l = true then none else some (RV.r l)) = some r' := h
        split at h
        · cases h
        · rename_i z
          cases h
          exact ⟨Bool.eq_false_iff.mpr z, q⟩
def sRet (e : FE) : FS := fun ρ => (e ρ).to fun r ρ1 => retO ρ1 (retV r ρ1)
theorem ret_of {E : DE} {ρ : En} {r : Option RV} (h : wl X E (retO ρ r)) : ∃ r', r = some r' ∧ retK E r' ρ := by
  cases r with
  | none => exact h.elim
  | some r' =>
    have h : wl X E (if closedB ρ.k (ρ.μ.take ρ.k) = true then .rt r' (ρ.μ.take ρ.k) else .no) := h
    split at h
    · rename_i z
      exact ⟨r', rfl, z, h⟩
    · exact h.elim
theorem qs_ret {te : TE} {a : FE} (h : Pe T C te (we X a)) : Ps T C (tRet te) (ws X (sRet a)) := (ps_ret h).wk fun E ρ q => wo_mono (fun r ρ1 q => by
  obtain ⟨r', e, q⟩ := ret_of q
  exact norm_of e q) (wl_to q)
def sRetN : FS := fun ρ => retO ρ (some (.d .non))
theorem qs_retN : Ps T C tRetN (ws X sRetN) := ps_retN.wk fun E ρ q => by
  obtain ⟨r', e, q⟩ := ret_of (r := some (.d .non)) q
  cases e
  exact q
/-! stored -/
def asgF (i : Nat) : RV → En → En
  | .d x, ρ => ρ.set i (.p x)
  | .n m, ρ => (ρ.add m).set i (.r ρ.μ.length)
  | .r l, ρ => ρ.set i (.r l)
def sAsg (i : Nat) (a : FE) : FS := fun ρ => (a ρ).to fun r ρ1 => .nx (asgF i r ρ1)
theorem qs_asg {i : Nat} {te : TE} {a : FE} (h : Pe T C te (we X a)) : Ps T C (tAsg te (gName i)) (ws X (sAsg i a)) := (ps_asg h).wk fun E ρ q => wo_mono (fun r ρ1 q => by
  cases r <;> exact q) (wl_to q)
def oFl : Option En → Fl
  | some ρ => .nx ρ
  | none => .no
theorem wl_oFl {E : DE} {o : Option En} (h : wl X E (oFl o)) : ∃ ρ, o = some ρ ∧ E.nx ρ := by
  cases o with
  | none => exact h.elim
  | some ρ => exact ⟨ρ, rfl, h⟩
def sAsgG (a : FE) (g : FG) : FS := fun ρ => (a ρ).to fun r ρ1 => (opt (escF r ρ1) ρ1).to fun p _ => oFl (g p.1 p.2)
theorem qs_asgG {js : List Nat} {te : TE} {tg : TG} {a : FE} {g : FG} (h : Pe T C te (we X a)) (hg : Pg T C js tg (wg g)) : Ps T C (tAsg te tg) (ws X (sAsgG a g)) := (ps_asgG h hg).wk fun E ρ q => wo_mono (fun r ρ1 q => by
  obtain ⟨p, ep, q⟩ := wo_opt (wl_to q)
  obtain ⟨ρ2, e2, q⟩ := wl_oFl q
  exact esc_of (x := p.1) (ρ1 := p.2) ep ⟨ρ2, e2, q⟩) (wl_to q)
def par2 (i j : Nat) : List C1 → En → Option En
  | [x, y], ρ => some ((ρ.set i x).set j y)
  | _, _ => none
def sPar (i j : Nat) (a : FC) : FS := fun ρ => (a ρ).to fun xs ρ1 => oFl (par2 i j xs ρ1)
theorem qs_par {i j : Nat} {ta : TA} {a : FC} (h : Pc T C ta (we X a)) : Ps T C (tPar i j ta) (ws X (sPar i j a)) := (ps_par h).wk fun E ρ q => wo_mono (fun xs ρ1 q => by
  obtain ⟨ρ2, e2, q⟩ := wl_oFl q
  match xs, e2 with
  | [x, y], e2 => cases e2; exact ⟨x, y, rfl, q⟩) (wl_to q)
/-! ### loops -/
/-- a turn is over -/
def turn (k : FS) : Fl → Fl
  | .nx ρ => k ρ
  | .ct ρ => k ρ
  | .bk ρ => .nx ρ
  | o => o
def gFl (k : FS) : Option En → Fl
  | some ρ => k ρ
  | none => .no
def sLoop (g : FG) (b : FS) : List D → FS
  | [], ρ => .nx ρ
  | x :: xs, ρ => gFl (fun ρ1 => turn (sLoop g b xs) (b ρ1)) (g x ρ)
def sFor (i : FI) (g : FG) (b : FS) : FS := fun ρ => (i ρ).to fun xs ρ1 => sLoop g b xs ρ1
theorem wl_turn {E : DE} {k : FS} {o : Fl} (h : wl X E (turn k o)) : wl X { E with nx := fun ρ => wl X E (k ρ), ct := fun ρ => wl X E (k ρ), bk := E.nx } o := by
  cases o <;> exact h
theorem wl_mono {E E' : DE} {o : Fl} (h1 : ∀ ρ, E.nx ρ → E'.nx ρ) (h2 : ∀ r μ, E.rt r μ → E'.rt r μ) (h3 : ∀ ρ, E.bk ρ → E'.bk ρ) (h4 : ∀ ρ, E.ct ρ → E'.ct ρ) (h : wl X E o) : wl X E' o := by
  cases o with
  | nx ρ => exact h1 _ h
  | rt r μ => exact h2 _ _ h
  | bk ρ => exact h3 _ h
  | ct ρ => exact h4 _ h
  | ex x ρ => exact h
  | no => exact h
theorem loop_of {g : FG} {b : FS} {E : DE} : ∀ {xs : List D} {ρ : En}, wl X E (sLoop g b xs ρ) → wLoop (wg g) (ws X b) E xs ρ
  | [], _, h => h
  | x :: xs, ρ, h => by
    have h : wl X E (gFl (fun ρ1 => turn (sLoop g b xs) (b ρ1)) (g x ρ)) := h
    cases e : g x ρ with
    | none => rw [e] at h; exact h.elim
    | some ρ1 =>
      rw [e] at h
      have h2 := wl_turn h
      exact ⟨ρ1, e, wl_mono (E := { E with nx := fun ρ => wl X E (sLoop g b xs ρ), ct := fun ρ => wl X E (sLoop g b xs ρ), bk := E.nx }) (fun _ z => loop_of z) (fun _ _ z => z) (fun _ z => z) (fun _ z => loop_of z) h2⟩
theorem qs_for {wi : TI} {tg : TG} {tb : TS} {js : List Nat} {i : FI} {g : FG} {b : FS} (hi : Pi T C wi (we X i)) (hg : Pg T C js tg (wg g)) (hb : Ps T C tb (ws X b)) : Ps T C (tFor wi tg tb) (ws X (sFor i g b)) := (ps_for hi hg hb).wk fun E ρ q =>
  wo_mono (fun xs ρ1 q => loop_of q) (wl_to q)
/-- while: n turns at most -/
def sTurns (t : FT) (b : FS) : Nat → FS
  | 0, _ => .no
  | n + 1, ρ => (t ρ).to fun c ρ1 => if c = true then turn (sTurns t b n) (b ρ1) else .nx ρ1
def sWhile (n : Nat) (t : FT) (b : FS) : FS := sTurns t b n
theorem turns_of {t : FT} {b : FS} {E : DE} : ∀ {n : Nat} {ρ : En}, wl X E (sTurns t b n ρ) → wTurns (we X t) (ws X b) E n ρ
  | 0, _, h => h
  | n + 1, ρ, h => wo_mono (fun c ρ1 q => by
    cases c with
    | false => exact q
    | true =>
      have h2 := wl_turn (o := b ρ1) q
      exact wl_mono (E := { E with nx := fun ρ => wl X E (sTurns t b n ρ), ct := fun ρ => wl X E (sTurns t b n ρ), bk := E.nx }) (fun _ z => turns_of z) (fun _ _ z => z) (fun _ z => z) (fun _ z => turns_of z) h2) (wl_to (o := t ρ) h)
theorem qs_while {tc : TT} {tb : TS} {t : FT} {b : FS} (n : Nat) (hc : Pt T C tc (we X t)) (hb : Ps T C tb (ws X b)) : Ps T C (tWhile tc tb) (ws X (sWhile n t b)) := (ps_while hc hb).wk fun E ρ q => ⟨n, turns_of q⟩
/-! ### what is walked -/
def seqF : D → Option (List D)
  | .lst xs => some xs
  | .tup xs => some xs
  | _ => none
def iSeq (a : FE) : FI := fun ρ => (a ρ).bind fun r ρ1 => (opt (escF r ρ1) ρ1).bind fun p _ => opt (seqF p.1) p.2
theorem qi_s {te : TE} {a : FE} (h : Pe T C te (we X a)) : Pi T C (iSq T.K te) (we X (iSeq a)) := (pi_s h).wk fun ρ Q q => wo_mono (fun r ρ1 q => by
  obtain ⟨p, ep, q⟩ := wo_opt (wo_bind q)
  obtain ⟨xs, ex, q⟩ := wo_opt q
  refine esc_of (x := p.1) (ρ1 := p.2) ep ?_
  obtain ⟨x, ρ2⟩ := p
  cases x with
  | lst ys => cases ex; exact q
  | tup ys => cases ex; exact q
  | _ => cases ex) (wo_bind q)
def rng1 : List D → Option (List D)
  | [.int j] => if decide (-(2 ^ 62) ≤ j ∧ j < 2 ^ 62) = true then some (intsFrom 0 j.toNat) else none
  | _ => none
def rng2 : List D → Option (List D)
  | [.int i, .int j] => if decide (-(2 ^ 62) ≤ i ∧ i < 2 ^ 62 ∧ -(2 ^ 62) ≤ j ∧ j < 2 ^ 62) = true then some (intsFrom i (j - i).toNat) else none
  | _ => none
def apI (f : List D → Option (List D)) (ρ : En) : Option (List D) → Ot (List D)
  | some xs => opt (f xs) ρ
  | none => .no
def iRng (f : List D → Option (List D)) (a : FR) : FI := fun ρ => (a ρ).bind fun rs ρ1 => apI f ρ1 (rdL rs ρ1)
theorem apI_of {f : List D → Option (List D)} {Q : List D → En → Prop} {rs : List RV} {ρ : En} (h : wo X Q (apI f ρ (rdL rs ρ))) : ∃ xs ys, rdL rs ρ = some xs ∧ f xs = some ys ∧ Q ys ρ := by
  cases e : rdL rs ρ with
  | none => rw [e] at h; exact h.elim
  | some xs =>
    rw [e] at h
    obtain ⟨ys, ey, q⟩ := wo_opt h
    exact ⟨xs, ys, rfl, ey, q⟩
theorem qi_r1 {ta : TA} {a : FR} (h : Par T C ta (we X a)) : Pi T C (iRng1 ta) (we X (iRng rng1 a)) := (pi_r1 h).wk fun ρ Q q => wo_mono (fun rs ρ1 q => by
  obtain ⟨xs, ys, e1, e2, q⟩ := apI_of q
  refine rdL_of e1 ?_
  match xs, e2 with
  | [.int j], e2 =>
    have e2 : (if decide (-(2 ^ 62) ≤ j ∧ j < 2 ^ 62) = true then some (intsFrom 0 j.toNat) else none) = some ys := e2
    split at e2
    · rename_i z
      cases e2
      exact ⟨j, rfl, of_decide_eq_true z, q⟩
    · cases e2) (wo_bind q)
theorem qi_r2 {ta : TA} {a : FR} (h : Par T C ta (we X a)) : Pi T C (iRng2 ta) (we X (iRng rng2 a)) := (pi_r2 h).wk fun ρ Q q => wo_mono (fun rs ρ1 q => by
  obtain ⟨xs, ys, e1, e2, q⟩ := apI_of q
  refine rdL_of e1 ?_
  match xs, e2 with
  | [.int i, .int j], e2 =>
    have e2 : (if decide (-(2 ^ 62) ≤ i ∧ i < 2 ^ 62 ∧ -(2 ^ 62) ≤ j ∧ j < 2 ^ 62) = true then some (intsFrom i (j - i).toNat) else none) = some ys := e2
    split at e2
    · rename_i z
      cases e2
      exact ⟨i, j, rfl, of_decide_eq_true z, q⟩
    · cases e2) (wo_bind q)
/-! ### list comprehensions -/
def gOt {α : Type} (k : En → Ot α) : Option En → Ot α
  | some ρ => k ρ
  | none => .no
def Ot.nox {α : Type} : Ot α → Ot α
  | .ok a ρ => .ok a ρ
  | _ => .no
/-- within it nothing may end by an exception -/
def noX : Xw := fun _ _ => False
theorem wo_nox {α : Type} {Q : α → En → Prop} {o : Ot α} (h : wo X Q o.nox) : wo noX Q o := by
  cases o <;> exact h
def comp (g : FG) (t : FT) (e : FE) (ρ0 : En) : List D → List D → List M → Ot (List D)
  | [], acc, μ => .ok acc (ρ0.wm μ)
  | x :: xs, acc, μ => gOt (fun ρ1 => (t ρ1).nox.bind fun b ρ2 => if b = true then (e ρ2).nox.bind fun r ρ3 => (opt (escF r ρ3) ρ3).bind fun p _ => if szB (acc.length + 1) = true then comp g t e ρ0 xs (acc ++ [p.1]) p.2.μ else .no
    else comp g t e ρ0 xs acc ρ2.μ) (g x (ρ0.wm μ))
def fLc (i : FI) (g : FG) (t : FT) (e : FE) (vs : List Nat) : FE := fun ρ => (i ρ).bind fun xs ρ1 => (comp g t e (ρ1.wipe vs) xs [] ρ1.μ).bind fun acc ρ2 => .ok (.n (.l acc)) (ρ1.wm ρ2.μ)
theorem comp_of {g : FG} {t : FT} {e : FE} {ρ0 : En} {K : List D → List M → Prop} : ∀ {xs acc : List D} {μ : List M}, wo X (fun acc ρ => K acc ρ.μ) (comp g t e ρ0 xs acc μ) → wComp (wg g) (we noX t) (we noX e) ρ0 K xs acc μ
  | [], _, _, h => h
  | x :: xs, acc, μ, h => by
    unfold comp at h
    cases e1 : g x (ρ0.wm μ) with
    | none => rw [e1] at h; exact h.elim
    | some ρ1 =>
      rw [e1] at h
      refine ⟨ρ1, e1, wo_mono (fun b ρ2 q => ?_) (wo_nox (wo_bind h))⟩
      cases b with
      | false => exact comp_of q
      | true =>
        rw [if_pos rfl] at q
        rw [if_pos rfl]
        refine wo_mono (fun r ρ3 q => ?_) (wo_nox (wo_bind q))
        obtain ⟨p, ep, q⟩ := wo_opt (wo_bind q)
        refine esc_of (x := p.1) (ρ1 := p.2) ep ?_
        obtain ⟨z, q⟩ := wo_if q
        exact ⟨z, comp_of q⟩
def tY : FT := fun ρ => .ok true ρ
theorem qt_yes : Pt T C tYes (we X fun ρ => .ok true ρ) := pt_yes
theorem q_lc {wi : TI} {tg : TG} {tt : TT} {te : TE} {i : FI} {g : FG} {t : FT} {a : FE} {js vs : List Nat} (hi : Pi T C wi (we X i)) (hg : Pg T C js tg (wg g)) (ht : Pt T C tt (we noX t)) (he : Pe T C te (we noX a)) (hj : ∀ j, j ∈ js → j ∈ vs) : Pe T C (tLc wi tg tt te vs) (we X (fLc i g t a vs)) := (pe_lcD hi hg ht he hj).wk fun ρ Q q =>
  wo_mono (fun xs ρ1 q => comp_of (wo_bind q)) (wo_bind q)
/-! ### made data -/
/-- a result that is data from now on -/
def fFz (a : FE) : FE := fun ρ => (a ρ).bind fun r ρ1 => (opt (escF r ρ1) ρ1).bind fun p _ => .ok (.d p.1) p.2
theorem q_fz {te : TE} {a : FE} (h : Pe T C te (we X a)) : Pe T C te (we X (fFz a)) := fun W σ H ρ Q K e q k =>
  h W σ H ρ (fun r ρ1 => wo X Q ((opt (escF r ρ1) ρ1).bind fun p _ => .ok (.d p.1) p.2)) K e (wo_bind q) fun v H1 W1 r ρ1 P R q1 => by
    obtain ⟨p, ep, q⟩ := wo_opt (wo_bind q1)
    obtain ⟨W2, x, ρ2, P2, S2, q2⟩ := esc_ok (k := fun x ρ => Q (.d x) ρ) e P R (esc_of (x := p.1) (ρ1 := p.2) ep q)
    exact k _ _ _ _ _ P2 (.d S2) q2
end
/-! ### a def -/
inductive OtD where
  | ok (r : RV) (μ : List M)
  | ex (x : D) (μ : List M)
  | no
def endD : Fl → OtD
  | .nx ρ => if closedB ρ.k (ρ.μ.take ρ.k) = true then .ok (.d .non) (ρ.μ.take ρ.k) else .no
  | .rt r μ => .ok r μ
  | .ex x ρ => if closedB ρ.k (ρ.μ.take ρ.k) = true then .ex x (ρ.μ.take ρ.k) else .no
  | _ => .no
abbrev FD := List C1 → List M → OtD
/-- n slots, m parameters -/
def runD (n m : Nat) (b : FS) : FD := fun cs μ => if cs.length = m then endD (b ⟨st0 (n - m) cs, μ, μ.length⟩) else .no
def wd (K : RV → List M → Prop) (X : D → List M → Prop) : OtD → Prop
  | .ok r μ => K r μ
  | .ex x μ => X x μ
  | .no => False
def RF (F : FD) : RD := fun cs μ K X => wd K X (F cs μ)
/-- what is wanted of an exception that leaves the def -/
def xD (XD : D → List M → Prop) : Xw := fun x ρ => closedB ρ.k (ρ.μ.take ρ.k) = true ∧ XD x (ρ.μ.take ρ.k)
theorem run_of {n m : Nat} {b : FS} {cs : List C1} {μ : List M} {K : RV → List M → Prop} {XD : D → List M → Prop} (h : RF (runD n m b) cs μ K XD) : cs.length = m ∧ ws (xD XD) b (bodyE K) ⟨st0 (n - m) cs, μ, μ.length⟩ := by
  have h : wd K XD (if cs.length = m then endD (b ⟨st0 (n - m) cs, μ, μ.length⟩) else .no) := h
  split at h
  · rename_i z
    refine ⟨z, ?_⟩
    show wl (xD XD) (bodyE K) (b ⟨st0 (n - m) cs, μ, μ.length⟩)
    cases e : b ⟨st0 (n - m) cs, μ, μ.length⟩ with
    | nx ρ =>
      rw [e] at h
      have h : wd K XD (if closedB ρ.k (ρ.μ.take ρ.k) = true then .ok (.d .non) (ρ.μ.take ρ.k) else .no) := h
      split at h
      · rename_i y
        exact ⟨y, h⟩
      · exact h.elim
    | rt r μ => rw [e] at h; exact h
    | ex x ρ =>
      rw [e] at h
      have h : wd K XD (if closedB ρ.k (ρ.μ.take ρ.k) = true then .ex x (ρ.μ.take ρ.k) else .no) := h
      split at h
      · rename_i y
        exact ⟨y, h⟩
      · exact h.elim
    | bk ρ => rw [e] at h; exact h.elim
    | ct ρ => rw [e] at h; exact h.elim
    | no => rw [e] at h; exact h.elim
  · exact h.elim
end Sd

set_option maxHeartbeats 1000000
/-! P2: defs, methods, classes called; keywords, defaults; what they raise is wished for at the caller's slots. -/
namespace L2
open PySem PySem.Spec PyProof.Rows
/-- where a parameter's value comes from: by place, a default, by name -/
inductive Src where
  | a (i : Nat)
  | d (i : Nat)
  | k (i : Nat)
def Src.get {α : Type} (us ds ws : List α) : Src → Option α
  | .a i => us[i]?
  | .d i => ds[i]?
  | .k i => ws[i]?
def sel {α : Type} (us ds ws : List α) : List Src → List α
  | [] => []
  | s :: ss => match s.get us ds ws with
    | some x => x :: sel us ds ws ss
    | none => sel us ds ws ss
theorem Vals.at {vs : List V} {us : List Value} (r : Vals vs us) (i : Nat) : (vs[i]? = none ∧ us[i]? = none) ∨ ∃ v u, vs[i]? = some v ∧ us[i]? = some u ∧ RelV v u := by
  induction r generalizing i with
  | nil => exact Or.inl ⟨rfl, rfl⟩
  | @cons v u vs us h _ ih =>
    cases i with
    | zero => exact .inr ⟨v, u, rfl, rfl, h⟩
    | succ i => simpa using ih i
theorem Src.rel {vs ds zs : List V} {us es ws : List Value} (r1 : Vals vs us) (r2 : Vals ds es) (r3 : Vals zs ws) (s : Src) : (s.get vs ds zs = none ∧ s.get us es ws = none) ∨ ∃ v u, s.get vs ds zs = some v ∧ s.get us es ws = some u ∧ RelV v u := by
  cases s with
  | a i => exact r1.at i
  | d i => exact r2.at i
  | k i => exact r3.at i
theorem sel_vals {vs ds zs : List V} {us es ws : List Value} (r1 : Vals vs us) (r2 : Vals ds es) (r3 : Vals zs ws) : ∀ src : List Src, Vals (sel vs ds zs src) (sel us es ws src)
  | [] => .nil
  | s :: ss => by
    unfold sel
    rcases s.rel r1 r2 r3 with ⟨e1, e2⟩ | ⟨v, u, e1, e2, h⟩
    · rw [e1, e2]
      exact sel_vals r1 r2 r3 ss
    · rw [e1, e2]
      exact .cons h (sel_vals r1 r2 r3 ss)
/-- how a call with n values by place and the names ks binds; dV: the defaults -/
def KB (K : PySem.W.Frag) (fd : FuncData) (ps : List Str) (n : Nat) (ks : List Str) (src : List Src) (dV : List V) : Prop :=
  ∃ du : List Value, Vals dV du ∧ ∀ (s : Shared) (us ws : List Value), K.In s.heap → us.length = n → ws.length = ks.length → BindsTo s fd ⟨us, ks.zip ws⟩ (ps.zip (sel us du ws src))
/-- the def at f, called so -/
structure FnX (P : Program) (w : World) (K : PySem.W.Frag) (mg : Str → Option Value) (base : Heap) (k : Nat) (f : Addr) (n : Nat) (ks : List Str) (src : List Src) (dV : List V) (sp : Sp) : Prop where
  ex : ∃ (fd : FuncData) (ps : List Str), FnG P w K mg base (L2.CX P w) k f fd ps sp ∧ KB K fd ps n ks src dV
  (kp : PySem.W.keepIn K (.ref f) = true)
theorem NoG.in1 {A : Around} (h : NoG A) : NoG A.in1 := h
theorem NoG.make {A : Around} (h : NoG A) (C : Addr) (us : List Value) (kw : List (Str × Value)) : NoG (A.under (.builtin "type.__call__" ⟨.ref C :: us, kw⟩)) := by
  have h : A.guards = some [] := h
  show (A.under (.builtin "type.__call__" ⟨.ref C :: us, kw⟩)).guards = some []
  first | exact h | simpa [Around.under, Code.isGuard, guardIds] using h
section
variable {X : Cx} {k n : Nat} {f C p₀ : Addr} {ks : List Str} {src : List Src} {dV : List V} {sp : Sp} {W : WX} {x m : Str} {p pos apos : Pos} {e o : Expr} {es : List Expr} {kws : List Keyword} {ta : TE} {t tk : TA}
def tCX (n m : Nat) (sp : Sp) (src : List Src) (dV : List V) (W : WX) (t tk : TA) : TE := fun σ H Q => t σ H fun vs H1 => tk σ H1 fun zs H2 => vs.length = n ∧ zs.length = m ∧ sp (sel vs dV zs src) H2 Q (WE W σ)
theorem run_gX {pins : List (Addr × Obj)} {σ : St} {H : Hp} {s : Shared} {Q : VK} {us ws : List Value} {vs zs : List V} (F : FnX X.prog X.w X.K X.mg X.base k f n ks src dV sp) (hr : Room k X.A) (hG : NoG X.A) (tk : Takes X W)
    (I : Inv X pins σ H s) (r : Vals vs us) (rz : Vals zs ws) (l1 : vs.length = n) (l2 : zs.length = ks.length) (h : sp (sel vs dV zs src) H Q (WE W σ)) : wpAny (model X.prog X.w) X.A (call (.ref f) us (ks.zip ws)) (EP X pins σ Q) X.xe s := by
  obtain ⟨fd, ps, F1, du, rd, hb⟩ := F.ex
  have r2 := sel_vals r rd rz src
  refine wpAny_call (codeAny_mono (F1.go X.A X.stack s H ⟨us, ks.zip ws⟩ (sel us du ws src) (sel vs dV zs src) Q (WE W σ) hr hG I.env0 (hb s us ws I.kIn (r.length.symm.trans l1) (rz.length.symm.trans l2)) r2 h) fun r s' hq => ?_)
  match r, hq with
  | .error e, hq => exact passAt tk σ pins H s e s' I hq
  | .ok (.ret u), hq => exact I.after hq
/-- f(e, .., k = v, ..) -/
theorem pe_cX (F : FnX X.prog X.w X.K X.mg X.base k f n ks src dV sp) (hr : Room k X.A) (hG : NoG X.A) (tw : Takes X W) (hg : Gl X x) (hm : X.mg x = some (.ref f)) (ha : PA X (e :: es) t) (hkw : PK X kws tk)
    (hall : (backToKw pos (keywordEach kws X.env)).all (·.1.isSome) = true := by rfl) (hks : (backToKw pos (keywordEach kws X.env)).filterMap (·.1) = ks := by rfl) (hdb : (x == ("__debug__" : Str)) = false := by decide) (he : starEach (e :: es) X.env = (false, eval e X.env) :: starEach es X.env := by rfl) (hpl : ((backTo pos (starEach (e :: es) X.env)).any (·.1) || (backToKw pos (keywordEach kws X.env)).any (·.1.isNone)) = false := by rfl) :
    PE X (.Call (.Name x p) (e :: es) kws pos) (tCX n ks.length sp src dV W t tk) := by
  refine ⟨fun pins s σ H Q I h => ?_⟩; refine wpAny_Call_Name_kw (ld_glob I hg hm ?_ hdb)
  refine PySem.W.callWith_KW (h₀ := X.base) I.ok.mod.kin F.kp hall (thn (ha.run pos pins s σ H _ I h) fun us s1 ⟨vs, H1, I1, r, q⟩ => ?_) hpl he
  refine thn (hkw.run pos pins s1 σ H1 _ I1 q) fun ws s2 ⟨zs, H2, I2, rz, l1, l2, q2⟩ => ⟨I2.kIn, ?_⟩; rw [hks]
  exact run_gX F hr hG tw I2 r rz l1 l2 q2
theorem pe_cX0 (F : FnX X.prog X.w X.K X.mg X.base k f 0 ks src dV sp) (hr : Room k X.A) (hG : NoG X.A) (tw : Takes X W) (hg : Gl X x) (hm : X.mg x = some (.ref f)) (hkw : PK X kws tk)
    (hall : (backToKw pos (keywordEach kws X.env)).all (·.1.isSome) = true := by rfl) (hks : (backToKw pos (keywordEach kws X.env)).filterMap (·.1) = ks := by rfl)
    (hdb : (x == ("__debug__" : Str)) = false := by decide) (hpl : ((backTo pos (starEach [] X.env)).any (·.1) || (backToKw pos (keywordEach kws X.env)).any (·.1.isNone)) = false := by rfl) :
    PE X (.Call (.Name x p) [] kws pos) (tCX 0 ks.length sp src dV W tNil tk) := by
  refine ⟨fun pins s σ H Q I h => ?_⟩; refine wpAny_Call_Name_kw (ld_glob I hg hm ?_ hdb)
  refine PySem.W.callWith_KW0 (h₀ := X.base) I.ok.mod.kin F.kp hall ?_ hpl
  refine thn (hkw.run pos pins s σ H _ I h) fun ws s2 ⟨zs, H2, I2, rz, l1, l2, q2⟩ => ⟨I2.kIn, ?_⟩; rw [hks]
  exact run_gX (us := []) (vs := []) F hr hG tw I2 .nil rz l1 l2 q2
/-- o.m(e, .., k = v, ..), o an instance of the class at C; self is the first value by place -/
def tMX (C : Addr) (m : Str) (n j : Nat) (sp : Sp) (src : List Src) (dV : List V) (W : WX) (ta : TE) (t tk : TA) : TE := fun σ H Q => ta σ H fun x H1 => ∃ a dx fs, x = .ref a ∧ H1 a = some (.ins C dx fs) ∧ fs.lookup m = none ∧
  t σ H1 fun vs H2 => tk σ H2 fun zs H3 => (x :: vs).length = n ∧ zs.length = j ∧ sp (sel (x :: vs) dV zs src) H3 Q (WE W σ)
theorem pe_mX {pl : Sem Bool} (he : PE X o ta) (c : Cls X.K C) (hm : Meth X.K C m f) (F : FnX X.prog X.w X.K X.mg X.base k f n ks src dV sp) (hr : Room k X.A) (hG : NoG X.A) (tw : Takes X W) (ha : PA X (e :: es) t) (hkw : PK X kws tk)
    (hall : (backToKw pos (keywordEach kws X.env)).all (·.1.isSome) = true := by rfl) (hks : (backToKw pos (keywordEach kws X.env)).filterMap (·.1) = ks := by rfl)
    (hst : starEach (e :: es) X.env = (false, eval e X.env) :: starEach es X.env := by rfl) (hpl : ((backTo pos (starEach (e :: es) X.env)).any (·.1) || (backToKw pos (keywordEach kws X.env)).any (·.1.isNone)) = false := by rfl)
    (ht : eval (.Call (.Attribute o m apos) (e :: es) kws pos) X.env = (do
      let ov ← eval o X.env
      standAt apos.atName
      let (fn, own) ← holding [ov] (getMethod ov m pl)
      callWith pos fn own (backTo pos (starEach (e :: es) X.env)) (backToKw pos (keywordEach kws X.env))) := by rfl) :
    PE X (.Call (.Attribute o m apos) (e :: es) kws pos) (tMX C m n ks.length sp src dV W ta t tk) := by
  refine ⟨fun pins s σ H Q I h => ?_⟩; refine PySem.W.methodCall_KW (pl := pl) (thn (he.run pins s σ H _ I h) fun u s1 ⟨x, H1, I1, rx, a, dx, fs, ex, ea, l, q⟩ => ?_) ht
  subst ex
  obtain rfl : u = Value.ref a := rx; refine getmeth_ok I1 ea c hm l ?_
  refine PySem.W.callWith_KW (first := [.ref a]) (h₀ := X.base) I.ok.mod.kin hm.kp hall (thn (ha.run pos pins s1 σ H1 _ I1 q) fun us s2 ⟨vs, H2, I2, r, q2⟩ => ?_) hpl hst
  refine thn (hkw.run pos pins s2 σ H2 _ I2 q2) fun ws s3 ⟨zs, H3, I3, rz, l1, l2, q3⟩ => ⟨I3.kIn, ?_⟩
  rw [hks]
  exact run_gX (us := .ref a :: us) (vs := .ref a :: vs) F hr hG tw I3 (.cons rfl r) rz l1 l2 q3
theorem pe_mX0 {pl : Sem Bool} (he : PE X o ta) (c : Cls X.K C) (hm : Meth X.K C m f) (F : FnX X.prog X.w X.K X.mg X.base k f n ks src dV sp) (hr : Room k X.A) (hG : NoG X.A) (tw : Takes X W) (hkw : PK X kws tk)
    (hall : (backToKw pos (keywordEach kws X.env)).all (·.1.isSome) = true := by rfl) (hks : (backToKw pos (keywordEach kws X.env)).filterMap (·.1) = ks := by rfl)
    (hpl : ((backTo pos (starEach [] X.env)).any (·.1) || (backToKw pos (keywordEach kws X.env)).any (·.1.isNone)) = false := by rfl)
    (ht : eval (.Call (.Attribute o m apos) [] kws pos) X.env = (do
      let ov ← eval o X.env
      standAt apos.atName
      let (fn, own) ← holding [ov] (getMethod ov m pl)
      callWith pos fn own (backTo pos (starEach [] X.env)) (backToKw pos (keywordEach kws X.env))) := by rfl) :
    PE X (.Call (.Attribute o m apos) [] kws pos) (tMX C m n ks.length sp src dV W ta tNil tk) := by
  refine ⟨fun pins s σ H Q I h => ?_⟩; refine PySem.W.methodCall_KW (pl := pl) (thn (he.run pins s σ H _ I h) fun u s1 ⟨x, H1, I1, rx, a, dx, fs, ex, ea, l, q⟩ => ?_) ht
  subst ex
  obtain rfl : u = Value.ref a := rx; refine getmeth_ok I1 ea c hm l ?_
  refine PySem.W.callWith_KW0 (first := [.ref a]) (h₀ := X.base) I.ok.mod.kin hm.kp hall ?_ hpl
  refine thn (hkw.run pos pins s1 σ H1 _ I1 q) fun ws s3 ⟨zs, H3, I3, rz, l1, l2, q3⟩ => ⟨I3.kIn, ?_⟩
  rw [hks]
  exact run_gX (us := [.ref a]) (vs := [.ref a]) F hr hG tw I3 (.cons rfl .nil) rz l1 l2 q3
/-- C(e, .., k = v, ..): a new instance and its dict, then __init__ -/
def tKX (C : Addr) (n j : Nat) (sp : Sp) (src : List Src) (dV : List V) (W : WX) (t tk : TA) : TE := fun σ H Q => t σ H fun vs H1 => tk σ H1 fun zs H2 => vs.length + 1 = n ∧ zs.length = j ∧ ∀ x dx, H2 x = none → H2 dx = none → dx ≠ x →
  sp (sel (.ref x :: vs) dV zs src) (upd (upd H2 dx (.own x)) x (.ins C dx [])) (fun v H3 => v = .non ∧ Q (.ref x) H3) (WE W σ)
theorem run_kX {pins : List (Addr × Obj)} {σ : St} {H : Hp} {s : Shared} {Q : VK} {us ws : List Value} {vs zs : List V} (M : Mk X.K C f) (F : FnX X.prog X.w X.K X.mg X.base k f n ks src dV sp) (hr : Room (k + 1) X.A) (hG : NoG X.A) (tw : Takes X W)
    (I : Inv X pins σ H s) (r : Vals vs us) (rz : Vals zs ws) (l1 : vs.length + 1 = n) (l2 : zs.length = ks.length)
    (h : ∀ x dx, H x = none → H dx = none → dx ≠ x → sp (sel (.ref x :: vs) dV zs src) (upd (upd H dx (.own x)) x (.ins C dx [])) (fun v H2 => v = .non ∧ Q (.ref x) H2) (WE W σ)) : wpAny (model X.prog X.w) X.A (call (.ref C) us (ks.zip ws)) (EP X pins σ Q) X.xe s := by
  have hq := h (s.heap.objs.size + 1) s.heap.objs.size (I.hok.fresh (Nat.le_succ _)) (I.hok.fresh (Nat.le_refl _)) (Nat.ne_of_lt (Nat.lt_succ_self _)); have I2 := Inv.made (C := C) I
  obtain ⟨fd, ps, F1, du, rd, hb⟩ := F.ex
  have r1 : Vals (V.ref (s.heap.objs.size + 1) :: vs) (Value.ref (s.heap.objs.size + 1) :: us) := .cons rfl r; have r2 := sel_vals r1 rd rz src
  have n1 : (Value.ref (s.heap.objs.size + 1) :: us).length = n := by
    rw [List.length_cons, ← (show vs.length = us.length from r.length), l1]
  refine wpAny_call (make_map (f := f) I.kIn M.makes M.init (beq_iff_eq.mp M.fn) (codeAny_mono (F1.go _ X.stack _ _ ⟨Value.ref (s.heap.objs.size + 1) :: us, ks.zip ws⟩ (sel (Value.ref (s.heap.objs.size + 1) :: us) du ws src) _ _ (WE W σ) (hr.make C us (ks.zip ws)) (hG.make C us (ks.zip ws))
    (I2.env0.make C us (ks.zip ws)) (hb _ (Value.ref (s.heap.objs.size + 1) :: us) ws I2.kIn n1 (rz.length.symm.trans l2)) r2 hq) fun r s' hq' => ?_))
  match r, hq' with
  | .error e, hq' => exact passAt tw σ pins _ _ e s' I2 hq'
  | .ok (.ret u), hq' =>
    obtain ⟨v, H', I3, rv, ev, q3⟩ := I2.after hq'; subst ev; exact ⟨rv, ⟨V.ref (s.heap.objs.size + 1), H', I3, rfl, q3⟩⟩
theorem pe_kX (M : Mk X.K C f) (F : FnX X.prog X.w X.K X.mg X.base k f n ks src dV sp) (hr : Room (k + 1) X.A) (hG : NoG X.A) (tw : Takes X W) (hg : Gl X x) (hm : X.mg x = some (.ref C)) (ha : PA X (e :: es) t) (hkw : PK X kws tk) (hall : (backToKw pos (keywordEach kws X.env)).all (·.1.isSome) = true := by rfl) (hks : (backToKw pos (keywordEach kws X.env)).filterMap (·.1) = ks := by rfl) (hdb : (x == ("__debug__" : Str)) = false := by decide) (he : starEach (e :: es) X.env = (false, eval e X.env) :: starEach es X.env := by rfl) (hpl : ((backTo pos (starEach (e :: es) X.env)).any (·.1) || (backToKw pos (keywordEach kws X.env)).any (·.1.isNone)) = false := by rfl) :
    PE X (.Call (.Name x p) (e :: es) kws pos) (tKX C n ks.length sp src dV W t tk) := by
  refine ⟨fun pins s σ H Q I h => ?_⟩; refine wpAny_Call_Name_kw (ld_glob I hg hm ?_ hdb)
  refine PySem.W.callWith_KW (h₀ := X.base) I.ok.mod.kin M.kp hall (thn (ha.run pos pins s σ H _ I h) fun us s1 ⟨vs, H1, I1, r, q⟩ => ?_) hpl he; refine thn (hkw.run pos pins s1 σ H1 _ I1 q) fun ws s2 ⟨zs, H2, I2, rz, l1, l2, q2⟩ => ⟨I2.kIn, ?_⟩
  rw [hks]
  exact run_kX M F hr hG tw I2 r rz l1 l2 q2
theorem pe_kX0 (M : Mk X.K C f) (F : FnX X.prog X.w X.K X.mg X.base k f n ks src dV sp) (hr : Room (k + 1) X.A) (hG : NoG X.A) (tw : Takes X W) (hg : Gl X x) (hm : X.mg x = some (.ref C)) (hkw : PK X kws tk) (hall : (backToKw pos (keywordEach kws X.env)).all (·.1.isSome) = true := by rfl) (hks : (backToKw pos (keywordEach kws X.env)).filterMap (·.1) = ks := by rfl) (hdb : (x == ("__debug__" : Str)) = false := by decide) (hpl : ((backTo pos (starEach [] X.env)).any (·.1) || (backToKw pos (keywordEach kws X.env)).any (·.1.isNone)) = false := by rfl) :
    PE X (.Call (.Name x p) [] kws pos) (tKX C n ks.length sp src dV W tNil tk) := by
  refine ⟨fun pins s σ H Q I h => ?_⟩; refine wpAny_Call_Name_kw (ld_glob I hg hm ?_ hdb)
  refine PySem.W.callWith_KW0 (h₀ := X.base) I.ok.mod.kin M.kp hall ?_ hpl; refine thn (hkw.run pos pins s σ H _ I h) fun ws s2 ⟨zs, H2, I2, rz, l1, l2, q2⟩ => ⟨I2.kIn, ?_⟩
  rw [hks]
  exact run_kX (us := []) (vs := []) M F hr hG tw I2 .nil rz l1 l2 q2
/-- e.f, a property -/
def tPX (C : Addr) (sp : Sp) (W : WX) (ta : TE) : TE := fun σ H Q => ta σ H fun x H1 => ∃ a dx fs, x = .ref a ∧ H1 a = some (.ins C dx fs) ∧ sp [.ref a] H1 Q fun _ _ _ => False
theorem pe_pX {g : Addr} {name : Str} (he : PE X e ta) (c : Cls X.K C) (hp : PropOf X.K C name p₀ g) (F : FnX X.prog X.w X.K X.mg X.base k g 1 [] [.a 0] [] sp) (hr : Room (k + 1) X.A) (hG : NoG X.A) 
    (hab : attributeBase e name X.env (eval e X.env) = eval e X.env := by rfl) : PE X (.Attribute e name pos) (tPX C sp W ta) := by
  refine ⟨fun pins s σ H Q I h => ?_⟩; refine attr_of hab (thn (he.run pins s σ H _ I h) fun u s1 ⟨x, H1, I1, rx, a, dx, fs, ex, ea, q⟩ => ?_)
  subst ex
  obtain rfl : u = Value.ref a := rx; obtain ⟨mA, O, _, _, _, _⟩ := ins_get I1.hok ea
  obtain ⟨od, J, _⟩ := O.look
  obtain ⟨rest, hrec⟩ := hp.rec_; have I2 := I1.tok (s1.toks + 1); have hc : (PySem.W.clsIn X.K C).isSome = true := by
    obtain ⟨cd, hc, _⟩ := PySem.W.any_some c.hd; rw [hc]
    rfl
  obtain ⟨fd, ps, F1, du, rd, hb⟩ := F.ex
  refine PySem.W.get_bind I1.kIn J (PySem.W.plainGet_of (c.get name)).1 (PySem.W.findObj_data hc hp.at_ hp.get hp.tak) (PySem.W.plainGet_of (c.get name)).2 (wpAny_call (PySem.W.prop_get (s := { s1 with toks := s1.toks + 1 }) I1.kIn hrec ?_))
  have b := hb { s1 with toks := s1.toks + 1 } [.ref a] [] I2.kIn rfl rfl
  refine codeAny_mono (F1.go X.A.in1 X.stack { s1 with toks := s1.toks + 1 } H1 ⟨[.ref a], []⟩ [.ref a] [.ref a] Q (fun _ _ _ => False) hr.in1 hG.in1 I2.env0.in1 b (.cons rfl .nil) q) fun r s' hq => ?_
  match r, hq with
  | .error er, hq =>
    obtain ⟨_, _, _, _, _, _, _, _, _, _, _, _, z⟩ := (show L2.CX X.prog X.w X.stack H1 _ (fun _ _ _ => False) er s' from hq)
    exact z.elim
  | .ok (.ret u), hq =>
    obtain ⟨v, H', I3, rv, q3⟩ := I2.after hq
    show wpAny _ _ (handedOut u) _ _ _; rw [PySem.W.handedOut_of (handed_of rv)]; exact wpAny_pure ⟨v, H', I3, rv, q3⟩
end
end L2

set_option maxHeartbeats 1000000
/-! P3: calls as functions. -/
namespace Sd
open PySem PySem.Spec PyProof.Rows L2 LamX
/-- what is wanted of the data is what the layer wants of an exception, at the slots -/
def LinkW (T : Tab) (C : C0) (Wx : WX) (X : Xw) : Prop := ∀ (W : Wd) (σ : L2.St) (H : Hp) (ρ : En) (cls : Value) (d : Option Addr) (x : D), EnvOk T C W σ H ρ → XAt T (hide H W.A) cls d x → X x ρ → Wx cls d σ H
theorem linkW_of {T : Tab} {C : C0} {E : XK} {XD : D → List M → Prop} (l : Link T C E XD) : LinkW T C (fun cls d _ H => E cls d H) (xD XD) := fun W σ H ρ cls d x e h q => l W σ H ρ cls d x e h q.1 q.2
def callR (ls : List Nat) (ρ : En) : OtD → Ot RV
  | .ok r μ' => .ok (bkR ls r) (ρ.wm (wb ls ρ.μ ls μ'))
  | .ex x μ' => .ex x (ρ.wm (wb ls ρ.μ ls μ'))
  | .no => .no
def callF (F : FD) (cs : List C1) (ρ : En) : Ot RV :=
  if okL ρ.μ cs (lend ρ.μ cs) = true then callR (lend ρ.μ cs) ρ (F (cs.map (renC ρ.μ (lend ρ.μ cs))) (subM ρ.μ (lend ρ.μ cs))) else .no
section
variable {T : Tab} {C : C0} {X : Xw} {W W1 W2 : Wd} {σ : L2.St} {H H1 H2 : Hp} {ρ ρ1 ρ2 : En}
theorem sp_of {F : FD} {Wx : WX} {vs : List V} {cs : List C1} {Q : RV → En → Prop} {K : VK} (hz : T.cs.length ≤ 63) (lk : LinkW T C Wx X) (e : EnvOk T C W σ H ρ) (S : FAll T W.t (hide H W.A) vs cs) (q : wo X Q (callF F cs ρ))
    (k : ∀ v H' W' r ρ', Post T C W σ H ρ W' H' ρ' → RvOk T C H W' H' v r → Q r ρ' → K v H') : SpA T.K T.ca T.tb (RF F) vs H K (L2.WE Wx σ) := by
  obtain ⟨q0, q1⟩ := wo_if q
  refine ⟨T.cs, T.f0, hz, W.A, ltOf W.t (lend ρ.μ cs), _, _, fun r μ' => Q (bkR (lend ρ.μ cs) r) (ρ.wm (wb (lend ρ.μ cs) ρ.μ (lend ρ.μ cs) μ')), fun x μ' => X x (ρ.wm (wb (lend ρ.μ cs) ρ.μ (lend ρ.μ cs) μ')), pre_c e S q0, ?_, fun v H' A' r μ' p hr q2 => ?_, fun cls d H' A' x μ' p hx q2 => ?_⟩
  · show wd _ _ (F _ _)
    cases z : F (cs.map (renC ρ.μ (lend ρ.μ cs))) (subM ρ.μ (lend ρ.μ cs)) <;> rw [z] at q1 <;> exact q1
  · have P2 := e.called q0 p
    exact k _ _ _ _ _ P2 (e.result q0 hr) q2
  · have P2 := e.called q0 p
    exact lk _ _ _ _ _ _ _ P2.ok hx q2
theorem FAll.at {t : List Addr} {vs : List V} {cs : List C1} (r : FAll T t H vs cs) (i : Nat) : (vs[i]? = none ∧ cs[i]? = none) ∨ ∃ v c, vs[i]? = some v ∧ cs[i]? = some c ∧ FAt T t H v c := by
  induction r generalizing i with
  | nil => exact Or.inl ⟨rfl, rfl⟩
  | @cons v vs c cs h _ ih =>
    cases i with
    | zero => exact .inr ⟨v, c, rfl, rfl, h⟩
    | succ i => simpa using ih i
theorem src_fall {t : List Addr} {vs ds zs : List V} {us es ws : List C1} (r1 : FAll T t H vs us) (r2 : FAll T t H ds es) (r3 : FAll T t H zs ws) (s : Src) : (s.get vs ds zs = none ∧ s.get us es ws = none) ∨ ∃ v u, s.get vs ds zs = some v ∧ s.get us es ws = some u ∧ FAt T t H v u := by
  cases s with
  | a i => exact r1.at i
  | d i => exact r2.at i
  | k i => exact r3.at i
theorem sel_fall {t : List Addr} {vs ds zs : List V} {us es ws : List C1} (r1 : FAll T t H vs us) (r2 : FAll T t H ds es) (r3 : FAll T t H zs ws) : ∀ src : List Src, FAll T t H (sel vs ds zs src) (sel us es ws src)
  | [] => .nil
  | s :: ss => by
    unfold sel
    rcases src_fall r1 r2 r3 s with ⟨e1, e2⟩ | ⟨v, u, e1, e2, h⟩
    · rw [e1, e2]
      exact sel_fall r1 r2 r3 ss
    · rw [e1, e2]
      exact .cons h (sel_fall r1 r2 r3 ss)
def fCX (F : FD) (n j : Nat) (src : List Src) (dC : List C1) (fa fk : FC) : FE := fun ρ => (fa ρ).bind fun cs ρ1 => (fk ρ1).bind fun ks ρ2 => if (cs.length == n && ks.length == j) = true then callF F (sel cs dC ks src) ρ2 else .no
theorem q_cX {F : FD} {n j : Nat} {src : List Src} {dV : List V} {dC : List C1} {Wx : WX} {t tk : TA} {fa fk : FC} (hz : T.cs.length ≤ 63) (lk : LinkW T C Wx X) (hd : ∀ t H, FAll T t H dV dC) (ha : Pc T C t (we X fa)) (hk : Pc T C tk (we X fk)) :
    Pe T C (tCX n j (SpA T.K T.ca T.tb (RF F)) src dV Wx t tk) (we X (fCX F n j src dC fa fk)) := fun W σ H ρ Q K e q k =>
  ha W σ H ρ _ _ e (wo_bind q) fun vs H1 W1 cs ρ1 P1 S1 q1 => hk W1 σ H1 ρ1 _ _ P1.ok (wo_bind q1) fun zs H2 W2 ks ρ2 P2 S2 q2 => by
    obtain ⟨q0, q2⟩ := wo_if q2
    obtain ⟨l1, l2⟩ := Bool.and_eq_true_iff.mp q0
    have P := P1.trans P2
    refine ⟨S1.length.trans (beq_iff_eq.mp l1), S2.length.trans (beq_iff_eq.mp l2), ?_⟩
    exact sp_of hz lk P.ok (sel_fall (S1.mono (P2.ex P1.ok) P2.pre) (hd _ _) S2 src) q2 fun v H' W' r ρ' P3 R q3 => k _ _ _ _ _ (P.trans P3) (R.back P) q3
/-! ### objects of own classes -/
def insM (c m : Str) : Option M → Bool
  | some (.i c' ns _) => c' == c && !ns.contains m
  | some (.z (.ins c' ns _)) => c' == c && !ns.contains m
  | _ => false
/-- an instance of the class c without an own attribute m -/
def insB (c m : Str) (ρ : En) : C1 → Bool
  | .p (.ins c' ns _) => c' == c && !ns.contains m
  | .r l => insM c m ρ.μ[l]?
  | _ => false
theorem lookup_none {m : Str} : ∀ {fs : List (Str × V)}, (fs.map (·.1)).contains m = false → fs.lookup m = none
  | [], _ => rfl
  | (n, v) :: fs, h => by
    rw [List.map_cons, List.contains_cons] at h
    obtain ⟨h1, h2⟩ := Bool.or_eq_false_iff.mp h
    rw [List.lookup_cons, h1]
    exact lookup_none h2
theorem ins_of {c m : Str} {v : V} {x : C1} (e : EnvOk T C W σ H ρ) (h : FAt T W.t (hide H W.A) v x) (q : insB c m ρ x = true) : ∃ a dx fs, v = .ref a ∧ H a = some (.ins (T.ca c) dx fs) ∧ fs.lookup m = none := by
  have key : ∀ {a : Addr} {d : D}, At T (hide H W.A) (.ref a) d → insB c m ρ (.p d) = true → ∃ dx fs, H a = some (.ins (T.ca c) dx fs) ∧ fs.lookup m = none := fun {a d} g z => by
    cases g with
    | @ins a dx c' fs ds h1 h2 =>
      obtain ⟨z1, z2⟩ := Bool.and_eq_true_iff.mp z
      have z1 := beq_iff_eq.mp z1
      subst z1
      exact ⟨dx, fs, (hide_some h1).2, lookup_none (by simpa using z2)⟩
    | _ => cases z
  cases h with
  | fn => cases q
  | @p _ d h =>
    cases d with
    | ins c' ns ds =>
      have h0 := h
      cases h with
      | ins _ _ =>
        obtain ⟨dx, fs, h1, h2⟩ := key h0 q
        exact ⟨_, dx, fs, rfl, h1, h2⟩
    | _ => cases q
  | @r a l h =>
    have q : insM c m ρ.μ[l]? = true := q
    cases hm : ρ.μ[l]? with
    | none => rw [hm] at q; cases q
    | some y =>
      rw [hm] at q
      have hs := e.st l a y h hm
      cases y with
      | i c' ns gs =>
        obtain ⟨dx, fs, h1, h2, h3⟩ := hs
        obtain ⟨z1, z2⟩ := Bool.and_eq_true_iff.mp q
        have z1 := beq_iff_eq.mp z1
        subst z1 h2
        exact ⟨a, dx, fs, rfl, h1, lookup_none (by simpa using z2)⟩
      | z d =>
        cases d with
        | ins c' ns ds =>
          obtain ⟨dx, fs, h1, h2⟩ := key hs q
          exact ⟨a, dx, fs, rfl, h1, h2⟩
        | _ => cases q
      | _ => cases q
def fMX (c m : Str) (F : FD) (n j : Nat) (src : List Src) (dC : List C1) (fo : FE) (fa fk : FC) : FE := fun ρ => (fo ρ).bind fun r ρ1 => (opt (refO r) ρ1).bind fun x _ => if insB c m ρ1 x = true then
  (fa ρ1).bind fun cs ρ2 => (fk ρ2).bind fun ks ρ3 => if ((x :: cs).length == n && ks.length == j) = true then callF F (sel (x :: cs) dC ks src) ρ3 else .no else .no
theorem ref_fat {r : RV} {x : C1} {v : V} {Hs : Hp} (R : RvOk T C Hs W H v r) (h : refO r = some x) (nn : ∀ m, r ≠ .n m) : FAt T W.t (hide H W.A) v x := by
  cases R with
  | d g => cases h; exact .p g
  | r g => cases h; exact .r g
  | n _ _ _ _ _ _ _ => exact absurd rfl (nn _)
def refO' : RV → Option C1
  | .d x => some (.p x)
  | .n _ => none
  | .r l => some (.r l)
theorem ref_fat' {r : RV} {x : C1} {v : V} {Hs : Hp} (R : RvOk T C Hs W H v r) (h : refO' r = some x) : FAt T W.t (hide H W.A) v x := by
  cases R with
  | d g => cases h; exact .p g
  | r g => cases h; exact .r g
  | n _ _ _ _ _ _ _ => cases h
/-- the object, handed on as it is -/
def fSelf (fo : FE) (k : C1 → En → Ot RV) : FE := fun ρ => (fo ρ).bind fun r ρ1 => (opt (refO' r) ρ1).bind k
def fMth (c m : Str) (F : FD) (n j : Nat) (src : List Src) (dC : List C1) (fo : FE) (fa fk : FC) : FE := fSelf fo fun x ρ1 => if insB c m ρ1 x = true then
  (fa ρ1).bind fun cs ρ2 => (fk ρ2).bind fun ks ρ3 => if ((x :: cs).length == n && ks.length == j) = true then callF F (sel (x :: cs) dC ks src) ρ3 else .no else .no
theorem q_mX {c m : Str} {Ca : Addr} {F : FD} {n j : Nat} {src : List Src} {dV : List V} {dC : List C1} {Wx : WX} {ta : TE} {t tk : TA} {fo : FE} {fa fk : FC} (hz : T.cs.length ≤ 63) (lk : LinkW T C Wx X) (hc : T.ca c = Ca) (hd : ∀ t H, FAll T t H dV dC) (ho : Pe T C ta (we X fo)) (ha : Pc T C t (we X fa)) (hk : Pc T C tk (we X fk)) :
    Pe T C (tMX Ca m n j (SpA T.K T.ca T.tb (RF F)) src dV Wx ta t tk) (we X (fMth c m F n j src dC fo fa fk)) := fun W σ H ρ Q K e q k =>
  ho W σ H ρ _ _ e (wo_bind q) fun v H1 W1 r ρ1 P1 R q1 => by
    obtain ⟨x, ex, q1⟩ := wo_opt (wo_bind q1)
    obtain ⟨q0, q1⟩ := wo_if q1
    have Fx := ref_fat' R ex
    obtain ⟨a, dx, fs, rfl, h1, h2⟩ := ins_of P1.ok Fx q0
    rw [hc] at h1
    refine ⟨a, dx, fs, rfl, h1, h2, ?_⟩
    refine ha W1 σ H1 ρ1 _ _ P1.ok (wo_bind q1) fun vs H2 W2 cs ρ2 P2 S2 q2 => hk W2 σ H2 ρ2 _ _ P2.ok (wo_bind q2) fun zs H3 W3 ks ρ3 P3 S3 q3 => ?_
    obtain ⟨q0, q3⟩ := wo_if q3
    obtain ⟨l1, l2⟩ := Bool.and_eq_true_iff.mp q0
    have P23 := P2.trans P3
    have P := P1.trans P23
    have S12 : FAll T W3.t (hide H3 W3.A) (.ref a :: vs) (x :: cs) := .cons (Fx.mono (P23.ex P1.ok) P23.pre) (S2.mono (P3.ex P2.ok) P3.pre)
    refine ⟨S12.length.trans (beq_iff_eq.mp l1), S3.length.trans (beq_iff_eq.mp l2), ?_⟩
    exact sp_of hz lk P.ok (sel_fall S12 (hd _ _) S3 src) q3 fun v H' W' r ρ' P4 R q4 => k _ _ _ _ _ (P.trans P4) (R.back P) q4
def noneK (l : Nat) : RV → En → Ot RV
  | .d .non, ρ => .ok (.r l) ρ
  | _, _ => .no
theorem wo_noneK {l : Nat} {r : RV} {Q : RV → En → Prop} (h : wo X Q (noneK l r ρ)) : r = .d .non ∧ Q (.r l) ρ := by
  cases r with
  | d x => cases x with
    | non => exact ⟨rfl, h⟩
    | _ => exact h.elim
  | _ => exact h.elim
def fKX (c : Str) (F : FD) (n j : Nat) (src : List Src) (dC : List C1) (fa fk : FC) : FE := fun ρ => (fa ρ).bind fun cs ρ1 => (fk ρ1).bind fun ks ρ2 => if (cs.length + 1 == n && ks.length == j) = true then
  (callF F (sel (.r ρ2.μ.length :: cs) dC ks src) (ρ2.add (.i c [] []))).bind (noneK ρ2.μ.length) else .no
theorem q_kX {c : Str} {Ca : Addr} {F : FD} {n j : Nat} {src : List Src} {dV : List V} {dC : List C1} {Wx : WX} {t tk : TA} {fa fk : FC} (hz : T.cs.length ≤ 63) (lk : LinkW T C Wx X) (hc : T.ca c = Ca) (hd : ∀ t H, FAll T t H dV dC) (ha : Pc T C t (we X fa)) (hk : Pc T C tk (we X fk)) :
    Pe T C (tKX Ca n j (SpA T.K T.ca T.tb (RF F)) src dV Wx t tk) (we X (fKX c F n j src dC fa fk)) := fun W σ H ρ Q K e q k =>
  ha W σ H ρ _ _ e (wo_bind q) fun vs H1 W1 cs ρ1 P1 S1 q1 => hk W1 σ H1 ρ1 _ _ P1.ok (wo_bind q1) fun zs H2 W2 ks ρ2 P2 S2 q2 => by
    obtain ⟨q0, q2⟩ := wo_if q2
    obtain ⟨l1, l2⟩ := Bool.and_eq_true_iff.mp q0
    subst hc
    refine ⟨by rw [S1.length]; exact beq_iff_eq.mp l1, S2.length.trans (beq_iff_eq.mp l2), fun x dx hx hdx ne => ?_⟩
    have x1 : Ex H2 (upd H2 dx (.own x)) := Ex.new hdx
    have hx1 : upd H2 dx (.own x) x = none := by rw [upd_ne (Ne.symm ne)]; exact hx
    have x2 : Ex H2 (upd (upd H2 dx (.own x)) x (.ins (T.ca c) dx [])) := x1.trans (Ex.new hx1)
    obtain ⟨P3, hp⟩ := P2.ok.post_alloc (m := .i c [] []) (p := x) (H1 := upd (upd H2 dx (.own x)) x (.ins (T.ca c) dx [])) (show ∃ dx gs, _ ∧ _ from ⟨dx, [], upd_same, rfl, .nil⟩) rfl hx x2 (by rw [upd_same]; exact fun z => nomatch z)
    have S : FAll T (W2.t ++ [x]) (hide (upd (upd H2 dx (.own x)) x (.ins (T.ca c) dx [])) (x :: W2.A)) (sel (.ref x :: vs) dV zs src) (sel (.r ρ2.μ.length :: cs) dC ks src) :=
      sel_fall (.cons (.r hp) ((S1.mono (P2.ex P1.ok) P2.pre).mono (P3.ex P2.ok) P3.pre)) (hd _ _) (S2.mono (P3.ex P2.ok) P3.pre) src
    have P := (P1.trans P2).trans P3
    exact sp_of hz lk P3.ok S (wo_bind q2) fun v H' W' r ρ' P4 R q4 => by
      obtain ⟨er, q5⟩ := wo_noneK q4
      subst er
      cases R with
      | d h =>
        cases h
        exact ⟨rfl, k _ _ _ _ _ (P.trans P4) (.r (show _ = _ from P4.pre _ _ hp)) q5⟩
/-- a property -/
def fPX (c : Str) (F : FD) (fo : FE) : FE := fSelf fo fun x ρ1 => if insB c "" ρ1 x = true then (callF F [x] ρ1).nox else .no
theorem q_pX {c : Str} {Ca : Addr} {F : FD} {Wx : WX} {ta : TE} {fo : FE} (hz : T.cs.length ≤ 63) (hc : T.ca c = Ca) (ho : Pe T C ta (we X fo)) : Pe T C (tPX Ca (SpA T.K T.ca T.tb (RF F)) Wx ta) (we X (fPX c F fo)) := fun W σ H ρ Q K e q k =>
  ho W σ H ρ _ _ e (wo_bind q) fun v H1 W1 r ρ1 P1 R q1 => by
    obtain ⟨x, ex, q1⟩ := wo_opt (wo_bind q1)
    obtain ⟨q0, q1⟩ := wo_if q1
    have Fx := ref_fat' R ex
    obtain ⟨a, dx, fs, rfl, h1, h2⟩ := ins_of P1.ok Fx q0
    rw [hc] at h1
    refine ⟨a, dx, fs, rfl, h1, ?_⟩
    exact sp_of (X := noX) (Wx := fun _ _ _ _ => False) hz (fun _ _ _ _ _ _ _ _ _ z => z.elim) P1.ok (.cons Fx .nil) (wo_nox q1) fun v H' W' r ρ' P4 R q4 => k _ _ _ _ _ (P1.trans P4) (R.back P1) q4
end
end Sd

set_option maxHeartbeats 2000000
/-! P4: own exceptions raised; try .. except (A, B, ..) as e: x = e. -/
namespace PySem.W
open PySem PySem.Spec PySem.Calls PyProof.Rows
section variable {M : Model} {K : Frag}
theorem exm_loop1 {cls : Value} {A : Around} {E : Value → Shared → Prop} {S : Shared} {f : Value → PUnit → Sem (ForInStep PUnit)}
    (hf : ∀ c v, exmOne K cls c = some v → ∀ Q' : ForInStep PUnit → Shared → Prop, Q' (.yield ⟨⟩) S → wpAny M A (f c ⟨⟩) Q' E S) : ∀ (l : List Value) (b : Bool), exmAny K cls l = some b → ∀ Q' : PUnit → Shared → Prop, Q' ⟨⟩ S → wpAny M A (forIn l PUnit.unit f) Q' E S
  | [], _, _, Q', q => by
    simp only [List.forIn_nil]
    exact wpAny_pure q
  | c :: l, b, h, Q', q => by
    obtain ⟨b1, d1, x1, y1, _⟩ := exmAny_cons h
    simp only [List.forIn_cons]
    exact wpAny_bind (hf c b1 x1 _ (exm_loop1 hf l d1 y1 Q' q))
theorem exm_loop2 {cls : Value} {A : Around} {E : Value → Shared → Prop} {S : Shared} {f : Value → Option Bool × Unit → Sem (ForInStep (Option Bool × Unit))}
    (hf : ∀ c v, exmOne K cls c = some v → ∀ Q' : ForInStep (Option Bool × Unit) → Shared → Prop, Q' (if v = true then .done (some true, ()) else .yield (none, ())) S → wpAny M A (f c (none, ())) Q' E S) : ∀ (l : List Value) (b : Bool), exmAny K cls l = some b → ∀ Q' : Option Bool × Unit → Shared → Prop, Q' (if b = true then (some true, ()) else (none, ())) S → wpAny M A (forIn l (none, ()) f) Q' E S
  | [], b, h, Q', q => by
    have h : some false = some b := h
    cases h
    simp only [List.forIn_nil]
    exact wpAny_pure q
  | c :: l, b, h, Q', q => by
    obtain ⟨b1, d1, x1, y1, z1⟩ := exmAny_cons h
    subst z1
    simp only [List.forIn_cons]
    refine wpAny_bind (hf c b1 x1 _ ?_)
    cases b1 with
    | true => exact wpAny_pure q
    | false => exact exm_loop2 hf l d1 y1 Q' q
theorem exm_tupN {cs : List Value} {cls : Value} {tp e : Addr} {b : Bool} {h : Heap} (X : K.In h) (LT : Looks M h (typeOf (.ref e)) cls) (hp : h.get? tp = some { cls := .type "tuple", data := .seq cs.toArray }) (hx : exmAny K cls cs = some b) : Looks M h (excMatches (.ref e) (.ref tp)) b := by
  intro A Q E s k₀ q
  obtain ⟨hh, g, d, tk, os⟩ := s; have k : ∀ b o, h.get? b = some o → hh.get? b = some o := k₀
  have LT0 : Looks M h (isInstance (.ref tp) (.type "tuple")) true := ((Looks.ld hp).andThen .now).andThen (Looks.of_pure isSubtype_tuple_tuple); have LT := LT.keeps k
  have LT0 := LT0.keeps k
  have hp' := k _ _ hp
  unfold excMatches
  refine wpAny_bind (LT0.at ?_)
  dsimp only
  rw [if_pos rfl]
  first
    | refine wpAny_bind (wpAny_seqItems hp' (by rfl) ?_)
    | refine wpAny_bind (wpAny_bind (wpAny_seqItems hp' (by rfl) (wpAny_pure ?_)))
  dsimp only [Option.getD_some, Option.getD]; refine wpAny_bind (wpAny_pure (wpAny_bind (exm_loop1 (K := K) (cls := cls) (fun c v hv Q' q' => ?_) cs b hx _ ?_)))
  · obtain ⟨e1, _⟩ := exm_cls (M := M) X hv
    refine wpAny_bind ((e1.keeps k).at ?_)
    simp only [Bool.not_true, Bool.false_eq_true, if_false]; exact wpAny_pure q'
  · refine wpAny_bind (LT.at (wpAny_bind (exm_loop2 (K := K) (cls := cls) (fun c v hv Q' q' => ?_) cs b hx _ ?_)))
    · obtain ⟨_, S1⟩ := exm_cls (M := M) X hv
      refine wpAny_bind ((S1.keeps k).at ?_)
      cases v with
      | true =>
        rw [if_pos rfl] at q' ⊢
        exact wpAny_pure q'
      | false =>
        rw [if_neg Bool.false_ne_true] at q' ⊢
        exact wpAny_pure q'
    · cases b <;> exact wpAny_pure q
end
end PySem.W

namespace L2
open PySem PySem.Spec PyProof.Rows PySem.ExZ
/-! ### raised -/
section
variable {X : Cx} {C : Addr} {ns : List Str}
def tRX (C : Addr) (ns : List Str) (ta : TA) : St → Hp → XK → Prop := fun σ H Q => ta σ H fun vs H1 => vs.length = ns.length ∧ ∀ d, H1 d = none → Q (.ref C) (some d) (upd H1 d (.xd (ns.zip vs)))
theorem mkP_of {pins : List (Addr × Obj)} {σ : St} {H : Hp} {s : Shared} {Q : XK} {h' : Heap} {tk : Nat} {e d : Addr} {mA : Str → Option Value} {fs : List (Str × V)} (I : Inv X pins σ H s) (M : Made s.heap h' e C d mA) (r : ∀ f, RelO (fs.lookup f) (mA f)) (hR : Raises X (.ref C))
    (q : ∀ d, H d = none → Q (.ref C) (some d) (upd H d (.xd fs))) : MkP X pins σ Q (.ref e) { s with heap := h', toks := tk } := by
  obtain ⟨hp, gs, dr, t0, os⟩ := s
  obtain ⟨t1, hoe⟩ := M.obj
  obtain ⟨G, gIn, gOut⟩ := restrict h' fun b => !decide (b = e)
  have at_ : ∀ {b : Addr}, b ≠ e → G.get? b = h'.get? b := fun {b} hb => gIn b (by simp [hb])
  have Ge : G.get? e = none := gOut e (by simp)
  have up : ∀ b o, hp.get? b = some o → G.get? b = some o := fun b o z => by
    have lo : b < hp.objs.size := Heap.lt_size z
    have hi : hp.objs.size ≤ e := M.new
    rw [at_ (Nat.ne_of_lt (Nat.lt_of_lt_of_le lo hi))]
    exact M.stay b o z
  have od : ObjOk X.prog X.w (upd H d (.xd fs)) G d (.xd fs) := ⟨mA, M.ns.at (fun o z => (at_ M.dne).trans z), r⟩
  have J : Inv X pins σ (upd H d (.xd fs)) ⟨G, gs, dr, tk, os⟩ := I.laid (t' := tk) up M.dnew od
  have he : H e = none := I.hok.fresh M.new
  have hd : H d = none := I.hok.fresh M.dnew
  have back : ∀ b o, G.get? b = some o → h'.get? b = some o := fun b o z => by
    by_cases y : b = e
    · rw [y, Ge] at z
      cases z
    · rw [← at_ y]
      exact z
  exact ⟨e, _, _, ⟨G, gs, dr, tk, os⟩, upd H d (.xd fs), .ref C, some d, rfl, J, back, Ge, hoe, ⟨rfl, rfl⟩, rfl, rfl, (upd_ne (Ne.symm M.dne)).trans he, rfl, I.bare, hR, q d hd⟩
theorem pmk_X {x : Str} {e : Expr} {es : List Expr} {ta : TA} {p pos : Pos} {k : Nat} (M : MkX X.prog X.w X.K X.mg X.base C false ns) (hR : Raises X (.ref C)) (hr : Room k X.A) (hg : Gl X x) (hm : X.mg x = some (.ref C)) (ha : PA X (e :: es) ta)
    (hdb : (x == ("__debug__" : Str)) = false := by decide) (hst : starEach (e :: es) X.env = (false, eval e X.env) :: starEach es X.env := by rfl) (hnk : (backTo pos (starEach es X.env)).any (·.1) = false := by rfl) :
    PMk X (.Call (.Name x p) (e :: es) [] pos) (tRX C ns ta) := fun pins s σ H Q I h =>
  wpAny_Call_Name_kw (ld_glob I hg hm (PySem.W.callWith_K (h₀ := X.base) I.ok.mod.kin M.keeps (thn (ha.run pos pins s σ H _ I h) fun us s1 ⟨vs, H1, J, r, hl, q⟩ =>
    ⟨J.kIn, show wpAny _ _ (call (.ref C) us) _ _ _ from wpAny_call (M.run J.ok.mod X.A s1 _ us vs J.bk (by have := hr.dp; omega) r hl fun h' tk e d mA Md rr => mkP_of (tk := tk) J Md rr hR q)⟩) hst hnk) hdb)
/-- raise x(e, ..) -/
def tRaiseX (C : Addr) (ns : List Str) (W : WX) (ta : TA) : TS := fun _ σ H => tRX C ns ta σ H fun cls d H' => W cls d σ H'
theorem ps_raiseX {W : WX} {x : Str} {e : Expr} {es : List Expr} {ta : TA} {p pos pos' : Pos} {k : Nat} (hc : X.calm = true) (tw : Takes X W) (M : MkX X.prog X.w X.K X.mg X.base C false ns) (hR : Raises X (.ref C)) (hr : Room k X.A) (hg : Gl X x) (hm : X.mg x = some (.ref C)) (ha : PA X (e :: es) ta)
    (hdb : (x == ("__debug__" : Str)) = false := by decide) (hst : starEach (e :: es) X.env = (false, eval e X.env) :: starEach es X.env := by rfl) (hnk : (backTo pos (starEach es X.env)).any (·.1) = false := by rfl) :
    PS X (.Raise (some (.Call (.Name x p) (e :: es) [] pos)) none pos') (tRaiseX C ns W ta) := ps_raise hc tw (pmk_X M hR hr hg hm ha hdb hst hnk)
end
/-! ### the classes that a clause names -/
inductive CNs (X : Cx) : List Expr → List Value → Prop
  | nil : CNs X [] []
  | cons {x : Str} {c : Value} {np : Pos} {es : List Expr} {cs : List Value} : Names X x c → CNs X es cs → CNs X (.Name x np :: es) (c :: cs)
inductive CatchT (X : Cx) : Expr → List Value → Prop
  | one {x : Str} {c : Value} {np : Pos} : Names X x c → CatchT X (.Name x np) [c]
  | tup {es : List Expr} {cs : List Value} {k} {pos : Pos} : CNs X es cs → cs.length ≤ sizeLine → CatchT X (.Tuple es k pos) cs
section variable {X : Cx} {pins : List (Addr × Obj)} {σ : St} {H : Hp} {s : Shared}
theorem name_run {x : Str} {c : Value} {np : Pos} {E : Value → Shared → Prop} {Q : Value → Shared → Prop} (hc : Names X x c) (S : Inv X pins σ H s) (q : Q c s) : wpAny (model X.prog X.w) X.A (eval (.Name x np) X.env) Q E s := by
  obtain ⟨hg, hdb, hm | ⟨hm, hv, hn⟩⟩ := hc
  · exact ld_glob S hg hm q hdb
  · exact ld_blt S hg hm hv q hn hdb
theorem names_run {E : Value → Shared → Prop} {pos : Pos} (S : Inv X pins σ H s) : ∀ {es : List Expr} {cs : List Value}, CNs X es cs → ∀ {Q : List Value → Shared → Prop}, Q cs s → wpAny (model X.prog X.w) X.A (spliced (backTo pos (starEach es X.env))) Q E s
  | _, _, .nil, Q, q => Calls.spliced_nil q
  | _, _, @CNs.cons _ x c np es cs hc r, Q, q => by
    show wpAny _ _ (spliced ((false, eval (.Name x np) X.env) :: backTo pos (starEach es X.env))) _ _ s
    exact Calls.spliced_cons (name_run hc S (names_run S r q))
theorem flying_keepsZ {B h h' : Heap} {l : List Env} {e : Addr} {Z : Obj → Prop} (f : HandSPX.FlyingZ B l e Z h) (k : ∀ b o, h.get? b = some o → h'.get? b = some o) : HandSPX.FlyingZ B l e Z h' := by
  obtain ⟨f1, f2, f3, oe, vs, T, oT, ts, h1, h2, h3, h4, h5, h6, h7, h8, h9⟩ := f
  exact ⟨fun b o z => k b o (f1 b o z), f2, Heap.FunFrames.of_keeps (fun b o z _ => ⟨o, k b o z, rfl⟩) f3, oe, vs, T, oT, ts, k _ _ h1, h2, h3, h4, h5, h6, k _ _ h7, h8, h9⟩
/-- the clause's test -/
theorem catch_run {t : Expr} {cs : List Value} {a : Addr} {oe : Obj} {pn : List (Addr × Obj)} {h3 : Heap} {cls : Value} {b : Bool} {E : Value → Shared → Prop} {R : Bool → Shared → Prop} (hc : CatchT X t cs) (S : Inv (X.suite a ((a, oe) :: pn)) pins σ H { s with heap := h3 }) (hb : PySem.W.exmAny X.K cls cs = some b)
    (ha : h3.get? a = some oe) (hz : oe.cls = cls) (k : ∀ h', (∀ b o, h3.get? b = some o → h'.get? b = some o) → R b { s with heap := h' }) :
    wpAny (model X.prog X.w) (X.A.mark (some (.ref a))) (eval t X.env) (fun c s₁ => wpAny (model X.prog X.w) (X.A.mark (some (.ref a))) (excMatches (.ref a) c) R E s₁) E { s with heap := h3 } := by
  have LT : ∀ h', (∀ b o, h3.get? b = some o → h'.get? b = some o) → PySem.W.Looks (model X.prog X.w) h' (typeOf (.ref a)) cls := fun h' kk A Q E s k q => wpAny_typeOf_ref (k _ _ (kk _ _ ha)) (by rw [hz]; exact q)
  cases hc with
  | @one x c np hn =>
    obtain ⟨b1, d1, x1, y1, z1⟩ := PySem.W.exmAny_cons hb
    have y1 : some false = some d1 := y1
    cases y1
    rw [Bool.or_false] at z1
    subst z1
    have hn' : Names (X.suite a ((a, oe) :: pn)) x c := hn
    refine name_run (X := X.suite a ((a, oe) :: pn)) hn' S ?_
    exact (PySem.W.exm_one (M := model X.prog X.w) S.kIn (LT _ fun _ _ z => z) x1).here (k h3 fun _ _ z => z)
  | @tup es _ kk pos hn hl =>
    have hn' : CNs (X.suite a ((a, oe) :: pn)) es cs := by
      clear hb hl
      induction hn with
      | nil => exact .nil
      | cons h _ ih => exact .cons h ih
    refine wpAny_Tuple_spliced (names_run (X := X.suite a ((a, oe) :: pn)) S hn' ⟨hl, ?_⟩)
    have kp : ∀ q o, h3.get? q = some o → (h3.push { cls := .type "tuple", data := .seq cs.toArray }).get? q = some o := fun _ _ z => Heap.get?_push_of_some _ z
    exact (PySem.W.exm_tupN (M := model X.prog X.w) (S.kIn.keeps kp) (LT _ kp) (Heap.get?_push_size h3 rfl) hb).here (k _ kp)
/-- an object that is there already is tracked from now on -/
theorem Inv.track {a : Addr} {o : HO} (I : Inv X pins σ H s) (h0 : X.s_0.heap.get? a = none) (hp : ∀ p ∈ X.pn ++ pins, p.1 ≠ a) (na : H a = none) (hL : a ≠ X.env.locals) (hcell : ∀ v, ¬ s.heap.IsCell a v) (new : ObjOk X.prog X.w (upd H a o) s.heap a o) : Inv X pins σ (upd H a o) s := by
  have ne : ∀ {b : Addr} {u : HO}, H b = some u → b ≠ a := fun e => ne_of_none e na
  refine ⟨I.ok, I.os, I.bare, ?_, I.loc, I.cell, ?_, fun y c z => ?_, fun p hq => ?_, I.hok.laidN (fun _ _ z => z) na new, I.len⟩
  · have u := I.base
    refine ⟨u.keep, u.slot, fun b q e n x => ?_, u.there, fun b xs e => ?_, fun b q v e => ?_, fun b ps e => ?_⟩
    · rw [upd_ne (fun z => by rw [z, h0] at e; cases e)]
      exact u.free b q e n x
    · rw [upd_ne (ne (u.tups b xs e))]
      exact u.tups b xs e
    · rw [upd_ne (ne (u.frzs b q v e))]
      exact u.frzs b q v e
    · obtain ⟨more, z⟩ := u.tbls b ps e
      exact ⟨more, by rw [upd_ne (ne z)]; exact z⟩
  · rw [upd_ne (Ne.symm hL)]
    exact I.free
  · obtain ⟨v, hv⟩ := I.cell y c z
    have hne : c ≠ a := fun e => hcell v (by rw [← e]; exact hv)
    rw [upd_ne hne]
    exact I.freeC y c z
  · obtain ⟨p1, p2, p3⟩ := I.pin p hq
    exact ⟨p1, by rw [upd_ne (hp p hq)]; exact p2, p3⟩
end
/-! ### try: .. except (A, ..) as e: x = e -/
/-- slot i is e's, j is x's -/
def wCatch (K : PySem.W.Frag) (cs : List Value) (i j : Nat) (Wout : WX) (D : Ends) : WX := fun cls d σ H => ∃ b, PySem.W.exmAny K cls cs = some b ∧
  (b = true → ∃ C dd, cls = .ref C ∧ d = some dd ∧ ∀ a, H a = none → D.nx ((σ.set j (some (.ref a))).set i none) (upd H a (Sd.ExcA C dd a))) ∧ (b = false → Wout cls d σ H)
section
variable {X : Cx} {n x : Str} {t : Expr} {cs : List Value} {i j : Nat} {body : List Stmt} {p1 p2 p3 pos pos' : Pos} {tb : WX → TS} {Wout : WX}
theorem ps_try_catch (hs : X.stack = X.env :: X.outer) (hf : X.env.frame = some X.env.locals) (hex : X.ex = []) (hN : X.N.Nodup) (hi : X.N[i]? = some n) (hln : X.env.kindOf n = some .local) (hj : X.N[j]? = some x) (hlx : X.env.scope.names.lookup x = some .local) (hvn : Vis X.env.scope n) (hc : CatchT X t cs) (tk : Takes X Wout)
    (hdn : (n == ("__debug__" : Str)) = false := by decide) (hcn : (n == ("__classdict__" : Str)) = false := by decide)
    (hb : ∀ (W : WX) (pn : List (Addr × Obj)) (xe : Value → Shared → Prop), Takes (X.tr pn xe) W → PSs (X.tr pn xe) body (tb W)) :
    PS X (.Try body [.ExceptHandler (some t) (some n) [.Assign [.Name x p1] (.Name n p2) p3] pos'] [] [] pos) (fun D σ H => tb (wCatch X.K cs i j Wout D) D σ H) := by
  refine ⟨fun pins s σ H D I h => ?_⟩; have ok := I.ok; have hfr : X.A.frames = some (X.env :: X.outer) := by rw [ok.frames, hs]
  refine wpAny_Try_except ?_
  refine wpAny_mono ((hb (wCatch X.K cs i j Wout D) (X.pn ++ pins) (fun e s₁ => wpAny (model X.prog X.w) X.A (noteFrame e X.env) (fun _ s₂ => wpAny (model X.prog X.w) X.A (setFlight e none) (fun _ s₃ =>
    wpAny (model X.prog X.w) X.A (handleBy e X.env [.ExceptHandler (some t) (some n) [.Assign [.Name x p1] (.Name n p2) p3] pos']) (SP X pins D) X.xe s₃) X.xe s₂) X.xe s₁) (fun u s' xx => ?_)).run [] s σ H D (I.toTry _) h) (fun f s1 hsp => ?_) (fun e s1 he => he)
  · obtain ⟨a, B, sI, pins', σ', H', cls, d, rfl, J', nb, up, sky, na, os, ag, b, hb1, hyes, hno⟩ := xx
    have J : Inv X pins σ' H' sI := J'.ofTry ok; have sky' : Sky B (X.env :: X.outer) a (Zc cls d) X.env.locals s'.heap := by rw [← hs]; exact sky
    show wpAny (model X.prog X.w) X.A (noteFrame (.ref a) X.env) _ _ _; refine Sky.land Zc.steady hfr hf sky' fun h3 fl3 up3 => ?_
    have J3 : Inv X pins σ' H' { s' with heap := h3 } := J.landed nb fl3.1 (up.trans up3) os ag; obtain ⟨oe3, vs3, he3, hz3, hd3⟩ := fl3.there; have notFr : ∀ {h : Heap} {o : Obj} {vs : Array Value}, h.FunFrames B (X.env :: X.outer) → h.get? a = some o → o.data = .fields vs → a ∉ frs (X.env :: X.outer) := fun {h o vs} ff e dd hm => by
      obtain ⟨_, o', e', hnf⟩ := ff.mem hm; rw [e] at e'; cases e'
      exact hnf _ dd
    have nfr := notFr fl3.2.2.1 he3 hd3; have nL : a ≠ X.env.locals := fun z => nfr (List.mem_filterMap.mpr ⟨X.env, List.mem_cons_self, by rw [hf, z]⟩); have nF : a ∉ X.fs := fun hm => by
      obtain ⟨e, he, q⟩ := List.mem_filterMap.mp hm; exact nfr (List.mem_filterMap.mpr ⟨e, List.mem_cons_of_mem _ he, q⟩)
    have noI : sI.heap.get? a = none := by
      cases z : sI.heap.get? a with
      | none => rfl
      | some o =>
        have y := nb a o z (by rw [hs]; exact nfr)
        rw [fl3.2.1] at y
        cases y
    have no0 : X.s_0.heap.get? a = none := by
      cases z : X.s_0.heap.get? a with
      | none => rfl
      | some o =>
        obtain ⟨o', y⟩ := J.base.there a o z (by rw [hex]; simp)
        rw [noI] at y
        cases y
    have noP : ∀ p ∈ X.pn ++ pins, p.1 ≠ a := fun p hp z => by
      have y := (J.pin p hp).1
      rw [z, noI] at y
      cases y
    have S3 := J3.suite he3 hd3 na nL nF; refine wpAny_handleBy_cons (codeAny_handlers_test ?_) (by intro q; cases q)
    refine catch_run (s := s') hc S3 hb1 he3 hz3.1 fun h5 k5 => ?_
    have fl5 := flying_keepsZ fl3 k5
    have up5 := (up.trans up3).trans (Heap.UpToSlots.of_keeps k5)
    have J5 : Inv X pins σ' H' { s' with heap := h5 } := J.landed nb fl5.1 up5 os ag
    cases b with
    | true =>
      refine codeAny_handlers_suite_as ?_; refine HandSPX.lands_againZ (s := { s' with heap := h5 }) fl5 fun h4 fl4 up4 => ?_
      have J4 : Inv X pins σ' H' { s' with heap := h4 } := J.landed nb fl4.1 (up5.trans up4) os ag
      obtain ⟨oe4, vs4, he4, hz4, hd4⟩ := fl4.there; obtain ⟨C, dd, eC, ed, hq⟩ := hyes rfl
      have S4 := J4.suite he4 hd4 na nL nF; refine store_ok (X := X.suite a ((a, oe4) :: (X.pn ++ pins))) (v := .ref a) S4 hN hi (.inl hln) rfl (fun s5 S5 => ?_) (.inr hln)
      have hps : PSs (X.suite a ((a, oe4) :: (X.pn ++ pins))) [.Assign [.Name x p1] (.Name n p2) p3] (tAsg (tVar i) (gName j)) := pss_one (ps_set (X := X.suite a ((a, oe4) :: (X.pn ++ pins))) (i := j) hN hj (.inl hlx) (pe_var hi hvn hdn hcn) rfl (.inr hlx))
      refine wpAny_mono (hps.run [] s5 _ H' { nx := fun σ6 H6 => σ6 = (σ'.set i (some (.ref a))).set j (some (.ref a)) ∧ H6 = H', rt := fun _ _ => False } S5 ?_) (fun f s6 hsp => ?_) (fun _ _ z => False.elim z)
      · refine ⟨.ref a, List.getElem?_set_self (by rw [J4.len]; exact (List.getElem?_eq_some_iff.mp hi).1), rfl, rfl⟩
      · cases f with
        | ret u =>
          obtain ⟨_, _, _, _, _, q6⟩ := hsp
          exact False.elim q6
        | brk =>
          obtain ⟨_, _, _, q6⟩ := hsp
          exact False.elim q6
        | cont =>
          obtain ⟨_, _, _, q6⟩ := hsp
          exact False.elim q6
        | next =>
          obtain ⟨σ6, H6, S6, q6, q7⟩ := hsp
          subst q6 q7
          obtain ⟨p1, _⟩ := S6.pin (a, oe4) (List.mem_append.mpr (.inl List.mem_cons_self))
          have new : ObjOk X.prog X.w (upd H6 a (Sd.ExcA C dd a)) s6.heap a (Sd.ExcA C dd a) := ⟨⟨oe4, vs4, p1, hz4.1.trans eC, hz4.2.trans ed, hd4⟩, ⟨oe4, p1⟩, fun _ _ ⟨oe, vs, z1, z2⟩ k => ⟨oe, vs, k _ z1, z2⟩⟩
          have I7 := (S6.unsuite ok).track no0 noP na nL (fun v ⟨o, z1, z2⟩ => by
            rw [p1] at z1
            cases z1
            rw [hd4] at z2
            cases z2) new
          refine gone_ok I7 hN hi hln fun s7 J7 => ⟨_, _, J7, ?_⟩
          have e1 : (((σ'.set i (some (V.ref a))).set j (some (V.ref a))).set i none) = (σ'.set j (some (V.ref a))).set i none := by
            by_cases hij : i = j
            · subst hij
              simp only [List.set_set]
            · rw [List.set_comm _ _ hij, List.set_set]
          rw [e1]
          exact hq a na
    | false =>
      show wpAny _ X.A (handleBy (.ref a) X.env []) _ _ _; refine wpAny_handleBy_nil ?_
      obtain ⟨k1, k2, k3, oe, vs, T, oT, ts', he, hz, hd, h1, hr⟩ := id fl5
      unfold PySem.passOn
      refine wpAny_bind (wpAny_field he hd h1 ?_); rw [if_neg (show ¬ ((Value.ref T == Value.none) = true) from by simp)]
      have fin : wpAny (model X.prog X.w) X.A (setFlight (.ref a) X.env.frame) (fun _ s4 => wpAny (model X.prog X.w) X.A (throw (.ref a) : Sem Flow) (SP X pins D) X.xe s4) X.xe { s' with heap := h5 } := by
        rw [hf]
        refine HandSPX.setFlight_upZ fl5 fun h4 hh4 up4 => wpAny_throw (tk _ _ ?_)
        exact ⟨a, B, sI, pins, σ', H', cls, d, rfl, J, nb, up5.trans up4, .inr (.inr (by rw [hs]; exact hh4)), na, os, ag, hno rfl⟩
      first | exact wpAny_bind (wpAny_pure (wpAny_bind fin)) | exact wpAny_bind fin
  · cases f with
    | next =>
      obtain ⟨σ', H', J', q⟩ := hsp; exact wpAny_execs_nil ⟨σ', H', J'.ofTry ok, q⟩
    | brk =>
      obtain ⟨σ', H', J', q⟩ := hsp; exact ⟨σ', H', J'.ofTry ok, q⟩
    | cont =>
      obtain ⟨σ', H', J', q⟩ := hsp; exact ⟨σ', H', J'.ofTry ok, q⟩
    | ret u =>
      obtain ⟨v, σ', H', J', r, q⟩ := hsp; exact ⟨v, σ', H', J'.ofTry ok, r, q⟩
end
end L2

set_option maxHeartbeats 1000000
/-! P5: raise, try; a def's body where a try stands. -/
namespace Sd
open PySem PySem.Spec PyProof.Rows L2 LamX
section
variable {T : Tab} {C : C0} {X : Xw} {W W1 W2 : Wd} {σ : L2.St} {H H1 H2 : Hp} {ρ ρ1 ρ2 : En}
def sRaise (c : Str) (ns : List Str) (fa : FA) : FS := fun ρ => (fa ρ).to fun xs ρ1 => if (xs.length == ns.length) = true then .ex (.exc c ns xs) ρ1 else .no
theorem wl_if {E : DE} {c : Bool} {o : Fl} (h : wl X E (if c = true then o else .no)) : c = true ∧ wl X E o := by
  cases c with
  | true => exact ⟨rfl, h⟩
  | false => exact (show False from h).elim
theorem qs_raise {c : Str} {Ca : Addr} {ns : List Str} {Wx : WX} {ta : TA} {fa : FA} (lk : LinkW T C Wx X) (hc : T.ca c = Ca) (ha : Pa T C ta (we X fa)) : Ps T C (tRaiseX Ca ns Wx ta) (ws X (sRaise c ns fa)) := fun W σ H ρ B E F e x l q =>
  ha W σ H ρ _ _ e (wl_to q) fun vs H1 W1 xs ρ1 P S q1 => by
    obtain ⟨q0, q1⟩ := wl_if q1
    have hl : vs.length = ns.length := S.length.trans (beq_iff_eq.mp q0)
    refine ⟨hl, fun d hd => ?_⟩
    have x1 : Ex H1 (upd H1 d (.xd (ns.zip vs))) := Ex.new hd
    refine lk _ _ _ _ _ _ _ (P.ok.mono x1) ⟨c, d, ns.zip vs, xs, by rw [zip_fst hl.symm], by rw [hc], rfl, ?_, ?_⟩ q1
    · rw [hide_ne (fun z => P.ok.dom d z hd)]
      exact upd_same
    · rw [zip_snd hl.symm]
      exact S.mono (ex_hide_ex x1)
/-! ### try -/
def En.del (ρ : En) (i : Nat) : En := { ρ with s := ρ.s.set i none }
theorem EnvOk.del (e : EnvOk T C W σ H ρ) (i : Nat) : EnvOk T C W (σ.set i none) H (ρ.del i) := by
  refine ⟨e.ext, e.sub, e.dom0, e.dom, by simpa [En.del] using e.len, fun j c hj => ?_, e.tl, e.al, e.st, e.lv, e.inj, e.kk, e.lent, e.ll, e.tab, e.nw⟩
  have hj : (ρ.s.set i none)[j]? = some (some c) := hj
  by_cases q : j = i
  · subst q
    by_cases l : j < ρ.s.length
    · rw [List.getElem?_set_self l] at hj
      cases hj
    · rw [List.getElem?_eq_none (by simpa using l)] at hj
      cases hj
  · rw [List.getElem?_set_ne (Ne.symm q)] at hj
    rw [List.getElem?_set_ne (Ne.symm q)]
    exact e.cell j c hj
/-- the clause: m tells of a class whether it is one of those named -/
def hand (m : Str → Option Bool) (i j : Nat) (ρ : En) : D → Fl
  | .exc c ns vs => match m c with
    | some true => .nx ((ρ.set j (.p (.exc c ns vs))).del i)
    | some false => .ex (.exc c ns vs) ρ
    | none => .no
  | _ => .no
def Fl.caught (k : D → En → Fl) : Fl → Fl
  | .ex x ρ => k x ρ
  | o => o
def sTry (m : Str → Option Bool) (i j : Nat) (b : FS) : FS := fun ρ => (b ρ).caught fun x ρ1 => hand m i j ρ1 x
/-- statements where no loop is around -/
def Ps0 (T : Tab) (C : C0) (ts : TS) (w : WS) : Prop := ∀ (W : Wd) (σ : L2.St) (H : Hp) (ρ : En) (E : DE) (F : Ends), EnvOk T C W σ H ρ → Lk T C (fun _ => none) E F → w E ρ → ts F σ H
theorem none_ex (H : Hp) : Ex (fun _ => none) H := fun _ _ z => nomatch z
theorem Ps.z {ts : TS} {w : WS} (h : Ps T C ts w) : Ps0 T C ts w := fun W σ H ρ E F e l q => h W σ H ρ _ E F e (none_ex _) l q
theorem qz_seq {t u : TS} {a b : FS} (h1 : Ps0 T C t (ws X a)) (h2 : Ps0 T C u (ws X b)) : Ps0 T C (tSeq t u) (ws X (sSeq a b)) := fun W σ H ρ E F e l w =>
  h1 W σ H ρ _ _ e (l.next fun W' σ' H' ρ' e' x' w' => h2 W' σ' H' ρ' E F e' l w') (wl_sq w)
theorem qz_if {tc : TT} {t u : TS} {w : FT} {a b : FS} (hc : Pt T C tc (we X w)) (h1 : Ps0 T C t (ws X a)) (h2 : Ps0 T C u (ws X b)) : Ps0 T C (tIfS tc t u) (ws X (sIf w a b)) := fun W σ H ρ E F e l q =>
  hc W σ H ρ _ _ e (wl_to q) fun c H1 W1 ρ1 P q1 => by
    cases c with
    | true => exact h1 W1 σ H1 ρ1 E F P.ok l q1
    | false => exact h2 W1 σ H1 ρ1 E F P.ok l q1
theorem qz_try {cs : List Value} {i j : Nat} {m : Str → Option Bool} {Wx : WX} {tb : WX → TS} {b : FS} (lk : LinkW T C Wx X) (hm : ∀ c v, m c = some v → PySem.W.exmAny T.K (.ref (T.ca c)) cs = some v)
    (hb : ∀ Wx' X', LinkW T C Wx' X' → Ps0 T C (tb Wx') (ws X' b)) : Ps0 T C (fun D σ H => tb (wCatch T.K cs i j Wx D) D σ H) (ws X (sTry m i j b)) := fun W σ H ρ E F e l q => by
  have q : wl X E ((b ρ).caught fun x ρ1 => hand m i j ρ1 x) := q
  refine hb (wCatch T.K cs i j Wx F) (fun x ρ1 => wl X E (hand m i j ρ1 x)) (fun W1 σ1 H1 ρ1 cls d x e1 hx q1 => ?_) W σ H ρ E F e l ?_
  · obtain ⟨c, dd, fs, ds, rfl, rfl, rfl, hd, hs⟩ := hx
    have q1 : wl X E (match m c with
      | some true => .nx ((ρ1.set j (.p (.exc c (fs.map (·.1)) ds))).del i)
      | some false => .ex (.exc c (fs.map (·.1)) ds) ρ1
      | none => .no) := q1
    cases hv : m c with
    | none => rw [hv] at q1; exact q1.elim
    | some v =>
      rw [hv] at q1
      refine ⟨v, hm c v hv, fun z => ?_, fun z => ?_⟩
      · subst z
        refine ⟨_, dd, rfl, rfl, fun a ha => ?_⟩
        have x1 : Ex H1 (upd H1 a (ExcA (T.ca c) dd a)) := Ex.new ha
        have e2 := e1.mono x1
        have nA : ∀ {b : Addr}, H1 b = none → b ∉ W1.A := fun z y => e1.dom _ y z
        have at1 : At T (hide (upd H1 a (ExcA (T.ca c) dd a)) W1.A) (.ref a) (.exc c (fs.map (·.1)) ds) := by
          refine .exc (d := dd) ?_ ?_ (hs.mono (ex_hide_ex x1))
          · rw [hide_ne (nA ha)]
            exact upd_same
          · exact ex_hide_ex x1 _ _ hd
        exact l.nx _ _ _ _ ((e2.setC (.p at1)).del i) (none_ex _) q1
      · subst z
        exact lk _ _ _ _ _ _ _ e1 ⟨c, dd, fs, ds, rfl, rfl, rfl, hd, hs⟩ q1
  · show wl (fun x ρ1 => wl X E (hand m i j ρ1 x)) E (b ρ)
    cases h : b ρ <;> rw [h] at q <;> exact q
/-! ### a def's body -/
theorem body0 {ts : XK → TS} {w : (D → List M → Prop) → WS} {R : RD} {N : List Str} {m : Nat} (h : ∀ C E X, Link T C E X → Ps0 T C (ts E) (w X))
    (hR : ∀ cs μ K X, R cs μ K X → cs.length = m ∧ w X (bodyE K) ⟨st0 (N.length - m) cs, μ, μ.length⟩) {vs : List V} {Q : VK} {E : XK} (hs : SpC T R vs H Q E) : ts E { nx := fun _ H' => Q .non H', rt := Q } (start N vs) H := by
  obtain ⟨A, Lt, cs, μ, K, X, p, hr, fin, finx⟩ := hs
  obtain ⟨hl, hw⟩ := hR cs μ K X hr
  have e := pre_env (N := N) (XE := C8.E0) (XD := fun _ _ => False) p
  have hv : vs.length = m := p.args.length.trans hl
  rw [hv, p.len] at e
  refine h ⟨H, A, Lt, C8.E0, fun _ _ => False⟩ E X (fun W σ H' ρ cls d x e' hx cl q => finx cls d H' W.A x _ (e'.post_h cl) hx q) ⟨A, Lt⟩ (start N vs) H _ (bodyE K) _ e ⟨?_, ?_, ?_, ?_⟩ hw
  · exact fun W σ H' ρ e' _ q => fin .non H' W.A (.d .non) _ (e'.post_h q.1) (.d .non) q.2
  · exact fun _ _ _ _ _ _ z => False.elim z
  · exact fun _ _ _ _ _ _ z => False.elim z
  · exact fun W σ H' ρ v r e' _ R' cl q => fin v H' W.A r _ (e'.post_h cl) R'.core q
end
/-- a def's body keeps the def's promise, which is the body as a function -/
theorem bodyD {K : PySem.W.Frag} {ca : Str → Addr} {tb : List (Addr × Str)} {ts : XK → TS} {N : List Str} {m : Nat} {b : FS} (h : ∀ (ms : List Int) (f0 : Addr), ms.length ≤ 63 → ∀ C E X, LinkW ⟨K, ca, ms, tb, f0⟩ C (fun cls d _ H => E cls d H) X → Ps0 ⟨K, ca, ms, tb, f0⟩ C (ts E) (ws X b))
    {vs : List V} {H : Hp} {Q : VK} {E : XK} (hs : SpA K ca tb (RF (runD N.length m b)) vs H Q E) : ts E { nx := fun _ H' => Q .non H', rt := Q } (start N vs) H := by
  obtain ⟨ms, f0, hz, hs⟩ := hs
  exact body0 (w := fun XD => ws (xD XD) b) (fun C E X l => h ms f0 hz C E (xD X) (linkW_of l)) (fun cs μ K X r => run_of r) hs
theorem runD_len {K : PySem.W.Frag} {ca : Str → Addr} {tb : List (Addr × Str)} {n m : Nat} {b : FS} {vs : List V} {H : Hp} {Q : VK} {E : XK} (h : SpA K ca tb (RF (runD n m b)) vs H Q E) : vs.length = m := SpA.len (fun cs μ Q X r => (run_of r).1) h
end Sd

set_option maxHeartbeats 2000000
/-! P6: g(lambda: body, e, ..): the lambda made, and called by g where a try stands around. -/
namespace L2
open PySem PySem.Spec PyProof.Rows LamX
/-- all but the object at P stays -/
def ExtP (P : Addr) (H H' : Hp) : Prop := ∀ b o, H b = some o → b ≠ P → H' b = some o
section variable {X : Cx} {pins : List (Addr × Obj)} {σ : L2.St} {H : Hp} {s : Shared}
theorem lam_make3 {T : List (Addr × Str)} {c P : Addr} {params : Arguments} {body : Expr} {scope : Scope} {pos : Pos} {E : Value → Shared → Prop} {Q : Value → Shared → Prop} (I : Inv X pins σ H s) (TB : TabB X.base X.mg c P) (code_at : X.env.code = .ref c)
    (inT : (P, X.env.qual ++ "<lambda>") ∈ T) (one : ∀ p ∈ T, p.1 = P → p.2 = X.env.qual ++ "<lambda>") (hT : Tabs T H) (nodef : defaultsOf params X.env = ([], [])) (has : ∀ y ∈ scope.names, y.2 = .free → ∃ c, X.env.cells.lookup y.1 = some c)
    (k : ∀ (f cc : Addr) (pm ctv : Value) (H1 : Hp) (s' : Shared), Inv X ((f, PySem.W.kla_obj "<lambda>" (X.env.qual ++ "<lambda>") params body scope (cloFrom X.env.cells scope.names []) pm cc ctv) :: pins) σ H1 s' → ExtP P H H1 → Tabs T H1 →
      f ∉ frs X.stack → H1 cc = some (CodeO cc (X.env.qual ++ "<lambda>")) → Q (.ref f) s') : wpAny (model X.prog X.w) X.A (eval (.Lambda params body scope pos) X.env) Q E s := by
  have key : ∀ {f : Addr} {o : Obj} {H1 : Hp} {s1 : Shared}, Inv X pins σ H1 s1 → s1.heap.get? f = some o → H1 f = none → (∀ v, o.data ≠ .cell v) → (∀ es ep, o.data ≠ .dict es ep) → f ∉ frs X.outer → Inv X ((f, o) :: pins) σ H1 s1 := fun {f o H1 s1} J e n nc nd nf => by
    refine J.pins_of fun p hp => ?_
    rcases List.mem_cons.mp hp with z | z
    · subst z
      refine ⟨e, n, fun y => ?_, nf, nc⟩
      obtain ⟨m, ⟨o', es, ep, h1, h2, _⟩, _⟩ := J.loc
      have y : f = X.env.locals := y
      rw [← y, e] at h1
      cases h1
      exact nd es ep h2
    · exact J.pin p (List.mem_append_right _ z)
  obtain ⟨ps, hP, ht, ha⟩ := hT _ inT
  refine PySem.W.kla_eval nodef ?_
  have bP : s.heap.BuiltinsAt X.mg P := TB.bm.keeps I.bk; have hP' : s.heap.get? P = some { cls := .none, data := .fields ps } := I.hok P _ hP
  have off : ∀ f, s.heap.objs.size ≤ f → f ∉ frs X.stack := fun f hf z => by
    rcases List.mem_cons.mp (I.stkSub f z) with e | e
    · have h1 := I.lt
      rw [← e] at h1; exact Nat.lt_irrefl _ (Nat.lt_of_lt_of_le h1 hf)
    · exact I.nofs hf e
  cases hcp : codeAmong pos ps.toList with
  | none =>
    refine PySem.W.kla_makeFunction (mg := X.mg) (c := c) (P := P) (ps := ps) (closure_ok has) I.ok.glob (I.mod.glob.keeps I.bk) code_at (TB.code.keeps I.bk) hP' ht hcp TB.gP bP fun cc ctv h' tk hx hge hlt hrec htb => ?_
    obtain ⟨c2, oc, vs, t, e2, hoc, hd, hv⟩ := hrec; cases e2
    have hsz : s.heap.objs.size ≤ h'.objs.size := Nat.le_trans hge (Nat.le_of_lt hlt); have nC : H cc = none := I.hok.fresh hge
    have I1 := inv_table (t' := tk) (more := #[rawInt pos.line, rawInt pos.col, .ref cc]) (h' := h'.push (PySem.W.kla_obj "<lambda>" (X.env.qual ++ "<lambda>") params body scope (cloFrom X.env.cells scope.names []) ((X.mg "__name__").getD .none) cc ctv)) I hP (fun b o hb e => Heap.get?_push_of_some _ (hx b o hb e)) (Heap.get?_push_of_some _ htb) hge ⟨oc, vs, t, Heap.get?_push_of_some _ hoc, hd, hv⟩
    have hE : ExtP P H (upd (upd H P (.tbl (ps ++ #[rawInt pos.line, rawInt pos.col, .ref cc]))) cc (CodeO cc (X.env.qual ++ "<lambda>"))) := fun b o e n => by
      rw [upd_ne (ne_of_none e nC), upd_ne n]
      exact e
    have eL : (ps ++ #[rawInt pos.line, rawInt pos.col, .ref cc]).toList = ps.toList ++ [rawInt pos.line, rawInt pos.col, .ref cc] := by simp
    have n1 : h'.objs.size ≠ cc := Nat.ne_of_gt hlt
    have n2 : h'.objs.size ≠ P := Nat.ne_of_gt (Nat.lt_of_lt_of_le (Heap.lt_size hP') hsz); have nf : upd (upd H P (.tbl (ps ++ #[rawInt pos.line, rawInt pos.col, .ref cc]))) cc (CodeO cc (X.env.qual ++ "<lambda>")) h'.objs.size = none := by
      rw [upd_ne n1, upd_ne n2]
      exact I.hok.fresh hsz
    have J1 := key (f := h'.objs.size) I1 (Heap.get?_push_size _ rfl) nf (fun v z => nomatch z) (fun _ _ z => nomatch z) (I.nofs hsz)
    refine k h'.objs.size cc ((X.mg "__name__").getD .none) ctv _ _ J1 hE (fun p hp => ?_) (off _ hsz) upd_same
    by_cases hb : p.1 = P
    · rw [one p hp hb, hb]
      refine ⟨_, by rw [upd_ne (ne_of_none hP nC), upd_same], by rw [eL]; exact PySem.TriplesOk_snoc _ _ _ _ ht, fun p' cv hcv => ?_⟩; rw [eL] at hcv; rcases among_app _ ht hcv with z | z
      · obtain ⟨c0, e1, e2⟩ := ha p' cv z; exact ⟨c0, e1, hE _ _ e2 fun y => by rw [y, hP] at e2; exact codeO_ne ps (Option.some.inj e2).symm⟩
      · exact ⟨cc, z, upd_same⟩
    · obtain ⟨ps', a1, a2, a3⟩ := hT p hp; refine ⟨ps', by rw [upd_ne (ne_of_none a1 nC), upd_ne hb]; exact a1, a2, fun p' cv hcv => ?_⟩
      obtain ⟨c0, e1, e2⟩ := a3 p' cv hcv; exact ⟨c0, e1, hE _ _ e2 fun y => by rw [y, hP] at e2; exact codeO_ne ps (Option.some.inj e2).symm⟩
  | some cv =>
    obtain ⟨cc, e, hco⟩ := ha pos cv hcp
    subst e
    refine PySem.W.kla_makeFunctionHit (mg := X.mg) (c := c) (P := P) (ps := ps) (closure_ok has) I.ok.glob (I.mod.glob.keeps I.bk) code_at (TB.code.keeps I.bk) hP' ht hcp bP fun ctv h' tk hx hsz => ?_
    have I1 : Inv X pins σ H { s with heap := h'.push (PySem.W.kla_obj "<lambda>" (X.env.qual ++ "<lambda>") params body scope (cloFrom X.env.cells scope.names []) ((X.mg "__name__").getD .none) cc ctv), toks := tk } := I.kept fun b o e => Heap.get?_push_of_some _ (hx b o e)
    have J1 := key (f := h'.objs.size) I1 (Heap.get?_push_size _ rfl) (I.hok.fresh hsz) (fun v z => nomatch z) (fun _ _ z => nomatch z) (I.nofs hsz)
    exact k h'.objs.size cc ((X.mg "__name__").getD .none) ctv H _ J1 (fun _ _ z _ => z) hT (off _ hsz) hco
end
section variable {X : Cx} {pins : List (Addr × Obj)} {σ : L2.St} {H HZ : Hp} {s s1 : Shared}
/-- the context of the def that got the lambda -/
abbrev cgX (X : Cx) (Ng : List Str) (qg : Str) (sg : Scope) (g : Addr) (cdg : Value) (s : Shared) (H : Hp) : Cx := cxOf (L2.CX X.prog X.w) X.prog X.w X.K X.mg X.base Ng qg sg g cdg X.A X.stack s H E0
/-- x(), there: what it raises is wished for at that def's slots -/
theorem pe_act3 {Ng : List Str} {qg : Str} {sg : Scope} {g f cc : Addr} {cdg pm ctv : Value} {params : Arguments} {body : Expr} {scope : Scope} {k i : Nat} {a : Str} {pn : List (Addr × Obj)} {xe : Value → Shared → Prop} {W : WX} {tb : XK → TE} {p1 p2 : Pos}
    (I : Inv X pins σ H s) (L : LamS X.env.scope scope) (hf : s.heap.get? f = some (PySem.W.kla_obj "<lambda>" (X.env.qual ++ "<lambda>") params body scope (cloFrom X.env.cells scope.names []) pm cc ctv)) (fn : H f = none) (ff : f ∉ frs X.stack)
    (bind0 : bindArgs (PySem.W.kla_fn "<lambda>" (X.env.qual ++ "<lambda>") params body scope (cloFrom X.env.cells scope.names []) pm (.ref cc) ctv) ⟨[], []⟩ = pure [])
    (tw : Takes ((cgX X Ng qg sg g cdg s H).tr pn xe) W) (hr : Room (k + 1) (X.A.deeper (envOfC qg sg s.heap.objs.size g cdg))) (hG : NoG (X.A.deeper (envOfC qg sg s.heap.objs.size g cdg)))
    (bodyK : ∀ (A : Around) (outer : List Env) (s : Shared) (H : Hp) (E : XK), Room k (A.deeper (lamEnv X scope s.heap.objs.size f cc)) → NoG (A.deeper (lamEnv X scope s.heap.objs.size f cc)) → PE (lamCx X A outer s H E scope f cc) body (tb E)) (hN : Ng[i]? = some a) (hv : Vis sg a) (hd : (a == ("__debug__" : Str)) = false := by decide) (hcd : (a == ("__classdict__" : Str)) = false := by decide) :
    PE ((cgX X Ng qg sg g cdg s H).tr pn xe) (.Call (.Name a p1) [] [] p2) (fun σZ HZ Q => σZ[i]? = some (some (.ref f)) ∧ HZ cc = some (CodeO cc (X.env.qual ++ "<lambda>")) ∧ tb (L2.WE W σZ) σ HZ Q) := by
  refine ⟨fun pinsZ sZ σZ HZ Q IZ h => ?_⟩; obtain ⟨hs, hc, ht⟩ := h
  refine wpAny_Call_Name_kw (thn ((pe_var (pos := p1) (i := i) hN hv hd hcd).run pinsZ sZ σZ HZ (fun v H1 => v = .ref f ∧ H1 = HZ) IZ ⟨.ref f, hs, rfl, rfl⟩) fun u s1 ⟨v, H1, J1, r1, q1⟩ => ?_)
  obtain ⟨ev, eH⟩ := q1
  subst ev
  rw [eH] at J1
  obtain rfl : u = Value.ref f := r1; have of1 : s1.heap.get? f = some (PySem.W.kla_obj "<lambda>" (X.env.qual ++ "<lambda>") params body scope (cloFrom X.env.cells scope.names []) pm cc ctv) := J1.base.keep f _ hf fn ff (fun z => nomatch (show f ∈ ([] : List Addr) from z))
  refine PySem.W.callWith_F0 ⟨_, _, _, _, of1⟩ ?_; have un : Un (frs X.stack) [] H HZ s.heap s1.heap := J1.base
  obtain ⟨⟨oc, vs, t, hoc, hdc, hvc⟩, _, _⟩ := J1.hok cc _ hc
  have rc : codeAny (model X.prog X.w) (X.A.deeper (envOfC qg sg s.heap.objs.size g cdg)) (.call (.ref f) ⟨[], []⟩) (CR (L2.CX X.prog X.w) (envOfC qg sg s.heap.objs.size g cdg :: X.stack) X.prog X.w HZ s1 Q (L2.WE W σZ)) s1 := by
    refine PySem.W.kla_callFunE hr.depth of1 rfl L.co L.gen rfl ⟨cc, oc, vs, t, rfl, hoc, hdc, hvc⟩ ?_
    rw [bind0]
    refine wpAny_pure (wpAny_newFunctionEnv (fun y hy => (L.own y hy).2) (fun y hy => absurd hy (by simp)) (fun h₁ hns hsb => ⟨J1.nolimit.fresh _ hsb, ?_⟩) L.kind)
    show codeAny _ _ (.expr body (lamEnv X scope s1.heap.objs.size f cc)) _ _
    have kp : ∀ b o, s1.heap.get? b = some o → h₁.get? b = some o := fun b o e => hsb.extBut b o (Nat.ne_of_lt (Heap.lt_size e)) (Heap.get?_push_of_some _ e); have J : Inv (lamCx X (X.A.deeper (envOfC qg sg s.heap.objs.size g cdg)) (envOfC qg sg s.heap.objs.size g cdg :: X.stack) s1 HZ (L2.WE W σZ) scope f cc) [] σ HZ { s1 with heap := h₁, toks := s1.toks + ([] : List (Str × Value)).length } :=
      lam_start2 I L J1.env0 hr.hd un hns kp
    refine PySem.W.kla_codeExpr (wpAny_mono ((bodyK _ _ s1 HZ (L2.WE W σZ) (hr.deeper _) (show (X.A.deeper (envOfC qg sg s.heap.objs.size g cdg)).guards = some [] from hG)).run [] _ _ HZ Q J ht) (fun v s' hq => ?_) fun e s' hq => hq)
    obtain ⟨w', H', J', rv, q⟩ := hq; exact ⟨w', H', J'.os, J'.bare, J'.base, J'.hok, rv, q⟩
  refine wpAny_call (codeAny_mono rc fun r s' hq => ?_); cases r with
  | error e => exact passAt tw σZ pinsZ HZ s1 e s' J1 hq
  | ok fl =>
    cases fl with
    | ret u => exact J1.after hq
    | next => exact False.elim hq
    | brk => exact False.elim hq
    | cont => exact False.elim hq
/-- the def at g calls the first thing that it gets, named a; TT: what it makes of that one's reading -/
def GetsL (X : Cx) (Ng : List Str) (x : Str) (sg : Scope) (g : Addr) (cdg : Value) (bg : List Stmt) (a : Str) (q : Str) (k : Nat) (TT : (XK → Hp → VK → Prop) → List V → Hp → VK → Prop) : Prop :=
  ∀ (f cc : Addr) (s : Shared) (H : Hp) (Q : VK) (tl : XK → Hp → VK → Prop) (vs : List V), Room k (X.A.deeper (envOfC x sg s.heap.objs.size g cdg)) → NoG (X.A.deeper (envOfC x sg s.heap.objs.size g cdg)) →
    (∀ (W : WX) (pn : List (Addr × Obj)) (xe : Value → Shared → Prop) (p1 p2 : Pos), Takes ((cgX X Ng x sg g cdg s H).tr pn xe) W →
      PE ((cgX X Ng x sg g cdg s H).tr pn xe) (.Call (.Name a p1) [] [] p2) (fun σZ HZ Q => σZ[0]? = some (some (.ref f)) ∧ HZ cc = some (CodeO cc q) ∧ tl (L2.WE W σZ) HZ Q)) →
    H cc = some (CodeO cc q) → TT tl vs H Q →
    ∃ t, PSs (cgX X Ng x sg g cdg s H) bg t ∧ t { nx := fun _ H' => Q .non H', rt := Q } (L2.start Ng (.ref f :: vs)) H
def tLamY (P : Addr) (T : List (Addr × Str)) (TT : (XK → Hp → VK → Prop) → List V → Hp → VK → Prop) (t : XK → TE) (ta : TA) : TE := fun σ H Q => Tabs T H ∧ ∀ cc q H1, ExtP P H H1 → Tabs T H1 → H1 cc = some (CodeO cc q) → ta σ H1 fun vs H2 => H2 cc = some (CodeO cc q) ∧ TT (fun E H' Q' => t E σ H' Q') vs H2 Q
end
section
variable {X : Cx}
/-- x(lambda: body, e, ..) -/
theorem pe_lam3 {T : List (Addr × Str)} {TT : (XK → Hp → VK → Prop) → List V → Hp → VK → Prop} {x a : Str} {g c P : Addr} {k : Nat} {pg : Arguments} {bg : List Stmt} {sg : Scope} {dV kV doc pm cdv ct oc : Value} {an od : Option Addr} {osl : Array (Option Value)} {Ng ps : List Str}
    {params : Arguments} {body : Expr} {scope : Scope} {t : XK → TE} {p lpos pos : Pos} {es : List Expr} {ta : TA} (hg : Gl X x) (hm : X.mg x = some (.ref g)) (hk : PySem.W.keepIn X.K (.ref g) = true)
    (lk : X.K.lookup g = some ⟨oc, od, .func (PySem.W.fnOf x x pg bg sg dV kV doc pm an cdv ct), osl⟩) (hcg : PySem.W.codeIn X.K cdv x = true) (hb : L2.Binds X.K (PySem.W.fnOf x x pg bg sg dV kV doc pm an cdv ct) (a :: ps) []) (Sg : FnScope Ng (a :: ps) sg) (hNg : Ng[0]? = some a) (hva : Vis sg a)
    (hG : GetsL X Ng x sg g cdv bg a (X.env.qual ++ "<lambda>") (k + 1) TT) (hl : ∀ tl vs H Q, TT tl vs H Q → vs.length = ps.length)
    (TB : TabB X.base X.mg c P) (code_at : X.env.code = .ref c) (inT : (P, X.env.qual ++ "<lambda>") ∈ T) (one : ∀ p ∈ T, p.1 = P → p.2 = X.env.qual ++ "<lambda>") (hr : Room (k + 2) X.A) (nG : NoG X.A) (L : LamS X.env.scope scope) (nodef : defaultsOf params X.env = ([], []))
    (bind0 : ∀ (q : Str) (cl : List (Str × Addr)) (pm cv ctv : Value), bindArgs (PySem.W.kla_fn "<lambda>" q params body scope cl pm cv ctv) ⟨[], []⟩ = pure []) (ha : PA X es ta)
    (bodyK : ∀ (A : Around) (outer : List Env) (s : Shared) (H : Hp) (E : XK) (f cc : Addr), Room k (A.deeper (lamEnv X scope s.heap.objs.size f cc)) → NoG (A.deeper (lamEnv X scope s.heap.objs.size f cc)) → PE (lamCx X A outer s H E scope f cc) body (t E))
    (hdb : (x == ("__debug__" : Str)) = false := by decide) (hd : (a == ("__debug__" : Str)) = false := by decide) (hcd : (a == ("__classdict__" : Str)) = false := by decide)
    (hpl : (backTo pos (starEach es X.env)).any (·.1) = false := by rfl) :
    PE X (.Call (.Name x p) (.Lambda params body scope lpos :: es) [] pos) (tLamY P T TT t ta) := by
  refine ⟨fun pins s σ H Q I h => ?_⟩; obtain ⟨hT, h⟩ := h
  refine wpAny_Call_Name_kw (ld_glob I hg hm ?_ hdb); refine PySem.W.callWith_K (h₀ := X.base) I.ok.mod.kin hk ?_ (by rfl) hpl
  show wpAny _ _ (spliced ((false, eval (.Lambda params body scope lpos) X.env) :: backTo pos (starEach es X.env))) _ _ s
  refine Calls.spliced_cons (lam_make3 I TB code_at inT one hT nodef (L.has I.ok) fun f cc pm' ctv H1 s' J1 eN T1 ff hco => ?_)
  refine thn (ha.run pos _ s' σ H1 _ J1 (h cc _ H1 eN T1 hco)) fun us s2 ⟨vs, H2, J2, r, hco2, q⟩ => ⟨J2.kIn, ?_⟩
  obtain ⟨e2, n2, _⟩ := J2.pin (f, _) (List.mem_append_right _ List.mem_cons_self)
  have I2 : Inv X pins σ H2 s2 := ClX.unpin J2
  have hl2 := hl _ _ _ _ q
  have hl3 : (Value.ref f :: us).length = (a :: ps).length := by rw [List.length_cons, List.length_cons, ← r.length, hl2]
  have b := hb s2 (.ref f :: us) I2.kIn (by rw [List.append_nil]; exact hl3)
  rw [List.append_nil] at b
  have rc : codeAny (model X.prog X.w) X.A (.call (.ref g) ⟨.ref f :: us, []⟩) (CR (L2.CX X.prog X.w) X.stack X.prog X.w H2 s2 Q E0) s2 := by
    refine run_ofS (CX := L2.CX X.prog X.w) (N := Ng) (ps := a :: ps) (us := .ref f :: us) (vs := .ref f :: vs) lk hcg Sg hr I2.env0 b (.cons rfl r) (by rw [List.length_cons, List.length_cons, hl2]) fun hr' => ?_
    exact hG f cc s2 H2 Q (fun E H' Q' => t E σ H' Q') vs hr' (show X.A.guards = some [] from nG) (fun W pn xe p1 p2 tw => pe_act3 (i := 0) I2 L e2 n2 ff (bind0 _ _ _ _ _) tw hr' (show X.A.guards = some [] from nG) (fun A outer s H E hr2 hG2 => bodyK A outer s H E f cc hr2 hG2) hNg hva hd hcd) hco2 q
  refine wpAny_call (codeAny_mono rc fun r s3 hq => ?_)
  cases r with
  | error e =>
    obtain ⟨_, _, _, _, _, _, _, _, _, _, _, _, z⟩ := (show L2.CX X.prog X.w X.stack H2 s2 E0 e s3 from hq)
    exact z.elim
  | ok fl =>
    cases fl with
    | ret u => exact I2.after hq
    | next => exact False.elim hq
    | brk => exact False.elim hq
    | cont => exact False.elim hq
end
end L2

set_option maxHeartbeats 1000000
/-! P7: lambdas as functions. -/
namespace Sd
open PySem PySem.Spec PyProof.Rows L2 LamX
def noFn : C1 → Bool
  | .fn => false
  | _ => true
def noFnM : M → Bool
  | .i _ _ fs => fs.all noFn
  | _ => true
/-- a result that may leave a lambda -/
def rvOk : RV → Bool
  | .n (.i _ _ _) => false
  | _ => true
def Tab.fnAt (T : Tab) (f : Addr) : Tab := { T with f0 := f }
theorem closed_noFn {k : Nat} {ms : List M} (h : closedB k ms = true) : ∀ m, m ∈ ms → noFnM m = true := fun m hm => by
  have c := List.all_eq_true.mp h m hm
  cases m with
  | i c' ns fs =>
    refine List.all_eq_true.mpr fun x hx => ?_
    have z := List.all_eq_true.mp c x hx
    cases x with
    | fn => cases z
    | _ => rfl
  | _ => rfl
section
variable {T : Tab} {C : C0} {X : Xw} {W W1 W2 : Wd} {A A' Lt t : List Addr} {σ : L2.St} {H H' H1 H2 : Hp} {ρ ρ1 ρ2 : En} {v : V} {f : Addr}
theorem At.sw (f : Addr) {d : D} (h : At T H v d) : At (T.fnAt f) H v d :=
  At.rec (T := T) (motive_1 := fun v d _ => At (T.fnAt f) H v d) (motive_2 := fun vs ds _ => AtAll (T.fnAt f) H vs ds)
    .non .bl .int .str (fun s _ ih => .lst s ih) (fun s _ ih => .tup s ih) (fun s _ ih => .dK s ih) (fun s _ ih => .dT s ih) (fun s _ ih => .ins s ih) (fun s t _ ih => .exc s t ih) .nil (fun _ _ i1 i2 => .cons i1 i2) h
theorem AtAll.sw (f : Addr) : ∀ {vs : List V} {ds : List D}, AtAll T H vs ds → AtAll (T.fnAt f) H vs ds
  | _, _, .nil => .nil
  | _, _, .cons a b => .cons (a.sw f) (b.sw f)
theorem FAt.sw (f : Addr) {c : C1} (h : FAt T t H v c) (n : noFn c = true) : FAt (T.fnAt f) t H v c := by
  cases h with
  | p h => exact .p (h.sw f)
  | r h => exact .r h
  | fn => cases n
theorem FAll.sw (f : Addr) : ∀ {vs : List V} {cs : List C1}, FAll T t H vs cs → cs.all noFn = true → FAll (T.fnAt f) t H vs cs
  | _, _, .nil, _ => .nil
  | _, _, .cons a b, h => by
    rw [List.all_cons] at h
    obtain ⟨h1, h2⟩ := Bool.and_eq_true_iff.mp h
    exact .cons (a.sw f h1) (b.sw f h2)
theorem MAt.sw (f : Addr) {Hh : Hp} {a : Addr} {m : M} (h : MAt T t Hh H a m) (n : noFnM m = true) : MAt (T.fnAt f) t Hh H a m := by
  cases m with
  | l xs =>
    obtain ⟨vs, h1, h2⟩ := h
    exact ⟨vs, h1, h2.sw f⟩
  | m ks ds =>
    rcases h with ⟨kvs, h1, h2, h3⟩ | ⟨kvs, h1, h2, h3⟩
    · exact .inl ⟨kvs, h1, h2, h3.sw f⟩
    · exact .inr ⟨kvs, h1, h2, h3.sw f⟩
  | i c ns fs =>
    obtain ⟨dx, gs, h1, h2, h3⟩ := h
    exact ⟨dx, gs, h1, h2, h3.sw f n⟩
  | pen n => exact h
  | z d => exact At.sw f (show At T Hh (.ref a) d from h)
theorem PostH.sw (f : Addr) {μ' : List M} (p : PostH T A Lt H A' H' μ') (n : ∀ m, m ∈ μ' → noFnM m = true) : PostH (T.fnAt f) A Lt H A' H' μ' :=
  ⟨p.sub, p.new, p.dom, p.len, fun l a m h1 h2 => ⟨(p.st l a m h1 h2).1.sw f (n m (List.mem_iff_getElem?.mpr ⟨l, h2⟩)), (p.st l a m h1 h2).2⟩, p.tab, p.ext, p.th⟩
theorem PostH.bk {f : Addr} {μ' : List M} (p : PostH (T.fnAt f) A Lt H A' H' μ') (n : ∀ m, m ∈ μ' → noFnM m = true) : PostH T A Lt H A' H' μ' := p.sw T.f0 n
theorem RetOk.sw (f : Addr) {r : RV} (h : RetOk T C W H v r) (n : rvOk r = true) : RetOk (T.fnAt f) C W H v r := by
  cases h with
  | d h => exact .d (h.sw f)
  | r h => exact .r h
  | @n p m h1 h2 h3 h4 h5 h6 =>
    refine .n (h1.sw f ?_) h2 h3 h4 h5 h6
    cases m with
    | i _ _ _ => cases n
    | _ => rfl
theorem XAt.sw (f : Addr) {cls : Value} {d : Option Addr} {x : D} (h : XAt T H cls d x) : XAt (T.fnAt f) H cls d x := by
  obtain ⟨c, dd, fs, ds, h1, h2, h3, h4, h5⟩ := h
  exact ⟨c, dd, fs, ds, h1, h2, h3, h4, h5.sw f⟩
/-! ### what a lambda does, from wherever one comes from H on -/
def LamOk (T : Tab) (A Lt : List Addr) (H : Hp) (lam : List M → OtD) (tl : XK → Hp → VK → Prop) : Prop :=
  ∀ (A' : List Addr) (H' : Hp) (μ' : List M) (K : RV → List M → Prop) (X : D → List M → Prop) (E : XK) (Q : VK), PostH T A Lt H A' H' μ' → closedB Lt.length μ' = true → wd K X (lam μ') →
    (∀ v H2 A2 r μ2, PostH T A' Lt H' A2 H2 μ2 → RetOk T ⟨H', A', Lt, C8.E0, fun _ _ => False⟩ ⟨A2, Lt⟩ H2 v r → K r μ2 → Q v H2) →
    (∀ cls d H2 A2 x μ2, PostH T A' Lt H' A2 H2 μ2 → XAt T (hide H2 A2) cls d x → X x μ2 → E cls d H2) → tl E H' Q
/-- the promise of a def that gets a lambda first -/
def TTL (K : PySem.W.Frag) (ca : Str → Addr) (tb : List (Addr × Str)) (F : (List M → OtD) → FD) : (XK → Hp → VK → Prop) → List V → Hp → VK → Prop := fun tl vs H Q =>
  ∃ (ms : List Int) (A Lt : List Addr) (cs : List C1) (μ : List M) (lam : List M → OtD) (K' : RV → List M → Prop), ms.length ≤ 63 ∧ vs.length = cs.length ∧ (∀ f, PreC ⟨K, ca, ms, tb, f⟩ A Lt H μ (.ref f :: vs) (.fn :: cs)) ∧ (∀ f, LamOk ⟨K, ca, ms, tb, f⟩ A Lt H lam tl) ∧
    wd K' (fun _ _ => False) (F lam (.fn :: cs) μ) ∧ (∀ f v H' A' r μ', PostH ⟨K, ca, ms, tb, f⟩ A Lt H A' H' μ' → RetOk ⟨K, ca, ms, tb, f⟩ ⟨H, A, Lt, C8.E0, fun _ _ => False⟩ ⟨A', Lt⟩ H' v r → K' r μ' → Q v H')
def okE (ρ : En) : Option RV → OtD
  | some r => if (closedB ρ.k (ρ.μ.take ρ.k) && rvOk r) = true then .ok r (ρ.μ.take ρ.k) else .no
  | none => .no
def endE : Ot RV → OtD
  | .ok r ρ => okE ρ (retV r ρ)
  | .ex x ρ => if closedB ρ.k (ρ.μ.take ρ.k) = true then .ex x (ρ.μ.take ρ.k) else .no
  | .no => .no
def lamF (body : FE) (s : List (Option C1)) : List M → OtD := fun μ => endE (body ⟨s, μ, μ.length⟩)
def bkD (ls : List Nat) (ρ : En) : OtD → Ot RV
  | .ok r μ' => if (closedB ls.length μ' && rvOk r) = true then .ok (bkR ls r) (ρ.wm (wb ls ρ.μ ls μ')) else .no
  | _ => .no
def renS (μ : List M) (ls : List Nat) (s : List (Option C1)) : List (Option C1) := s.map fun o => o.map (renC μ ls)
def callL (F : (List M → OtD) → FD) (body : FE) (cs : List C1) (ρ : En) : Ot RV :=
  if okL ρ.μ (ρ.s.filterMap id ++ cs) (lend ρ.μ (ρ.s.filterMap id ++ cs)) = true then bkD (lend ρ.μ (ρ.s.filterMap id ++ cs)) ρ
    (F (lamF body (renS ρ.μ (lend ρ.μ (ρ.s.filterMap id ++ cs)) ρ.s)) (.fn :: cs.map (renC ρ.μ (lend ρ.μ (ρ.s.filterMap id ++ cs)))) (subM ρ.μ (lend ρ.μ (ρ.s.filterMap id ++ cs)))) else .no
def fLam (F : (List M → OtD) → FD) (body : FE) (fa : FC) : FE := fun ρ => (fa ρ).bind fun cs ρ1 => callL F body cs ρ1
theorem EnvOk.tabP (e : EnvOk T C W σ H ρ) {P : Addr} (hP : T.isT P) (x : ExtP P H H1) (hT : Tabs T.tb H1) : Post T C W σ H ρ W H1 ρ := by
  obtain ⟨q0, hq0, eP⟩ := hP
  have nf : ∀ b, H b ≠ none → H1 b ≠ none := fun b n z => by
    by_cases y : b = P
    · obtain ⟨ps, g, _⟩ := hT q0 hq0
      rw [y, ← eP, g] at z
      cases z
    · cases h : H b with
      | none => exact n h
      | some o =>
        rw [x b o h y] at z
        cases z
  have PA : P ∈ W.A := eP ▸ (e.tab q0 hq0).1
  have x1 : Ex (hide H W.A) (hide H1 W.A) := fun a o h => by
    obtain ⟨m, h⟩ := hide_some h
    rw [hide_ne m]
    exact x a o h fun z => m (z ▸ PA)
  have iT : T.isT P := ⟨q0, hq0, eP⟩
  refine ⟨⟨fun a o z n t => x a o (e.ext a o z n t) fun y => t (y ▸ iT), e.sub, e.dom0, fun a z => nf a (e.dom a z), e.len, fun i c z => ?_, e.tl, fun l a z => nf a (e.al l a z), fun l a m h1 h2 => (e.st l a m h1 h2).mono x1 (Pre.refl _) fun lv o z => x a o z fun y => (e.lv l a m h1 h2 lv).2.1 (y ▸ iT),
    e.lv, e.inj, e.kk, e.lent, e.ll, fun q hq => ⟨(e.tab q hq).1, hT q hq⟩, e.nw⟩, fun _ z => .inl z, fun _ z _ n => absurd z n, fun a o z _ t => x a o z fun y => t (y ▸ iT), Pre.refl _, fun _ _ z => .inl z, fun _ _ m _ h2 h3 => ⟨m, h2, h3⟩, fun a z => Classical.byContradiction fun n => nf a n z⟩
  obtain ⟨v, h1, h2⟩ := e.cell i c z
  exact ⟨v, h1, h2.mono x1 (Pre.refl _)⟩
theorem slots_fall {Hh : Hp} : ∀ {s : List (Option C1)} {σ : L2.St}, (∀ (i : Nat) (c : C1), s[i]? = some (some c) → ∃ v, σ[i]? = some (some v) ∧ FAt T t Hh v c) → ∃ vs, FAll T t Hh vs (s.filterMap id)
  | [], _, _ => ⟨[], .nil⟩
  | none :: s, σ, h => by
    obtain ⟨vs, r⟩ := slots_fall (s := s) (σ := σ.tail) fun i c z => by
      obtain ⟨v, h1, h2⟩ := h (i + 1) c (by simpa using z)
      exact ⟨v, by simpa using h1, h2⟩
    exact ⟨vs, r⟩
  | some c :: s, σ, h => by
    obtain ⟨vs, r⟩ := slots_fall (s := s) (σ := σ.tail) fun i c z => by
      obtain ⟨v, h1, h2⟩ := h (i + 1) c (by simpa using z)
      exact ⟨v, by simpa using h1, h2⟩
    obtain ⟨v, _, h2⟩ := h 0 c rfl
    exact ⟨v :: vs, .cons h2 r⟩
theorem ren_noFn {μ : List M} {ls : List Nat} {c : C1} (h : refIn μ ls c = true) : noFn (renC μ ls c) = true := by
  unfold refIn at h
  unfold renC
  cases z : fz μ c with
  | p d => rfl
  | r l => rfl
  | fn => rw [z] at h; cases h
theorem subM_noFn {μ : List M} {ls : List Nat} (h : ls.all (okM μ ls) = true) : ∀ m, m ∈ subM μ ls → noFnM m = true := fun m hm => by
  obtain ⟨l, hl, rfl⟩ := List.mem_map.mp hm
  have ok := List.all_eq_true.mp h l hl
  unfold okM at ok
  rw [List.getD_eq_getElem?_getD]; cases z : μ[l]? with
  | none => rw [z] at ok; cases ok
  | some x =>
    rw [z] at ok
    cases x with
    | i c ns fs =>
      show (fs.map (renC μ ls)).all noFn = true
      rw [List.all_map]
      exact List.all_eq_true.mpr fun c hc => ren_noFn (List.all_eq_true.mp ok c hc)
    | _ => rfl
/-- the lambda's own environment, wherever one is -/
theorem lam_env (e : EnvOk T C W σ H ρ) {cs : List C1} {ls : List Nat} {μ' : List M} (ok : okL ρ.μ (ρ.s.filterMap id ++ cs) ls = true) (p : PostH T W.A (ltOf W.t ls) H A' H' μ') :
    EnvOk T ⟨H', A', ltOf W.t ls, C8.E0, fun _ _ => False⟩ ⟨A', ltOf W.t ls⟩ σ H' ⟨renS ρ.μ ls ρ.s, μ', μ'.length⟩ := by
  unfold okL at ok
  obtain ⟨o1, ok⟩ := Bool.and_eq_true_iff.mp ok
  obtain ⟨o2, o3⟩ := Bool.and_eq_true_iff.mp ok
  have lA : ∀ a, a ∈ ltOf W.t ls → a ∈ W.A := fun a h => by
    obtain ⟨j, hj⟩ := List.mem_iff_getElem?.mp h
    obtain ⟨l, m, g1, g2, g3, g4, _⟩ := lt_inv e o2 hj
    exact (e.lv l a m g2 g3 g4).1
  have x1 : Ex (hide H W.A) (hide H' A') := fun a o h => by
    obtain ⟨m, h⟩ := hide_some h
    rw [hide_ne fun z => (p.new a z).elim m fun q => by rw [h] at q; cases q]
    exact p.ext a o h (fun z => m (lA a z)) (e.not_tab m)
  refine ⟨fun a o h _ _ => h, fun _ h => h, p.dom, p.dom, ?_, fun i c hc => ?_, p.len, fun l a h => ?_, fun l a m h1 h2 => (p.st l a m h1 h2).1, fun l a m h1 h2 _ => ?_, fun i j a h1 h2 => ?_, p.len.symm, fun _ _ h => h, fun l m h1 h2 => ?_, fun q hq => ⟨p.sub _ (e.tab q hq).1, p.tab q hq⟩, fun _ h => .inl h⟩
  · show σ.length = (ρ.s.map _).length
    rw [List.length_map]
    exact e.len
  · have hc : (ρ.s.map fun o => o.map (renC ρ.μ ls))[i]? = some (some c) := hc
    rw [List.getElem?_map] at hc
    cases z : ρ.s[i]? with
    | none => rw [z] at hc; cases hc
    | some o =>
      cases o with
      | none => rw [z] at hc; cases hc
      | some c0 =>
        rw [z] at hc
        cases hc
        obtain ⟨v, h1, h2⟩ := e.cell i c0 z
        have mem : c0 ∈ ρ.s.filterMap id := List.mem_filterMap.mpr ⟨some c0, List.mem_iff_getElem?.mpr ⟨i, z⟩, rfl⟩
        exact ⟨v, h1, (renC_at e h2 (List.all_eq_true.mp o3 c0 (List.mem_append_left _ mem))).mono x1 (Pre.refl _)⟩
  · intro z
    exact e.dom a (lA a (List.mem_iff_getElem?.mpr ⟨l, h⟩)) (p.th a z)
  · obtain ⟨j, m', g1, g2, g3, g4, _⟩ := lt_inv e o2 h1
    obtain ⟨k1, k2, _⟩ := e.lv j a m' g2 g3 g4
    exact ⟨p.sub a k1, k2, fun z => absurd (List.getElem?_eq_some_iff.mp h1).1 (Nat.not_lt.mpr z)⟩
  · obtain ⟨l, m, g1, g2, _⟩ := lt_inv e o2 h1
    obtain ⟨l', m', g1', g2', _⟩ := lt_inv e o2 h2
    have := e.inj l l' a g2 g2'
    subst this
    exact nodupB_inj o1 i j l g1 g1'
  · obtain ⟨a, ha⟩ : ∃ a, (ltOf W.t ls)[l]? = some a := ⟨_, List.getElem?_eq_getElem h1⟩
    exact (p.st l a m ha h2).2
theorem lam_ok (e : EnvOk T C W σ H ρ) {cs : List C1} {ls : List Nat} (ok : okL ρ.μ (ρ.s.filterMap id ++ cs) ls = true) {t : XK → TE} {body : FE}
    (hb : ∀ (C' : C0) (E : XK) (X' : Xw), LinkW T C' (fun cls d _ H => E cls d H) X' → Pe T C' (t E) (we X' body)) (f : Addr) : LamOk (T.fnAt f) W.A (ltOf W.t ls) H (lamF body (renS ρ.μ ls ρ.s)) fun E H' Q' => t E σ H' Q' := fun A' H' μ' K X1 E Q p cl q hQ hE => by
  have p0 := p.bk (closed_noFn cl)
  have e1 := lam_env e ok p0
  have kl : μ'.length = (ltOf W.t ls).length := p.len.symm
  refine hb _ E (fun x ρ3 => closedB ρ3.k (ρ3.μ.take ρ3.k) = true ∧ X1 x (ρ3.μ.take ρ3.k)) (fun W3 σ3 H3 ρ3 cls d x e3 hx ⟨c3, q3⟩ => hE cls d H3 W3.A x _ ((e3.post_h c3).sw f (closed_noFn c3)) (hx.sw f) q3) _ σ H' _
    (fun r ρ3 => ∃ r', retV r ρ3 = some r' ∧ closedB ρ3.k (ρ3.μ.take ρ3.k) = true ∧ rvOk r' = true ∧ K r' (ρ3.μ.take ρ3.k)) Q e1 ?_ fun v H3 W3 r ρ3 P3 R3 ⟨r', er, c3, n3, q3⟩ => ?_
  · have q : wd K X1 (endE (body ⟨renS ρ.μ ls ρ.s, μ', μ'.length⟩)) := q
    show wo _ _ (body ⟨renS ρ.μ ls ρ.s, μ', μ'.length⟩)
    cases z : body ⟨renS ρ.μ ls ρ.s, μ', μ'.length⟩ with
    | no => rw [z] at q; exact q.elim
    | ex x ρ3 =>
      rw [z] at q
      have q : wd K X1 (if closedB ρ3.k (ρ3.μ.take ρ3.k) = true then .ex x (ρ3.μ.take ρ3.k) else .no) := q
      split at q
      · rename_i y
        exact ⟨y, q⟩
      · exact q.elim
    | ok r ρ3 =>
      rw [z] at q
      have q : wd K X1 (okE ρ3 (retV r ρ3)) := q
      cases y : retV r ρ3 with
      | none => rw [y] at q; exact q.elim
      | some r' =>
        rw [y] at q
        have q : wd K X1 (if (closedB ρ3.k (ρ3.μ.take ρ3.k) && rvOk r') = true then .ok r' (ρ3.μ.take ρ3.k) else .no) := q
        split at q
        · rename_i w
          obtain ⟨w1, w2⟩ := Bool.and_eq_true_iff.mp w
          exact ⟨r', y, w1, w2, q⟩
        · exact q.elim
  · obtain ⟨r2, R4, e2⟩ := norm_ok (k := fun x => x = r') P3.ok R3 (norm_of er rfl)
    subst e2
    exact hQ v H3 W3.A r2 _ ((P3.ok.post_h c3).sw f (closed_noFn c3)) ((RetOk.core R4).sw f n3) q3
theorem q_lam {P : Addr} {F : (List M → OtD) → FD} {t : XK → TE} {ta : TA} {body : FE} {fa : FC} (hz : T.cs.length ≤ 63) (hP : T.isT P) (ha : Pc T C ta (we X fa))
    (hb : ∀ (C' : C0) (E : XK) (X' : Xw), LinkW T C' (fun cls d _ H => E cls d H) X' → Pe T C' (t E) (we X' body)) : Pe T C (tLamY P T.tb (TTL T.K T.ca T.tb F) t ta) (we X (fLam F body fa)) := fun W σ H ρ Q K e q k => by
  refine ⟨fun q hq => (e.tab q hq).2, fun cc qn H1 x1 hT hco => ?_⟩
  have P1 := e.tabP hP x1 hT
  refine ha W σ H1 ρ _ _ P1.ok (wo_bind q) fun vs H2 W2 cs ρ2 P2 S2 q2 => ⟨?_, ?_⟩
  · refine P2.keep cc _ hco (fun ⟨l, m, h1, h2, h3⟩ => ?_) fun ⟨q, hq, z⟩ => ?_
    · obtain ⟨o, ho, mu⟩ := (P1.ok.st l cc m h1 h2).mut h3
      rw [hco] at ho
      cases ho
      exact mu.2 _ _ rfl
    · obtain ⟨ps, g, _⟩ := hT q hq
      rw [z, hco] at g
      exact codeO_ne ps (Option.some.inj g)
  · obtain ⟨ok, q2⟩ := wo_if q2
    obtain ⟨vss, S1⟩ := slots_fall P2.ok.cell
    have pr := pre_c P2.ok (S1.append S2) ok
    have ok' := ok
    unfold okL at ok'
    obtain ⟨o1, ok'⟩ := Bool.and_eq_true_iff.mp ok'
    obtain ⟨o2, o3⟩ := Bool.and_eq_true_iff.mp ok'
    rw [List.all_append] at o3
    obtain ⟨_, o3⟩ := Bool.and_eq_true_iff.mp o3
    have Sr := renC_all (ls := lend ρ2.μ (ρ2.s.filterMap id ++ cs)) P2.ok S2 o3
    have nfr : (cs.map (renC ρ2.μ (lend ρ2.μ (ρ2.s.filterMap id ++ cs)))).all noFn = true := by
      rw [List.all_map]
      exact List.all_eq_true.mpr fun c hc => ren_noFn (List.all_eq_true.mp o3 c hc)
    have nfm := subM_noFn o2
    refine ⟨T.cs, W2.A, ltOf W2.t (lend ρ2.μ (ρ2.s.filterMap id ++ cs)), cs.map (renC ρ2.μ (lend ρ2.μ (ρ2.s.filterMap id ++ cs))), subM ρ2.μ (lend ρ2.μ (ρ2.s.filterMap id ++ cs)), lamF body (renS ρ2.μ (lend ρ2.μ (ρ2.s.filterMap id ++ cs)) ρ2.s),
      fun r μ' => closedB (lend ρ2.μ (ρ2.s.filterMap id ++ cs)).length μ' = true ∧ rvOk r = true ∧ Q (bkR (lend ρ2.μ (ρ2.s.filterMap id ++ cs)) r) (ρ2.wm (wb (lend ρ2.μ (ρ2.s.filterMap id ++ cs)) ρ2.μ (lend ρ2.μ (ρ2.s.filterMap id ++ cs)) μ')), hz, by rw [Sr.length], fun f => ?_, fun f => lam_ok P2.ok ok hb f, ?_, fun f v H' A' r μ' p hr ⟨c3, n3, q3⟩ => ?_⟩
    · exact ⟨pr.dom, .cons .fn (Sr.sw f nfr), pr.len, fun l a m h1 h2 => ⟨(pr.st l a m h1 h2).1.sw f (nfm m (List.mem_iff_getElem?.mpr ⟨l, h2⟩)), (pr.st l a m h1 h2).2⟩, pr.inj, pr.tab⟩
    · show wd _ _ (F _ _ _)
      cases z : F (lamF body (renS ρ2.μ (lend ρ2.μ (ρ2.s.filterMap id ++ cs)) ρ2.s)) (.fn :: cs.map (renC ρ2.μ (lend ρ2.μ (ρ2.s.filterMap id ++ cs)))) (subM ρ2.μ (lend ρ2.μ (ρ2.s.filterMap id ++ cs))) with
      | no => rw [z] at q2; exact q2.elim
      | ex x μ' => rw [z] at q2; exact q2.elim
      | ok r μ' =>
        rw [z] at q2
        obtain ⟨y, q2⟩ := wo_if q2
        obtain ⟨y1, y2⟩ := Bool.and_eq_true_iff.mp y; exact ⟨y1, y2, q2⟩
    · have P3 := P2.ok.called ok (p.bk (T := T) (closed_noFn c3))
      have hr : RetOk T ⟨H2, W2.A, ltOf W2.t (lend ρ2.μ (ρ2.s.filterMap id ++ cs)), C8.E0, fun _ _ => False⟩ ⟨A', ltOf W2.t (lend ρ2.μ (ρ2.s.filterMap id ++ cs))⟩ H' v r := RetOk.sw (T := T.fnAt f) T.f0 hr n3
      have R := P2.ok.result ok hr
      exact k _ _ _ _ _ ((P1.trans P2).trans P3) (R.back (P1.trans P2)) q3
/-! ### in the def that got it -/
def fnB : Option (Option C1) → Bool
  | some (some .fn) => true
  | _ => false
def fAct (lam : List M → OtD) : FE := fun ρ => if (fnB ρ.s[0]? && (closedB ρ.k (ρ.μ.take ρ.k) && okL ρ.μ [] (List.range ρ.k))) = true then callR (List.range ρ.k) ρ (lam (ρ.μ.take ρ.k)) else .no
theorem lt_range (e : EnvOk T C W σ H ρ) : ltOf W.t (List.range ρ.k) = C.Lt := by
  refine List.ext_getElem? fun j => ?_; unfold ltOf
  rw [List.getElem?_map]
  by_cases hj : j < ρ.k
  · have hj' : j < C.Lt.length := by rw [← e.kk]; exact hj
    have h1 : C.Lt[j]? = some (C.Lt[j]'hj') := List.getElem?_eq_getElem hj'
    have h2 := e.lent j _ h1
    rw [List.getElem?_range hj, h1]
    show some (W.t.getD j 0) = _
    rw [List.getD_eq_getElem?_getD, h2]
    rfl
  · rw [List.getElem?_eq_none (by simpa using hj), List.getElem?_eq_none (by rw [← e.kk]; omega)]
    rfl
theorem q_act {lam : List M → OtD} {tl : XK → Hp → VK → Prop} {Wx : WX} {cc : Addr} {q : Str} (lk : LinkW T C Wx X) (L : LamOk T C.A0 C.Lt C.H0 lam tl) (hcc : C.H0 cc = some (CodeO cc q)) (nL : cc ∉ C.Lt) (nT : ¬ T.isT cc) :
    Pe T C (fun σZ HZ Q => σZ[0]? = some (some (.ref T.f0)) ∧ HZ cc = some (CodeO cc q) ∧ tl (L2.WE Wx σZ) HZ Q) (we X (fAct lam)) := fun W σ H ρ Q K e w k => by
  obtain ⟨w0, w⟩ := wo_if w
  obtain ⟨w1, w0⟩ := Bool.and_eq_true_iff.mp w0
  obtain ⟨cl, ok⟩ := Bool.and_eq_true_iff.mp w0
  refine ⟨?_, e.ext cc _ hcc nL nT, ?_⟩
  · cases z : ρ.s[0]? with
    | none => rw [z] at w1; cases w1
    | some o =>
      cases o with
      | none => rw [z] at w1; cases w1
      | some c =>
        rw [z] at w1
        cases c with
        | fn =>
          obtain ⟨v, h1, h2⟩ := e.cell 0 _ z
          cases h2
          exact h1
        | _ => cases w1
  · have hl := lt_range e
    have kk : C.Lt.length = ρ.k := e.kk.symm
    refine L W.A H (ρ.μ.take ρ.k) (fun r μ2 => Q (bkR (List.range ρ.k) r) (ρ.wm (wb (List.range ρ.k) ρ.μ (List.range ρ.k) μ2))) (fun x μ2 => X x (ρ.wm (wb (List.range ρ.k) ρ.μ (List.range ρ.k) μ2))) (L2.WE Wx σ) K (e.post_h cl) (by rw [kk]; exact cl) ?_ (fun v H2 A2 r μ2 p hr q2 => ?_) fun cls d H2 A2 x μ2 p hx q2 => ?_
    · cases z : lam (ρ.μ.take ρ.k) <;> rw [z] at w <;> exact w
    · rw [← hl] at p hr
      exact k _ _ _ _ _ (e.called ok p) (e.result ok hr) q2
    · rw [← hl] at p
      exact lk _ _ _ _ _ _ _ (e.called ok p).ok hx q2
/-- the body of a def that gets a lambda first -/
theorem bodyL {K : PySem.W.Frag} {ca : Str → Addr} {tb : List (Addr × Str)} {ts : TS} {N : List Str} {m : Nat} {b : (List M → OtD) → FS} {tl : XK → Hp → VK → Prop} {cc : Addr} {q : Str} {f : Addr} {H : Hp}
    (h : ∀ (ms : List Int) (lam : List M → OtD), ms.length ≤ 63 → ∀ C, LamOk ⟨K, ca, ms, tb, f⟩ C.A0 C.Lt C.H0 lam tl → C.H0 = H → cc ∉ C.Lt → ¬ Tab.isT ⟨K, ca, ms, tb, f⟩ cc → Ps0 ⟨K, ca, ms, tb, f⟩ C ts (ws noX (b lam)))
    (hco : H cc = some (CodeO cc q)) {vs : List V} {Q : VK} (hs : TTL K ca tb (fun lam => runD N.length m (b lam)) tl vs H Q) : ts { nx := fun _ H' => Q .non H', rt := Q } (start N (.ref f :: vs)) H := by
  obtain ⟨ms, A, Lt, cs, μ, lam, K', hz, hl, pre, L, hr, fin⟩ := hs
  have p := pre f
  obtain ⟨hl2, hw⟩ := run_of (XD := fun _ _ => False) hr
  have e := pre_env (N := N) (XE := C8.E0) (XD := fun _ _ => False) p
  have hv : (V.ref f :: vs).length = m := p.args.length.trans hl2
  rw [hv, p.len] at e
  have nL : cc ∉ Lt := fun z => by
    obtain ⟨j, hj⟩ := List.mem_iff_getElem?.mp z
    have hj' : j < μ.length := by rw [← p.len]; exact (List.getElem?_eq_some_iff.mp hj).1
    obtain ⟨g1, g2, _⟩ := p.st j cc _ hj (List.getElem?_eq_getElem hj')
    obtain ⟨o, ho, mu⟩ := g1.mut g2
    rw [hco] at ho
    cases ho
    exact mu.2 _ _ rfl
  have nT : ¬ Tab.isT ⟨K, ca, ms, tb, f⟩ cc := fun ⟨q, hq, z⟩ => by
    obtain ⟨ps, g, _⟩ := (p.tab q hq).2
    rw [z, hco] at g
    exact codeO_ne ps (Option.some.inj g)
  have hw2 : ws noX (b lam) (bodyE K') ⟨st0 (N.length - m) (.fn :: cs), μ, μ.length⟩ := by
    have hw : wl (xD fun _ _ => False) (bodyE K') (b lam ⟨st0 (N.length - m) (.fn :: cs), μ, μ.length⟩) := hw
    show wl noX (bodyE K') (b lam ⟨st0 (N.length - m) (.fn :: cs), μ, μ.length⟩)
    cases z : b lam ⟨st0 (N.length - m) (.fn :: cs), μ, μ.length⟩ <;> rw [z] at hw <;> first | exact hw | exact hw.2.elim
  refine h ms lam hz ⟨H, A, Lt, C8.E0, fun _ _ => False⟩ (L f) rfl nL nT ⟨A, Lt⟩ (start N (.ref f :: vs)) H _ (bodyE K') _ e ⟨?_, ?_, ?_, ?_⟩ hw2
  · exact fun W σ H' ρ e' _ q => fin f .non H' W.A (.d .non) _ (e'.post_h q.1) (.d .non) q.2
  · exact fun _ _ _ _ _ _ z => False.elim z
  · exact fun _ _ _ _ _ _ z => False.elim z
  · exact fun W σ H' ρ v r e' _ R' cl q => fin f v H' W.A r _ (e'.post_h cl) R'.core q
end
end Sd

set_option maxHeartbeats 1000000
/-! P8: operations as functions; isinstance. -/
namespace L2
open PySem PySem.Spec PyProof.Rows
def rIsXT (K : PySem.W.Frag) : List V → Hp → VK → Prop := fun xs H Q => ∃ (a D d tp : Addr) (fs : List (Str × V)) (cs : List V) (us : List Value) (b : Bool), xs = [.ref a, .ref tp] ∧ H a = some (Sd.ExcA D d a) ∧ H d = some (.xd fs) ∧ ExcC K D ∧ H tp = some (.tup cs) ∧ Paired ClsV cs us ∧ PySem.W.kitAny K (.ref D) us = some b ∧ Q (.bl b) H
theorem call_isXT {X : Cx} : CallR X (.builtin "isinstance") (rIsXT X.K) := fun pins s σ H xs us Q I r ⟨a, D, d, tp, fs, cs, ws, b, ex, ea, ed, Y, hT, k, ek, q⟩ => by
  subst ex
  match us, r with
  | [_, u2], .cons rx (.cons rt .nil) =>
    cases (show u2 = Value.ref tp from rt)
    cases rx
    obtain ⟨oe, od, mA, Z, _, _⟩ := excA_at I.hok ea ed
    obtain ⟨_, its, rv, o, h1, h2, n, h3⟩ := (show ObjOk X.prog X.w H s.heap tp (.tup cs) from I.hok tp _ hT); have e3 := ClsV.all k rv
    subst e3
    obtain ⟨oc, ob, dt, sl⟩ := o
    simp only at h2 h3
    subst h2 h3
    exact PySem.W.kia_tup (PySem.ExZ.kit_exc Y) I.kIn Z h1 ek (fun z => nomatch z) fun tk => ⟨.bl b, H, I.kept (t' := tk) fun _ _ z => z, rfl, q⟩
/-- isinstance, whatever is asked -/
def rIsU (K : PySem.W.Frag) : List V → Hp → VK → Prop := fun xs H Q => rIsi K xs H Q ∨ rIsiT K xs H Q ∨ rIsX K xs H Q ∨ rIsXT K xs H Q
theorem call_isU {X : Cx} {K : PySem.W.Frag} (hK : X.K = K) : CallR X (.builtin "isinstance") (rIsU K) := fun pins s σ H xs us Q I r h => by
  subst hK
  rcases h with h | h | h | h
  · exact call_isi pins s σ H xs us Q I r h
  · exact call_isiT pins s σ H xs us Q I r h
  · exact call_isX pins s σ H xs us Q I r h
  · exact call_isXT pins s σ H xs us Q I r h
end L2
namespace Sd
open PySem PySem.Spec PyProof.Rows L2 LamX
/-! ### ints -/
def oI (c : Int → Int → Bool) (g : Int → Int → D) : O2
  | .int i, .int j => if c i j = true then some (.d (g i j)) else none
  | _, _ => none
def oI0 (g : Int → Int → D) : O2
  | .int i, .int j => some (.d (g i j))
  | _, _ => none
theorem if_some {α : Type} {c : Bool} {a b : α} (h : (if c = true then some a else none) = some b) : c = true ∧ a = b := by
  cases c with
  | true => exact ⟨rfl, Option.some.inj h⟩
  | false => cases h
theorem c_I {c : Int → Int → Bool} {P : Int → Int → Prop} {g : Int → Int → D} (hc : ∀ i j, c i j = true → P i j) : C2f (fI P g) (oI c g) := fun u v q k e h => by
  cases u with
  | int i =>
    cases v with
    | int j =>
      obtain ⟨e1, e2⟩ := if_some e
      subst e2
      exact ⟨hc i j e1, h⟩
    | _ => cases e
  | _ => cases e
theorem c_I0 {g : Int → Int → D} : C2f (fI0 g) (oI0 g) := fun u v q k e h => by
  cases u with
  | int i =>
    cases v with
    | int j => cases e; exact h
    | _ => cases e
  | _ => cases e
def bMul (i j : Int) : Bool := (decide (-(2 ^ 64) < i) && decide (i < 2 ^ 64)) || (decide (-(2 ^ 64) < j) && decide (j < 2 ^ 64))
def bDiv (_ j : Int) : Bool := decide (0 < j) && decide (j < 1073741824)
def bPow (i j : Int) : Bool := decide (0 ≤ j) && (decide (j ≤ 1000000) && decide (i.natAbs < 2 ^ 64))
def bMod (_ j : Int) : Bool := decide (0 < j)
theorem bMul_ok (i j : Int) (h : bMul i j = true) : CMul i j := by
  unfold bMul at h
  simp only [Bool.or_eq_true, Bool.and_eq_true, decide_eq_true_eq] at h
  exact h
theorem bDiv_ok (i j : Int) (h : bDiv i j = true) : CDiv i j := by
  unfold bDiv at h
  simp only [Bool.and_eq_true, decide_eq_true_eq] at h; exact h
theorem bPow_ok (i j : Int) (h : bPow i j = true) : CPow i j := by
  unfold bPow at h
  simp only [Bool.and_eq_true, decide_eq_true_eq] at h; exact h
def oSub : O2 := oI0 fun i j => .int (i - j)
def oDiv : O2 := oI bDiv fun i j => .int (i / j)
def oMod : O2 := oI bMod fun i j => .int (i % j)
def oPow : O2 := oI bPow fun i j => .int (i ^ j.toNat)
def oLt : O2 := oI0 fun i j => .bl (decide (i < j))
def oLe : O2 := oI0 fun i j => .bl (decide (i ≤ j))
def oGt : O2 := oI0 fun i j => .bl (decide (j < i))
def oGe : O2 := oI0 fun i j => .bl (decide (j ≤ i))
def oAdd : O2
  | .int i, .int j => some (.d (.int (i + j)))
  | .str x, .str y => if szB (x.length + y.length) = true then some (.d (.str (x ++ y))) else none
  | .lst xs, .lst ys => if szB (xs.length + ys.length) = true then some (.n (.l (xs ++ ys))) else none
  | .tup xs, .tup ys => if szB (xs.length + ys.length) = true then some (.d (.tup (xs ++ ys))) else none
  | _, _ => none
def oMul : O2
  | .int i, .int j => if bMul i j = true then some (.d (.int (i * j))) else none
  | .lst xs, .int j => if (decide (-(2 ^ 63) ≤ j ∧ j < 2 ^ 63) && szB (xs.length * j.toNat)) = true then some (.n (.l (List.replicate j.toNat xs).flatten)) else none
  | _, _ => none
theorem c_sub : C2f (fI0 fun i j => .int (i - j)) oSub := c_I0
theorem c_div : C2f (fI CDiv fun i j => .int (i / j)) oDiv := c_I bDiv_ok
theorem c_mod : C2f (fI (fun _ j => 0 < j) fun i j => .int (i % j)) oMod := c_I fun i j h => of_decide_eq_true h
theorem c_pow : C2f (fI CPow fun i j => .int (i ^ j.toNat)) oPow := c_I bPow_ok
theorem c_lt : C2f (fI0 fun i j => .bl (decide (i < j))) oLt := c_I0
theorem c_le : C2f (fI0 fun i j => .bl (decide (i ≤ j))) oLe := c_I0
theorem c_gt : C2f (fI0 fun i j => .bl (decide (j < i))) oGt := c_I0
theorem c_ge : C2f (fI0 fun i j => .bl (decide (j ≤ i))) oGe := c_I0
theorem c_add : C2f fAddU oAdd := fun u v q k e h => by
  cases u <;> cases v <;> first
    | (cases e; exact h)
    | (obtain ⟨e1, e2⟩ := if_some e; subst e2; exact ⟨e1, h⟩)
    | cases e
theorem c_mul : C2f fMulU oMul := fun u v q k e h => by
  cases u <;> cases v <;> first
    | (obtain ⟨e1, e2⟩ := if_some (c := bMul _ _) e; subst e2; exact ⟨bMul_ok _ _ e1, h⟩)
    | (obtain ⟨e1, e2⟩ := if_some e; subst e2; exact ⟨e1, h⟩)
    | cases e
/-! ### by place, equality -/
def atF (xs : List D) (i : Int) : Option RV := match atI xs i with
  | some d => some (.d d)
  | none => none
def signAt (z : Str) (i : Int) : Option RV := match atI z.cps.toList i with
  | some c => some (.d (.str ⟨#[c]⟩))
  | none => none
def oIx : O2
  | .lst xs, .int i => atF xs i
  | .tup xs, .int i => atF xs i
  | .str z, .int i => if szB z.length = true then signAt z i else none
  | _, _ => none
theorem atF_of {xs : List D} {i : Int} {q : RV} {k : RV → Prop} (e : atF xs i = some q) (h : k q) : atK xs i k := by
  unfold atF at e
  unfold atK
  cases z : atI xs i with
  | none => rw [z] at e; cases e
  | some d => rw [z] at e; cases e; exact h
theorem c_ix : C2f fIx oIx := fun u v q k e h => by
  cases u with
  | lst xs =>
    cases v with
    | int i => exact atF_of e h
    | _ => cases e
  | tup xs =>
    cases v with
    | int i => exact atF_of e h
    | _ => cases e
  | str z =>
    cases v with
    | int i =>
      have e : (if szB z.length = true then signAt z i else none) = some q := e
      split at e
      · rename_i y
        unfold signAt at e
        refine ⟨y, ?_⟩
        cases w : atI z.cps.toList i with
        | none => rw [w] at e; cases e
        | some c => rw [w] at e; cases e; exact h
      · cases e
    | _ => cases e
  | _ => cases e
/-- == of data, as python has it -/
def eqP (u v : D) : Option Bool := match D.py u, D.py v with
  | some d, some e => if (SeqAt.shaped d && SeqAt.shaped e) = true then some (PyData.eqv d e) else none
  | _, _ => none
def eqO : D → D → Option Bool
  | .str x, .str y => some (decide (x = y))
  | u, v => eqP u v
def oEq (g : Bool → Bool) : O2 := fun u v => match eqO u v with
  | some b => some (.d (.bl (g b)))
  | none => none
theorem eqP_of {g : Bool → Bool} {u v : D} {b : Bool} {k : RV → Prop} (e : eqP u v = some b) (h : k (.d (.bl (g b)))) : eqK g u v k := by
  unfold eqP at e
  cases e1 : D.py u with
  | none => rw [e1] at e; cases e
  | some d =>
    cases e2 : D.py v with
    | none => rw [e1, e2] at e; cases e
    | some e' =>
      rw [e1, e2] at e
      obtain ⟨z1, z2⟩ := if_some e
      subst z2
      exact eqK_of e1 e2 z1 h
theorem c_eq {g : Bool → Bool} : C2f (eqU g) (oEq g) := fun u v q k e h => by
  unfold oEq at e
  cases z : eqO u v with
  | none => rw [z] at e; cases e
  | some b =>
    rw [z] at e
    cases e
    cases u <;> cases v <;> first
      | (cases z; exact h)
      | exact eqP_of z h
/-! ### built-ins -/
def oLen : OL
  | [.lst xs] => some (.d (.int (xs.length : Nat)))
  | [.tup xs] => some (.d (.int (xs.length : Nat)))
  | [.str z] => if szB z.length = true then some (.d (.int (z.length : Nat))) else none
  | _ => none
theorem c_len : CLf fLen oLen := fun us q k e h => by
  match us, e with
  | [.lst xs], e => cases e; exact h
  | [.tup xs], e => cases e; exact h
  | [.str z], e =>
    obtain ⟨e1, e2⟩ := if_some e
    subst e2
    exact ⟨e1, h⟩
def oInt : OL
  | [.int i] => some (.d (.int i))
  | [.bl b] => some (.d (.int (if b then 1 else 0)))
  | _ => none
theorem c_int : CLf fInt oInt := fun us q k e h => by
  match us, e with
  | [.int i], e => cases e; exact h
  | [.bl b], e => cases e; exact h
def oAbs : OL
  | [.int i] => some (.d (.int (if i < 0 then -i else i)))
  | _ => none
theorem c_abs : CLf fAbs oAbs := fun us q k e h => by
  match us, e with
  | [.int i], e => cases e; exact h
def oList : OL
  | [.lst xs] => some (.n (.l xs))
  | [.tup xs] => some (.n (.l xs))
  | _ => none
theorem c_list : CLf fList oList := fun us q k e h => by
  match us, e with
  | [.lst xs], e => cases e; exact h
  | [.tup xs], e => cases e; exact h
def oNeg : O1
  | .int i => some (.d (.int (-i)))
  | _ => none
theorem c_neg : C1f fNeg oNeg := fun u q k e h => by
  cases u with
  | int i => cases e; exact h
  | _ => cases e
/-- repr of data that holds no own objects -/
def oRepr : OL
  | [d] => match D.pyR d with
    | some e => if (isBox d && (e.showable && (decide (e.depth ≤ 60) && szB e.shown.length))) = true then some (.d (.str e.shown)) else none
    | none => none
  | _ => none
theorem c_repr : CLf fReprB oRepr := fun us q k e h => by
  match us, e with
  | [d], e =>
    have e : (match D.pyR d with
      | some e => if (isBox d && (e.showable && (decide (e.depth ≤ 60) && szB e.shown.length))) = true then some (RV.d (.str e.shown)) else none
      | none => none) = some q := e
    cases z : D.pyR d with
    | none => rw [z] at e; cases e
    | some y =>
      rw [z] at e
      obtain ⟨e1, e2⟩ := if_some e
      subst e2
      obtain ⟨e1, e2⟩ := Bool.and_eq_true_iff.mp e1
      refine ⟨?_, fRepr_of z e2 h⟩
      show ([d] : List D).all isBox = true
      rw [List.all_cons, e1]
      rfl
/-! ### isinstance -/
inductive TyN where
  | non | bl | int | str | tup | lst | dct
  | i (c : Str)
  | e (c : Str)
def tyN : D → TyN
  | .non => .non
  | .bl _ => .bl
  | .int _ => .int
  | .str _ => .str
  | .tup _ => .tup
  | .lst _ => .lst
  | .dct _ _ => .dct
  | .ins c _ _ => .i c
  | .exc c _ _ => .e c
def tyV (ca : Str → Addr) : TyN → Value
  | .non => .type "NoneType"
  | .bl => .type "bool"
  | .int => .type "int"
  | .str => .type "str"
  | .tup => .type "tuple"
  | .lst => .type "list"
  | .dct => .type "dict"
  | .i c => .ref (ca c)
  | .e c => .ref (ca c)
/-- what an own class says, so that isinstance asks its instances rightly -/
structure InsC (K : PySem.W.Frag) (C : Addr) : Prop
where
  cl : Cls K C
  (ha : PySem.W.findIn K (.ref C) "__class__" = some (some (.builtin "object.__class__")))
  (hn : PySem.W.specialIn K (.builtin "object.__class__") "__get__" = some (some (.builtin "getset_descriptor.__get__")))
  (ht : PySem.W.takesIn K (.builtin "object.__class__") = some true)
  (hm : PySem.W.mroIn K C (.type "object") = some true)
structure IsOk (K : PySem.W.Frag) (ca : Str → Addr) (tbl : TyN → Option Bool) (cs : List Value) : Prop where
  k : ∀ t b, tbl t = some b → PySem.W.kitAny K (tyV ca t) cs = some b
  i : ∀ c b, tbl (.i c) = some b → InsC K (ca c)
  e : ∀ c b, tbl (.e c) = some b → ExcC K (ca c)
def oIs (tbl : TyN → Option Bool) : O1 := fun d => match tbl (tyN d) with
  | some b => some (.d (.bl b))
  | none => none
section
variable {T : Tab} {C : C0} {X : Xw} {A : List Addr} {H : Hp}
theorem sq_ty {K : PySem.W.Frag} {a : Addr} {vs : List V} (h : SqT K H a vs) : TyX K H (.ref a) (.type "tuple") := by
  rcases h with h | ⟨o, its, n, e1, e2, _⟩
  · rcases h with h | ⟨o, h⟩
    · exact .base (.tup h)
    · exact .fTuple h
  · exact .kTuple e1 e2
theorem ty_of {d : D} {v : V} (h : At T H v d) (hi : ∀ c, tyN d = .i c → InsC T.K (T.ca c)) (hx : ∀ c, tyN d ≠ .e c) : TyX T.K H v (tyV T.ca (tyN d)) := by
  cases h with
  | non => exact .base .non
  | bl b => exact .base (.bl b)
  | int i => exact .base (.int i)
  | str x => exact .base (.str x)
  | lst s _ => exact .base (.lst s)
  | tup s _ => exact sq_ty s
  | dK s _ => exact .base (.dK s)
  | dT s _ => exact .base (.dT s)
  | ins s _ =>
    have c := hi _ rfl
    exact .base (.ins s c.cl c.ha c.hn c.ht c.hm)
  | exc s _ _ => exact absurd rfl (hx _)
theorem kit_one {K : PySem.W.Frag} {t c : Value} {b : Bool} (h : PySem.W.kitAny K t [c] = some b) : PySem.W.kitOne K t c = some b := by
  have h : (match PySem.W.kitOne K t c with
    | some true => some true
    | some false => PySem.W.kitAny K t []
    | none => none) = some b := h
  cases z : PySem.W.kitOne K t c with
  | none => rw [z] at h; cases h
  | some y =>
    rw [z] at h
    cases y with
    | true => exact h
    | false => exact h
theorem q_is1 {te : TE} {fa : FE} {tbl : TyN → Option Bool} {cv : V} {cu : Value} (hu : ClsV cv cu) (ok : IsOk T.K T.ca tbl [cu]) (h : Pe T C te (we X fa)) : Pe T C (tCB (rIsU T.K) (tCons te (tCons (tC cv) tNil))) (we X (fUn (oIs tbl) fa)) := fun W σ H ρ Q K e q k =>
  h W σ H ρ _ _ e (wo_bind q) fun v1 H1 W1 r1 ρ1 P R q1 => by
    cases e1 : rdF r1 ρ1 with
    | none => rw [e1] at q1; exact q1.elim
    | some d =>
      rw [e1] at q1
      obtain ⟨z, ez, q2⟩ := wo_opt q1
      obtain ⟨x, S, ex⟩ := rd_ok (k := fun y => y = d) P.ok R (rd_of e1 rfl)
      subst ex
      unfold oIs at ez
      cases hb : tbl (tyN x) with
      | none => rw [hb] at ez; cases ez
      | some b =>
        rw [hb] at ez
        cases ez
        have kk := ok.k _ _ hb
        have fin : K (.bl b) H1 := by
          obtain ⟨W', r', ρ', P', R', q'⟩ := fin_v (Q := Q) P (vend_d (x := .bl b) P.ok.dom (.bl b) q2)
          exact k _ _ _ _ _ P' R' q'
        have full := S.full
        cases x with
        | exc c ns vs =>
          cases full with
          | @exc a dd c fs ds h1 h2 h3 => exact .inr (.inr (.inl ⟨a, _, dd, fs, cv, cu, b, rfl, h1, h2, ok.e c b hb, fun u r => hu.eq r, kit_one kk, fin⟩))
        | _ => exact .inl ⟨v1, cv, _, cu, b, rfl, hu, ty_of full (fun c e => ok.i c b (e ▸ hb)) (fun c e => nomatch e), kit_one kk, fin⟩
/-- of several classes -/
theorem q_isT {te : TE} {tcs : TA} {fa : FE} {tbl : TyN → Option Bool} {cvs : List V} {cus : List Value} (hcs : ∀ σ H Q, Q cvs H → tcs σ H Q) (hu : Paired ClsV cvs cus) (hl : cvs.length ≤ sizeLine) (ok : IsOk T.K T.ca tbl cus) (h : Pe T C te (we X fa)) :
    Pe T C (tCB (rIsU T.K) (tCons te (tCons (tTup tcs) tNil))) (we X (fUn (oIs tbl) fa)) := fun W σ H ρ Q K e q k =>
  h W σ H ρ _ _ e (wo_bind q) fun v1 H1 W1 r1 ρ1 P R q1 => by
    refine hcs _ _ _ ⟨hl, fun p hp => ?_⟩
    cases e1 : rdF r1 ρ1 with
    | none => rw [e1] at q1; exact q1.elim
    | some d =>
      rw [e1] at q1
      obtain ⟨z, ez, q2⟩ := wo_opt q1
      obtain ⟨x, S, ex⟩ := rd_ok (k := fun y => y = d) P.ok R (rd_of e1 rfl)
      subst ex
      unfold oIs at ez
      cases hb : tbl (tyN x) with
      | none => rw [hb] at ez; cases ez
      | some b =>
        rw [hb] at ez
        cases ez
        have kk := ok.k _ _ hb
        have x1 : Ex H1 (upd H1 p (.tup cvs)) := Ex.new hp
        have P1 := P.trans (P.ok.post_ex x1)
        have fin : K (.bl b) (upd H1 p (.tup cvs)) := by
          obtain ⟨W', r', ρ', P', R', q'⟩ := fin_v (Q := Q) P1 (vend_d (x := .bl b) P1.ok.dom (.bl b) q2)
          exact k _ _ _ _ _ P' R' q'
        have full := S.full.mono x1
        cases x with
        | exc c ns vs =>
          cases full with
          | @exc a dd c fs ds h1 h2 h3 => exact .inr (.inr (.inr ⟨a, _, dd, p, fs, cvs, cus, b, rfl, h1, h2, ok.e c b hb, upd_same, hu, kk, fin⟩))
        | _ => exact .inr (.inl ⟨v1, p, cvs, _, cus, b, rfl, upd_same, hu, ty_of full (fun c e => ok.i c b (e ▸ hb)) (fun c e => nomatch e), kk, fin⟩)
end
end Sd

set_option maxHeartbeats 1000000
/-! P9: chains, None, in, all, texts, slices, f-strings as functions. -/
namespace L2
open PySem PySem.Spec PyProof.Rows LamX
/-- a text, so many times -/
def rRepS : R2 := fun x y H Q => ∃ a i, x = .str a ∧ y = .int i ∧ PySem.MulOk a i ∧ Q (.str (Txt.mul a i)) H
theorem op_repS {X : Cx} : OpR X (binaryOp .Mult) rRepS := fun pins s σ H x y u v Q I rx ry h => by
  obtain ⟨a, i, rfl, rfl, ok, q⟩ := h
  obtain ⟨t, rfl⟩ := rx
  obtain ⟨t', rfl⟩ := ry
  exact PySem.SB.mul ok fun t2 k => ⟨.str (Txt.mul a i), H, I.tok k, ⟨t2, rfl⟩, q⟩
def rMulS : R2 := fun x y H Q => Sd.rMulU x y H Q ∨ rRepS x y H Q
theorem op_mulS {X : Cx} : OpR X (binaryOp .Mult) rMulS := fun pins s σ H x y u v Q I rx ry h =>
  h.elim (Sd.op_mulU pins s σ H x y u v Q I rx ry) (op_repS pins s σ H x y u v Q I rx ry)
/-- in: one sign in a text, a flat value in a list or tuple -/
def rInX (K : PySem.W.Frag) : R2 := fun x y H Q => rInS x y H Q ∨ rIn K false x y H Q
def rNotInX (K : PySem.W.Frag) : R2 := fun x y H Q => rNotInS x y H Q ∨ rIn K true x y H Q
theorem op_inX {X : Cx} {K : PySem.W.Frag} (hK : X.K = K) : OpR X (compareOp .In) (rInX K) := hK ▸ fun pins s σ H x y u v Q I rx ry h =>
  h.elim (op_inS pins s σ H x y u v Q I rx ry) (op_in_seq pins s σ H x y u v Q I rx ry)
theorem op_notInX {X : Cx} {K : PySem.W.Frag} (hK : X.K = K) : OpR X (compareOp .NotIn) (rNotInX K) := hK ▸ fun pins s σ H x y u v Q I rx ry h =>
  h.elim (op_notInS pins s σ H x y u v Q I rx ry) (op_notIn_seq pins s σ H x y u v Q I rx ry)
theorem all_K {X : Cx} {K : PySem.W.Frag} (hK : X.K = K) (hc : X.calm = true) : CallR X (.builtin "all") (rAll K) := hK ▸ cr_all hc
theorem any_K {X : Cx} {K : PySem.W.Frag} (hK : X.K = K) (hc : X.calm = true) : CallR X (.builtin "any") (rAny K) := hK ▸ cr_any hc
/-- str of an int, of a text -/
def rStrU : List V → Hp → VK → Prop := fun xs H Q => (∃ i, xs = [.int i] ∧ i.natAbs.log2 < 1920 ∧ Q (.str (toString i)) H) ∨ ∃ a, xs = [.str a] ∧ Q (.str a) H
theorem call_strU {X : Cx} : CallR X (.type "str") rStrU := fun pins s σ H xs us Q I r h =>
  h.elim (call_str_int pins s σ H xs us Q I r) (SkE.call_str_str pins s σ H xs us Q I r)
def rIntU : List V → Hp → VK → Prop := fun xs H Q => ((∃ i, xs = [.int i] ∧ Q (.int i) H) ∨ ∃ k, xs = [.bl k] ∧ Q (.int (if k then 1 else 0)) H) ∨ ∃ a n, xs = [.str a] ∧ PySem.intText? a = some n ∧ a.length ≤ 640 ∧ Q (.int n) H
theorem call_intU {X : Cx} : CallR X (.type "int") rIntU := fun pins s σ H xs us Q I r h =>
  h.elim (call_int1 pins s σ H xs us Q I r) (call_int_str pins s σ H xs us Q I r)
abbrev rSplit : V → List V → Hp → VK → Prop := fun x xs H Q => ∃ a b, x = .str a ∧ xs = [.str b] ∧ (b.length == 0) = false ∧ a.length + 2 ≤ sizeLine ∧ rNewStrs (Txt.split a b) H Q
abbrev rJoin (K : PySem.W.Frag) : V → List V → Hp → VK → Prop := fun x xs H Q => ∃ a p, ∃ ys : List Str, x = .str a ∧ xs = [.ref p] ∧ (SqL K H p (ys.map V.str) ∨ SqT K H p (ys.map V.str)) ∧
    (ys.map (·.length)).sum + ys.length * a.length ≤ 16777216 ∧ Q (.str (Txt.join a ys)) H
abbrev rPartition : V → List V → Hp → VK → Prop := fun x xs H Q => ∃ a b, x = .str a ∧ xs = [.str b] ∧ (b.length == 0) = false ∧ a.length ≤ sizeLine ∧
    ∀ p, H p = none → Q (.ref p) (upd H p (.tup [.str (Txt.partition a b).1, .str (Txt.partition a b).2.1, .str (Txt.partition a b).2.2]))
theorem join_K {X : Cx} {K : PySem.W.Frag} (hK : X.K = K) : MtR X "str.join" (rJoin K) := hK ▸ mt_join
theorem rev_K {X : Cx} {K : PySem.W.Frag} {e : Expr} {te : TE} {k : Nat} {p1 p2 p3 pos : Pos} (hK : X.K = K) (he : PE X e te) : PE X (.Subscript e (.Slice none none (some (.UnaryOp .USub (.Constant (.int 1) k p1) p2)) p3) pos) (tRevL K te) := hK ▸ pe_revL he
end L2
namespace Sd
open PySem PySem.Spec PyProof.Rows L2 LamX
section
variable {T : Tab} {C : C0} {X : Xw} {A : List Addr} {H : Hp} {v : V}
/-! ### int op int op int; and, or, not as values -/
def int2 (ρ : En) (k : Int → Int → Ot RV) : Option D → Option D → Ot RV
  | some (.int i), some (.int j) => k i j
  | _, _ => .no
theorem int2_of {ρ : En} {k : Int → Int → Ot RV} {a b : Option D} {Q : RV → En → Prop} (h : wo X Q (int2 ρ k a b)) : ∃ i j, a = some (.int i) ∧ b = some (.int j) ∧ wo X Q (k i j) := by
  unfold int2 at h
  split at h
  · exact ⟨_, _, rfl, rfl, h⟩
  · exact h.elim
def fCh (ga gb : Int → Int → Bool) (fa fb fc : FE) : FE := fun ρ => (fa ρ).bind fun r ρ1 => (fb ρ1).bind fun s ρ2 => int2 ρ2 (fun i j => if ga i j = true then (fc ρ2).bind fun t ρ3 => int2 ρ3 (fun j k => .ok (.d (.bl (gb j k))) ρ3) (some (.int j)) (rdF t ρ3)
  else .ok (.d (.bl false)) ρ2) (rdF r ρ2) (rdF s ρ2)
theorem sh_of {W : Wd} {σ : L2.St} {Hs : Hp} {ρ : En} {r : RV} {d : D} (e : EnvOk T C W σ H ρ) (R : RvOk T C Hs W H v r) (h : rdF r ρ = some d) : Sh T H W.A v d := by
  obtain ⟨x, S, ex⟩ := rd_ok (k := fun y => y = d) e R (rd_of h rfl)
  subst ex
  exact S
theorem q_ch {ga gb : Int → Int → Bool} {ta tb tc : TE} {fa fb fc : FE} (ha : Pe T C ta (we X fa)) (hb : Pe T C tb (we X fb)) (hc : Pe T C tc (we X fc)) : Pe T C (tChain (rI0 fun i j => .bl (ga i j)) (rI0 fun i j => .bl (gb i j)) ta tb tc) (we X (fCh ga gb fa fb fc)) := fun W σ H ρ Q K e q k =>
  ha W σ H ρ _ _ e (wo_bind q) fun v1 H1 W1 r1 ρ1 P1 R1 q1 => hb W1 σ H1 ρ1 _ _ P1.ok (wo_bind q1) fun v2 H2 W2 r2 ρ2 P2 R2 q2 => by
    have P := P1.trans P2
    obtain ⟨i, j, e1, e2, q3⟩ := int2_of q2
    have z1 := (sh_of P.ok (R1.post P1.ok P2) e1).int
    have z2 := (sh_of P.ok R2 e2).int
    refine ⟨i, j, z1, z2, ga i j, rfl, ?_⟩
    have q3 := wo_ite (X := X) q3
    cases hg : ga i j with
    | false =>
      rw [hg] at q3
      exact k _ _ _ _ _ P (.d (.bl _)) q3
    | true =>
      rw [hg] at q3
      refine hc W2 σ H2 ρ2 _ _ P.ok (wo_bind q3) fun v3 H3 W3 r3 ρ3 P3 R3 q4 => ?_
      obtain ⟨j', k', e3, e4, q5⟩ := int2_of q4
      cases e3
      exact ⟨j, k', z2, (sh_of P3.ok R3 e4).int, k _ _ _ _ _ (P.trans P3) (.d (.bl _)) q5⟩
def blK (k : Bool → Ot RV) : Option D → Ot RV
  | some (.bl b) => k b
  | _ => .no
theorem blK_of {k : Bool → Ot RV} {a : Option D} {Q : RV → En → Prop} (h : wo X Q (blK k a)) : ∃ b, a = some (.bl b) ∧ wo X Q (k b) := by
  unfold blK at h
  split at h
  · exact ⟨_, rfl, h⟩
  · exact h.elim
def fAnd (fa fb : FE) : FE := fun ρ => (fa ρ).bind fun r ρ1 => blK (fun b => if b = true then fb ρ1 else .ok (.d (.bl false)) ρ1) (rdF r ρ1)
def fOr (fa fb : FE) : FE := fun ρ => (fa ρ).bind fun r ρ1 => blK (fun b => if b = true then .ok (.d (.bl true)) ρ1 else fb ρ1) (rdF r ρ1)
def fNot (fa : FE) : FE := fun ρ => (fa ρ).bind fun r ρ1 => blK (fun b => .ok (.d (.bl (!b))) ρ1) (rdF r ρ1)
theorem q_and {ta tb : TE} {fa fb : FE} (ha : Pe T C ta (we X fa)) (hb : Pe T C tb (we X fb)) : Pe T C (tAndV ta tb) (we X (fAnd fa fb)) := fun W σ H ρ Q K e q k =>
  ha W σ H ρ _ _ e (wo_bind q) fun v1 H1 W1 r1 ρ1 P R q1 => by
    obtain ⟨b, e1, q2⟩ := blK_of q1
    refine ⟨b, (sh_of P.ok R e1).bl, ?_⟩
    have q2 := wo_ite (X := X) q2
    cases b with
    | true => exact hb W1 σ H1 ρ1 _ _ P.ok q2 fun v2 H2 W2 r2 ρ2 P2 R2 q3 => k _ _ _ _ _ (P.trans P2) (R2.back P) q3
    | false => exact k _ _ _ _ _ P (.d (.bl _)) q2
theorem q_or {ta tb : TE} {fa fb : FE} (ha : Pe T C ta (we X fa)) (hb : Pe T C tb (we X fb)) : Pe T C (tOrV ta tb) (we X (fOr fa fb)) := fun W σ H ρ Q K e q k =>
  ha W σ H ρ _ _ e (wo_bind q) fun v1 H1 W1 r1 ρ1 P R q1 => by
    obtain ⟨b, e1, q2⟩ := blK_of q1
    refine ⟨b, (sh_of P.ok R e1).bl, ?_⟩
    have q2 := wo_ite (X := X) q2
    cases b with
    | false => exact hb W1 σ H1 ρ1 _ _ P.ok q2 fun v2 H2 W2 r2 ρ2 P2 R2 q3 => k _ _ _ _ _ (P.trans P2) (R2.back P) q3
    | true => exact k _ _ _ _ _ P (.d (.bl _)) q2
theorem q_not {ta : TE} {fa : FE} (ha : Pe T C ta (we X fa)) : Pe T C (tNotV ta) (we X (fNot fa)) := fun W σ H ρ Q K e q k =>
  ha W σ H ρ _ _ e (wo_bind q) fun v1 H1 W1 r1 ρ1 P R q1 => by
    obtain ⟨b, e1, q2⟩ := blK_of q1
    exact ⟨b, (sh_of P.ok R e1).bl, k _ _ _ _ _ P (.d (.bl _)) q2⟩
/-! ### None -/
def isNon : D → Bool
  | .non => true
  | _ => false
def fIsN (g : Bool → Bool) : F2 := fun u v k => v = .non ∧ k (.d (.bl (g (isNon u))))
theorem at_non {d : D} (h : At T H v d) : decide (v = .non) = isNon d := by
  cases h <;> first
    | rfl
    | exact decide_eq_false fun z => nomatch z
theorem o_isN : Op2 T rIsN (fIsN id) := fun H A x y u v Q K d hx hy q k => by
  obtain ⟨rfl, q⟩ := q
  refine ⟨hy.non, k _ _ (vend_d d (.bl _) ?_)⟩
  rw [at_non hx.full]
  exact q
theorem o_notN : Op2 T rNotN (fIsN not) := fun H A x y u v Q K d hx hy q k => by
  obtain ⟨rfl, q⟩ := q
  refine ⟨hy.non, k _ _ (vend_d d (.bl _) ?_)⟩
  rw [at_non hx.full]
  exact q
def oIsN (g : Bool → Bool) : O2
  | u, .non => some (.d (.bl (g (isNon u))))
  | _, _ => none
theorem c_isN {g : Bool → Bool} : C2f (fIsN g) (oIsN g) := fun u v q k e h => by
  cases v with
  | non => cases e; exact ⟨rfl, h⟩
  | _ => cases e
/-! ### in -/
def flatD : D → Bool
  | .non => true
  | .bl _ => true
  | .int _ => true
  | .str _ => true
  | _ => false
def vD : D → V
  | .bl b => .bl b
  | .int i => .int i
  | .str x => .str x
  | _ => .non
theorem flat_at {d : D} (h : At T H v d) (f : flatD d = true) : v = vD d ∧ flatV v = true := by
  cases h <;> first
    | exact ⟨rfl, rfl⟩
    | cases f
theorem flat_all : ∀ {vs : List V} {ds : List D}, AtAll T H vs ds → ds.all flatD = true → vs = ds.map vD ∧ vs.all flatV = true
  | _, _, .nil, _ => ⟨rfl, rfl⟩
  | _, _, .cons a b, f => by
    rw [List.all_cons] at f
    obtain ⟨f1, f2⟩ := Bool.and_eq_true_iff.mp f
    obtain ⟨e1, e2⟩ := flat_at a f1
    obtain ⟨e3, e4⟩ := flat_all b f2
    refine ⟨by rw [List.map_cons, ← e1, ← e3], ?_⟩
    rw [List.all_cons, e2, e4]
    rfl
def inT (g : Bool → Bool) (z : Str) : List Nat → Option RV
  | [c] => some (.d (.bl (g (decide (c ∈ z.cps.toList)))))
  | _ => none
def inQ (g : Bool → Bool) (u : D) (xs : List D) : Option RV := if (flatD u && xs.all flatD) = true then some (.d (.bl (g (inV (vD u) (xs.map vD))))) else none
def oIn (g : Bool → Bool) : O2
  | .str y, .str z => inT g z y.cps.toList
  | u, .lst xs => inQ g u xs
  | u, .tup xs => inQ g u xs
  | _, _ => none
/-- a function alone -/
def fO (o : O2) : F2 := fun u v k => ∃ q, o u v = some q ∧ k q
theorem c_fO {o : O2} : C2f (fO o) o := fun u v q k e h => ⟨q, e, h⟩
theorem inT_of {g : Bool → Bool} {z y : Str} {q : RV} (h : inT g z y.cps.toList = some q) : ∃ c, y = ⟨#[c]⟩ ∧ q = .d (.bl (g (decide (c ∈ z.cps.toList)))) := by
  unfold inT at h
  split at h
  · rename_i c e
    cases h
    refine ⟨c, ?_, rfl⟩
    obtain ⟨a⟩ := y
    obtain ⟨l⟩ := a
    exact congrArg (fun l => Str.mk ⟨l⟩) e
  · cases h
theorem sq_of {d : D} {xs : List D} (hd : d = .lst xs ∨ d = .tup xs) (h : Sh T H A v d) : ∃ p vs, v = .ref p ∧ (SqL T.K H p vs ∨ SqT T.K H p vs) ∧ AtAll T (hide H A) vs xs := by
  rcases hd with rfl | rfl
  · obtain ⟨a, vs, rfl, h1, h2⟩ := h.lst'
    exact ⟨a, vs, rfl, .inl (SqL.of h1), h2⟩
  · obtain ⟨a, vs, rfl, h1, h2⟩ := h.tup
    exact ⟨a, vs, rfl, .inr h1, h2⟩
theorem in_seq {g : Bool → Bool} {neg : Bool} (hg : ∀ b, g b = if neg then !b else b) {x y : V} {u d : D} {xs : List D} {q : RV} {Q : RV → Prop} {K : VK} (hd : d = .lst xs ∨ d = .tup xs) (dm : ∀ a, a ∈ A → H a ≠ none) (hx : Sh T H A x u) (hy : Sh T H A y d) (e : inQ g u xs = some q) (h : Q q) (k : ∀ z H', VEnd T H A Q z H' → K z H') : rIn T.K neg x y H K := by
  obtain ⟨e1, e2⟩ := if_some e
  subst e2
  obtain ⟨f1, f2⟩ := Bool.and_eq_true_iff.mp e1
  obtain ⟨p, vs, rfl, h1, h2⟩ := sq_of hd hy
  obtain ⟨z1, z2⟩ := flat_at hx.full f1
  obtain ⟨z3, z4⟩ := flat_all h2 f2
  refine ⟨p, vs, rfl, h1, z2, z4, k _ _ (vend_d dm (.bl _) ?_)⟩
  rw [z1, z3, ← hg]
  exact h
theorem o_inX : Op2 T (rInX T.K) (fO (oIn id)) := fun H A x y u v Q K d hx hy ⟨q, e, h⟩ k => by
  have go : ∀ {xs : List D}, v = .lst xs ∨ v = .tup xs → inQ id u xs = some q → rInX T.K x y H K := fun hv e => .inr (in_seq (neg := false) (fun _ => rfl) hv d hx hy e h k)
  cases v with
  | str z =>
    cases u with
    | str y' =>
      obtain ⟨c, rfl, rfl⟩ := inT_of e
      exact .inl ⟨c, z, hx.str, hy.str, k _ _ (vend_d d (.bl _) h)⟩
    | _ => cases e
  | lst xs => cases u <;> exact go (.inl rfl) e
  | tup xs => cases u <;> exact go (.inr rfl) e
  | _ => cases u <;> cases e
theorem o_notInX : Op2 T (rNotInX T.K) (fO (oIn not)) := fun H A x y u v Q K d hx hy ⟨q, e, h⟩ k => by
  have go : ∀ {xs : List D}, v = .lst xs ∨ v = .tup xs → inQ not u xs = some q → rNotInX T.K x y H K := fun hv e => .inr (in_seq (neg := true) (fun _ => rfl) hv d hx hy e h k)
  cases v with
  | str z =>
    cases u with
    | str y' =>
      obtain ⟨c, rfl, rfl⟩ := inT_of e
      exact .inl ⟨c, z, hx.str, hy.str, k _ _ (vend_d d (.bl _) h)⟩
    | _ => cases e
  | lst xs => cases u <;> exact go (.inl rfl) e
  | tup xs => cases u <;> exact go (.inr rfl) e
  | _ => cases u <;> cases e
/-! ### times -/
instance {x : Str} {n : Int} : Decidable (PySem.MulOk x n) := by unfold PySem.MulOk; infer_instance
def oMulS : O2
  | .str a, .int i => if decide (PySem.MulOk a i) = true then some (.d (.str (Txt.mul a i))) else none
  | u, v => oMul u v
def fMulS : F2 := fun u v k => (∃ a i, u = .str a ∧ v = .int i ∧ PySem.MulOk a i ∧ k (.d (.str (Txt.mul a i)))) ∨ fMulU u v k
theorem c_mulS : C2f fMulS oMulS := fun u v q k e h => by
  unfold oMulS at e
  split at e
  · obtain ⟨e1, e2⟩ := if_some e
    subst e2
    exact .inl ⟨_, _, rfl, rfl, of_decide_eq_true e1, h⟩
  · exact .inr (c_mul _ _ _ _ e h)
theorem o_mulS : Op2 T rMulS fMulS := fun H A x y u v Q K d hx hy q k => by
  rcases q with ⟨a, i, rfl, rfl, ok, q⟩ | q
  · exact .inr ⟨a, i, hx.str, hy.int, ok, k _ _ (vend_d d (.str _) q)⟩
  · exact .inl (o_mulU H A x y u v Q K d hx hy q k)
/-! ### built-ins -/
def fOL (o : OL) : FL := fun us k => ∃ q, o us = some q ∧ k q
theorem c_fOL {o : OL} : CLf (fOL o) o := fun us q k e h => ⟨q, e, h⟩
def isBlT : D → Bool
  | .bl _ => true
  | _ => false
def blOf : D → Bool
  | .bl b => b
  | _ => false
theorem bls_of : ∀ {vs : List V} {ds : List D}, AtAll T H vs ds → ds.all isBlT = true → vs = (ds.map blOf).map V.bl
  | _, _, .nil, _ => rfl
  | _, _, .cons a b, f => by
    rw [List.all_cons] at f
    obtain ⟨f1, f2⟩ := Bool.and_eq_true_iff.mp f
    rw [bls_of b f2]
    cases a <;> first
      | rfl
      | cases f1
def oAll (g : List Bool → Bool) : OL
  | [.lst xs] => if xs.all isBlT = true then some (.d (.bl (g (xs.map blOf)))) else none
  | _ => none
theorem o_all : OpL T (rAll T.K) (fOL (oAll fun bs => bs.all id)) := fun H A vs us Q K d hs ⟨q, e, h⟩ k => by
  match us, e with
  | [.lst xs], e =>
    obtain ⟨e1, e2⟩ := if_some e
    subst e2
    obtain ⟨v, rfl, S⟩ := sh1 hs
    obtain ⟨a, ws, rfl, h1, h2⟩ := S.lst'
    exact ⟨a, xs.map blOf, rfl, bls_of h2 e1 ▸ SqL.of h1, k _ _ (vend_d d (.bl _) h)⟩
theorem o_any : OpL T (rAny T.K) (fOL (oAll fun bs => bs.any id)) := fun H A vs us Q K d hs ⟨q, e, h⟩ k => by
  match us, e with
  | [.lst xs], e =>
    obtain ⟨e1, e2⟩ := if_some e
    subst e2
    obtain ⟨v, rfl, S⟩ := sh1 hs
    obtain ⟨a, ws, rfl, h1, h2⟩ := S.lst'
    exact ⟨a, xs.map blOf, rfl, bls_of h2 e1 ▸ SqL.of h1, k _ _ (vend_d d (.bl _) h)⟩
def oStr : OL
  | [.int i] => if decide (i.natAbs.log2 < 1920) = true then some (.d (.str (toString i))) else none
  | [.str a] => some (.d (.str a))
  | _ => none
theorem o_str : OpL T rStrU (fOL oStr) := fun H A vs us Q K d hs ⟨q, e, h⟩ k => by
  match us, e with
  | [.int i], e =>
    obtain ⟨e1, e2⟩ := if_some e
    subst e2
    obtain ⟨v, rfl, S⟩ := sh1 hs
    exact .inl ⟨i, by rw [S.int], of_decide_eq_true e1, k _ _ (vend_d d (.str _) h)⟩
  | [.str a], e =>
    cases e
    obtain ⟨v, rfl, S⟩ := sh1 hs
    exact .inr ⟨a, by rw [S.str], k _ _ (vend_d d (.str _) h)⟩
def intTx (a : Str) : Option RV := match PySem.intText? a with
  | some n => if Nat.ble a.length 640 = true then some (.d (.int n)) else none
  | none => none
def oIntU : OL
  | [.int i] => some (.d (.int i))
  | [.bl b] => some (.d (.int (if b then 1 else 0)))
  | [.str a] => intTx a
  | _ => none
theorem o_intU : OpL T rIntU (fOL oIntU) := fun H A vs us Q K d hs ⟨q, e, h⟩ k => by
  match us, e with
  | [.int i], e =>
    cases e
    obtain ⟨v, rfl, S⟩ := sh1 hs
    exact .inl (.inl ⟨i, by rw [S.int], k _ _ (vend_d d (.int _) h)⟩)
  | [.bl b], e =>
    cases e
    obtain ⟨v, rfl, S⟩ := sh1 hs
    exact .inl (.inr ⟨b, by rw [S.bl], k _ _ (vend_d d (.int _) h)⟩)
  | [.str a], e =>
    have e : intTx a = some q := e
    unfold intTx at e
    obtain ⟨v, rfl, S⟩ := sh1 hs
    cases z : PySem.intText? a with
    | none => rw [z] at e; cases e
    | some n =>
      rw [z] at e
      obtain ⟨e1, e2⟩ := if_some e
      subst e2
      exact .inr ⟨a, n, by rw [S.str], z, Nat.le_of_ble_eq_true e1, k _ _ (vend_d d (.int _) h)⟩
/-! ### methods of texts -/
def OpS (T : Tab) (r : V → List V → Hp → VK → Prop) (o : Str → OL) : Prop := ∀ (H : Hp) (A : List Addr) (a : Str) (xs : List V) (us : List D) (q : RV) (Q : RV → Prop) (K : VK), (∀ a, a ∈ A → H a ≠ none) → ShAll T H A xs us → o a us = some q → Q q → (∀ z H', VEnd T H A Q z H' → K z H') → r (.str a) xs H K
def strK (k : Str → Ot RV) : RV → Ot RV
  | .d (.str z) => k z
  | _ => .no
theorem strK_of {k : Str → Ot RV} {r : RV} {Q : RV → En → Prop} (h : wo X Q (strK k r)) : ∃ z, r = .d (.str z) ∧ wo X Q (k z) := by
  unfold strK at h
  split at h
  · exact ⟨_, rfl, h⟩
  · exact h.elim
def fSM (o : Str → OL) (fo : FE) (fa : FR) : FE := fun ρ => (fo ρ).bind fun r ρ1 => strK (fun z => (fa ρ1).bind fun rs ρ2 => apL (o z) ρ2 (rdL rs ρ2)) r
theorem rd_all {W : Wd} {σ : L2.St} {Hs H : Hp} {ρ : En} (e : EnvOk T C W σ H ρ) {vs : List V} {rs : List RV} {xs : List D} (R : RvAll T C Hs W H vs rs) (h : rdL rs ρ = some xs) : ShAll T H W.A vs xs := by
  obtain ⟨ys, S, ey⟩ := rdAll_ok (k := fun y => y = xs) e R (rdL_of h rfl)
  subst ey
  exact S
theorem q_sm {r : V → List V → Hp → VK → Prop} {o : Str → OL} {to : TE} {ta : TA} {fo : FE} {fa : FR} (h : OpS T r o) (ho : Pe T C to (we X fo)) (ha : Par T C ta (we X fa)) : Pe T C (tBM T.K "str" r to ta) (we X (fSM o fo fa)) := fun W σ H ρ Q K e q k =>
  ho W σ H ρ _ _ e (wo_bind q) fun v1 H1 W1 r1 ρ1 P1 R1 q1 => by
    obtain ⟨z, er, q1⟩ := strK_of q1
    subst er
    cases R1 with
    | d g =>
      cases g
      refine ⟨rfl, ha W1 σ H1 ρ1 _ _ P1.ok (wo_bind q1) fun vs H2 W2 rs ρ2 P2 R2 q2 => ?_⟩
      have P := P1.trans P2
      cases e1 : rdL rs ρ2 with
      | none => rw [e1] at q2; exact q2.elim
      | some us =>
        rw [e1] at q2
        obtain ⟨w, ew, q3⟩ := wo_opt q2
        refine h H2 W2.A z vs us w (fun q => Q q ρ2) _ P.ok.dom (rd_all P.ok R2 e1) ew q3 fun z H' hv => ?_
        obtain ⟨W', r', ρ', P', R', q'⟩ := fin_v (Q := Q) P hv
        exact k _ _ _ _ _ P' R' q'
def oSplit (a : Str) : OL
  | [.str b] => if (!(b.length == 0) && szB (a.length + 2)) = true then some (.n (.l ((Txt.split a b).map D.str))) else none
  | _ => none
theorem strs_at : ∀ ys : List Str, AtAll T H (ys.map V.str) (ys.map D.str)
  | [] => .nil
  | y :: ys => .cons (.str y) (strs_at ys)
theorem o_split : OpS T rSplit oSplit := fun H A a xs us q Q K d hs e h k => by
  match us, e with
  | [.str b], e =>
    obtain ⟨e1, e2⟩ := if_some e
    subst e2
    obtain ⟨f1, f2⟩ := Bool.and_eq_true_iff.mp e1
    obtain ⟨v, rfl, S⟩ := sh1 hs
    exact ⟨a, b, rfl, by rw [S.str], by simpa using f1, szB_ok f2, fun p hp => k _ _ (vend_n d hp (strs_at _) h)⟩
def isStrT : D → Bool
  | .str _ => true
  | _ => false
def strOf : D → Str
  | .str x => x
  | _ => Str.empty
theorem strs_of : ∀ {vs : List V} {ds : List D}, AtAll T H vs ds → ds.all isStrT = true → vs = (ds.map strOf).map V.str
  | _, _, .nil, _ => rfl
  | _, _, .cons a b, f => by
    rw [List.all_cons] at f
    obtain ⟨f1, f2⟩ := Bool.and_eq_true_iff.mp f
    rw [strs_of b f2]
    cases a <;> first
      | rfl
      | cases f1
def joinF (a : Str) (xs : List D) : Option RV := if (xs.all isStrT && szB (((xs.map strOf).map (·.length)).sum + (xs.map strOf).length * a.length)) = true then some (.d (.str (Txt.join a (xs.map strOf)))) else none
def oJoin (a : Str) : OL
  | [.lst xs] => joinF a xs
  | [.tup xs] => joinF a xs
  | _ => none
theorem join_of {a : Str} {d : D} {xs : List D} {v : V} {q : RV} {Q : RV → Prop} {K : VK} (hd : d = .lst xs ∨ d = .tup xs) (dm : ∀ a, a ∈ A → H a ≠ none) (S : Sh T H A v d) (e : joinF a xs = some q) (h : Q q) (k : ∀ z H', VEnd T H A Q z H' → K z H') : rJoin T.K (.str a) [v] H K := by
  obtain ⟨e1, e2⟩ := if_some e
  subst e2
  obtain ⟨f1, f2⟩ := Bool.and_eq_true_iff.mp e1
  obtain ⟨p, vs, rfl, h1, h2⟩ := sq_of hd S
  exact ⟨a, p, xs.map strOf, rfl, rfl, strs_of h2 f1 ▸ h1, Nat.le_of_ble_eq_true f2, k _ _ (vend_d dm (.str _) h)⟩
theorem o_join : OpS T (rJoin T.K) oJoin := fun H A a xs us q Q K d hs e h k => by
  match us, e with
  | [.lst ys], e =>
    obtain ⟨v, rfl, S⟩ := sh1 hs
    exact join_of (.inl rfl) d S e h k
  | [.tup ys], e =>
    obtain ⟨v, rfl, S⟩ := sh1 hs
    exact join_of (.inr rfl) d S e h k
def oPartition (a : Str) : OL
  | [.str b] => if (!(b.length == 0) && szB a.length) = true then some (.d (.tup [.str (Txt.partition a b).1, .str (Txt.partition a b).2.1, .str (Txt.partition a b).2.2])) else none
  | _ => none
theorem o_partition : OpS T rPartition oPartition := fun H A a xs us q Q K d hs e h k => by
  match us, e with
  | [.str b], e =>
    obtain ⟨e1, e2⟩ := if_some e
    subst e2
    obtain ⟨f1, f2⟩ := Bool.and_eq_true_iff.mp e1
    obtain ⟨v, rfl, S⟩ := sh1 hs
    exact ⟨a, b, rfl, by rw [S.str], by simpa using f1, szB_ok f2, fun p hp => k _ _ (vend_t d hp (strs_at [_, _, _]) h)⟩
/-! ### a text's signs -/
def signs (z : Str) : List D := z.cps.toList.map fun c => .str ⟨#[c]⟩
theorem signs_len (z : Str) : (signs z).length = z.cps.size := by simp [signs]
theorem walk_s {z : Str} : Walk T A H (Its z) (signs z) where
  go := fun A2 H2 i x hi => by rw [signs_len] at hi; exact hi
  stop := fun A2 H2 x => by rw [signs_len]; exact Nat.le_refl _
  yld := fun A2 H2 i d v H3 x dm hd hy => by
    obtain ⟨rfl, c, hc, rfl⟩ := hy
    have e : (signs z)[i]? = some (.str ⟨#[c]⟩) := by
      unfold signs
      rw [List.getElem?_map, Array.getElem?_toList, hc]
      rfl
    rw [e] at hd
    cases hd
    exact ⟨Ex.refl _, .str _⟩
def sgK (ρ : En) : RV → Ot (List D)
  | .d (.str z) => .ok (signs z) ρ
  | _ => .no
def iStrF (fa : FE) : FI := fun ρ => (fa ρ).bind fun r ρ1 => sgK ρ1 r
theorem qi_str {te : TE} {a : FE} (h : Pe T C te (we X a)) : Pi T C (iStr te) (we X (iStrF a)) := fun W σ H ρ Q K e q k =>
  h W σ H ρ _ _ e (wo_bind q) fun v1 H1 W1 r1 ρ1 P R q1 => by
    have q1 : wo X Q (sgK ρ1 r1) := q1
    unfold sgK at q1
    split at q1
    · cases R with
      | d g =>
        cases g
        exact ⟨_, rfl, k _ _ _ _ _ P walk_s q1⟩
    · exact q1.elim
/-! ### slices -/
abbrev FO := En → Ot (Option Int)
def oN : FO := fun ρ => .ok none ρ
def intK (ρ : En) : Option D → Ot (Option Int)
  | some (.int i) => .ok (some i) ρ
  | _ => .no
def oS (fa : FE) : FO := fun ρ => (fa ρ).bind fun r ρ1 => intK ρ1 (rdF r ρ1)
theorem qo_n : Po T C tNoPart (we X oN) := po_n
theorem qo_s {te : TE} {a : FE} (h : Pe T C te (we X a)) : Po T C (tPart te) (we X (oS a)) := fun W σ H ρ Q K e q k =>
  h W σ H ρ _ _ e (wo_bind q) fun v1 H1 W1 r1 ρ1 P R q1 => by
    have q1 : wo X Q (intK ρ1 (rdF r1 ρ1)) := q1
    unfold intK at q1
    split at q1
    · rename_i i z
      exact ⟨i, (sh_of P.ok R z).int, k _ _ _ _ P q1⟩
    · exact q1.elim
def slF (u : D) (lo hi : Option Int) : Option RV := match u with
  | .lst xs => some (.n (.l (cutD xs lo hi)))
  | .tup xs => some (.d (.tup (cutD xs lo hi)))
  | .str z => if szB z.length = true then some (.d (.str (cutS z lo hi))) else none
  | _ => none
theorem slF_of {u : D} {lo hi : Option Int} {q : RV} {k : RV → Prop} (e : slF u lo hi = some q) (h : k q) : fSl u lo hi k := by
  cases u with
  | lst xs => cases e; exact h
  | tup xs => cases e; exact h
  | str z =>
    obtain ⟨e1, e2⟩ := if_some e
    subst e2
    exact ⟨e1, h⟩
  | _ => cases e
def apS (lo hi : Option Int) (ρ : En) : Option D → Ot RV
  | some u => opt (slF u lo hi) ρ
  | none => .no
def fSlc (fa : FE) (fl fh : FO) : FE := fun ρ => (fa ρ).bind fun r ρ1 => (fl ρ1).bind fun lo ρ2 => (fh ρ2).bind fun hi ρ3 => apS lo hi ρ3 (rdF r ρ3)
theorem q_sl {te : TE} {tl th : TO} {fa : FE} {fl fh : FO} (h : Pe T C te (we X fa)) (hl : Po T C tl (we X fl)) (hh : Po T C th (we X fh)) : Pe T C (tSl (rSlU T.K) te tl th) (we X (fSlc fa fl fh)) := (pe_sl h hl hh).wk fun ρ Q q =>
  wo_mono (fun r ρ1 q => wo_mono (fun lo ρ2 q => wo_mono (fun hi ρ3 q => by
    have q : wo X Q (apS lo hi ρ3 (rdF r ρ3)) := q
    cases e1 : rdF r ρ3 with
    | none => rw [e1] at q; exact q.elim
    | some u =>
      rw [e1] at q
      obtain ⟨z, ez, q⟩ := wo_opt q
      exact rd_of e1 (slF_of ez q)) (wo_bind q)) (wo_bind q)) (wo_bind q)
/-- xs[::-1] -/
def rvK (ρ : En) : Option D → Ot RV
  | some (.lst xs) => .ok (.n (.l xs.reverse)) ρ
  | _ => .no
def fRev (fa : FE) : FE := fun ρ => (fa ρ).bind fun r ρ1 => rvK ρ1 (rdF r ρ1)
theorem q_rev {te : TE} {fa : FE} (h : Pe T C te (we X fa)) : Pe T C (tRevL T.K te) (we X (fRev fa)) := fun W σ H ρ Q K e q k =>
  h W σ H ρ _ _ e (wo_bind q) fun v1 H1 W1 r1 ρ1 P R q1 => by
    have q1 : wo X Q (rvK ρ1 (rdF r1 ρ1)) := q1
    unfold rvK at q1
    split at q1
    · rename_i xs z
      obtain ⟨a, vs, rfl, h1, h2⟩ := (sh_of P.ok R z).lst'
      refine ⟨a, vs, rfl, SqL.of h1, fun p hp => ?_⟩
      obtain ⟨W', r', ρ', P', R', q'⟩ := fin_v (Q := Q) P (vend_n P.ok.dom hp h2.reverse q1)
      exact k _ _ _ _ _ P' R' q'
    · exact q1.elim
/-! ### f-strings -/
def oFmt : O1
  | .str y => if szB y.length = true then some (.d (.str y)) else none
  | .int i => if decide (i.natAbs.log2 < 1920) = true then some (.d (.str (toString i))) else none
  | _ => none
def fFmt (fa : FE) : FE := fUn oFmt fa
theorem q_fmt {te : TE} {fa : FE} (h : Pe T C te (we X fa)) : Pe T C (tFmt te) (we X (fFmt fa)) := fun W σ H ρ Q K e q k =>
  h W σ H ρ _ _ e (wo_bind q) fun v1 H1 W1 r1 ρ1 P R q1 => by
    cases e1 : rdF r1 ρ1 with
    | none => rw [e1] at q1; exact q1.elim
    | some d =>
      rw [e1] at q1
      obtain ⟨z, ez, q2⟩ := wo_opt q1
      have S := sh_of P.ok R e1
      cases d with
      | str y =>
        obtain ⟨z1, z2⟩ := if_some ez
        subst z2
        exact .inl ⟨y, S.str, szB_ok z1, k _ _ _ _ _ P (.d (.str _)) q2⟩
      | int i =>
        obtain ⟨z1, z2⟩ := if_some ez
        subst z2
        exact .inr ⟨i, S.int, of_decide_eq_true z1, k _ _ _ _ _ P (.d (.str _)) q2⟩
      | _ => cases ez
def jsK (acc : Str) (k : Str → Ot RV) : RV → Ot RV
  | .d (.str y) => if szB (acc ++ y).length = true then k (acc ++ y) else .no
  | _ => .no
def fJs : List FE → Str → FE
  | [], acc, ρ => .ok (.d (.str acc)) ρ
  | f :: fs, acc, ρ => (f ρ).bind fun r ρ1 => jsK acc (fun out => fJs fs out ρ1) r
inductive Pjs (T : Tab) (C : C0) (X : Xw) : List TE → List FE → Prop
  | nil : Pjs T C X [] []
  | cons {t : TE} {f : FE} {ts : List TE} {fs : List FE} : Pe T C t (we X f) → Pjs T C X ts fs → Pjs T C X (t :: ts) (f :: fs)
theorem q_js {ts : List TE} {fs : List FE} (h : Pjs T C X ts fs) : ∀ acc : Str, Pe T C (fun σ H Q => tJs ts acc σ H fun out H1 => Q (.str out) H1) (we X (fJs fs acc)) := by
  induction h with
  | nil => exact fun acc W σ H ρ Q K e q k => k _ _ _ _ _ (.refl e) (.d (.str _)) q
  | @cons t f ts fs h _ ih =>
    intro acc W σ H ρ Q K e q k
    refine h W σ H ρ _ _ e (wo_bind q) fun v1 H1 W1 r1 ρ1 P R q1 => ?_
    · have q1 : wo X Q (jsK acc (fun out => fJs fs out ρ1) r1) := q1
      unfold jsK at q1
      split at q1
      · obtain ⟨z, q1⟩ := wo_if q1
        cases R with
        | d g =>
          cases g
          exact ⟨_, rfl, szB_ok z, ih _ W1 σ H1 ρ1 Q K P.ok q1 fun v H2 W2 r2 ρ2 P2 R2 q2 => k _ _ _ _ _ (P.trans P2) (R2.back P) q2⟩
      · exact q1.elim
/-! ### name += int -/
def augO (i : Nat) (g : Int → Int → Int) (ρ : En) : Option (Option C1) → Option D → Fl
  | some (some (.p (.int a))), some (.int b) => .nx (ρ.set i (.p (.int (g a b))))
  | _, _ => .no
def isIn (ρ : En) (i : Nat) : Option (Option C1) → Bool
  | some (some (.p (.int _))) => true
  | _ => false
def sAug (i : Nat) (g : Int → Int → Int) (fa : FE) : FS := fun ρ => if isIn ρ i ρ.s[i]? = true then (fa ρ).to fun r ρ1 => augO i g ρ1 ρ.s[i]? (rdF r ρ1) else .no
theorem wl_ifb {E : DE} {c : Bool} {o : Fl} (h : wl X E (if c = true then o else .no)) : c = true ∧ wl X E o := by
  cases c with
  | true => exact ⟨rfl, h⟩
  | false => exact (show False from h).elim
theorem qs_aug {i : Nat} {g : Int → Int → Int} {te : TE} {fa : FE} (h : Pe T C te (we X fa)) : Ps T C (tAug i te (ipI g)) (ws X (sAug i g fa)) := fun W σ H ρ B E F e x l q => by
  obtain ⟨q0, q⟩ := wl_ifb (X := X) (o := (fa ρ).to fun r ρ1 => augO i g ρ1 ρ.s[i]? (rdF r ρ1)) q
  unfold isIn at q0
  split at q0
  · rename_i a ha
    obtain ⟨v, s1, s2⟩ := e.cell i _ ha
    cases s2 with
    | p s2 =>
      cases s2
      refine ⟨_, s1, h W σ H ρ _ _ e (wl_to q) fun v1 H1 W1 r1 ρ1 P R q1 => ?_⟩
      rw [ha] at q1
      have q1 : wl X E (augO i g ρ1 (some (some (.p (.int a)))) (rdF r1 ρ1)) := q1
      unfold augO at q1
      split at q1
      · rename_i a' b ea eb
        cases ea
        refine ⟨a, b, rfl, (sh_of P.ok R eb).int, l.nx _ _ _ _ (P.ok.setC (.p (.int _))) (x.trans (P.ex e)) q1⟩
      · exact q1.elim
  · cases q0
end
end Sd

set_option maxHeartbeats 1000000
/-! P10: classmethods by place and name; a class that a variable holds; own ==, str, repr, format. -/
namespace L2
open PySem PySem.Spec PyProof.Rows
section
variable {X : Cx} {k n : Nat} {f C q₀ : Addr} {mc : Value} {ks : List Str} {src : List Src} {dV : List V} {sp : Sp} {W : WX} {x m : Str} {p pos apos : Pos} {e o : Expr} {es : List Expr} {kws : List Keyword} {ta : TE} {t tk : TA}
/-- C.m(e, .., k = v, ..), m a classmethod of the class at C -/
def tCMX (C : Addr) (n j : Nat) (sp : Sp) (src : List Src) (dV : List V) (W : WX) (ta : TE) (t tk : TA) : TE := fun σ H Q => ta σ H fun x H1 => x = .ref C ∧ t σ H1 fun vs H2 => tk σ H2 fun zs H3 => (x :: vs).length = n ∧ zs.length = j ∧ sp (sel (x :: vs) dV zs src) H3 Q (WE W σ)
theorem run_cmX {pins : List (Addr × Obj)} {σ : St} {H : Hp} {s : Shared} {Q : VK} {us ws : List Value} {vs zs : List V} {qa : Addr} (F : FnX X.prog X.w X.K X.mg X.base k f n ks src dV sp) (hr : Room k X.A) (hG : NoG X.A) (tw : Takes X W)
    (I : Inv X ((qa, PySem.W.methodObj (.ref f) (.ref C)) :: pins) σ H s) (r : Vals vs us) (rz : Vals zs ws) (l1 : (V.ref C :: vs).length = n) (l2 : zs.length = ks.length) (h : sp (sel (.ref C :: vs) dV zs src) H Q (WE W σ)) :
    wpAny (model X.prog X.w) X.A (call (.ref qa) us (ks.zip ws)) (EP X pins σ Q) X.xe s := by
  obtain ⟨fd, ps, F1, du, rd, hb⟩ := F.ex
  have r0 : Vals (.ref C :: vs) (.ref C :: us) := .cons rfl r
  have r2 := sel_vals r0 rd rz src
  have go : wpAny (model X.prog X.w) X.A (call (.ref qa) us (ks.zip ws)) (EP X ((qa, PySem.W.methodObj (.ref f) (.ref C)) :: pins) σ Q) X.xe s := by
    refine wpAny_call (PySem.W.method_call (ClX.pin_at I) (codeAny_mono (F1.go X.A X.stack s H ⟨.ref C :: us, ks.zip ws⟩ (sel (.ref C :: us) du ws src) (sel (.ref C :: vs) dV zs src) Q (WE W σ) hr hG I.env0
      (hb s (.ref C :: us) ws I.kIn (r0.length.symm.trans l1) (rz.length.symm.trans l2)) r2 h) fun r s' hq => ?_))
    match r, hq with
    | .error e, hq => exact passAt tw σ _ H s e s' I hq
    | .ok (.ret u), hq => exact I.after hq
  exact thn go fun _ _ y => ClX.unpinE y
theorem pe_cmX (he : PE X o ta) (rd : ClX.CRead X.K C mc) (c : ClX.CMet X.K C mc m q₀ f) (F : FnX X.prog X.w X.K X.mg X.base k f n ks src dV sp) (hr : Room k X.A) (hG : NoG X.A) (tw : Takes X W) (ha : PA X (e :: es) t) (hkw : PK X kws tk)
    (hall : (backToKw pos (keywordEach kws X.env)).all (·.1.isSome) = true := by rfl) (hks : (backToKw pos (keywordEach kws X.env)).filterMap (·.1) = ks := by rfl)
    (hst : starEach (e :: es) X.env = (false, eval e X.env) :: starEach es X.env := by rfl) (hpl : ((backTo pos (starEach (e :: es) X.env)).any (·.1) || (backToKw pos (keywordEach kws X.env)).any (·.1.isNone)) = false := by rfl)
    {pl : Sem Bool} (ht : eval (.Call (.Attribute o m apos) (e :: es) kws pos) X.env = (do
      let cls ← eval o X.env
      standAt apos.atName
      let (fn, self) ← holding [cls] (getMethod cls m pl)
      callWith pos fn self (backTo pos (starEach (e :: es) X.env)) (backToKw pos (keywordEach kws X.env))) := by rfl) :
    PE X (.Call (.Attribute o m apos) (e :: es) kws pos) (tCMX C n ks.length sp src dV W ta t tk) := by
  refine ⟨fun pins s σ H Q I h => ?_⟩; refine PySem.W.methodCall_KW (pl := pl) (thn (he.run pins s σ H _ I h) fun u s1 ⟨x, H1, I1, rx, ex, q⟩ => ?_) ht
  subst ex
  obtain rfl : u = Value.ref C := rx; refine ClX.getmethcm_ok I1 rd c fun s2 I2 => ?_
  refine PySem.W.callWith_of (P := PySem.W.MethP X.K s1.heap.objs.size f (.ref C)) hpl (PySem.W.keeps_M c.fi) (evalArgs_kw2 hall (thn (ha.run pos _ s2 σ H1 _ I2 q) fun us s3 ⟨vs, H2, I3, r, q2⟩ => ?_) hst)
  refine thn (hkw.run pos _ s3 σ H2 _ I3 q2) fun ws s4 ⟨zs, H3, I4, rz, l1, l2, q3⟩ => ⟨⟨ClX.pin_at I4, I4.kIn⟩, ?_⟩
  rw [hks]
  exact run_cmX F hr hG tw I4 r rz l1 l2 q3
theorem pe_cmX0 (he : PE X o ta) (rd : ClX.CRead X.K C mc) (c : ClX.CMet X.K C mc m q₀ f) (F : FnX X.prog X.w X.K X.mg X.base k f n ks src dV sp) (hr : Room k X.A) (hG : NoG X.A) (tw : Takes X W) (hkw : PK X kws tk)
    (hall : (backToKw pos (keywordEach kws X.env)).all (·.1.isSome) = true := by rfl) (hks : (backToKw pos (keywordEach kws X.env)).filterMap (·.1) = ks := by rfl)
    (hpl : ((backTo pos (starEach [] X.env)).any (·.1) || (backToKw pos (keywordEach kws X.env)).any (·.1.isNone)) = false := by rfl)
    {pl : Sem Bool} (ht : eval (.Call (.Attribute o m apos) [] kws pos) X.env = (do
      let cls ← eval o X.env
      standAt apos.atName
      let (fn, self) ← holding [cls] (getMethod cls m pl)
      callWith pos fn self (backTo pos (starEach [] X.env)) (backToKw pos (keywordEach kws X.env))) := by rfl) :
    PE X (.Call (.Attribute o m apos) [] kws pos) (tCMX C n ks.length sp src dV W ta tNil tk) := by
  refine ⟨fun pins s σ H Q I h => ?_⟩; refine PySem.W.methodCall_KW (pl := pl) (thn (he.run pins s σ H _ I h) fun u s1 ⟨x, H1, I1, rx, ex, q⟩ => ?_) ht
  subst ex
  obtain rfl : u = Value.ref C := rx; refine ClX.getmethcm_ok I1 rd c fun s2 I2 => ?_
  refine PySem.W.callWith_of (P := PySem.W.MethP X.K s1.heap.objs.size f (.ref C)) hpl (PySem.W.keeps_M c.fi) (evalArgs_kw2_nil hall ?_)
  refine thn (hkw.run pos _ s2 σ H1 _ I2 q) fun ws s4 ⟨zs, H3, I4, rz, l1, l2, q3⟩ => ⟨⟨ClX.pin_at I4, I4.kIn⟩, ?_⟩
  rw [hks]
  exact run_cmX (us := []) (vs := []) F hr hG tw I4 .nil rz l1 l2 q3
/-- x(e, .., k = v, ..), the variable x holds the class at C -/
def tKXv (i : Nat) (C : Addr) (n j : Nat) (sp : Sp) (src : List Src) (dV : List V) (W : WX) (t tk : TA) : TE := fun σ H Q => σ[i]? = some (some (.ref C)) ∧ tKX C n j sp src dV W t tk σ H Q
theorem pe_kXv {i : Nat} (M : Mk X.K C f) (F : FnX X.prog X.w X.K X.mg X.base k f n ks src dV sp) (hr : Room (k + 1) X.A) (hG : NoG X.A) (tw : Takes X W) (hN : X.N[i]? = some x) (hv : Vis X.env.scope x) (ha : PA X (e :: es) t) (hkw : PK X kws tk)
    (hall : (backToKw pos (keywordEach kws X.env)).all (·.1.isSome) = true := by rfl) (hks : (backToKw pos (keywordEach kws X.env)).filterMap (·.1) = ks := by rfl) (hdb : (x == ("__debug__" : Str)) = false := by decide) (hcd : (x == ("__classdict__" : Str)) = false := by decide) (he : starEach (e :: es) X.env = (false, eval e X.env) :: starEach es X.env := by rfl) (hpl : ((backTo pos (starEach (e :: es) X.env)).any (·.1) || (backToKw pos (keywordEach kws X.env)).any (·.1.isNone)) = false := by rfl) :
    PE X (.Call (.Name x p) (e :: es) kws pos) (tKXv i C n ks.length sp src dV W t tk) := by
  refine ⟨fun pins s σ H Q I ⟨hs, h⟩ => ?_⟩
  refine wpAny_Call_Name_kw (thn ((pe_var (pos := p) (i := i) hN hv hdb hcd).run pins s σ H (fun v H1 => v = .ref C ∧ H1 = H) I ⟨.ref C, hs, rfl, rfl⟩) fun u s0 ⟨v, H0, I0, r0, ev, eH⟩ => ?_)
  subst ev eH
  obtain rfl : u = Value.ref C := r0
  refine PySem.W.callWith_KW (h₀ := X.base) I0.ok.mod.kin M.kp hall (thn (ha.run pos pins s0 σ _ _ I0 h) fun us s1 ⟨vs, H1, I1, r, q⟩ => ?_) hpl he
  refine thn (hkw.run pos pins s1 σ H1 _ I1 q) fun ws s2 ⟨zs, H2, I2, rz, l1, l2, q2⟩ => ⟨I2.kIn, ?_⟩; rw [hks]
  exact run_kX M F hr hG tw I2 r rz l1 l2 q2
end
/-! ### what an own class says of its instances -/
/-- the def for a special method of the class at C stands at f -/
structure Own (K : PySem.W.Frag) (C : Addr) (name : Str) (f : Addr) : Prop where
  hs : PySem.W.findIn K (.ref C) name = some (some (.ref f))
  hf : PySem.W.isFn K (.ref f) = true
section
variable {X : Cx} {k n : Nat} {f C : Addr} {sp : Sp}
theorem run_sp {pins : List (Addr × Obj)} {σ : St} {H : Hp} {s : Shared} {Q : VK} {us : List Value} {vs : List V} {src : List Src} {A : Around} (F : FnX X.prog X.w X.K X.mg X.base k f n [] src [] sp) (hr : Room k A) (hG : NoG A) (e0 : Env0 X.prog X.w X.K X.mg X.base A X.stack s H)
    (I : Inv X pins σ H s) (r : Vals vs us) (l : us.length = n) (hsel : sel vs [] [] src = vs) (hsel' : sel us [] [] src = us) (h : sp vs H Q fun _ _ _ => False) {E : Value → Shared → Prop} : wpAny (model X.prog X.w) A (call (.ref f) us) (EP X pins σ Q) E s := by
  obtain ⟨fd, ps, F1, du, rd, hb⟩ := F.ex
  cases rd
  have b := hb s us [] I.kIn l rfl
  rw [hsel'] at b
  refine wpAny_call (codeAny_mono (F1.go A X.stack s H ⟨us, []⟩ us vs Q (fun _ _ _ => False) hr hG e0 b r h) fun r s' hq => ?_)
  match r, hq with
  | .error er, hq =>
    obtain ⟨_, _, _, _, _, _, _, _, _, _, _, _, z⟩ := (show L2.CX X.prog X.w X.stack H _ (fun _ _ _ => False) er s' from hq)
    exact z.elim
  | .ok (.ret u), hq => exact I.after hq
/-- of one instance of the class at C: a text -/
def rTx (C : Addr) (sp : Sp) : V → Hp → VK → Prop := fun x H Q => ∃ a dx fs, x = .ref a ∧ H a = some (.ins C dx fs) ∧ sp [x] H (fun v H' => (∃ y, v = .str y) ∧ Q v H') fun _ _ _ => False
theorem strback {pins : List (Addr × Obj)} {σ : St} {Q : VK} {u : Value} {s : Shared} (h : EP X pins σ (fun v H' => (∃ y, v = .str y) ∧ Q v H') u s) : PySem.W.StrBack (EP X pins σ Q) u s := by
  obtain ⟨v, H', I, r, ⟨y, rfl⟩, q⟩ := h
  obtain ⟨t, rfl⟩ := r
  exact ⟨.str y, H', I, ⟨t, rfl⟩, q⟩
theorem call_strOwn (O : Own X.K C "__str__" f) (F : FnX X.prog X.w X.K X.mg X.base k f 1 [] [.a 0] [] sp) (hr : Room (k + 2) X.A) (hG : NoG X.A) : CallR X (.type "str") fun xs H Q => ∃ x, xs = [x] ∧ rTx C sp x H Q := by
  intro pins s σ H xs us Q I r h; obtain ⟨x, rfl, a, dx, fs, rfl, ea, q⟩ := h
  obtain ⟨u, rfl, ru⟩ := r.one
  cases (show u = Value.ref a from ru); obtain ⟨mA, O', _, _, _, _⟩ := ins_get I.hok ea
  obtain ⟨od, J, _⟩ := O'.look
  have hr2 : Room k X.A.in1.in1 := (show Room (k + 1) X.A.in1 from Room.in1 hr).in1
  exact PySem.W.kso_call hr2.units0 I.kIn J O.hs O.hf (wpAny_mono (run_sp (us := [.ref a]) (vs := [.ref a]) F hr2 hG.in1.in1 I.env0.in1.in1 I (.cons rfl .nil) rfl rfl rfl q) (fun _ _ z => strback z) fun _ _ z => z)
theorem call_reprOwn (O : Own X.K C "__repr__" f) (F : FnX X.prog X.w X.K X.mg X.base k f 1 [] [.a 0] [] sp) (hr : Room (k + 1) X.A) (hG : NoG X.A) : CallR X (.builtin "repr") fun xs H Q => ∃ x, xs = [x] ∧ rTx C sp x H Q := by
  intro pins s σ H xs us Q I r h; obtain ⟨x, rfl, a, dx, fs, rfl, ea, q⟩ := h
  obtain ⟨u, rfl, ru⟩ := r.one
  cases (show u = Value.ref a from ru); obtain ⟨mA, O', _, _, _, _⟩ := ins_get I.hok ea
  obtain ⟨od, J, _⟩ := O'.look
  obtain ⟨m, hF⟩ := I.fr
  have hr2 : Room k X.A.in1 := hr.in1
  exact PySem.W.repr_K hr2.units0 hF I.ok.mod.kin J O.hs O.hf (wpAny_mono (run_sp (us := [.ref a]) (vs := [.ref a]) F hr2 hG.in1 I.env0.in1 I (.cons rfl .nil) rfl rfl rfl q) (fun _ _ z => strback z) fun _ _ z => z)
/-- {e} in an f-string -/
def tFmtX (C : Addr) (sp : Sp) (te : TE) : TE := fun σ H Q => te σ H fun x H1 => ((∃ y : Str, x = .str y ∧ y.length ≤ sizeLine ∧ Q (.str y) H1) ∨ ∃ i : Int, x = .int i ∧ i.natAbs.log2 < 1920 ∧ Q (.str (toString i)) H1) ∨ rTx C sp x H1 Q
theorem pe_fmtX {e : Expr} {te : TE} {pos : Pos} (O : Own X.K C "__str__" f) (hfm : PySem.W.findIn X.K (.ref C) "__format__" = some (some (.builtin "object.__format__"))) (hm : PySem.W.mroIn X.K C (.type "object") = some true) (F : FnX X.prog X.w X.K X.mg X.base k f 1 [] [.a 0] [] sp)
    (hr : Room (k + 1) X.A) (hG : NoG X.A) (he : PE X e te) : PE X (.FormattedValue e (-1) none pos) (tFmtX C sp te) := by
  refine ⟨fun pins s σ H Q I h => ?_⟩; refine wpAny_FormattedValue_plain (thn (he.run pins s σ H _ I h) fun v s1 hv => ?_)
  obtain ⟨x, H1, I1, r1, q⟩ := hv; rcases q with (⟨y, rfl, hz, q⟩ | ⟨i, rfl, hz, q⟩) | ⟨a, dx, fs, rfl, ea, q⟩
  · obtain ⟨t, rfl⟩ := r1; exact wpAny_formatField_str ⟨.str y, H1, I1, ⟨t, rfl⟩, q⟩ ⟨.str y, H1, I1.tok _, ⟨_, rfl⟩, q⟩ hz
  · obtain ⟨t, rfl⟩ := r1; exact wpAny_formatField_int hz ⟨.str (toString i), H1, I1.tok _, ⟨_, rfl⟩, q⟩
  · cases (show v = Value.ref a from r1)
    obtain ⟨mA, O', _, _, _, _⟩ := ins_get I1.hok ea
    obtain ⟨od, J, _⟩ := O'.look
    have hr2 : Room k X.A.in1 := hr.in1
    have I2 : Inv X pins σ H1 { s1 with toks := s1.toks + 1 } := I1.tok _
    exact PySem.W.kfo_fieldS hr2.units0 I1.kIn J hfm hm O.hs O.hf (wpAny_mono (run_sp (us := [.ref a]) (vs := [.ref a]) F hr2 hG.in1 I2.env0.in1 I2 (.cons rfl .nil) rfl rfl rfl q) (fun _ _ z => strback z) fun _ _ z => z)
/-- x == y by x's own def -/
def rEqX (K : PySem.W.Frag) (C : Addr) (sp : Sp) : R2 := fun x y H Q => ∃ a dx fs tb, x = .ref a ∧ H a = some (.ins C dx fs) ∧ TyX K H y tb ∧ PySem.W.notFirst K C tb = true ∧ sp [x, y] H Q fun _ _ _ => False
theorem op_eqX (O : Own X.K C "__eq__" f) (F : FnX X.prog X.w X.K X.mg X.base k f 2 [] [.a 0, .a 1] [] sp) (hr : Room k X.A) (hG : NoG X.A) : OpR X (compareOp .Eq) (rEqX X.K C sp) := by
  intro pins s σ H x y v u Q I rx ry h; obtain ⟨a, dx, fs, tb, rfl, ea, ty, hn, q⟩ := h
  cases (show v = Value.ref a from rx); obtain ⟨mA, O', _, _, _, _⟩ := ins_get I.hok ea
  obtain ⟨od, J, _⟩ := O'.look
  obtain ⟨m, hF⟩ := I.fr
  obtain ⟨P, kx, px, _⟩ := kit_of I ry ty
  have lk : PySem.W.Looks (model X.prog X.w) s.heap (typeOf u) tb := kx.ty _ _ I.kIn px
  show wpAny _ _ (richCompare .Eq (.ref a) u) _ _ _
  refine PySem.W.cmp_K (op := .Eq) (tb := tb) hr.units0 hF I.ok.mod.kin J lk hn O.hs O.hf ?_
  refine wpAny_mono (run_sp (us := [.ref a, u]) (vs := [.ref a, y]) F hr hG I.env0 I (.cons rfl (.cons ry .nil)) rfl rfl rfl q) (fun w s' z => ?_) fun _ _ z => z
  obtain ⟨z', H', I', rz, qz⟩ := z; exact SlX.cmpback rz ⟨z', H', I', rz, qz⟩
end
end L2

set_option maxHeartbeats 1000000
/-! P11: class constants, fields, classmethods, own specials as functions. -/
namespace Sd
open PySem PySem.Spec PyProof.Rows L2 LamX
section
variable {T : Tab} {C : C0} {X : Xw} {W W1 W2 : Wd} {A : List Addr} {σ : L2.St} {H H1 H2 : Hp} {ρ ρ1 ρ2 : En} {v : V}
/-! ### constants of classes -/
theorem q_cval {Ca : Addr} {mc : Value} {f : Str} {v : V} {u : Value} {d : D} (r : ClX.CRead T.K Ca mc) (k : ClX.CVal T.K Ca mc f v u) (hd : ∀ H, At T H v d) : Pe T C (ClX.tCVal T.K (tC (.ref Ca)) f) (we X (fC d)) := fun W σ H ρ Q K e q k' =>
  ⟨Ca, mc, v, u, rfl, r, k, k' _ _ _ _ _ (.refl e) (.d (hd _)) q⟩
def fCon (c f : Str) (d : D) (fo : FE) : FE := fSelf fo fun x ρ1 => if insB c f ρ1 x = true then .ok (.d d) ρ1 else .no
theorem q_con {c f : Str} {Ca : Addr} {v : V} {u : Value} {d : D} {ta : TE} {fo : FE} (hc : T.ca c = Ca) (cl : Cls T.K Ca) (k : Con T.K Ca f v u) (hd : ∀ H, At T H v d) (ho : Pe T C ta (we X fo)) : Pe T C (tCon T.K ta f) (we X (fCon c f d fo)) := fun W σ H ρ Q K e q k' =>
  ho W σ H ρ _ _ e (wo_bind q) fun v1 H1 W1 r ρ1 P R q1 => by
    obtain ⟨x, ex, q1⟩ := wo_opt (wo_bind q1)
    obtain ⟨q0, q1⟩ := wo_if q1
    obtain ⟨a, dx, fs, rfl, h1, h2⟩ := ins_of P.ok (ref_fat' R ex) q0
    rw [hc] at h1
    exact ⟨a, Ca, dx, fs, v, u, rfl, h1, cl, k, h2, k' _ _ _ _ _ P (.d (hd _)) q1⟩
/-! ### fields -/
def fdD (cs : List Str) (f : Str) : D → Option RV
  | .ins c ns vs => if cs.contains c = true then (match (ns.zip vs).lookup f with
    | some d => some (.d d)
    | none => none) else none
  | _ => none
def fdC : Option C1 → Option RV
  | some (.p d) => some (.d d)
  | some (.r l) => some (.r l)
  | _ => none
def fdM (cs : List Str) (f : Str) : Option M → Option RV
  | some (.i c ns fs) => if cs.contains c = true then fdC ((ns.zip fs).lookup f) else none
  | some (.z d) => fdD cs f d
  | _ => none
def fdR (cs : List Str) (f : Str) : RV → En → Option RV
  | .d d, _ => fdD cs f d
  | .r l, ρ => fdM cs f ρ.μ[l]?
  | .n _, _ => none
theorem fdD_of {cs : List Str} {f : Str} {d : D} {q : RV} {k : RV → Prop} (h : fdD cs f d = some q) (kq : k q) : fldD cs f (fun x => k (.d x)) d := by
  cases d with
  | ins c ns vs =>
    have h : (if cs.contains c = true then (match (ns.zip vs).lookup f with
      | some d => some (RV.d d)
      | none => none) else none) = some q := h
    split at h
    · rename_i z
      refine ⟨z, ?_⟩
      cases y : (ns.zip vs).lookup f with
      | none => rw [y] at h; cases h
      | some d => rw [y] at h; cases h; exact kq
    · cases h
  | _ => cases h
theorem fdM_of {cs : List Str} {f : Str} {m : Option M} {q : RV} {k : RV → Prop} (h : fdM cs f m = some q) (kq : k q) : fldM cs f k m := by
  cases m with
  | none => cases h
  | some m =>
    cases m with
    | i c ns fs =>
      have h : (if cs.contains c = true then fdC ((ns.zip fs).lookup f) else none) = some q := h
      split at h
      · rename_i z
        refine ⟨z, ?_⟩
        cases y : (ns.zip fs).lookup f with
        | none => rw [y] at h; cases h
        | some c =>
          rw [y] at h
          cases c with
          | p d => cases h; exact kq
          | r l => cases h; exact kq
          | fn => cases h
      · cases h
    | z d => exact fdD_of (show fdD cs f d = some q from h) kq
    | _ => cases h
theorem fdR_of {cs : List Str} {f : Str} {r : RV} {ρ : En} {q : RV} {k : RV → Prop} (h : fdR cs f r ρ = some q) (kq : k q) : fldK cs f r ρ k := by
  cases r with
  | d d => exact fdD_of (show fdD cs f d = some q from h) kq
  | r l => exact fdM_of (show fdM cs f ρ.μ[l]? = some q from h) kq
  | n m => cases h
def fFd (cs : List Str) (f : Str) (fa : FE) : FE := fun ρ => (fa ρ).bind fun r ρ1 => opt (fdR cs f r ρ1) ρ1
theorem q_fd {cs : List Str} {f : Str} {te : TE} {fa : FE} (hc : ∀ c, cs.contains c = true → Cls T.K (T.ca c) ∧ NoAttr T.K (T.ca c) f) (h : Pe T C te (we X fa)) : Pe T C (tFld T.K te f) (we X (fFd cs f fa)) := (pe_fldD hc h).wk fun ρ Q q => wo_mono (fun r ρ1 q => by
  obtain ⟨z, ez, q⟩ := wo_opt q
  exact fdR_of ez q) (wo_bind q)
/-! self.f = e -/
def stoF : RV → En → C1 × En
  | .d x, ρ => (.p x, ρ)
  | .n m, ρ => (.r ρ.μ.length, ρ.add m)
  | .r l, ρ => (.r l, ρ)
def putM (cs : List Str) (f : Str) (x : C1) (l : Nat) (ρ : En) : Option M → Fl
  | some (.i c ns fs) => if (cs.contains c && Nat.ble ns.length 900) = true then .nx (ρ.put l (.i c (pn f ns) (pv f x ns fs))) else .no
  | _ => .no
def putO (cs : List Str) (f : Str) (x : C1) (ρ : En) : Option (Option C1) → Fl
  | some (some (.r l)) => putM cs f x l ρ ρ.μ[l]?
  | _ => .no
def sSetF (cs : List Str) (f : Str) (i : Nat) (fa : FE) : FS := fun ρ => (fa ρ).to fun r ρ1 => putO cs f (stoF r ρ1).1 (stoF r ρ1).2 (stoF r ρ1).2.s[i]?
theorem qs_setF {cs : List Str} {f : Str} {i : Nat} {te : TE} {fa : FE} (hc : ∀ c, cs.contains c = true → Cls T.K (T.ca c) ∧ NoAttr T.K (T.ca c) f) (h : Pe T C te (we X fa)) : Ps T C (sFld T.K (tVar i) te f) (ws X (sSetF cs f i fa)) := (ps_setF hc h).wk fun E ρ q => wo_mono (fun r ρ1 q => by
  have key : ∀ (x : C1) (ρ2 : En), wl X E (putO cs f x ρ2 ρ2.s[i]?) → inK i ρ2 fun l c ns fs => cs.contains c = true ∧ Nat.ble ns.length 900 = true ∧ E.nx (ρ2.put l (.i c (pn f ns) (pv f x ns fs))) := fun x ρ2 q => by
    show inO ρ2 _ ρ2.s[i]?
    cases z : ρ2.s[i]? with
    | none => rw [z] at q; exact q.elim
    | some o =>
      cases o with
      | none => rw [z] at q; exact q.elim
      | some c1 =>
        cases c1 with
        | r l =>
          rw [z] at q
          have q : wl X E (putM cs f x l ρ2 ρ2.μ[l]?) := q
          show inM l (fun l c ns fs => cs.contains c = true ∧ Nat.ble ns.length 900 = true ∧ E.nx (ρ2.put l (.i c (pn f ns) (pv f x ns fs)))) ρ2.μ[l]?
          cases y : ρ2.μ[l]? with
          | none => rw [y] at q; exact q.elim
          | some m =>
            rw [y] at q
            cases m with
            | i c ns fs =>
              obtain ⟨w, q⟩ := wl_ifb (X := X) q
              obtain ⟨w1, w2⟩ := Bool.and_eq_true_iff.mp w
              exact ⟨w1, w2, q⟩
            | _ => exact q.elim
        | _ => rw [z] at q; exact q.elim
  cases r with
  | d x => exact key _ _ q
  | n m => exact key _ _ q
  | r l => exact key _ _ q) (wl_to q)
/-! ### classmethods: the class is the first value -/
def SpK (K : PySem.W.Frag) (ca : Str → Addr) (tb : List (Addr × Str)) (c : Str) (F : FD) : Sp := fun vs H Q E => ∃ ms : List Int, ms.length ≤ 63 ∧ SpC ⟨K, ca, ms, tb, ca c⟩ (RF F) vs H Q E
def bkX (ls : List Nat) (ρ : En) : OtD → Ot RV
  | .ok r μ' => if (closedB ls.length μ' && rvOk r) = true then .ok (bkR ls r) (ρ.wm (wb ls ρ.μ ls μ')) else .no
  | .ex x μ' => if closedB ls.length μ' = true then .ex x (ρ.wm (wb ls ρ.μ ls μ')) else .no
  | .no => .no
def callC (F : FD) (cs : List C1) (ρ : En) : Ot RV :=
  if okL ρ.μ cs (lend ρ.μ cs) = true then bkX (lend ρ.μ cs) ρ (F (.fn :: cs.map (renC ρ.μ (lend ρ.μ cs))) (subM ρ.μ (lend ρ.μ cs))) else .no
theorem spk_of {F : FD} {c : Str} {Wx : WX} {vs : List V} {cs : List C1} {Q : RV → En → Prop} {K : VK} (hz : T.cs.length ≤ 63) (lk : LinkW T C Wx X) (e : EnvOk T C W σ H ρ) (S : FAll T W.t (hide H W.A) vs cs) (q : wo X Q (callC F cs ρ))
    (k : ∀ v H' W' r ρ', Post T C W σ H ρ W' H' ρ' → RvOk T C H W' H' v r → Q r ρ' → K v H') : SpK T.K T.ca T.tb c F (.ref (T.ca c) :: vs) H K (L2.WE Wx σ) := by
  obtain ⟨ok, q1⟩ := wo_if q
  have pr := pre_c e S ok
  have ok' := ok
  unfold okL at ok'
  obtain ⟨o1, ok'⟩ := Bool.and_eq_true_iff.mp ok'
  obtain ⟨o2, o3⟩ := Bool.and_eq_true_iff.mp ok'
  have Sr := renC_all (ls := lend ρ.μ cs) e S o3
  have nfr : (cs.map (renC ρ.μ (lend ρ.μ cs))).all noFn = true := by
    rw [List.all_map]
    exact List.all_eq_true.mpr fun c hc => ren_noFn (List.all_eq_true.mp o3 c hc)
  have nfm := subM_noFn o2
  refine ⟨T.cs, hz, W.A, ltOf W.t (lend ρ.μ cs), .fn :: cs.map (renC ρ.μ (lend ρ.μ cs)), subM ρ.μ (lend ρ.μ cs), fun r μ' => closedB (lend ρ.μ cs).length μ' = true ∧ rvOk r = true ∧ Q (bkR (lend ρ.μ cs) r) (ρ.wm (wb (lend ρ.μ cs) ρ.μ (lend ρ.μ cs) μ')),
    fun x μ' => closedB (lend ρ.μ cs).length μ' = true ∧ X x (ρ.wm (wb (lend ρ.μ cs) ρ.μ (lend ρ.μ cs) μ')), ?_, ?_, fun v H' A' r μ' p hr ⟨c3, n3, q3⟩ => ?_, fun cls d H' A' x μ' p hx ⟨c3, q3⟩ => ?_⟩
  · exact ⟨pr.dom, .cons .fn (Sr.sw (T.ca c) nfr), pr.len, fun l a m h1 h2 => ⟨(pr.st l a m h1 h2).1.sw (T.ca c) (nfm m (List.mem_iff_getElem?.mpr ⟨l, h2⟩)), (pr.st l a m h1 h2).2⟩, pr.inj, pr.tab⟩
  · show wd _ _ (F _ _)
    cases z : F (.fn :: cs.map (renC ρ.μ (lend ρ.μ cs))) (subM ρ.μ (lend ρ.μ cs)) with
    | no => rw [z] at q1; exact q1.elim
    | ex x μ' => rw [z] at q1; exact wo_if (X := X) (o := Ot.ex x _) q1
    | ok r μ' =>
      rw [z] at q1
      obtain ⟨y, q2⟩ := wo_if q1
      obtain ⟨y1, y2⟩ := Bool.and_eq_true_iff.mp y; exact ⟨y1, y2, q2⟩
  · have P3 := e.called ok (p.bk (T := T) (closed_noFn c3))
    have hr : RetOk T ⟨H, W.A, ltOf W.t (lend ρ.μ cs), C8.E0, fun _ _ => False⟩ ⟨A', ltOf W.t (lend ρ.μ cs)⟩ H' v r := RetOk.sw (T := T.fnAt (T.ca c)) T.f0 hr n3
    exact k _ _ _ _ _ P3 (e.result ok hr) q3
  · have P3 := e.called ok (p.bk (T := T) (closed_noFn c3))
    exact lk _ _ _ _ _ _ _ P3.ok (XAt.sw (T := T.fnAt (T.ca c)) T.f0 hx) q3
def fCM (F : FD) (n j : Nat) (src : List Src) (fa fk : FC) : FE := fun ρ => (fa ρ).bind fun cs ρ1 => (fk ρ1).bind fun ks ρ2 => if (cs.length + 1 == n && ks.length == j) = true then callC F (sel cs [] ks src) ρ2 else .no
/-- the places of what stands behind the class -/
def up : Src → Src
  | .a i => .a (i + 1)
  | s => s
theorem sel_up {α : Type} {x : α} {us ds ws : List α} : ∀ src : List Src, sel (x :: us) ds ws (src.map up) = sel us ds ws src
  | [] => rfl
  | s :: ss => by
    have e : (up s).get (x :: us) ds ws = s.get us ds ws := by
      cases s <;> rfl
    rw [List.map_cons]
    unfold sel
    rw [e]
    cases s.get us ds ws with
    | none => exact sel_up ss
    | some y => exact congrArg (y :: ·) (sel_up ss)
theorem q_cM {c : Str} {Ca : Addr} {F : FD} {n j : Nat} {src : List Src} {Wx : WX} {t tk : TA} {fa fk : FC} (hz : T.cs.length ≤ 63) (lk : LinkW T C Wx X) (hc : T.ca c = Ca) (ha : Pc T C t (we X fa)) (hk : Pc T C tk (we X fk)) :
    Pe T C (tCMX Ca n j (SpK T.K T.ca T.tb c F) (.a 0 :: src.map up) [] Wx (tC (.ref Ca)) t tk) (we X (fCM F n j src fa fk)) := fun W σ H ρ Q K e q k => by
  refine ⟨rfl, ha W σ H ρ _ _ e (wo_bind q) fun vs H1 W1 cs ρ1 P1 S1 q1 => hk W1 σ H1 ρ1 _ _ P1.ok (wo_bind q1) fun zs H2 W2 ks ρ2 P2 S2 q2 => ?_⟩
  obtain ⟨q0, q2⟩ := wo_if q2
  obtain ⟨l1, l2⟩ := Bool.and_eq_true_iff.mp q0
  have P := P1.trans P2
  refine ⟨by rw [List.length_cons, S1.length]; exact beq_iff_eq.mp l1, S2.length.trans (beq_iff_eq.mp l2), ?_⟩
  show SpK T.K T.ca T.tb c F (V.ref Ca :: sel (.ref Ca :: vs) [] zs (src.map up)) H2 K (L2.WE Wx σ)
  rw [sel_up, ← hc]
  exact spk_of hz lk P.ok (sel_fall (S1.mono (P2.ex P1.ok) P2.pre) .nil S2 src) q2 fun v H' W' r ρ' P3 R q3 => k _ _ _ _ _ (P.trans P3) (R.back P) q3
/-- cls(..), cls in the slot i -/
def fKXv (i : Nat) (c : Str) (F : FD) (n j : Nat) (src : List Src) (dC : List C1) (fa fk : FC) : FE := fun ρ => if fnB ρ.s[i]? = true then fKX c F n j src dC fa fk ρ else .no
theorem q_kXv {i : Nat} {c : Str} {Ca : Addr} {F : FD} {n j : Nat} {src : List Src} {dV : List V} {dC : List C1} {Wx : WX} {t tk : TA} {fa fk : FC} (hz : T.cs.length ≤ 63) (lk : LinkW T C Wx X) (hf : T.f0 = T.ca c) (hc : T.ca c = Ca) (hd : ∀ t H, FAll T t H dV dC) (ha : Pc T C t (we X fa)) (hk : Pc T C tk (we X fk)) :
    Pe T C (tKXv i Ca n j (SpA T.K T.ca T.tb (RF F)) src dV Wx t tk) (we X (fKXv i c F n j src dC fa fk)) := fun W σ H ρ Q K e q k => by
  obtain ⟨w1, q⟩ := wo_if q
  refine ⟨?_, q_kX hz lk hc hd ha hk W σ H ρ Q K e q k⟩
  cases z : ρ.s[i]? with
  | none => rw [z] at w1; cases w1
  | some o =>
    cases o with
    | none => rw [z] at w1; cases w1
    | some c' =>
      rw [z] at w1
      cases c' with
      | fn =>
        obtain ⟨v, h1, h2⟩ := e.cell i _ z
        cases h2
        rw [← hc, ← hf]
        exact h1
      | _ => cases w1
/-- the body of a classmethod -/
theorem bodyM {K : PySem.W.Frag} {ca : Str → Addr} {tb : List (Addr × Str)} {c : Str} {ts : XK → TS} {F : FD} {N : List Str} {m : Nat} {w : List Int → (D → List M → Prop) → WS} (h : ∀ ms : List Int, ms.length ≤ 63 → ∀ C E X, Link ⟨K, ca, ms, tb, ca c⟩ C E X → Ps ⟨K, ca, ms, tb, ca c⟩ C (ts E) (w ms X))
    (hR : ∀ ms : List Int, ms.length ≤ 63 → ∀ cs μ Q X, RF F cs μ Q X → cs.length = m ∧ w ms X (bodyE Q) ⟨st0 (N.length - m) cs, μ, μ.length⟩)
    {vs : List V} {H : Hp} {Q : VK} {E : XK} (hs : SpK K ca tb c F vs H Q E) : ts E { nx := fun _ H' => Q .non H', rt := Q } (start N vs) H := by
  obtain ⟨ms, hz, hs⟩ := hs
  exact body_ok (h ms hz) (hR ms hz) hs
theorem SpK.len {K : PySem.W.Frag} {ca : Str → Addr} {tb : List (Addr × Str)} {c : Str} {F : FD} {m : Nat} (hR : ∀ cs μ Q X, RF F cs μ Q X → cs.length = m) {vs : List V} {H : Hp} {Q : VK} {E : XK} (h : SpK K ca tb c F vs H Q E) : vs.length = m := by
  obtain ⟨ms, _, A, Lt, cs, μ, K', X, pr, hr, _⟩ := h
  exact pr.args.length.trans (hR _ _ _ _ hr)
/-! ### own specials -/
def strR (o : Ot RV) : Ot RV := o.bind fun r ρ => strK (fun y => .ok (.d (.str y)) ρ) r
def own1 (c : Str) (F : FD) (o : OL) (r : RV) (ρ : En) : Option C1 → Ot RV
  | some x => if insB c "" ρ x = true then (strR (callF F [x] ρ)).nox else apL o ρ (rdL [r] ρ)
  | none => apL o ρ (rdL [r] ρ)
def fOwn1 (c : Str) (F : FD) (o : OL) (fa : FE) : FE := fun ρ => (fa ρ).bind fun r ρ1 => own1 c F o r ρ1 (refO' r)
theorem own1_of {c : Str} {Ca : Addr} {F : FD} {o : OL} {rl : List V → Hp → VK → Prop} {r : RV} {Hs : Hp} {Q : RV → En → Prop} {K : VK} {D0 : Hp → Prop} (hz : T.cs.length ≤ 63) (hc : T.ca c = Ca) (h : OpL T rl (fOL o)) (e : EnvOk T C W σ H ρ) (R : RvOk T C Hs W H v r) (q : wo X Q (own1 c F o r ρ (refO' r)))
    (k : ∀ v H' W' r ρ', Post T C W σ H ρ W' H' ρ' → RvOk T C H W' H' v r → Q r ρ' → K v H') : rl [v] H K ∨ rTx Ca (SpA T.K T.ca T.tb (RF F)) v H K := by
  have alt : wo X Q (apL o ρ (rdL [r] ρ)) → rl [v] H K := fun q => by
    cases e1 : rdL [r] ρ with
    | none => rw [e1] at q; exact q.elim
    | some us =>
      rw [e1] at q
      obtain ⟨w, ew, q3⟩ := wo_opt q
      refine h H W.A [v] us (fun q => Q q ρ) K e.dom (rd_all e (.cons R .nil) e1) ⟨w, ew, q3⟩ fun z H' hv => ?_
      obtain ⟨W', r', ρ', P', R', q'⟩ := fin_v (Q := Q) (Post.refl e) hv
      exact k _ _ _ _ _ P' R' q'
  cases ex : refO' r with
  | none => rw [ex] at q; exact .inl (alt q)
  | some x =>
    rw [ex] at q
    have q := wo_ite (X := X) (c := insB c "" ρ x) q
    cases hb : insB c "" ρ x with
    | false => rw [hb] at q; exact .inl (alt q)
    | true =>
      rw [hb] at q
      have Fx := ref_fat' R ex
      obtain ⟨a, dx, fs, rfl, h1, h2⟩ := ins_of e Fx hb
      rw [hc] at h1
      refine .inr ⟨a, dx, fs, rfl, h1, ?_⟩
      refine sp_of (X := noX) (Wx := fun _ _ _ _ => False) (Q := fun r ρ' => ∃ y, r = .d (.str y) ∧ Q r ρ') hz (fun _ _ _ _ _ _ _ _ _ z => z.elim) e (.cons Fx .nil) ?_ fun v H' W' r ρ' P4 R4 ⟨y, er, q4⟩ => ?_
      · refine wo_mono (fun r ρ' q => ?_) (wo_bind (wo_nox q))
        obtain ⟨y, er, q⟩ := strK_of q
        subst er
        exact ⟨y, rfl, q⟩
      · subst er
        have q5 := k _ _ _ _ _ P4 R4 q4
        cases R4 with
        | d g =>
          cases g
          exact ⟨⟨y, rfl⟩, q5⟩
theorem q_own1 {c : Str} {Ca : Addr} {F : FD} {o : OL} {rl : List V → Hp → VK → Prop} {te : TE} {fa : FE} (hz : T.cs.length ≤ 63) (hc : T.ca c = Ca) (h : OpL T rl (fOL o)) (ha : Pe T C te (we X fa)) :
    Pe T C (tCB (fun xs H Q => rl xs H Q ∨ ∃ x, xs = [x] ∧ rTx Ca (SpA T.K T.ca T.tb (RF F)) x H Q) (tCons te tNil)) (we X (fOwn1 c F o fa)) := fun W σ H ρ Q K e q k =>
  ha W σ H ρ _ _ e (wo_bind q) fun v1 H1 W1 r1 ρ1 P R q1 => by
    rcases own1_of (D0 := fun _ => True) hz hc h P.ok R q1 fun v H' W' r ρ' P' R' q' => k _ _ _ _ _ (P.trans P') (R'.back P) q' with z | z
    · exact .inl z
    · exact .inr ⟨_, rfl, z⟩
def oFmtL : OL
  | [.str y] => if szB y.length = true then some (.d (.str y)) else none
  | [.int i] => if decide (i.natAbs.log2 < 1920) = true then some (.d (.str (toString i))) else none
  | _ => none
def rFmtL : List V → Hp → VK → Prop := fun xs H Q => ∃ x, xs = [x] ∧ ((∃ y : Str, x = .str y ∧ y.length ≤ sizeLine ∧ Q (.str y) H) ∨ ∃ i : Int, x = .int i ∧ i.natAbs.log2 < 1920 ∧ Q (.str (toString i)) H)
theorem o_fmtL : OpL T rFmtL (fOL oFmtL) := fun H A vs us Q K d hs ⟨q, e, h⟩ k => by
  match us, e with
  | [.str y], e =>
    obtain ⟨e1, e2⟩ := if_some e
    subst e2
    obtain ⟨v, rfl, S⟩ := sh1 hs
    exact ⟨_, rfl, .inl ⟨y, S.str, szB_ok e1, k _ _ (vend_d d (.str _) h)⟩⟩
  | [.int i], e =>
    obtain ⟨e1, e2⟩ := if_some e
    subst e2
    obtain ⟨v, rfl, S⟩ := sh1 hs
    exact ⟨_, rfl, .inr ⟨i, S.int, of_decide_eq_true e1, k _ _ (vend_d d (.str _) h)⟩⟩
theorem q_fmtX {c : Str} {Ca : Addr} {F : FD} {te : TE} {fa : FE} (hz : T.cs.length ≤ 63) (hc : T.ca c = Ca) (ha : Pe T C te (we X fa)) : Pe T C (tFmtX Ca (SpA T.K T.ca T.tb (RF F)) te) (we X (fOwn1 c F oFmtL fa)) := fun W σ H ρ Q K e q k =>
  ha W σ H ρ _ _ e (wo_bind q) fun v1 H1 W1 r1 ρ1 P R q1 => by
    rcases own1_of (D0 := fun _ => True) hz hc o_fmtL P.ok R q1 fun v H' W' r ρ' P' R' q' => k _ _ _ _ _ (P.trans P') (R'.back P) q' with z | z
    · obtain ⟨x, ex, z⟩ := z
      cases ex
      exact .inl z
    · exact .inr z
/-! own == -/
def tyM : Option M → Option TyN
  | some (.l _) => some .lst
  | some (.m _ _) => some .dct
  | some (.i c _ _) => some (.i c)
  | some (.z d) => some (tyN d)
  | _ => none
def tyC (ρ : En) : C1 → Option TyN
  | .p d => some (tyN d)
  | .r l => tyM ρ.μ[l]?
  | .fn => none
theorem ty_cell {x : C1} {t : TyN} (e : EnvOk T C W σ H ρ) (h : FAt T W.t (hide H W.A) v x) (ht : tyC ρ x = some t) (hi : ∀ c, t = .i c → InsC T.K (T.ca c)) (hx : ∀ c, t ≠ .e c) : TyX T.K H v (tyV T.ca t) := by
  have data : ∀ {v : V} {d : D}, At T (hide H W.A) v d → some (tyN d) = some t → TyX T.K H v (tyV T.ca t) := fun g ez => by
    cases ez
    exact ty_of (g.mono (ex_hide H W.A)) hi hx
  cases h with
  | p g => exact data g ht
  | fn => cases ht
  | @r a l g =>
    have ht : tyM ρ.μ[l]? = some t := ht
    cases hm : ρ.μ[l]? with
    | none => rw [hm] at ht; cases ht
    | some m =>
      rw [hm] at ht
      have hs := e.st l a m g hm
      cases m with
      | l xs =>
        cases ht
        obtain ⟨vs, h1, _⟩ := hs
        exact .base (.lst h1)
      | m ks ds =>
        cases ht
        rcases hs with ⟨kvs, h1, _⟩ | ⟨kvs, h1, _⟩
        · exact .base (.dK h1)
        · exact .base (.dT h1)
      | i c ns fs =>
        cases ht
        obtain ⟨dx, gs, h1, _⟩ := hs
        have c := hi _ rfl
        exact .base (.ins h1 c.cl c.ha c.hn c.ht c.hm)
      | pen n => cases ht
      | z d => exact data hs ht
/-- which operands' own == is asked: those that are of no class below c -/
structure EqOk (K : PySem.W.Frag) (ca : Str → Addr) (c : Str) (nf : TyN → Bool) : Prop where
  k : ∀ t, nf t = true → PySem.W.notFirst K (ca c) (tyV ca t) = true
  i : ∀ c', nf (.i c') = true → InsC K (ca c')
  e : ∀ c', nf (.e c') = false
def nfC (nf : TyN → Bool) (ρ : En) (y : C1) : Bool := match tyC ρ y with
  | some t => nf t
  | none => false
def eqX (c : Str) (nf : TyN → Bool) (F : FD) (o : O2) (r s : RV) (ρ : En) : Option C1 → Option C1 → Ot RV
  | some x, some y => if (insB c "" ρ x && nfC nf ρ y) = true then (callF F [x, y] ρ).nox else ap2 o ρ (rdF r ρ) (rdF s ρ)
  | _, _ => ap2 o ρ (rdF r ρ) (rdF s ρ)
def fEqX (c : Str) (nf : TyN → Bool) (F : FD) (o : O2) (fa fb : FE) : FE := fun ρ => (fa ρ).bind fun r ρ1 => (fb ρ1).bind fun s ρ2 => eqX c nf F o r s ρ2 (refO' r) (refO' s)
theorem q_eqX {c : Str} {Ca : Addr} {nf : TyN → Bool} {F : FD} {r2 : R2} {f : F2} {o : O2} {ta tb : TE} {fa fb : FE} (hz : T.cs.length ≤ 63) (hc : T.ca c = Ca) (ok : EqOk T.K T.ca c nf) (h : Op2 T r2 f) (cf : C2f f o) (ha : Pe T C ta (we X fa)) (hb : Pe T C tb (we X fb)) :
    Pe T C (tOp (fun x y H Q => r2 x y H Q ∨ rEqX T.K Ca (SpA T.K T.ca T.tb (RF F)) x y H Q) ta tb) (we X (fEqX c nf F o fa fb)) := fun W σ H ρ Q K e q k =>
  ha W σ H ρ _ _ e (wo_bind q) fun v1 H1 W1 r1 ρ1 P1 R1 q1 => hb W1 σ H1 ρ1 _ _ P1.ok (wo_bind q1) fun v2 H2 W2 r2' ρ2 P2 R2 q2 => by
    have P := P1.trans P2
    have R1' := R1.post P1.ok P2
    have alt : wo X Q (ap2 o ρ2 (rdF r1 ρ2) (rdF r2' ρ2)) → r2 v1 v2 H2 K := fun q => by
      cases e1 : rdF r1 ρ2 with
      | none => rw [e1] at q; exact q.elim
      | some x =>
        cases e2 : rdF r2' ρ2 with
        | none => rw [e1, e2] at q; exact q.elim
        | some y =>
          rw [e1, e2] at q
          obtain ⟨z, ez, q⟩ := wo_opt q
          refine h H2 W2.A v1 v2 x y (fun q => Q q ρ2) K P.ok.dom (sh_of P.ok R1' e1) (sh_of P.ok R2 e2) (cf _ _ _ _ ez q) fun z H' hv => ?_
          obtain ⟨W', r', ρ', P', R', q'⟩ := fin_v (Q := Q) P hv
          exact k _ _ _ _ _ P' R' q'
    cases ex : refO' r1 with
    | none => rw [ex] at q2; exact .inl (alt q2)
    | some x =>
      cases ey : refO' r2' with
      | none => rw [ex, ey] at q2; exact .inl (alt q2)
      | some y =>
        rw [ex, ey] at q2
        have q2 : wo X Q (if (insB c "" ρ2 x && nfC nf ρ2 y) = true then (callF F [x, y] ρ2).nox else ap2 o ρ2 (rdF r1 ρ2) (rdF r2' ρ2)) := q2
        split at q2
        · rename_i z
          obtain ⟨z1, z2⟩ := Bool.and_eq_true_iff.mp z
          have Fx := ref_fat' R1' ex
          have Fy := ref_fat' R2 ey
          unfold nfC at z2
          obtain ⟨a, dx, fs, rfl, h1, h2⟩ := ins_of P.ok Fx z1
          rw [hc] at h1
          cases ht : tyC ρ2 y with
          | none => rw [ht] at z2; cases z2
          | some t =>
            rw [ht] at z2
            have z2 : nf t = true := z2
            have ty := ty_cell P.ok Fy ht (fun c' et => ok.i c' (et ▸ z2)) (fun c' et => by rw [et, ok.e c'] at z2; cases z2)
            refine .inr ⟨a, dx, fs, _, rfl, h1, ty, hc ▸ ok.k t z2, ?_⟩
            exact sp_of (X := noX) (Wx := fun _ _ _ _ => False) hz (fun _ _ _ _ _ _ _ _ _ z => z.elim) P.ok (.cons Fx (.cons Fy .nil)) (wo_nox q2) fun v H' W' r ρ' P4 R q4 => k _ _ _ _ _ (P.trans P4) (R.back P) q4
        · exact .inl (alt q2)
end
end Sd

set_option maxHeartbeats 1000000
/-! P12: fields of exceptions; lists of the store as functions; a law. -/
namespace Sd
open PySem PySem.Spec PyProof.Rows L2 LamX
section
variable {T : Tab} {C : C0} {X : Xw} {W W1 W2 : Wd} {A : List Addr} {σ : L2.St} {H H1 H2 : Hp} {ρ ρ1 ρ2 : En} {v : V}
def oFx (cs : List Str) (n : Str) : O1
  | .exc c ns vs => if cs.contains c = true then (match (ns.zip vs).lookup n with
    | some d => some (.d d)
    | none => none) else none
  | _ => none
theorem c_fx {cs : List Str} {n : Str} : C1f (fFx cs n) (oFx cs n) := fun u q k e h => by
  cases u with
  | exc c ns vs =>
    have e : (if cs.contains c = true then (match (ns.zip vs).lookup n with
      | some d => some (RV.d d)
      | none => none) else none) = some q := e
    split at e
    · rename_i z
      refine ⟨z, ?_⟩
      cases y : (ns.zip vs).lookup n with
      | none => rw [y] at e; cases e
      | some d => rw [y] at e; cases e; exact h
    · cases e
  | _ => cases e
/-! ### lists of the store -/
def lsM' : Option M → Option (List D)
  | some (.l xs) => some xs
  | _ => none
def lsO' (ρ : En) : Option (Option C1) → Option (Nat × List D)
  | some (some (.r l)) => (lsM' ρ.μ[l]?).map fun xs => (l, xs)
  | _ => none
/-- the slot's list: where, what -/
def lsF (i : Nat) (ρ : En) : Option (Nat × List D) := lsO' ρ ρ.s[i]?
theorem lsF_of {i : Nat} {p : Nat × List D} {k : Nat → List D → Prop} (h : lsF i ρ = some p) (q : k p.1 p.2) : lsK i ρ k := by
  have h : lsO' ρ ρ.s[i]? = some p := h
  show lsO ρ k ρ.s[i]?
  unfold lsO' at h
  split at h
  · rename_i l z
    cases y : lsM' ρ.μ[l]? with
    | none => rw [y] at h; cases h
    | some xs =>
      rw [y] at h
      cases h
      unfold lsM' at y
      split at y
      · rename_i xs' w
        cases y
        rw [z]
        show lsM l k ρ.μ[l]?
        rw [w]
        exact q
      · cases y
  · cases h
def appK (ρ : En) (x : D) : Option (Nat × List D) → Ot RV
  | some p => if szB (p.2.length + 1) = true then .ok (.d .non) (ρ.put p.1 (.l (p.2 ++ [x]))) else .no
  | none => .no
def fApp (i : Nat) (fa : FE) : FE := fun ρ => (opt (lsF i ρ) ρ).bind fun _ _ => (fa ρ).bind fun r ρ1 => (opt (escF r ρ1) ρ1).bind fun p _ => appK p.2 p.1 (lsF i p.2)
theorem q_app {i : Nat} {te : TE} {fa : FE} (h : Pe T C te (we X fa)) : Pe T C (tBM T.K "list" rAppend (tVar i) (tCons te tNil)) (we X (fApp i fa)) := (pe_app h).wk fun ρ Q q => by
  obtain ⟨p0, e0, q⟩ := wo_opt (wo_bind q)
  refine lsF_of e0 (wo_mono (fun r ρ1 q => ?_) (wo_bind q))
  obtain ⟨p, ep, q⟩ := wo_opt (wo_bind q)
  refine esc_of (x := p.1) (ρ1 := p.2) ep ?_
  cases z : lsF i p.2 with
  | none => rw [z] at q; exact q.elim
  | some y =>
    rw [z] at q
    obtain ⟨w, q⟩ := wo_if q
    exact lsF_of z ⟨w, q⟩
/-! x[j] = e -/
def intD : Option D → Option Int
  | some (.int i) => some i
  | _ => none
def setK (ρ : En) (x : D) (j : Option Int) : Option (Nat × List D) → Fl
  | some p => (match j.bind (ixN p.2.length) with
    | some n => .nx (ρ.put p.1 (.l (p.2.set n x)))
    | none => .no)
  | none => .no
/-- the container is at hand before and behind the index's evaluation -/
def sSetL (i : Nat) (fj fa : FE) : FS := fun ρ => (fa ρ).to fun r ρ1 => (opt (escF r ρ1) ρ1).to fun p _ => (opt (lsF i p.2) p.2).to fun _ _ => (fj p.2).to fun s ρ3 => setK ρ3 p.1 (intD (rdF s ρ3)) (lsF i ρ3)
theorem qs_setL {i : Nat} {te tj : TE} {fa fj : FE} (h : Pe T C te (we X fa)) (hj : Pe T C tj (we X fj)) : Ps T C (tAsg te (gSub (tVar i) tj rSetL)) (ws X (sSetL i fj fa)) := fun W σ H ρ B E F e x l q =>
  h W σ H ρ _ _ e (wl_to q) fun v1 H1 W1 r1 ρ1 P R q1 => by
    obtain ⟨p, ep, q2⟩ := wo_opt (wl_to q1)
    obtain ⟨W2, y, ρ2, P2, S2, ey⟩ := esc_ok (k := fun y ρ2 => y = p.1 ∧ ρ2 = p.2) e P R (esc_of (x := p.1) (ρ1 := p.2) ep ⟨rfl, rfl⟩)
    obtain ⟨ey1, ey2⟩ := ey
    subst ey1 ey2
    obtain ⟨p0, e0, q3⟩ := wo_opt (wl_to q2)
    obtain ⟨l0, xs0, a, vs0, _, hs, _⟩ := lsK_ok P2.ok (k := fun _ _ => True) (lsF_of e0 trivial)
    refine ⟨_, hs, hj W2 σ H1 p.2 _ _ P2.ok (wl_to q3) fun v2 H2 W3 r2 ρ3 P3 R3 q4 => ?_⟩
    have P := P2.trans P3
    cases z : lsF i ρ3 with
    | none => rw [z] at q4; exact q4.elim
    | some p3 =>
      rw [z] at q4
      have q4 : wl X E (match (intD (rdF r2 ρ3)).bind (ixN p3.2.length) with
        | some n => .nx (ρ3.put p3.1 (.l (p3.2.set n p.1)))
        | none => .no) := q4
      cases y2 : rdF r2 ρ3 with
      | none => rw [y2] at q4; exact q4.elim
      | some d =>
        rw [y2] at q4
        cases d with
        | int j =>
          have q4 : wl X E (match ixN p3.2.length j with
            | some n => .nx (ρ3.put p3.1 (.l (p3.2.set n p.1)))
            | none => .no) := q4
          have ej := (sh_of P.ok R3 y2).int
          cases w : ixN p3.2.length j with
          | none => rw [w] at q4; exact q4.elim
          | some n =>
            rw [w] at q4
            obtain ⟨l1, xs, a', vs, ⟨k1, k2⟩, hs', hl, hm, hv, hx⟩ := lsK_ok P.ok (k := fun l xs => l = p3.1 ∧ xs = p3.2) (lsF_of z ⟨rfl, rfl⟩)
            subst k1 k2
            rw [hs] at hs'
            cases hs'
            have S3 := S2.mono (P3.ex P2.ok)
            have P4 := P.ok.ls_upd hl hm (hx.set S3 n)
            refine ⟨a, vs, j, n, rfl, ej, hv, by rw [hx.length]; exact w, ?_⟩
            exact l.nx _ _ _ _ P4.ok (x.trans ((P.trans P4).ex e)) q4
        | _ => exact q4.elim
end
/-! ### a law -/
/-- what draws, at first -/
def hand0 (ms : List Int) : M := .l [.lst (ms.map D.int), .int 0, .int 0]
/-- hand = begin(script); .. -/
theorem law_runP {K : PySem.W.Frag} {ca : Str → Addr} {tb : List (Addr × Str)} {ts : TS} {N : List Str} {i : Nat} {f : List Int → FS} (hi : i < N.length) (hN : 1 ≤ N.length) (h : ∀ (ms : List Int), ms.length ≤ 63 → ∀ C, Ps0 ⟨K, ca, ms, tb, 0⟩ C ts (ws noX (f ms)))
    (hw : ∀ ms : List Int, ms.length ≤ 63 → ws noX (f ms) { nx := fun _ => False, rt := fun r _ => r = .d (.bl true) } ⟨lawSt N.length i, [hand0 ms], 0⟩)
    {vs : List V} {H : Hp} {Q : VK} {E : XK} (hs : spTrue K tb vs H Q E) : tSeq (tAsg (tCall (spPen K) [] E0 (tCons (tVar 0) tNil)) (gName i)) ts { nx := fun _ H' => Q .non H', rt := Q } (start N vs) H := by
  obtain ⟨a, ns, rfl, hS, hT, q⟩ := hs
  have s0 : (start N [V.ref a])[0]? = some (some (V.ref a)) := rfl
  have lsz : (start N [V.ref a]).length = N.length := by
    unfold L2.start
    rw [List.length_append, List.length_map, List.length_replicate]; show 1 + (N.length - 1) = N.length
    omega
  refine ⟨_, s0, a, ns, rfl, hS, fun p c H' ms hz pc xH hp h1 h2 => ?_⟩
  let T : Tab := ⟨K, ca, ms, tb, 0⟩
  have hT' : Tabs tb H' := hT.ext xH
  have tne : ∀ q, q ∈ tb → q.1 ≠ p := fun q hq z => by
    obtain ⟨ps, g, _⟩ := hT q hq
    rw [z, hp] at g
    cases g
  have tnc : ∀ q, q ∈ tb → q.1 ≠ c := fun q hq z => by
    obtain ⟨ps, g, _⟩ := hT' q hq
    rw [z, h1] at g
    cases g
  let A : List Addr := p :: tb.map (·.1)
  have dA : ∀ b, b ∈ A → H' b ≠ none := fun b hb => by
    rcases (List.mem_cons.mp hb) with z | z
    · rw [z, h2]
      exact fun y => nomatch y
    · obtain ⟨q, hq, rfl⟩ := List.mem_map.mp z
      obtain ⟨ps, g, _⟩ := hT' q hq
      rw [g]
      exact fun y => nomatch y
  have cA : c ∉ A := fun z => by
    rcases (List.mem_cons.mp z) with z | z
    · exact pc z.symm
    · obtain ⟨q, hq, z⟩ := List.mem_map.mp z
      exact tnc q hq z
  have nTp : ¬ T.isT p := fun ⟨q, hq, z⟩ => tne q hq z
  have key : ∀ (j : Nat) (x : C1), (lawSt N.length i)[j]? = some (some x) → j = i ∧ x = .r 0 := fun j x hx => by
    unfold lawSt at hx
    by_cases z : i = j
    · subst z
      rw [List.getElem?_set_self (by rw [List.length_replicate]; exact hi)] at hx
      cases hx
      exact ⟨rfl, rfl⟩
    · rw [List.getElem?_set_ne z, List.getElem?_replicate] at hx
      split at hx <;> cases hx
  have one : ∀ {l : Nat} {b : Addr}, ([p] : List Addr)[l]? = some b → l = 0 ∧ b = p := fun {l b} z => by
    cases l with
    | zero =>
      cases z
      exact ⟨rfl, rfl⟩
    | succ l => cases z
  -- at the entry of what follows: the heap without the pen
  let H0 : Hp := fun b => if b = p then none else H' b
  have n0 : ∀ {b o}, H0 b = some o → b ≠ p ∧ H' b = some o := fun {b o} z => by
    by_cases y : b = p
    · rw [show H0 b = none from if_pos y] at z
      cases z
    · rw [show H0 b = H' b from if_neg y] at z
      exact ⟨y, z⟩
  let C : C0 := ⟨H0, tb.map (·.1), [], C8.E0, fun _ _ => False⟩
  have e : EnvOk T C ⟨A, [p]⟩ ((L2.start N [V.ref a]).set i (some (.ref p))) H' ⟨lawSt N.length i, [hand0 ms], 0⟩ := by
    refine ⟨fun b o z _ _ => (n0 z).2, fun b z => List.mem_cons_of_mem _ z, fun b hb => ?_, dA, ?_, fun j x hx => ?_, rfl, fun l b z => ?_, fun l b m z1 z2 => ?_, fun l b m z1 z2 z3 => ?_, fun l l' b z1 z2 => (one z1).1.trans (one z2).1.symm, rfl, fun l b z => (nomatch z), fun l m z => absurd z (Nat.not_lt_zero l), fun q hq => ⟨List.mem_cons_of_mem _ (List.mem_map.mpr ⟨q, hq, rfl⟩), hT' q hq⟩, fun b hb => ?_⟩
    · obtain ⟨q, hq, rfl⟩ := List.mem_map.mp hb; rw [show C.H0 q.1 = H' q.1 from if_neg (tne q hq)]
      exact dA _ (List.mem_cons_of_mem _ hb)
    · show ((L2.start N [V.ref a]).set i (some (.ref p))).length = (lawSt N.length i).length
      unfold lawSt
      rw [List.length_set, List.length_set, List.length_replicate, lsz]
    · obtain ⟨rfl, rfl⟩ := key j x hx
      exact ⟨.ref p, List.getElem?_set_self (by rw [lsz]; exact hi), .r rfl⟩
    · obtain ⟨_, rfl⟩ := one z
      rw [h2]
      exact fun y => nomatch y
    · obtain ⟨rfl, rfl⟩ := one z1
      cases z2
      exact ⟨_, h2, .cons (.lst (by rw [hide_ne cA]; exact h1) (ints_at ms)) (.cons (.int 0) (.cons (.int 0) .nil))⟩
    · obtain ⟨rfl, rfl⟩ := one z1
      exact ⟨List.mem_cons_self, nTp, fun _ => if_pos rfl⟩
    · rcases List.mem_cons.mp hb with z | z
      · exact .inr (if_pos z)
      · exact .inl z
  refine h ms hz C ⟨A, [p]⟩ _ H' ⟨lawSt N.length i, [hand0 ms], 0⟩ { nx := fun _ => False, rt := fun r _ => r = .d (.bl true) } _ e ⟨fun _ _ _ _ _ _ z => z.elim, fun _ _ _ _ _ _ z => False.elim z, fun _ _ _ _ _ _ z => False.elim z, fun W σ H2 ρ v r e2 _ R cl k' => ?_⟩ (hw ms hz)
  have k' : r = .d (.bl true) := k'
  subst k'
  cases R with
  | d g =>
    cases g
    exact q _
end Sd

set_option maxHeartbeats 1000000
/-! P13: names of the module; how calls bind; a def whose code's object is told. -/
namespace L2
open PySem PySem.Spec PyProof.Rows
section
variable {X : Cx} {x : Str} {pos : Pos}
theorem pe_gI {i : Int} (h : ∃ t, X.mg x = some (.int i t)) (hg : Gl X x) (hd : (x == ("__debug__" : Str)) = false := by decide) : PE X (.Name x pos) (tC (.int i)) := by
  obtain ⟨t, h⟩ := h
  exact pe_glob (v := .int i) hg h ⟨t, rfl⟩ hd
theorem pe_gS {z : Str} (h : ∃ t, X.mg x = some (.str z t)) (hg : Gl X x) (hd : (x == ("__debug__" : Str)) = false := by decide) : PE X (.Name x pos) (tC (.str z)) := by
  obtain ⟨t, h⟩ := h
  exact pe_glob (v := .str z) hg h ⟨t, rfl⟩ hd
/-- the class, the def that a name of the module stands for -/
theorem pe_gR {a : Addr} (h : X.mg x = some (.ref a)) (hg : Gl X x) (hd : (x == ("__debug__" : Str)) = false := by decide) : PE X (.Name x pos) (tC (.ref a)) := pe_glob (v := .ref a) hg h rfl hd
end
section
variable {P : Program} {w : World} {K : PySem.W.Frag} {mg : Str → Option Value} {base : Heap} {CX : CXT} {k : Nat} {f : Addr} {fd : FuncData} {ps : List Str} {sp : Sp}
/-- every parameter is written, by place or by name -/
theorem kb_all {x qual : Str} {params : Arguments} {body : List Stmt} {scope : Scope} {kws : List (Str × V)} {n : Nat} {ks : List Str} {src : List Src} (F : FunD K x qual params body scope [] kws f fd)
    (h : ∀ (kV doc pm : Value) (an : Option Addr) (cdv ct : Value) (us ws : List Value), us.length = n → ws.length = ks.length → bindArgs (PySem.W.fnOf x qual params body scope .none kV doc pm an cdv ct) ⟨us, ks.zip ws⟩ = pure (ps.zip (sel us [] ws src))) : KB K fd ps n ks src [] := by
  obtain ⟨oc, od, dV, kV, doc, pm, an, cdv, ct, osl, rfl, lk, hcd, hD, hK⟩ := F.ex; rcases hD with ⟨_, rfl⟩ | ⟨e, _⟩
  · exact ⟨[], .nil, fun s us ws X l1 l2 => .of_eq (h kV doc pm an cdv ct us ws l1 l2)⟩
  · exact absurd rfl e
/-- as okG, where the body's code is the object c -/
theorem FunD.okC {x qual : Str} {params : Arguments} {body : List Stmt} {scope : Scope} {dvs : List V} {kws : List (Str × V)} {N : List Str} {c : Addr} (F : FunD K x qual params body scope dvs kws f fd) (hcode : fd.code = .ref c) (S : FnScope N ps scope) (hlen : ∀ vs H Q E, sp vs H Q E → vs.length = ps.length)
    (go : ∀ (A : Around) (outer : List Env) (s : Shared) (H : Hp) (vs : List V) (Q : VK) (E : XK), Room k (A.deeper (envOfC qual scope s.heap.objs.size f (.ref c))) → NoG (A.deeper (envOfC qual scope s.heap.objs.size f (.ref c))) → sp vs H Q E →
      ∃ t, PSs (cxOf CX P w K mg base N qual scope f (.ref c) A outer s H E) body t ∧ t { nx := fun _ H' => Q .non H', rt := Q } (start N vs) H) : FnG P w K mg base CX (k + 1) f fd ps sp := by
  refine ⟨hlen, fun A outer s H args us vs Q E hr hg e0 hb r hsp => ?_⟩
  obtain ⟨oc, od, dV, kV, doc, pm, an, cdv, ct, osl, rfl, lk, hcd, hd, hk⟩ := F.ex
  have hcode : cdv = .ref c := hcode
  subst hcode
  have hl := hlen _ _ _ _ hsp
  have inS : K.In s.heap := e0.mod.kin.keeps fun b o z => (e0.bs b o z).1
  have hb' := hb
  have cells : ∀ y ∈ ps.zip us, scope.names.lookup y.1 = some .local ∨ (scope.names.lookup y.1 = some .cell ∧ ((cellsFrom (s.heap.objs.size + 1) scope.names []).lookup y.1).isSome = true) := fun y hy =>
    (S.par y.1 (List.of_mem_zip (show (y.1, y.2) ∈ ps.zip us from hy)).1).imp_right fun q => ⟨q, PySem.W.cellsFrom_some _ _ _ (.inl q)⟩
  refine codeAny_call_function hr.depth (inS _ _ lk) rfl S.co S.gen rfl (PySem.W.codeRec_of inS hcd) (hb' _ _ _ _ (wpAny_newFunctionEnv_cells S.kind cells fun env he s1 y => ?_))
  subst he
  obtain ⟨t, ht, hq⟩ := go A outer s H vs Q E (hr.deeper _) (show A.guards = some [] from hg) hsp
  have J0 := inv_start (CX := CX) (E := E) S hr.hd e0 hl r y
  refine ⟨(e0.mod.nolimit.keeps fun b o e => (e0.bs b o e).1).keeps y.toInCall.keep, codeAny_func (wpAny_mono (ht.run [] s1 (start N vs) H _ J0 hq) (fun fl s' hs => ?_) fun _ _ z => z)⟩
  have res : ∀ {σ' : St} {H' : Hp} {v : V} {u : Value}, Inv (cxOf CX P w K mg base N qual scope f (.ref c) A outer s H E) [] σ' H' s' → RelV v u → Q v H' → CE outer P w H s Q u s' :=
    fun J rv q => ⟨_, _, J.os, J.bare, J.base, J.hok, rv, q⟩
  match fl, hs with
  | .next, ⟨_, _, J, q⟩ => exact res (v := .non) (u := .none) J rfl q
  | .ret _, ⟨_, _, _, J, rv, q⟩ => exact res J rv q
  | .cont, ⟨_, _, _, q⟩ => exact q.elim
  | .brk, ⟨_, _, _, q⟩ => exact q.elim
end
end L2
namespace Sd
open PySem PySem.Spec PyProof.Rows L2 LamX
section
variable {T : Tab} {C : C0} {X : Xw}
def fD0 : FE := fun ρ => .ok (.n (.m [] [])) ρ
theorem q_d0 : Pe T C tDNewK (we X fD0) := pe_d0
/-- tables of isinstance: f tells of each kind of value, of the own classes is, of the exceptions es -/
def tblOf (f : TyN → Bool) (is es : List Str) : TyN → Option Bool
  | .i c => if is.contains c = true then some (f (.i c)) else none
  | .e c => if es.contains c = true then some (f (.e c)) else none
  | t => some (f t)
end
end Sd

set_option maxHeartbeats 1000000
/-! P14: rules told at K. -/
namespace L2
open PySem PySem.Spec PyProof.Rows
section
variable {X : Cx} {K : PySem.W.Frag}
theorem fld_K {o : Expr} {t : TE} {n : Str} {pos : Pos} (hK : X.K = K) (h : PE X o t) (hb : attributeBase o n X.env (eval o X.env) = eval o X.env := by rfl) : PE X (.Attribute o n pos) (tFld K t n) := hK ▸ pe_fld h hb
theorem con_K {o : Expr} {t : TE} {n : Str} {pos : Pos} (hK : X.K = K) (h : PE X o t) (hb : attributeBase o n X.env (eval o X.env) = eval o X.env := by rfl) : PE X (.Attribute o n pos) (tCon K t n) := hK ▸ pe_con h hb
theorem cval_K {o : Expr} {t : TE} {n : Str} {pos : Pos} (hK : X.K = K) (h : PE X o t) (hb : attributeBase o n X.env (eval o X.env) = eval o X.env := by rfl) : PE X (.Attribute o n pos) (ClX.tCVal K t n) := hK ▸ ClX.pe_cval h hb
theorem setF_K {o e : Expr} {t te : TE} {n : Str} {p pos : Pos} (hK : X.K = K) (h : PE X o t) (he : PE X e te) (hs : swapsWith e (some (.Attribute o n p)) pos.line X.env = pure false := by rfl) : PS X (.Assign [.Attribute o n p] e pos) (sFld K t te n) := hK ▸ ps_fld h he hs
theorem bm_K {T id : String} {r : V → List V → Hp → VK → Prop} {o e : Expr} {es : List Expr} {to : TE} {t : TA} {name : Str} {apos cpos : Pos} (hK : X.K = K) (pa : PlainAttrs T) (slot : Slot T name id) (hty : typeOf (.builtin id) = pure (.type "method_descriptor")) (hm : MtR X id r) (ho : PE X o to) (ha : PA X (e :: es) t) (hbase : attributeBase o name X.env (eval o X.env) = eval o X.env := by rfl)
    (hfew : ((backTo cpos (starEach (e :: es) X.env)).all (fun x => !x.1) && (backToKw cpos (keywordEach [] X.env)).all (fun x => x.1.isSome) && decide ((e :: es).length + ([] : List Keyword).length + (if ([] : List Keyword).isEmpty then 0 else 1) < 30)) = true := by rfl)
    (hline : (apos.endLine == cpos.line) = true := by rfl) (hs : starEach (e :: es) X.env = (false, eval e X.env) :: starEach es X.env := by rfl) (hplain : (backTo cpos (starEach es X.env)).any (·.1) = false := by rfl) : PE X (.Call (.Attribute o name apos) (e :: es) [] cpos) (tBM K T r to t) :=
  hK ▸ pe_bm pa slot hty hm ho ha hbase hfew hline hs hplain
theorem tupG_K {es : List Expr} {k : Nat} {t : TGs} {n : Nat} {pos : Pos} (hK : X.K = K) (hc : X.calm = true) (h : PGs X es t) (hn : (assignEach es X.env).length = n := by rfl) (hst : (assignEach es X.env).findIdx? (·.1) = none := by rfl) : PG X (.Tuple es k pos) (gTup K n t) := hK ▸ pg_tup hc h hn hst
theorem eqX_K {C f : Addr} {k : Nat} {sp : Sp} (hK : X.K = K) (O : Own K C "__eq__" f) (F : FnX X.prog X.w X.K X.mg X.base k f 2 [] [.a 0, .a 1] [] sp) (hr : Room k X.A) (hG : NoG X.A) : OpR X (compareOp .Eq) (rEqX K C sp) := by
  subst hK
  exact op_eqX O F hr hG
end
end L2
namespace Sd
open PySem PySem.Spec PyProof.Rows L2 LamX
section
variable {T : Tab} {C : C0} {X : Xw}
theorem opl_of {r : List V → Hp → VK → Prop} {f : FL} {o : OL} (h : OpL T r f) (c : CLf f o) : OpL T r (fOL o) := fun H A vs us Q K d hs ⟨q, e, z⟩ k => h H A vs us Q K d hs (c us q Q e z) k
theorem q_own1R {c : Str} {Ca : Addr} {F : FD} {te : TE} {fa : FE} (hz : T.cs.length ≤ 63) (hc : T.ca c = Ca) (ha : Pe T C te (we X fa)) :
    Pe T C (tCB (fun xs H Q => rReprA T.K T.ca xs H Q ∨ ∃ x, xs = [x] ∧ rTx Ca (SpA T.K T.ca T.tb (RF F)) x H Q) (tCons te tNil)) (we X (fOwn1 c F oRepr fa)) := q_own1 hz hc (opl_of o_reprA c_repr) ha
end
end Sd
namespace Sd
open PySem PySem.Spec PyProof.Rows L2 LamX
/-- a def's body: the layer's term for whatever exception end, then the term over functions -/
theorem bodyP {Y : XK → Cx} {st : List Stmt} {K : PySem.W.Frag} {ca : Str → Addr} {tb : List (Addr × Str)} {ts : XK → TS} {N : List Str} {m : Nat} {b : FS} {vs : List V} {H : Hp} {Q : VK} {E : XK} (hP : ∀ E', PSs (Y E') st (ts E'))
    (h : ∀ (ms : List Int) (f0 : Addr), ms.length ≤ 63 → ∀ C E X, LinkW ⟨K, ca, ms, tb, f0⟩ C (fun cls d _ H => E cls d H) X → Ps0 ⟨K, ca, ms, tb, f0⟩ C (ts E) (ws X b)) (hs : SpA K ca tb (RF (runD N.length m b)) vs H Q E) :
    ∃ t, PSs (Y E) st t ∧ t { nx := fun _ H' => Q .non H', rt := Q } (start N vs) H := ⟨ts E, hP E, bodyD h hs⟩
theorem bodyC {Y : XK → Cx} {st : List Stmt} {K : PySem.W.Frag} {ca : Str → Addr} {tb : List (Addr × Str)} {c : Str} {ts : XK → TS} {N : List Str} {m : Nat} {b : FS} {vs : List V} {H : Hp} {Q : VK} {E : XK} (hP : ∀ E', PSs (Y E') st (ts E'))
    (h : ∀ ms : List Int, ms.length ≤ 63 → ∀ C E X, LinkW ⟨K, ca, ms, tb, ca c⟩ C (fun cls d _ H => E cls d H) X → Ps ⟨K, ca, ms, tb, ca c⟩ C (ts E) (ws X b)) (hs : SpK K ca tb c (runD N.length m b) vs H Q E) :
    ∃ t, PSs (Y E) st t ∧ t { nx := fun _ H' => Q .non H', rt := Q } (start N vs) H :=
  ⟨ts E, hP E, bodyM (w := fun _ X => ws (xD X) b) (fun ms hz C E X lk => h ms hz C E (xD X) (linkW_of lk)) (fun _ _ _ _ _ _ z => run_of z) hs⟩
end Sd
namespace Sd
open PySem PySem.Spec PyProof.Rows L2 LamX
/-- where no exception leaves -/
theorem linkN {T : Tab} {C : C0} {Wx : WX} : LinkW T C Wx noX := fun _ _ _ _ _ _ _ _ _ z => z.elim
end Sd

set_option maxHeartbeats 1000000
/-! H0: the end of a law whose defs make lambdas; what a head tells, for any law. -/
namespace L2
open PySem PySem.Spec PyProof.Rows LamX
/-- the law's promise at the heap behind the top; cs: code objects and their tables -/
theorem law_callGT {P : Program} {w : World} {K : PySem.W.Frag} {mg mb : Str → Option Value} {CX : CXT} {k : Nat} {fa a : Addr} {cs : List (Addr × Addr)} {fd : FuncData} {x : Str} {sp : Sp} {s1 : Shared} {vs : List Value} {ns : List Int}
    (KX : K.In s1.heap) (hns : s1.heap.Ns mainGlobals mg) (hb : s1.heap.Ns builtinsNs mb) (hbb : ∀ x : Str, x ≠ "__name__" → mb x = bootBuiltins x) (hlim : s1.heap.NoLimit) (hg : s1.gens = #[])
    (tab : ∀ p ∈ cs, s1.heap.get? p.2 = some { cls := .none, data := .fields #[] } ∧ K.lookup p.2 = none ∧ PySem.W.CodeHd s1.heap p.1 p.2)
    (bmn : ∃ (m : Addr) (o : Obj), mg "__builtins__" = some (.ref m) ∧ m ≠ builtinsNs ∧ s1.heap.get? m = some o ∧ o.cls = .type "module" ∧ o.dict = some builtinsNs ∧ o.data = .plain)
    (ha : s1.heap.get? a = some { cls := .type "list", data := .seq vs.toArray }) (hi : IntsAre vs ns) (hl : ns.length ≤ sizeLine) (hr : Room k callerA)
    (F : ∀ base : Heap, K.In base → base.Ns mainGlobals mg → (∀ p ∈ cs, TabB base mg p.1 p.2) → FnG P w K mg base CX k fa fd [x] sp) (hbind : ∀ (s : Shared) (u : Value), BindsTo s fd ⟨[u], []⟩ [(x, u)])
    (hsp : ∀ H : Hp, (∀ p ∈ cs, H p.2 = some (.tbl #[])) → SqL K H a (ns.map V.int) → sp [.ref a] H (fun v _ => v = .bl true) fun _ _ _ => False) (hCX : ∀ H e s', CX [] H s1 (fun _ _ _ => False) e s' → False) :
    codeAny (model P w) callerA (.call (.ref fa) ⟨[.ref a], []⟩) (fun r s' => r = .ok (.ret (.bool true)) ∧ OldK s1.heap s'.heap ∧ s'.os = s1.os ∧ AllBare s'.gens) s1 := by
  have rv := vals_ints hi
  obtain ⟨ob, eob⟩ : ∃ ob : Obj, ob = { cls := .type "list", data := .seq vs.toArray } := ⟨_, rfl⟩
  rw [← eob] at ha
  have neT : ∀ p ∈ cs, p.2 ≠ a := fun p hp z => by
    have q := (tab p hp).1
    rw [z, ha, eob] at q
    cases Option.some.inj q
  have inT : ∀ p ∈ cs, p.2 ∈ cs.map (·.2) := fun p hp => List.mem_map.mpr ⟨p, hp, rfl⟩
  -- tracked: the script, unless the written part has it; the tables
  obtain ⟨H, hT, hH, hS⟩ : ∃ H : Hp, (∀ p ∈ cs, H p.2 = some (.tbl #[])) ∧ (∀ b u, H b = some u → (b = a ∧ K.lookup a = none ∧ u = .frz ob (.lst (ns.map V.int))) ∨ (∃ p ∈ cs, b = p.2 ∧ u = .tbl #[])) ∧ SqL K H a (ns.map V.int) := by
    rcases (show K.lookup a = none ∨ ∃ o, K.lookup a = some o by cases K.lookup a <;> simp) with q | ⟨o, q⟩
    · refine ⟨fun b => if b = a then some (.frz ob (.lst (ns.map V.int))) else if b ∈ cs.map (·.2) then some (.tbl #[]) else none, fun p hp => (if_neg (neT p hp)).trans (if_pos (inT p hp)), fun b u z => ?_, .inl (.inr ⟨ob, if_pos rfl⟩)⟩
      by_cases hb : b = a
      · exact .inl ⟨hb, q, (Option.some.inj ((if_pos hb).symm.trans z)).symm⟩
      · have z := (if_neg hb).symm.trans z; by_cases hb2 : b ∈ cs.map (·.2)
        · obtain ⟨p, hp, e⟩ := List.mem_map.mp hb2
          exact .inr ⟨p, hp, e.symm, (Option.some.inj ((if_pos hb2).symm.trans z)).symm⟩
        · cases (if_neg hb2).symm.trans z
    · have z := KX a o q
      rw [ha] at z
      cases z
      subst eob
      refine ⟨fun b => if b ∈ cs.map (·.2) then some (.tbl #[]) else none, fun p hp => if_pos (inT p hp), fun b u z => ?_, .inr ⟨_, vs.toArray, _, q, rfl, rfl, rfl, by rw [List.size_toArray, hi.length]; exact hl, by simpa using rv⟩⟩; by_cases hb2 : b ∈ cs.map (·.2)
      · obtain ⟨p, hp, e⟩ := List.mem_map.mp hb2
        exact .inr ⟨p, hp, e.symm, (Option.some.inj ((if_pos hb2).symm.trans z)).symm⟩
      · cases (if_neg hb2).symm.trans z
  have hok : HOk P w H s1.heap := fun b u z => by
    rcases hH b u z with ⟨rfl, _, rfl⟩ | ⟨p, hp, rfl, rfl⟩
    · have h2 := ha
      rw [eob] at h2
      exact ⟨ha, (by rw [List.length_map]; exact hl : (ns.map V.int).length ≤ sizeLine), vs, _, rv, h2⟩
    · exact (tab p hp).1
  have old : ∀ {b : Addr} {o : Obj}, s1.heap.get? b = some o → o.data ≠ .seq vs.toArray _ → o.data ≠ .fields #[] → (hidT s1.heap H).get? b = some o := fun {b o} e d d2 => hidT_get e (by
    cases q : H b with
    | none => rfl
    | some u =>
      rcases hH b u q with ⟨rfl, _, _⟩ | ⟨p, hp, rfl, _⟩
      · rw [ha] at e
        cases e
        exact absurd (by rw [eob]) d
      · rw [(tab p hp).1] at e
        cases e
        exact absurd rfl d2)
  have nsK : ∀ {b : Addr} {m : Str → Option Value}, s1.heap.Ns b m → (hidT s1.heap H).Ns b m := fun ⟨o, es, ep, e, d, z⟩ => ⟨o, es, ep, old e (by rw [d]; exact fun q => nomatch q) (by rw [d]; exact fun q => nomatch q), d, z⟩
  have hKb : K.In (hidT s1.heap H) := fun b o e => hidT_get (KX b o e) (by
    cases q : H b with
    | none => rfl
    | some u =>
      rcases hH b u q with ⟨rfl, n, _⟩ | ⟨p, hp, rfl, _⟩
      · rw [n] at e
        cases e
      · rw [(tab p hp).2.1] at e
        cases e)
  have hM : Mod K mg (hidT s1.heap H) := ⟨hKb, nsK hns, ⟨mb, nsK hb, hbb⟩, hlim.imp fun mc h => ⟨nsK h.1, h.2⟩⟩
  have e0 : Env0 P w K mg (hidT s1.heap H) callerA [] s1 H := ⟨rfl, hM, fun b o e => of_hidT e, Nat.le_of_eq (hidT_size _ _), trivial, fun b hb => absurd (show b ∈ ([] : List Addr) from hb) List.not_mem_nil, hok, .of_eq hg⟩
  have TB : ∀ p ∈ cs, TabB (hidT s1.heap H) mg p.1 p.2 := fun p hp => by
    obtain ⟨t1, _, t3⟩ := tab p hp
    refine ⟨?_, ?_, fun z => ?_⟩
    · obtain ⟨o, us, file, tf, flags, tg, inF, text, tt, c1, c2, c3, c4, c5⟩ := t3
      refine ⟨o, us, file, tf, flags, tg, inF, text, tt, old c1 (fun z => ?_) (fun z => ?_), c2, c3, c4, c5⟩
      · rw [c3] at z; cases z
      · rw [c3] at z
        cases z
        simp at c4
    · obtain ⟨bm, o, b1, b2, b3, b4, b5, b6⟩ := bmn
      refine ⟨bm, o, b1, b2, fun q => ?_, fun q => ?_, old b3 (by rw [b6]; exact fun q => nomatch q) (by rw [b6]; exact fun q => nomatch q), b4, b5, b6⟩
      · obtain ⟨o2, es, ep, e, d, _⟩ := hns
        rw [q, e] at b3
        cases b3
        rw [d] at b6
        cases b6
      · rw [q, t1] at b3
        cases b3
        cases b6
    · obtain ⟨o2, es, ep, e, d, _⟩ := hns
      rw [z, t1] at e
      cases e
      cases d
  refine codeAny_mono ((F _ hKb (nsK hns) TB).go callerA [] s1 H ⟨[.ref a], []⟩ [.ref a] [.ref a] _ _ hr rfl e0 (hbind s1 (.ref a)) (.cons rfl .nil) (hsp H hT hS)) fun r s' h => ?_
  match r, h with
  | .error e, h => exact (hCX H e s' h).elim
  | .ok (.ret u), ⟨v, H', os, bare, un, hok', r', q⟩ =>
    have q' : v = .bl true := q
    subst q'
    have eu : u = .bool true := r'
    subst eu
    have kept : ∀ b o, (∀ p ∈ cs, b ≠ p.2) → s1.heap.get? b = some o → s'.heap.get? b = some o := fun b o nb e => by
      cases q : H b with
      | none => exact un.keep b o e q (fun z => by cases z) (fun z => by cases z)
      | some u =>
        rcases hH b u q with ⟨rfl, _, rfl⟩ | ⟨p, hp, z, _⟩
        · have z := (hok' b _ (un.frzs b ob _ q)).1
          rw [ha] at e
          cases e
          exact z
        · exact absurd z (nb p hp)
    have more : ∀ p ∈ cs, ∃ m : Array Value, s'.heap.get? p.2 = some { cls := .none, data := .fields m } := fun p hp => by
      obtain ⟨m, z⟩ := un.tbls p.2 #[] (hT p hp)
      exact ⟨_, hok' p.2 _ z⟩
    refine ⟨rfl, ⟨fun b v e => ?_, fun b v e => ?_⟩, os, bare⟩
    · by_cases nb : ∀ p ∈ cs, b ≠ p.2
      · exact .inl (kept b v nb e)
      · obtain ⟨p, hp, z⟩ : ∃ p ∈ cs, b = p.2 := by simpa using nb
        subst z
        obtain ⟨m, hm⟩ := more p hp
        obtain ⟨t1, _, t3⟩ := tab p hp
        rw [t1] at e
        cases e
        exact .inr (.inl ⟨(t3.tab t1).isCodeTable, rfl, #[], m, rfl, by rw [Array.empty_append]; exact hm⟩)
    · by_cases nb : ∀ p ∈ cs, b ≠ p.2
      · exact ⟨v, kept b v nb e⟩
      · obtain ⟨p, hp, z⟩ : ∃ p ∈ cs, b = p.2 := by simpa using nb
        subst z
        obtain ⟨m, hm⟩ := more p hp
        exact ⟨_, hm⟩
/-- a law over a head by facts, with tables -/
theorem walk_ofGT {l : PySem.W.OpenLaw} {n k : Nat} {q : Program} {loose : List Str} {XP : (Str → Option Value) → Heap → Prop} {YP : World → Heap → Prop} {d : DefRec} {CX : World → CXT} {x : Str}
    (most : l.most = some n) (few : n ≤ sizeLine) (noDfl : d.params.defaults = []) (room : Room k callerA)
    (F : ∀ (w : World) (mg : Str → Option Value) (f : Addr) (h : Heap), YP w h → h.Ns mainGlobals mg → mg d.name = some (.ref f) → ∃ (K : PySem.W.Frag) (cs : List (Addr × Addr)) (fd : FuncData) (sp : Sp), K.In h ∧ (∀ (s : Shared) (u : Value), BindsTo s fd ⟨[u], []⟩ [(x, u)]) ∧
      (∀ p ∈ cs, h.get? p.2 = some { cls := .none, data := .fields #[] } ∧ K.lookup p.2 = none ∧ PySem.W.CodeHd h p.1 p.2) ∧
      (∀ (H : Hp) (a : Addr) (ns : List Int), ns.length ≤ n → (∀ p ∈ cs, H p.2 = some (.tbl #[])) → SqL K H a (ns.map V.int) → sp [.ref a] H (fun z _ => z = .bl true) fun _ _ _ => False) ∧
      ∀ base : Heap, K.In base → base.Ns mainGlobals mg → (∀ p ∈ cs, TabB base mg p.1 p.2) → FnG l.prog w K mg base (CX w) k f fd [x] sp)
    (none_out : ∀ (w : World) (H : Hp) (s : Shared) (e : Value) (s' : Shared), CX w [] H s (fun _ _ _ => False) e s' → False) : PySem.W.WalkO q loose XP YP l.row.toRowW d [] (fun f vs => PySem.call f vs) :=
  Att.attach_call most noDfl fun w s0 s1 mg mb f o pm cd doc a vs ns G Y ho hd hcd hmg hobj hints hlen hg =>
    let ⟨_, _, _, _, KX, hb, tab, hsp, hF⟩ := F w mg f _ Y G.T.g hmg
    law_callGT KX G.T.g G.T.b G.T.builtins G.T.nolimit hg tab G.T.bmain hobj hints (Nat.le_trans hlen few) room hF hb (fun H hO hS => hsp H a ns hlen hO hS) fun H e s' => none_out w H s1 e s'
end L2
/-! ### what a head tells -/
namespace Hdr
open PySem PySem.Spec PyProof.Rows L2 LamX Sd
abbrev Fr : Type := PySem.W.Frag
/-- facts of names, defs, own exceptions, defs that make lambdas, and a Bool -/
structure Ask where
  fa : List He.Fa
  fn : List He5.DefA
  xs : List ExD
  tf : List (Fr → Addr)
  ex : Fr → Bool
def codeA (K : Fr) (a : Addr) : Addr := match K.lookup a with
  | some ⟨_, _, .func d, _⟩ => (match d.code with
    | .ref c => c
    | _ => 0)
  | _ => 0
def codeB (K : Fr) (a : Addr) : Bool := match K.lookup a with
  | some ⟨_, _, .func d, _⟩ => (match d.code with
    | .ref _ => true
    | _ => false)
  | _ => false
def tabA (K : Fr) (a : Addr) : Addr := He.tabOf K (codeA K a)
theorem codeB_ok {K : Fr} {a : Addr} {x qual : Str} {params : Arguments} {body : List Stmt} {scope : Scope} {dvs : List V} {kws : List (Str × V)} {fd : FuncData} (F : FunD K x qual params body scope dvs kws a fd) (h : codeB K a = true) : fd.code = .ref (codeA K a) := by
  obtain ⟨oc, od, dV, kV, doc, pm, an, cdv, ct, osl, rfl, lk, _⟩ := F.ex
  unfold codeB at h
  unfold codeA
  rw [lk] at h ⊢
  dsimp only at h ⊢
  cases cdv with
  | ref c => rfl
  | _ => cases h
abbrev Al : Type := He.AlD × (Bool × List FnC)
abbrev Al2 : Type := Al × Bool
def asG (g : Addr → Option Obj) (n : Nat) : List Addr := He.asD g n ++ [cStatics, sysModules]
def obsK (P : Program) (Q : Ask) (K : Fr) : Al := (He5.obsA Q.fa Q.fn K, ((Q.xs.all fun d => d.ok P K) && ((Q.tf.all fun p => codeB K (p K)) && Q.ex K), Q.xs.map fun d => fnC K (He.ga K d.c)))
def valK (Q : Ask) : Al := (He5.valA Q.fn, (true, Q.xs.map ExD.val))
def tabsB (g : Addr → Option Obj) (Q : Ask) (K : Fr) : Bool := Q.tf.all fun p => PySem.W.codeHdIn K (codeA K (p K)) (tabA K (p K)) && (match g (tabA K (p K)) with
  | some o => He.emptyTab o
  | none => false)
def obs (P : Program) (n : Nat) (Q : Ask) (g : Addr → Option Obj) : Al2 := (obsK P Q (He.frT g (asG g n)), tabsB g Q (He.frT g (asG g n)))
/-- what the end leans on -/
structure Says (P : Program) (Q : Ask) (h : Heap) (K : Fr) : Prop where
  k : obsK P Q K = valK Q
  t : ∀ p ∈ Q.tf, PySem.W.codeHdIn K (codeA K (p K)) (tabA K (p K)) = true ∧ K.lookup (tabA K (p K)) = none ∧ h.get? (tabA K (p K)) = some { cls := .none, data := .fields #[] }
theorem says_of {P : Program} {n : Nat} {Q : Ask} {h : Heap} (e : obs P n Q h.get? = (valK Q, true)) : Says P Q h (He.frT h.get? (asG h.get? n)) := by
  have e1 : obsK P Q (He.frT h.get? (asG h.get? n)) = valK Q := congrArg (fun z : Al2 => z.1) e
  have e2 : tabsB h.get? Q (He.frT h.get? (asG h.get? n)) = true := congrArg (fun z : Al2 => z.2) e
  refine ⟨e1, fun p hp => ?_⟩
  obtain ⟨h1, h2⟩ := He.ba (List.all_eq_true.mp e2 p hp)
  split at h2
  · rename_i o z
    exact ⟨h1, He.frT_none z h2, by rw [z, He.emptyTab_eq h2]⟩
  · cases h2
def hook (P : Program) (n : Nat) (Q : Ask) : PySem.W.Hook where
  α := Al2
  obs := fun s => obs P n Q s.heap.get?
  val := fun _ => (valK Q, true)
  says := fun _ h => ∃ K : Fr, K.In h ∧ Says P Q h K
  of := fun _ _ e => ⟨_, He.frT_in, says_of e⟩
  keeps := fun _ _ _ ⟨K, inh, c⟩ k => ⟨K, inh.keeps k, c.k, fun p hp => let ⟨a, b, d⟩ := c.t p hp; ⟨a, b, k _ _ d⟩⟩
def ob (P : Program) (n : Nat) (Q : Ask) (s : PySem.W.SharedT) : Al2 := obs P n Q (HandSHeadRun.getT s)
theorem ob_eq {P : Program} {n : Nat} {Q : Ask} (s : PySem.W.SharedT) : ob P n Q s = (hook P n Q).obs s.abs := by
  have e : HandSHeadRun.getT s = s.abs.heap.get? := funext (HandSHeadRun.getT_eq s)
  unfold ob
  rw [e]
  rfl
section
variable {P : Program} {Q : Ask} {K : Fr} {h : Heap}
theorem Says.a (c : Says P Q h K) : He5.SaysA Q.fa Q.fn K := congrArg (fun z : Al => z.1) c.k
theorem Says.parts (c : Says P Q h K) : (Q.xs.all fun d => d.ok P K) = true ∧ (Q.tf.all fun p => codeB K (p K)) = true ∧ Q.ex K = true := by
  have z : ((Q.xs.all fun d => d.ok P K) && ((Q.tf.all fun p => codeB K (p K)) && Q.ex K)) = true := congrArg (fun z : Al => z.2.1) c.k
  obtain ⟨a, b⟩ := He.ba z
  exact ⟨a, He.ba b⟩
theorem Says.x (c : Says P Q h K) (i : Nat) {d : ExD} (e : Q.xs[i]? = some d) : fnC K (He.ga K d.c) = d.val ∧ d.ok P K = true := by
  refine ⟨?_, List.all_eq_true.mp c.parts.1 d (List.mem_of_getElem? e)⟩
  have c3 : (Q.xs.map fun d => fnC K (He.ga K d.c)) = Q.xs.map ExD.val := congrArg (fun z : Al => z.2.2) c.k
  have e2 : (Q.xs.map fun d => fnC K (He.ga K d.c))[i]? = (Q.xs.map ExD.val)[i]? := by rw [c3]
  rw [List.getElem?_map, List.getElem?_map, e] at e2
  exact Option.some.inj e2
theorem Says.code (c : Says P Q h K) (i : Nat) {p : Fr → Addr} (e : Q.tf[i]? = some p) : codeB K (p K) = true := List.all_eq_true.mp c.parts.2.1 p (List.mem_of_getElem? e)
end
/-! ### more that a head tells, as Bools -/
def readB (K : Fr) (C : Addr) : Bool := PySem.W.readsIn K C (.type "type")
theorem readB_ok {K : Fr} {C : Addr} (h : readB K C = true) : ClX.CRead K C (.type "type") := by
  refine ⟨h, ?_⟩
  unfold readB PySem.W.readsIn at h
  obtain ⟨h, _⟩ := He.ba h
  obtain ⟨h, _⟩ := He.ba h
  obtain ⟨h, h3⟩ := He.ba h
  obtain ⟨_, h2⟩ := He.ba h
  unfold PySem.W.specialIn
  rw [beq_iff_eq.mp h2, Option.bind_some]; exact beq_iff_eq.mp h3
/-- a property: its record, its getter -/
def propF (K : Fr) (C : Addr) (x : Str) : Addr := He5.wf K C "property" x
def propB (K : Fr) (C : Addr) (x : Str) : Bool := He.eqO (PySem.W.findIn K (.ref C) x) (some (some (.ref (He.ma K C x)))) && (He.eqO (PySem.W.specialIn K (.ref (He.ma K C x)) "__get__") (some (some (.builtin "property.__get__"))) &&
  (decide (PySem.W.takesIn K (.ref (He.ma K C x)) = some true) && (match PySem.W.recIn K (He.ma K C x) "property" with
    | some (.ref _ :: _) => true
    | _ => false)))
theorem propB_ok {K : Fr} {C : Addr} {x : Str} (h : propB K C x = true) : PropOf K C x (He.ma K C x) (propF K C x) := by
  obtain ⟨h1, h⟩ := He.ba h
  obtain ⟨h2, h⟩ := He.ba h
  obtain ⟨h3, h4⟩ := He.ba h
  refine ⟨He.eqO_ok h1, He.eqO_ok h2, of_decide_eq_true h3, ?_⟩
  unfold propF He5.wf
  split at h4
  · rename_i f r e
    exact ⟨r, by rw [e]⟩
  · cases h4
def ownB (K : Fr) (C : Addr) (m : Str) : Bool := He.eqO (PySem.W.findIn K (.ref C) m) (some (some (.ref (He.ma K C m)))) && PySem.W.isFn K (.ref (He.ma K C m))
theorem ownB_ok {K : Fr} {C : Addr} {m : Str} (h : ownB K C m = true) : Own K C m (He.ma K C m) := by
  obtain ⟨h1, h2⟩ := He.ba h
  exact ⟨He.eqO_ok h1, h2⟩
/-- a tuple of texts of a class, seen from it and from its instances -/
def tupsB (K : Fr) (a : Addr) (xs : List Str) : Bool := match K.lookup a with
  | some ⟨.type c, _, .seq its _, _⟩ => decide (c = "tuple") && (decide (its.size ≤ sizeLine) && He.relAll (xs.map V.str) its.toList)
  | _ => false
theorem tupsB_ok {K : Fr} {a : Addr} {xs : List Str} (h : tupsB K a xs = true) (H : Hp) : SqT K H a (xs.map V.str) := by
  unfold tupsB at h
  cases q : K.lookup a with
  | none => rw [q] at h; cases h
  | some o =>
    obtain ⟨oc, od, dt, osl⟩ := o
    rw [q] at h
    cases oc with
    | type c =>
      cases dt with
      | seq its n =>
        obtain ⟨h1, h2⟩ := He.ba (show (decide (c = "tuple") && (decide (its.size ≤ sizeLine) && He.relAll (xs.map V.str) its.toList)) = true from h)
        obtain ⟨h3, h4⟩ := He.ba h2
        exact .inr ⟨_, its, n, q, congrArg Value.type (of_decide_eq_true h1), rfl, of_decide_eq_true h3, He.relAll_ok h4⟩
      | _ => cases h
    | _ => cases dt <;> cases h
theorem at_strs {T : Tab} {H : Hp} : ∀ {xs : List Str}, AtAll T H (xs.map V.str) (xs.map D.str)
  | [] => .nil
  | _ :: _ => .cons (.str _) at_strs
theorem tups_at {K : Fr} {a : Addr} {xs : List Str} (h : tupsB K a xs = true) : ∀ {T : Tab}, T.K = K → ∀ H, At T H (.ref a) (.tup (xs.map D.str)) := fun {T} e H => by
  subst e
  exact .tup (tupsB_ok h H) at_strs
def conA (K : Fr) (C : Addr) (f : Str) : Bool := (match PySem.W.findIn K (.ref C) f with
  | some (some (.ref u)) => decide (u = He.ma K C f) && He.eqO (PySem.W.specialIn K (.ref u) "__get__") (some none)
  | _ => false) && (match PySem.W.findCls K (.ref C) (.type "type") f with
  | some (.val (.ref u)) => decide (u = He.ma K C f)
  | _ => false)
theorem conA_ok {K : Fr} {C : Addr} {f : Str} (h : conA K C f = true) (hc : PySem.W.copiedNames.contains f = false := by decide) : Con K C f (.ref (He.ma K C f)) (.ref (He.ma K C f)) ∧ ClX.CVal K C (.type "type") f (.ref (He.ma K C f)) (.ref (He.ma K C f)) := by
  obtain ⟨h1, h2⟩ := He.ba h
  constructor
  · split at h1
    · rename_i u e
      obtain ⟨k1, k2⟩ := He.ba h1
      have k1 := of_decide_eq_true k1
      rw [k1] at e k2
      exact ⟨e, rfl, He.eqO_ok k2, hc⟩
    · cases h1
  · split at h2
    · rename_i u e
      have k1 := of_decide_eq_true h2
      rw [k1] at e
      exact ⟨e, rfl⟩
    · cases h2
def clsB (K : Fr) (C : Addr) : Bool := He.eqO (PySem.W.findIn K (.ref C) "__class__") (some (some (.builtin "object.__class__"))) && decide (PySem.W.mroIn K C (.type "object") = some true)
def clsAll (K : Fr) : Bool := He.eqO (PySem.W.specialIn K (.builtin "object.__class__") "__get__") (some (some (.builtin "getset_descriptor.__get__"))) && decide (PySem.W.takesIn K (.builtin "object.__class__") = some true)
theorem insB_ok {K : Fr} {C : Addr} (c : Cls K C) (h : clsB K C = true) (g : clsAll K = true) : InsC K C := by
  obtain ⟨h1, h2⟩ := He.ba h
  obtain ⟨g1, g2⟩ := He.ba g
  exact ⟨c, He.eqO_ok h1, He.eqO_ok g1, of_decide_eq_true g2, of_decide_eq_true h2⟩
/-- the kinds of values that a table of isinstance tells of -/
def tys (is es : List Str) : List TyN := [.non, .bl, .int, .str, .tup, .lst, .dct] ++ is.map TyN.i ++ es.map TyN.e
theorem mem_of {c : Str} {l : List Str} (h : l.contains c = true) : c ∈ l := by simpa using h
def isB (K : Fr) (f : TyN → Bool) (is es : List Str) (cs : List Value) : Bool := (tys is es).all fun t => decide (PySem.W.kitAny K (tyV (He.ga K) t) cs = some (f t))
theorem isB_ok {K : Fr} {f : TyN → Bool} {is es : List Str} {cs : List Value} (h : isB K f is es cs = true) (hi : ∀ c, is.contains c = true → InsC K (He.ga K c)) (he : ∀ c, es.contains c = true → ExcC K (He.ga K c)) : IsOk K (He.ga K) (tblOf f is es) cs := by
  have key : ∀ t ∈ tys is es, PySem.W.kitAny K (tyV (He.ga K) t) cs = some (f t) := fun t ht => of_decide_eq_true (List.all_eq_true.mp h t ht)
  have basic : ∀ t ∈ ([.non, .bl, .int, .str, .tup, .lst, .dct] : List TyN), t ∈ tys is es := fun t ht => List.mem_append_left _ (List.mem_append_left _ ht)
  have plain : ∀ {t : TyN} {b : Bool}, t ∈ ([.non, .bl, .int, .str, .tup, .lst, .dct] : List TyN) → some (f t) = some b → PySem.W.kitAny K (tyV (He.ga K) t) cs = some b := fun ht e => (key _ (basic _ ht)).trans e
  refine ⟨fun t b e => ?_, fun c b e => ?_, fun c b e => ?_⟩
  · cases t with
    | i c =>
      have e : (if is.contains c = true then some (f (.i c)) else none) = some b := e
      split at e
      · rename_i z
        exact (key _ (List.mem_append_left _ (List.mem_append_right _ (List.mem_map.mpr ⟨c, mem_of z, rfl⟩)))).trans e
      · cases e
    | e c =>
      have e : (if es.contains c = true then some (f (.e c)) else none) = some b := e
      split at e
      · rename_i z
        exact (key _ (List.mem_append_right _ (List.mem_map.mpr ⟨c, mem_of z, rfl⟩))).trans e
      · cases e
    | _ => exact plain (by simp) e
  · have e : (if is.contains c = true then some (f (.i c)) else none) = some b := e
    split at e
    · exact hi c ‹_›
    · cases e
  · have e : (if es.contains c = true then some (f (.e c)) else none) = some b := e
    split at e
    · exact he c ‹_›
    · cases e
def excB (K : Fr) (es : List Str) : Bool := es.all fun c => xfB K (He.ga K c) && clsB K (He.ga K c)
theorem excB_x {K : Fr} {es : List Str} (h : excB K es = true) : ∀ c, es.contains c = true → XfC K (He.ga K c) := fun c hc => xfB_ok (He.ba (List.all_eq_true.mp h c (mem_of hc))).1
theorem excB_ok {K : Fr} {es : List Str} (h : excB K es = true) (g : clsAll K = true) : ∀ c, es.contains c = true → ExcC K (He.ga K c) := fun c hc => by
  obtain ⟨a, b⟩ := He.ba (List.all_eq_true.mp h c (mem_of hc))
  obtain ⟨b1, b2⟩ := He.ba b
  obtain ⟨g1, g2⟩ := He.ba g
  have x := xfB_ok a
  exact ⟨x.ga, x.gg, x.exC, x.hdC, He.eqO_ok b1, He.eqO_ok g1, of_decide_eq_true g2, of_decide_eq_true b2⟩
def fxB (K : Fr) (es : List Str) (n : Str) : Bool := es.all fun c => He.eqO (PySem.W.findIn K (.ref (He.ga K c)) n) (some none)
theorem fxB_ok {K : Fr} {es : List Str} {n : Str} (h : excB K es = true) (g : fxB K es n = true) : ∀ c, es.contains c = true → XfC K (He.ga K c) ∧ PySem.W.findIn K (.ref (He.ga K c)) n = some none := fun c hc => ⟨excB_x h c hc, He.eqO_ok (List.all_eq_true.mp g c (mem_of hc))⟩
def exmB (K : Fr) (es : List Str) (f : Str → Bool) (cs : List Value) : Bool := es.all fun c => decide (PySem.W.exmAny K (.ref (He.ga K c)) cs = some (f c))
theorem exmB_ok {K : Fr} {es : List Str} {f : Str → Bool} {cs : List Value} (h : exmB K es f cs = true) : ∀ c v, (if es.contains c = true then some (f c) else none) = some v → PySem.W.exmAny K (.ref (He.ga K c)) cs = some v := fun c v e => by
  split at e
  · exact (of_decide_eq_true (List.all_eq_true.mp h c (mem_of ‹_›))).trans e
  · cases e
def eqB (K : Fr) (is : List Str) (nf : TyN → Bool) (c : Str) : Bool := (([.non, .bl, .int, .str, .tup, .lst, .dct] : List TyN) ++ is.map TyN.i).all fun t : TyN => !nf t || PySem.W.notFirst K (He.ga K c) (tyV (He.ga K) t)
theorem eqB_ok {K : Fr} {is : List Str} {nf : TyN → Bool} {c : Str} (h : eqB K is nf c = true) (hi : ∀ c', nf (.i c') = is.contains c') (he : ∀ c', nf (.e c') = false) (hc : ∀ c', is.contains c' = true → InsC K (He.ga K c')) : EqOk K (He.ga K) c nf := by
  have key : ∀ t ∈ (([.non, .bl, .int, .str, .tup, .lst, .dct] : List TyN) ++ is.map TyN.i), nf t = true → PySem.W.notFirst K (He.ga K c) (tyV (He.ga K) t) = true := fun t ht e => by
    have z : (!nf t || PySem.W.notFirst K (He.ga K c) (tyV (He.ga K) t)) = true := List.all_eq_true.mp h t ht
    rw [e] at z
    exact z
  refine ⟨fun t e => ?_, fun c' e => hc c' ((hi c').symm.trans e), he⟩
  cases t with
  | i c' => exact key _ (List.mem_append_right _ (List.mem_map.mpr ⟨c', mem_of ((hi c').symm.trans e), rfl⟩)) e
  | e c' => rw [he] at e; cases e
  | _ => exact key _ (List.mem_append_left _ (by simp)) e
def raisB (K : Fr) (c : Str) : Bool := decide (PySem.W.subIn K (.ref (He.ga K c)) (.type "BaseException") = some true) && decide (PySem.W.typeIn K (.ref (He.ga K c)) = some (.type "type"))
theorem raisB_ok {K : Fr} {c : Str} (h : raisB K c = true) : ∀ {X : Cx}, X.K = K → Raises X (.ref (He.ga K c)) := fun {X} e => by
  obtain ⟨h1, h2⟩ := He.ba h
  subst e
  exact raises_own (of_decide_eq_true h1) (of_decide_eq_true h2)
theorem exi {l : List Bool} (h : l.all id = true) (i : Nat) {b : Bool} (e : l[i]? = some b) : b = true := List.all_eq_true.mp h b (List.mem_of_getElem? e)
end Hdr

set_option maxHeartbeats 1000000
/-! what the law's defs compute -/
namespace K03
open PySem PySem.Spec PyProof.Rows L2 Sd
def excs : List Str := ["InvalidKind", "InvalidPart", "Clash", "InvalidText", "NoStation", "TooMany"]
def ft_InvalidText : TyN → Bool
  | .i c => ([] : List Str).contains c
  | .e c => (["InvalidText"] : List Str).contains c
  | _ => false
def tb_InvalidText : TyN → Option Bool := tblOf ft_InvalidText ["Kind"] excs
def ft_Kind : TyN → Bool
  | .i c => (["Kind"] : List Str).contains c
  | .e c => ([] : List Str).contains c
  | _ => false
def tb_Kind : TyN → Option Bool := tblOf ft_Kind ["Kind"] excs
def ft_MeetError : TyN → Bool
  | .i c => ([] : List Str).contains c
  | .e c => (["InvalidKind", "InvalidPart", "Clash", "InvalidText"] : List Str).contains c
  | _ => false
def tb_MeetError : TyN → Option Bool := tblOf ft_MeetError ["Kind"] excs
def ft_T_Clash_InvalidKind_InvalidPart_NoStation_TooMany : TyN → Bool
  | .i c => ([] : List Str).contains c
  | .e c => (["InvalidKind", "InvalidPart", "Clash", "NoStation", "TooMany"] : List Str).contains c
  | _ => false
def tb_T_Clash_InvalidKind_InvalidPart_NoStation_TooMany : TyN → Option Bool := tblOf ft_T_Clash_InvalidKind_InvalidPart_NoStation_TooMany ["Kind"] excs
def ft_bool : TyN → Bool
  | .bl => true
  | .i c => ([] : List Str).contains c
  | .e c => ([] : List Str).contains c
  | _ => false
def tb_bool : TyN → Option Bool := tblOf ft_bool ["Kind"] excs
def ft_int : TyN → Bool
  | .int => true
  | .bl => true
  | .i c => ([] : List Str).contains c
  | .e c => ([] : List Str).contains c
  | _ => false
def tb_int : TyN → Option Bool := tblOf ft_int ["Kind"] excs
def ft_str : TyN → Bool
  | .str => true
  | .i c => ([] : List Str).contains c
  | .e c => ([] : List Str).contains c
  | _ => false
def tb_str : TyN → Option Bool := tblOf ft_str ["Kind"] excs
def cm_MeetError_NoStation_TooMany : Str → Option Bool := fun c => if excs.contains c = true then some ((["InvalidKind", "InvalidPart", "Clash", "InvalidText", "NoStation", "TooMany"] : List Str).contains c) else none
def nf_Kind : TyN → Bool
  | .i c => (["Kind"] : List Str).contains c
  | .e _ => false
  | _ => true
def d_LENDS : D := .tup [.str "both", .str "far", .str "one"]
def d_LETS : D := .tup [.str "both", .str "far", .str "any"]
def f_is_number : FS := (sRet (fAnd (fUn (oIs tb_int) (fVar 0)) (fAnd (fNot (fUn (oIs tb_bool) (fVar 0))) (fCh (fun i j => decide (i ≤ j)) (fun i j => decide (i ≤ j)) (fVar 1) (fVar 0) (fVar 2)))))
def F_is_number : FD := runD 3 3 f_is_number
def f_is_one_of : FS := (sRet (fAnd (fUn (oIs tb_str) (fVar 0)) (fOp (oIn id) (fVar 0) (fVar 1))))
def F_is_one_of : FD := runD 2 2 f_is_one_of
def f_Kind_init : FS := (sSeq (sAsg 5 (fOr (fOp (oIsN id) (fVar 4) (fC .non)) (fCX F_is_number 3 0 [.a 0, .a 1, .a 2] [] (cD (fVar 4) (cD (fC (.int 2)) (cD (fC (.int 1000000)) cN))) cN))) (sSeq (sAsg 6 (fLst (aC (fCX F_is_one_of 2 0 [.a 0, .a 1] [] (cD (fVar 1) (cD (fCon "Kind" "LENDS" d_LENDS (fVar 0)) cN)) cN) (aC (fCX F_is_one_of 2 0 [.a 0, .a 1] [] (cD (fVar 2) (cD (fCon "Kind" "LETS" d_LETS (fVar 0)) cN)) cN) (aC (fUn (oIs tb_bool) (fVar 3)) (aC (fVar 5) aN)))))) (sSeq (sAsg 7 (fLc (iRng rng1 (rC (fC (.int 4)) rN)) (gN 8) (tN (tB (fOp oIx (fVar 6) (fVar 8)))) (fVar 8) [8])) (sSeq (sIf (tB (fOp (oEq not) (fVar 7) (fLst aN))) (sRaise "InvalidKind" ["place"] (aC (fOp oIx (fVar 7) (fC (.int 0))) aN)) sN) (sSetF ["Kind"] "row" 0 (fTup (aC (fVar 1) (aC (fVar 2) (aC (fVar 3) (aC (fVar 4) aN))))))))))
def F_Kind_init : FD := runD 9 5 f_Kind_init
def f_number_in : FS := (sSeq (sIf (tO (tN (tB (fCh (fun i j => decide (i ≤ j)) (fun i j => decide (i ≤ j)) (fC (.int 1)) (fCB oLen (rC (fVar 0) rN)) (fCB oLen (rC (fCB oStr (rC (fVar 2) rN)) rN))))) (tN (tB (fCB (oAll fun bs => bs.all id) (rC (fLc (iStrF (fVar 0)) (gN 4) tY (fOp (oIn id) (fVar 4) (fC (.str "0123456789"))) [4]) rN))))) (sRet (fC .non)) sN) (sSeq (sIf (tAn (tB (fOp (oEq id) (fOp oIx (fVar 0) (fC (.int 0))) (fC (.str "0")))) (tB (fOp (oEq not) (fVar 0) (fC (.str "0"))))) (sRet (fC .non)) sN) (sSeq (sAsg 3 (fCB oIntU (rC (fVar 0) rN))) (sRet (fIf (tB (fCh (fun i j => decide (i ≤ j)) (fun i j => decide (i ≤ j)) (fVar 1) (fVar 3) (fVar 2))) (fVar 3) (fC .non))))))
def F_number_in : FD := runD 5 3 f_number_in
def f_parts_in : FS := (sSeq (sAsgG (fSM oPartition (fSM oJoin (fC (.str "")) (rC (fSlc (fVar 0) oN (oS (fC (.int 1)))) rN)) (rC (fC (.str "/")) rN)) (gT 3 (gCons (gN 6) (gCons (gN 7) (gCons (gN 8) gNil))))) (sSeq (sIf (tO (tB (fOp (oIn not) (fVar 6) (fC d_LENDS))) (tB (fOp (oIn not) (fVar 8) (fC d_LETS)))) (sRaise "InvalidText" ["line", "word"] (aC (fVar 1) (aC (fVar 2) aN))) sN) (sSeq (sAsg 3 (fOp (oEq id) (fSlc (fVar 0) (oS (fC (.int 1))) (oS (fC (.int 2)))) (fLst (aC (fC (.str "turns")) aN)))) (sSeq (sAsg 4 (fOp oAdd (fC (.int 1)) (fCB oIntU (rC (fVar 3) rN)))) (sSeq (sAsg 5 (fC .non)) (sSeq (sIf (tB (fOp (oEq id) (fSlc (fVar 0) (oS (fVar 4)) (oS (fOp oAdd (fVar 4) (fC (.int 1))))) (fLst (aC (fC (.str "rests")) aN)))) (sSeq (sAsg 5 (fIf (tB (fOp oLt (fOp oAdd (fVar 4) (fC (.int 1))) (fCB oLen (rC (fVar 0) rN)))) (fCX F_number_in 3 0 [.a 0, .a 1, .a 2] [] (cD (fOp oIx (fVar 0) (fOp oAdd (fVar 4) (fC (.int 1)))) (cD (fC (.int 2)) (cD (fC (.int 1000000)) cN))) cN) (fC .non))) (sSeq (sIf (tB (fOp (oIsN id) (fVar 5) (fC .non))) (sRaise "InvalidText" ["line", "word"] (aC (fVar 1) (aC (fOp oAdd (fOp oAdd (fVar 2) (fVar 4)) (fC (.int 1))) aN))) sN) (sAug 4 (fun i j => i + j) (fC (.int 2))))) sN) (sSeq (sIf (tB (fOp oLt (fVar 4) (fCB oLen (rC (fVar 0) rN)))) (sRaise "InvalidText" ["line", "word"] (aC (fVar 1) (aC (fOp oAdd (fVar 2) (fVar 4)) aN))) sN) (sRet (fTup (aC (fVar 6) (aC (fVar 8) (aC (fVar 3) (aC (fVar 5) aN)))))))))))))
def F_parts_in : FD := runD 9 3 f_parts_in
def f_Kind_read : FS := (sSeq (sIf (tN (tB (fUn (oIs tb_str) (fVar 1)))) (sRaise "InvalidText" ["line", "word"] (aC (fC (.int 0)) (aC (fC (.int 0)) aN))) sN) (sSeq (sAsgG (fCX F_parts_in 3 0 [.a 0, .a 1, .a 2] [] (cD (fSM oSplit (fVar 1) (rC (fC (.str " ")) rN)) (cD (fC (.int 0)) (cD (fC (.int 0)) cN))) cN) (gT 4 (gCons (gN 2) (gCons (gN 3) (gCons (gN 4) (gCons (gN 5) gNil)))))) (sRet (fFz (fKXv 0 "Kind" F_Kind_init 3 2 [.a 0, .a 1, .a 2, .k 0, .k 1] [] (cD (fVar 2) (cD (fVar 3) cN)) (cD (fVar 4) (cD (fVar 5) cN)))))))
def F_Kind_read : FD := runD 6 2 f_Kind_read
def f_take : FS := (sSeq (sIf (tB (fOp oGt (fOp oIx (fVar 0) (fC (.int 2))) (fC (.int 0)))) (sSeq (sAsg 5 (fOp oMod (fCB oIntU (rC (fOp oIx (fVar 0) (fC (.int 2))) rN)) (fVar 1))) (sSeq (sSetL 0 (fC (.int 2)) (fOp oDiv (fOp oIx (fVar 0) (fC (.int 2))) (fVar 1))) (sRet (fVar 5)))) sN) (sSeq (sAsg 2 (fOp oIx (fVar 0) (fC (.int 1)))) (sSeq (sSetL 0 (fC (.int 1)) (fOp oAdd (fVar 2) (fC (.int 1)))) (sSeq (sAsg 3 (fOp oAdd (fOp oMulS (fC (.int 40037)) (fVar 2)) (fC (.int 29)))) (sSeq (sIf (tB (fOp (oEq not) (fOp oIx (fVar 0) (fC (.int 0))) (fLst aN))) (sAsg 3 (fOp oIx (fOp oIx (fVar 0) (fC (.int 0))) (fOp oMod (fCB oIntU (rC (fVar 2) rN)) (fCB oLen (rC (fOp oIx (fVar 0) (fC (.int 0))) rN))))) sN) (sSeq (sIf (tAn (tB (fOp oLt (fVar 2) (fCB oLen (rC (fOp oIx (fVar 0) (fC (.int 0))) rN)))) (tB (fOp oGe (fCB oAbs (rC (fVar 3) rN)) (fOp oPow (fC (.int 10)) (fC (.int 18)))))) (sSeq (sAsg 6 (fOp oAdd (fOp oMulS (fC (.int 2)) (fOp oSub (fCB oAbs (rC (fVar 3) rN)) (fOp oPow (fC (.int 10)) (fC (.int 18))))) (fCB oIntU (rC (fOp oLt (fVar 3) (fC (.int 0))) rN)))) (sSeq (sSetL 0 (fC (.int 2)) (fOp oDiv (fVar 6) (fVar 1))) (sRet (fOp oMod (fCB oIntU (rC (fVar 6) rN)) (fVar 1))))) sN) (sSeq (sAsg 4 (fOp oMod (fCB oIntU (rC (fOp oPow (fOp oAdd (fOp oAdd (fOp oAdd (fOp oMod (fCB oIntU (rC (fVar 3) rN)) (fC (.int 2147483563))) (fOp oMulS (fC (.int 40037)) (fVar 2))) (fOp oMulS (fOp oMulS (fC (.int 5)) (fVar 2)) (fVar 2))) (fC (.int 29))) (fC (.int 5))) rN)) (fC (.int 2147483629)))) (sSeq (sAsg 4 (fOp oMod (fCB oIntU (rC (fOp oPow (fOp oAdd (fOp oAdd (fOp oMulS (fVar 4) (fOp oAdd (fOp oMulS (fC (.int 2)) (fVar 2)) (fC (.int 53)))) (fOp oMulS (fC (.int 30047)) (fVar 2))) (fC (.int 11))) (fC (.int 3))) rN)) (fC (.int 2147483587)))) (sRet (fOp oMod (fCB oIntU (rC (fOp oDiv (fVar 4) (fC (.int 16))) rN)) (fVar 1)))))))))))
def F_take : FD := runD 7 2 f_take
def f_other : FS := (sSeq (sAsg 1 (fLst (aC (fC (.str "one/any")) (aC (fC (.str "both/far")) (aC (fC (.str "far/one")) (aC (fC (.str "any/one")) (aC (fC (.str "one")) (aC (fC (.str "one/")) (aC (fC (.str "/any")) (aC (fC (.str "one/any/any")) (aC (fC (.str "One/any")) (aC (fC (.str "one/any\n")) aN)))))))))))) (sSeq (sAsg 1 (fOp oAdd (fVar 1) (fLst (aC (fC (.str "turns")) (aC (fC (.str "rests")) (aC (fC (.str "turn")) (aC (fC (.str "Rests")) (aC (fC (.str "rests30")) (aC (fC (.str "")) (aC (fC (.str "\n")) (aC (fC (.str "-")) (aC (fC (.str "2")) (aC (fC (.str "1")) (aC (fC (.str "0")) (aC (fC (.str "02")) (aC (fC (.str "1000000")) (aC (fC (.str "+3")) aN))))))))))))))))) (sSeq (sAsg 1 (fOp oAdd (fVar 1) (fLst (aC (fC (.str "1000001")) (aC (fC (.str "-2")) (aC (fC (.str "2.0")) (aC (fC (.str "1_0")) (aC (fC (.str "10 000")) (aC (fOp oMulS (fC (.str "9")) (fC (.int 5000))) (aC (fOp oAdd (fC (.str "2")) (fOp oMulS (fC (.str "0")) (fC (.int 4400)))) (aC (fC (.str "999999")) (aC (fC (.str "rests\n")) (aC (fC (.str "any")) aN))))))))))))) (sRet (fOp oIx (fVar 1) (fCX F_take 2 0 [.a 0, .a 1] [] (cR (fVar 0) (cD (fCB oLen (rC (fVar 1) rN)) cN)) cN))))))
def F_other : FD := runD 2 1 f_other
def f_bent : FS := (sSeq (sAsg 2 (fCX F_take 2 0 [.a 0, .a 1] [] (cR (fVar 0) (cD (fC (.int 6)) cN)) cN)) (sSeq (sAsg 3 (fCX F_take 2 0 [.a 0, .a 1] [] (cR (fVar 0) (cD (fOp oAdd (fCB oLen (rC (fVar 1) rN)) (fC (.int 1))) cN)) cN)) (sSeq (sIf (tB (fOp (oEq id) (fVar 2) (fC (.int 0)))) (sRet (fOp oAdd (fSlc (fVar 1) oN (oS (fVar 3))) (fSlc (fVar 1) (oS (fOp oAdd (fVar 3) (fC (.int 1)))) oN))) sN) (sSeq (sIf (tB (fOp oLt (fVar 2) (fC (.int 3)))) (sRet (fOp oAdd (fOp oAdd (fSlc (fVar 1) oN (oS (fVar 3))) (fLst (aC (fCX F_other 1 0 [.a 0] [] (cR (fVar 0) cN) cN) aN))) (fSlc (fVar 1) (oS (fOp oSub (fOp oAdd (fVar 3) (fVar 2)) (fC (.int 1)))) oN))) sN) (sSeq (sIf (tB (fOp (oEq id) (fVar 2) (fC (.int 3)))) (sRet (fOp oAdd (fOp oAdd (fSlc (fVar 1) oN (oS (fVar 3))) (fOp oMulS (fSlc (fVar 1) (oS (fVar 3)) (oS (fOp oAdd (fVar 3) (fC (.int 1))))) (fC (.int 2)))) (fSlc (fVar 1) (oS (fOp oAdd (fVar 3) (fC (.int 1)))) oN))) sN) (sSeq (sIf (tB (fOp (oEq id) (fVar 2) (fC (.int 4)))) (sRet (fOp oAdd (fOp oAdd (fSlc (fVar 1) oN (oS (fVar 3))) (fRev (fSlc (fVar 1) (oS (fVar 3)) (oS (fOp oAdd (fVar 3) (fC (.int 2))))))) (fSlc (fVar 1) (oS (fOp oAdd (fVar 3) (fC (.int 2)))) oN))) sN) (sRet (fOp oAdd (fOp oAdd (fSlc (fVar 1) oN (oS (fVar 3))) (fLst (aC (fC (.str "")) aN))) (fSlc (fVar 1) (oS (fVar 3)) oN)))))))))
def F_bent : FD := runD 4 2 f_bent
def f_is_rest : FS := (sSeq (sIf (tO (tN (tB (fCh (fun i j => decide (i ≤ j)) (fun i j => decide (i ≤ j)) (fC (.int 1)) (fCB oLen (rC (fVar 0) rN)) (fC (.int 7))))) (tB (fOp (oEq id) (fOp oIx (fVar 0) (fC (.int 0))) (fC (.str "0"))))) (sRet (fC (.bl false))) sN) (sRet (fAnd (fOp (oEq id) (fLc (iStrF (fVar 0)) (gN 1) (tB (fOp (oIn not) (fVar 1) (fC (.str "0123456789")))) (fVar 1) [1]) (fLst aN)) (fCh (fun i j => decide (i ≤ j)) (fun i j => decide (i ≤ j)) (fC (.int 2)) (fCB oIntU (rC (fVar 0) rN)) (fOp oPow (fC (.int 10)) (fC (.int 6)))))))
def F_is_rest : FD := runD 2 1 f_is_rest
def f_due : FS := (sSeq (sAsg 1 (fSM oSplit (fVar 0) (rC (fC (.str " ")) rN))) (sSeq (sAsg 2 (fOp oAdd (fLc (iSeq (fTup (aC (fC (.str "one")) (aC (fC (.str "far")) (aC (fC (.str "both")) aN))))) (gN 8) tY (fTup (aC (fVar 8) (aC (fC (.str "any")) aN))) [8]) (fLc (iSeq (fTup (aC (fC (.str "one")) (aC (fC (.str "far")) (aC (fC (.str "both")) aN))))) (gN 8) tY (fTup (aC (fVar 8) (aC (fC (.str "far")) aN))) [8]))) (sSeq (sAsg 2 (fOp oAdd (fVar 2) (fLc (iSeq (fTup (aC (fC (.str "one")) (aC (fC (.str "far")) (aC (fC (.str "both")) aN))))) (gN 8) tY (fTup (aC (fVar 8) (aC (fC (.str "both")) aN))) [8]))) (sSeq (sAsg 3 (fLc (iSeq (fVar 2)) (gN 7) (tB (fOp (oEq id) (fOp oAdd (fOp oAdd (fOp oIx (fVar 7) (fC (.int 0))) (fC (.str "/"))) (fOp oIx (fVar 7) (fC (.int 1)))) (fOp oIx (fVar 1) (fC (.int 0))))) (fVar 7) [7])) (sSeq (sIf (tB (fOp (oEq id) (fVar 3) (fLst aN))) (sRet (fTup (aC (fC (.str "wrong")) (aC (fC (.int 0)) aN)))) sN) (sSeq (sAsg 4 (fAnd (fOp oGt (fCB oLen (rC (fVar 1) rN)) (fC (.int 1))) (fOp (oEq id) (fOp oIx (fVar 1) (fC (.int 1))) (fC (.str "turns"))))) (sSeq (sAsg 5 (fSlc (fVar 1) (oS (fOp oAdd (fC (.int 1)) (fCB oIntU (rC (fVar 4) rN)))) oN)) (sSeq (sAsg 6 (fOp oSub (fCB oLen (rC (fVar 1) rN)) (fCB oLen (rC (fVar 5) rN)))) (sSeq (sIf (tB (fOp (oEq id) (fVar 5) (fLst aN))) (sRet (fTup (aC (fC (.str "kind")) (aC (fLst (aC (fOp oIx (fOp oIx (fVar 3) (fC (.int 0))) (fC (.int 0))) (aC (fOp oIx (fOp oIx (fVar 3) (fC (.int 0))) (fC (.int 1))) (aC (fVar 4) (aC (fC .non) aN))))) aN)))) sN) (sSeq (sIf (tB (fOp (oEq not) (fOp oIx (fVar 5) (fC (.int 0))) (fC (.str "rests")))) (sRet (fTup (aC (fC (.str "wrong")) (aC (fVar 6) aN)))) sN) (sSeq (sIf (tO (tB (fOp (oEq id) (fCB oLen (rC (fVar 5) rN)) (fC (.int 1)))) (tN (tB (fCX F_is_rest 1 0 [.a 0] [] (cD (fOp oIx (fVar 5) (fC (.int 1))) cN) cN)))) (sRet (fTup (aC (fC (.str "wrong")) (aC (fOp oAdd (fVar 6) (fC (.int 1))) aN)))) sN) (sSeq (sIf (tB (fOp oGt (fCB oLen (rC (fVar 5) rN)) (fC (.int 2)))) (sRet (fTup (aC (fC (.str "wrong")) (aC (fOp oAdd (fVar 6) (fC (.int 2))) aN)))) sN) (sRet (fTup (aC (fC (.str "kind")) (aC (fLst (aC (fOp oIx (fOp oIx (fVar 3) (fC (.int 0))) (fC (.int 0))) (aC (fOp oIx (fOp oIx (fVar 3) (fC (.int 0))) (fC (.int 1))) (aC (fVar 4) (aC (fCB oIntU (rC (fOp oIx (fVar 5) (fC (.int 1))) rN)) aN))))) aN))))))))))))))))
def F_due : FD := runD 9 1 f_due
def f_Kind_lends : FS := (sRet (fOp oIx (fFd ["Kind"] "row" (fVar 0)) (fC (.int 0))))
def F_Kind_lends : FD := runD 1 1 f_Kind_lends
def f_Kind_lets : FS := (sRet (fOp oIx (fFd ["Kind"] "row" (fVar 0)) (fC (.int 1))))
def F_Kind_lets : FD := runD 1 1 f_Kind_lets
def f_Kind_rests : FS := (sRet (fOp oIx (fFd ["Kind"] "row" (fVar 0)) (fC (.int 3))))
def F_Kind_rests : FD := runD 1 1 f_Kind_rests
def f_Kind_turns : FS := (sRet (fOp oIx (fFd ["Kind"] "row" (fVar 0)) (fC (.int 2))))
def F_Kind_turns : FD := runD 1 1 f_Kind_turns
def f_told (lam : List M → OtD) : FS := (sSeq (sAsg 1 (fC .non)) (sSeq (sTry cm_MeetError_NoStation_TooMany 2 1 (sSeq (sAsg 3 (fAct lam)) (sRet (fTup (aC (fC (.str "kind")) (aC (fLst (aC (fPX "Kind" F_Kind_lends (fVar 3)) (aC (fPX "Kind" F_Kind_lets (fVar 3)) (aC (fPX "Kind" F_Kind_turns (fVar 3)) (aC (fPX "Kind" F_Kind_rests (fVar 3)) aN))))) aN)))))) (sSeq (sIf (tO (tN (tB (fUn (oIs tb_InvalidText) (fVar 1)))) (tO (tN (tB (fUn (oIs tb_MeetError) (fVar 1)))) (tB (fOp (oEq not) (fUn (oFx excs "line") (fVar 1)) (fC (.int 0)))))) (sRet (fTup (aC (fC (.str "odd")) (aC (fC .non) aN)))) sN) (sSeq (sIf (tB (fUn (oIs tb_T_Clash_InvalidKind_InvalidPart_NoStation_TooMany) (fVar 1))) (sRet (fTup (aC (fC (.str "odd")) (aC (fC .non) aN)))) sN) (sRet (fTup (aC (fC (.str "wrong")) (aC (fUn (oFx excs "word") (fVar 1)) aN))))))))
def F_told : (List M → OtD) → FD := fun lam => runD 4 1 (f_told lam)
def f_read_right : FS := (sSeq (sAsg 1 (fCB oRepr (rC (fCX F_due 1 0 [.a 0] [] (cD (fVar 0) cN) cN) rN))) (sSeq (sIf (tB (fOp (oEq not) (fCB oRepr (rC (fLam F_told (fCM F_Kind_read 2 0 [.a 0] (cD (fVar 0) cN) cN) cN) rN)) (fVar 1))) (sRet (fC (.bl false))) sN) (sRet (fOp (oEq id) (fCB oRepr (rC (fLam F_told (fCM F_Kind_read 1 1 [.k 0] cN (cD (fVar 0) cN)) cN) rN)) (fVar 1)))))
def F_read_right : FD := runD 2 1 f_read_right
def f_Kind_eq : FS := (sRet (fAnd (fUn (oIs tb_Kind) (fVar 1)) (fOp (oEq id) (fFd ["Kind"] "row" (fVar 0)) (fFd ["Kind"] "row" (fVar 1)))))
def F_Kind_eq : FD := runD 2 2 f_Kind_eq
def f_Kind_str : FS := (sSeq (sAsg 1 (fIf (tB (fPX "Kind" F_Kind_turns (fVar 0))) (fC (.str " turns")) (fC (.str "")))) (sSeq (sAsg 2 (fIf (tB (fOp (oIsN not) (fPX "Kind" F_Kind_rests (fVar 0)) (fC .non))) (fJs [(fC (.str " rests ")), (fFmt (fPX "Kind" F_Kind_rests (fVar 0)))] Str.empty) (fC (.str "")))) (sRet (fJs [(fFmt (fPX "Kind" F_Kind_lends (fVar 0))), (fC (.str "/")), (fFmt (fPX "Kind" F_Kind_lets (fVar 0))), (fFmt (fVar 1)), (fFmt (fVar 2))] Str.empty))))
def F_Kind_str : FD := runD 3 1 f_Kind_str
def f_Kind_repr : FS := (sRet (fJs [(fC (.str "Kind(")), (fOwn1 "Kind" F_Kind_str oFmtL (fVar 0)), (fC (.str ")"))] Str.empty))
def F_Kind_repr : FD := runD 1 1 f_Kind_repr
def f_shown_right : FS := (sSeq (sAsg 1 (fSM oJoin (fC (.str " ")) (rC (fVar 0) rN))) (sSeq (sAsg 2 (fCX F_due 1 0 [.a 0] [] (cD (fVar 1) cN) cN)) (sSeq (sAsg 3 (fOp oIx (fVar 2) (fC (.int 1)))) (sSeq (sAsg 4 (fFz (fKX "Kind" F_Kind_init 3 2 [.a 0, .a 1, .a 2, .k 0, .k 1] [] (cD (fOp oIx (fVar 3) (fC (.int 0))) (cD (fOp oIx (fVar 3) (fC (.int 1))) cN)) (cD (fOp oIx (fVar 3) (fC (.int 2))) (cD (fOp oIx (fVar 3) (fC (.int 3))) cN))))) (sSeq (sIf (tB (fOp (oEq not) (fCB oRepr (rC (fLst (aC (fOwn1 "Kind" F_Kind_str oStr (fVar 4)) (aC (fOwn1 "Kind" F_Kind_repr oRepr (fVar 4)) (aC (fOwn1 "Kind" F_Kind_str oStr (fVar 4)) aN)))) rN)) (fCB oRepr (rC (fLst (aC (fVar 1) (aC (fOp oAdd (fOp oAdd (fC (.str "Kind(")) (fVar 1)) (fC (.str ")"))) (aC (fVar 1) aN)))) rN)))) (sRet (fC (.bl false))) sN) (sRet (fAnd (fEqX "Kind" nf_Kind F_Kind_eq (oEq id) (fCM F_Kind_read 2 0 [.a 0] (cD (fOwn1 "Kind" F_Kind_str oStr (fVar 4)) cN) cN) (fVar 4)) (fEqX "Kind" nf_Kind F_Kind_eq (oEq id) (fCM F_Kind_read 2 0 [.a 0] (cD (fVar 1) cN) cN) (fVar 4)))))))))
def F_shown_right : FD := runD 5 1 f_shown_right
def f_words : FS := (sSeq (sAsg 1 (fLst (aC (fOp oAdd (fOp oAdd (fOp oIx (fLst (aC (fC (.str "one")) (aC (fC (.str "far")) (aC (fC (.str "both")) aN)))) (fCX F_take 2 0 [.a 0, .a 1] [] (cR (fVar 0) (cD (fC (.int 3)) cN)) cN)) (fC (.str "/"))) (fOp oIx (fLst (aC (fC (.str "any")) (aC (fC (.str "far")) (aC (fC (.str "both")) aN)))) (fCX F_take 2 0 [.a 0, .a 1] [] (cR (fVar 0) (cD (fC (.int 3)) cN)) cN))) aN))) (sSeq (sIf (tB (fOp (oEq id) (fCX F_take 2 0 [.a 0, .a 1] [] (cR (fVar 0) (cD (fC (.int 2)) cN)) cN) (fC (.int 0)))) (sDrop (fApp 1 (fC (.str "turns")))) sN) (sSeq (sIf (tB (fOp (oEq id) (fCX F_take 2 0 [.a 0, .a 1] [] (cR (fVar 0) (cD (fC (.int 2)) cN)) cN) (fC (.int 0)))) (sSeq (sAsg 2 (fOp oIx (fLst (aC (fC (.int 2)) (aC (fC (.int 10)) (aC (fOp oPow (fC (.int 10)) (fC (.int 6))) (aC (fOp oAdd (fC (.int 2)) (fCX F_take 2 0 [.a 0, .a 1] [] (cR (fVar 0) (cD (fOp oSub (fOp oPow (fC (.int 10)) (fC (.int 6))) (fC (.int 1))) cN)) cN)) aN))))) (fCX F_take 2 0 [.a 0, .a 1] [] (cR (fVar 0) (cD (fC (.int 4)) cN)) cN))) (sAsg 1 (fOp oAdd (fVar 1) (fLst (aC (fC (.str "rests")) (aC (fCB oStr (rC (fVar 2) rN)) aN)))))) sN) (sRet (fVar 1)))))
def F_words : FD := runD 3 1 f_words
def f_law : FS := (sSeq (sFor (iRng rng1 (rC (fC (.int 8)) rN)) (gN 2) (sSeq (sAsg 3 (fCX F_words 1 0 [.a 0] [] (cR (fVar 1) cN) cN)) (sSeq (sIf (tO (tN (tB (fCX F_shown_right 1 0 [.a 0] [] (cD (fVar 3) cN) cN))) (tN (tB (fCX F_read_right 1 0 [.a 0] [] (cD (fSM oJoin (fC (.str " ")) (rC (fVar 3) rN)) cN) cN)))) (sRet (fC (.bl false))) sN) (sSeq (sAsg 4 (fCX F_bent 2 0 [.a 0, .a 1] [] (cR (fVar 1) (cD (fVar 3) cN)) cN)) (sSeq (sIf (tO (tN (tB (fCX F_read_right 1 0 [.a 0] [] (cD (fSM oJoin (fC (.str " ")) (rC (fVar 4) rN)) cN) cN))) (tN (tB (fCX F_read_right 1 0 [.a 0] [] (cD (fSM oJoin (fC (.str " ")) (rC (fCX F_bent 2 0 [.a 0, .a 1] [] (cR (fVar 1) (cD (fVar 4) cN)) cN) rN)) cN) cN)))) (sRet (fC (.bl false))) sN) (sSeq (sAsg 5 (fOp oIx (fLst (aC (fC .non) (aC (fC (.bl true)) (aC (fC (.int 0)) (aC (fLst aN) (aC fD0 (aC (fTup (aC (fC (.str "one/any")) aN)) (aC (fLst (aC (fC (.str "one/any")) aN)) (aC (fOp oPow (fC (.int 10)) (fC (.int 59))) aN))))))))) (fCX F_take 2 0 [.a 0, .a 1] [] (cR (fVar 1) (cD (fC (.int 8)) cN)) cN))) (sIf (tB (fOp (oEq not) (fLam F_told (fCM F_Kind_read 2 0 [.a 0] (cD (fVar 5) cN) cN) cN) (fTup (aC (fC (.str "wrong")) (aC (fC (.int 0)) aN))))) (sRet (fC (.bl false))) sN))))))) (sSeq (sIf (tO (tN (tB (fCX F_read_right 1 0 [.a 0] [] (cD (fC (.str "one/any rests 3 turns")) cN) cN))) (tN (tB (fCX F_read_right 1 0 [.a 0] [] (cD (fC (.str "one/any turns rests 2 ")) cN) cN)))) (sRet (fC (.bl false))) sN) (sRet (fAnd (fCX F_read_right 1 0 [.a 0] [] (cD (fC (.str "")) cN) cN) (fCX F_read_right 1 0 [.a 0] [] (cD (fC (.str "one/any rests")) cN) cN)))))
end K03

set_option maxHeartbeats 4000000
/-! the law's defs; what of the head is leant on -/
namespace K03
open PySem PySem.Spec PyProof.Rows L2 LamX Sd
def top (i : Nat) : Stmt := PySem.Challenge.pw_meetbehind_k03_kinds_as_texts.main.body.getD i (.Pass ⟨0, 0, 0, 0⟩)
abbrev s_is_number : Stmt := top 9
abbrev N_is_number : List Str := ["value", "least", "most"]
theorem sc_is_number : FnScope N_is_number ["value", "least", "most"] (defScope s_is_number) := ⟨rfl, rfl, rfl, by decide +kernel, rfl, by decide +kernel, by decide +kernel⟩
abbrev s_is_one_of : Stmt := top 24
abbrev N_is_one_of : List Str := ["value", "words"]
theorem sc_is_one_of : FnScope N_is_one_of ["value", "words"] (defScope s_is_one_of) := ⟨rfl, rfl, rfl, by decide +kernel, rfl, by decide +kernel, by decide +kernel⟩
abbrev s_Kind_init : Stmt := inClass (top 23) 2
abbrev N_Kind_init : List Str := ["self", "lends", "lets", "turns", "rests", "rests_right", "truths", "wrong", "place"]
theorem sc_Kind_init : FnScope N_Kind_init ["self", "lends", "lets", "turns", "rests"] (defScope s_Kind_init) := ⟨rfl, rfl, rfl, by decide +kernel, rfl, by decide +kernel, by decide +kernel⟩
abbrev s_number_in : Stmt := top 12
abbrev N_number_in : List Str := ["word", "least", "most", "number", "sign"]
theorem sc_number_in : FnScope N_number_in ["word", "least", "most"] (defScope s_number_in) := ⟨rfl, rfl, rfl, by decide +kernel, rfl, by decide +kernel, by decide +kernel⟩
abbrev s_parts_in : Stmt := top 18
abbrev N_parts_in : List Str := ["words", "line", "begin", "turns", "at", "rests", "lends", "stroke", "lets"]
theorem sc_parts_in : FnScope N_parts_in ["words", "line", "begin"] (defScope s_parts_in) := ⟨rfl, rfl, rfl, by decide +kernel, rfl, by decide +kernel, by decide +kernel⟩
abbrev s_Kind_read : Stmt := inClass (top 23) 3
abbrev N_Kind_read : List Str := ["cls", "text", "lends", "lets", "turns", "rests"]
theorem sc_Kind_read : FnScope N_Kind_read ["cls", "text"] (defScope s_Kind_read) := ⟨rfl, rfl, rfl, by decide +kernel, rfl, by decide +kernel, by decide +kernel⟩
abbrev s_take : Stmt := top 27
abbrev N_take : List Str := ["_law_hand", "_law_bound", "_law_at", "_law_piece", "_law_mixed", "_law_digit", "_law_great"]
theorem sc_take : FnScope N_take ["_law_hand", "_law_bound"] (defScope s_take) := ⟨rfl, rfl, rfl, by decide +kernel, rfl, by decide +kernel, by decide +kernel⟩
abbrev s_other : Stmt := top 29
abbrev N_other : List Str := ["_law_hand", "_law_some"]
theorem sc_other : FnScope N_other ["_law_hand"] (defScope s_other) := ⟨rfl, rfl, rfl, by decide +kernel, rfl, by decide +kernel, by decide +kernel⟩
abbrev s_bent : Stmt := top 30
abbrev N_bent : List Str := ["_law_hand", "_law_words_here", "_law_pick", "_law_at"]
theorem sc_bent : FnScope N_bent ["_law_hand", "_law_words_here"] (defScope s_bent) := ⟨rfl, rfl, rfl, by decide +kernel, rfl, by decide +kernel, by decide +kernel⟩
abbrev s_is_rest : Stmt := top 31
abbrev N_is_rest : List Str := ["_law_written", "_law_sign"]
theorem sc_is_rest : FnScope N_is_rest ["_law_written"] (defScope s_is_rest) := ⟨rfl, rfl, rfl, by decide +kernel, rfl, by decide +kernel, by decide +kernel⟩
abbrev s_due : Stmt := top 32
abbrev N_due : List Str := ["_law_shown", "_law_words_here", "_law_pairs", "_law_first", "_law_is_turning", "_law_behind", "_law_begin_here", "_law_pair", "_law_lend"]
theorem sc_due : FnScope N_due ["_law_shown"] (defScope s_due) := ⟨rfl, rfl, rfl, by decide +kernel, rfl, by decide +kernel, by decide +kernel⟩
abbrev s_Kind_lends : Stmt := inClass (top 23) 4
abbrev N_Kind_lends : List Str := ["self"]
theorem sc_Kind_lends : FnScope N_Kind_lends ["self"] (defScope s_Kind_lends) := ⟨rfl, rfl, rfl, by decide +kernel, rfl, by decide +kernel, by decide +kernel⟩
abbrev s_Kind_lets : Stmt := inClass (top 23) 5
abbrev N_Kind_lets : List Str := ["self"]
theorem sc_Kind_lets : FnScope N_Kind_lets ["self"] (defScope s_Kind_lets) := ⟨rfl, rfl, rfl, by decide +kernel, rfl, by decide +kernel, by decide +kernel⟩
abbrev s_Kind_rests : Stmt := inClass (top 23) 7
abbrev N_Kind_rests : List Str := ["self"]
theorem sc_Kind_rests : FnScope N_Kind_rests ["self"] (defScope s_Kind_rests) := ⟨rfl, rfl, rfl, by decide +kernel, rfl, by decide +kernel, by decide +kernel⟩
abbrev s_Kind_turns : Stmt := inClass (top 23) 6
abbrev N_Kind_turns : List Str := ["self"]
theorem sc_Kind_turns : FnScope N_Kind_turns ["self"] (defScope s_Kind_turns) := ⟨rfl, rfl, rfl, by decide +kernel, rfl, by decide +kernel, by decide +kernel⟩
abbrev s_told : Stmt := top 33
abbrev N_told : List Str := ["_law_ask", "_law_caught", "error", "_law_made"]
theorem sc_told : FnScope N_told ["_law_ask"] (defScope s_told) := ⟨rfl, rfl, rfl, by decide +kernel, rfl, by decide +kernel, by decide +kernel⟩
abbrev s_read_right : Stmt := top 34
abbrev N_read_right : List Str := ["_law_shown", "_law_due_here"]
theorem sc_read_right : FnScope N_read_right ["_law_shown"] (defScope s_read_right) := ⟨rfl, rfl, rfl, by decide +kernel, rfl, by decide +kernel, by decide +kernel⟩
abbrev s_Kind_eq : Stmt := inClass (top 23) 11
abbrev N_Kind_eq : List Str := ["self", "other"]
theorem sc_Kind_eq : FnScope N_Kind_eq ["self", "other"] (defScope s_Kind_eq) := ⟨rfl, rfl, rfl, by decide +kernel, rfl, by decide +kernel, by decide +kernel⟩
abbrev s_Kind_str : Stmt := inClass (top 23) 12
abbrev N_Kind_str : List Str := ["self", "turns", "rests"]
theorem sc_Kind_str : FnScope N_Kind_str ["self"] (defScope s_Kind_str) := ⟨rfl, rfl, rfl, by decide +kernel, rfl, by decide +kernel, by decide +kernel⟩
abbrev s_Kind_repr : Stmt := inClass (top 23) 13
abbrev N_Kind_repr : List Str := ["self"]
theorem sc_Kind_repr : FnScope N_Kind_repr ["self"] (defScope s_Kind_repr) := ⟨rfl, rfl, rfl, by decide +kernel, rfl, by decide +kernel, by decide +kernel⟩
abbrev s_shown_right : Stmt := top 35
abbrev N_shown_right : List Str := ["_law_words_here", "_law_shown", "_law_told_here", "_law_parts", "_law_made"]
theorem sc_shown_right : FnScope N_shown_right ["_law_words_here"] (defScope s_shown_right) := ⟨rfl, rfl, rfl, by decide +kernel, rfl, by decide +kernel, by decide +kernel⟩
abbrev s_words : Stmt := top 28
abbrev N_words : List Str := ["_law_hand", "_law_found", "_law_rest"]
theorem sc_words : FnScope N_words ["_law_hand"] (defScope s_words) := ⟨rfl, rfl, rfl, by decide +kernel, rfl, by decide +kernel, by decide +kernel⟩
abbrev s_law : Stmt := top 36
abbrev N_law : List Str := ["_law_script", "_law_hand", "_law_turn", "_law_words_here", "_law_bent_here", "_law_odd"]
theorem sc_law : FnScope N_law ["_law_script"] (defScope s_law) := ⟨rfl, rfl, rfl, by decide +kernel, rfl, by decide +kernel, by decide +kernel⟩
abbrev s_begin : Stmt := top 26
abbrev N_begin : List Str := ["_law_script"]
theorem sc_begin : FnScope N_begin ["_law_script"] (defScope s_begin) := ⟨rfl, rfl, rfl, by decide +kernel, rfl, by decide +kernel, by decide +kernel⟩
/-- the tables of code of the defs that make lambdas -/
abbrev tbx (pt : Str → Addr) : List (Addr × Str) := [(pt "law", "law.<locals>.<lambda>"), (pt "_law_read_right", "_law_read_right.<locals>.<lambda>")]
/-- where things stand: classes, defs, records, tables of code, code -/
structure Bx (P : Program) (w : World) (K : PySem.W.Frag) (mg : Str → Option Value) (base : Heap) (ca fa pa pt pc : Str → Addr) : Prop where
  n_abs : mg "abs" = none
  n_all : mg "all" = none
  n_bool : mg "bool" = none
  n_int : mg "int" = none
  n_isinstance : mg "isinstance" = none
  n_len : mg "len" = none
  n_list : mg "list" = none
  n_range : mg "range" = none
  n_repr : mg "repr" = none
  n_str : mg "str" = none
  i_LEAST_REST : ∃ t, mg "LEAST_REST" = some (.int 2 t)
  i_MOST_REST : ∃ t, mg "MOST_REST" = some (.int 1000000 t)
  s_FIGURES : ∃ t, mg "FIGURES" = some (.str "0123456789" t)
  g_MeetError : mg "MeetError" = some (.ref (ca "MeetError"))
  g_InvalidKind : mg "InvalidKind" = some (.ref (ca "InvalidKind"))
  g_InvalidPart : mg "InvalidPart" = some (.ref (ca "InvalidPart"))
  g_Clash : mg "Clash" = some (.ref (ca "Clash"))
  g_InvalidText : mg "InvalidText" = some (.ref (ca "InvalidText"))
  g_NoStation : mg "NoStation" = some (.ref (ca "NoStation"))
  g_TooMany : mg "TooMany" = some (.ref (ca "TooMany"))
  g_Kind : mg "Kind" = some (.ref (ca "Kind"))
  g_is_number : mg "is_number" = some (.ref (fa "is_number"))
  g_is_one_of : mg "is_one_of" = some (.ref (fa "is_one_of"))
  g_number_in : mg "number_in" = some (.ref (fa "number_in"))
  g_parts_in : mg "parts_in" = some (.ref (fa "parts_in"))
  g__law_take : mg "_law_take" = some (.ref (fa "_law_take"))
  g__law_other : mg "_law_other" = some (.ref (fa "_law_other"))
  g__law_bent : mg "_law_bent" = some (.ref (fa "_law_bent"))
  g__law_is_rest : mg "_law_is_rest" = some (.ref (fa "_law_is_rest"))
  g__law_due : mg "_law_due" = some (.ref (fa "_law_due"))
  g__law_told : mg "_law_told" = some (.ref (fa "_law_told"))
  g__law_read_right : mg "_law_read_right" = some (.ref (fa "_law_read_right"))
  g__law_shown_right : mg "_law_shown_right" = some (.ref (fa "_law_shown_right"))
  g__law_words : mg "_law_words" = some (.ref (fa "_law_words"))
  g_law : mg "law" = some (.ref (fa "law"))
  g__law_begin : mg "_law_begin" = some (.ref (fa "_law_begin"))
  sys : ∃ o, K.lookup sysModules = some o
  x_InvalidKind : MkX P w K mg base (ca "InvalidKind") false ["place"]
  r_InvalidKind : ∀ {X : Cx}, X.K = K → Raises X (.ref (ca "InvalidKind"))
  x_InvalidText : MkX P w K mg base (ca "InvalidText") false ["line", "word"]
  r_InvalidText : ∀ {X : Cx}, X.K = K → Raises X (.ref (ca "InvalidText"))
  cl_Kind : Cls K (ca "Kind")
  mk_Kind : Mk K (ca "Kind") (fa "Kind.__init__")
  cr_Kind : ClX.CRead K (ca "Kind") (.type "type")
  ow_Kind_str : Own K (ca "Kind") "__str__" (fa "Kind.__str__")
  ow_Kind_repr : Own K (ca "Kind") "__repr__" (fa "Kind.__repr__")
  ow_Kind_eq : Own K (ca "Kind") "__eq__" (fa "Kind.__eq__")
  fm_Kind : PySem.W.findIn K (.ref (ca "Kind")) "__format__" = some (some (.builtin "object.__format__"))
  ob_Kind : PySem.W.mroIn K (ca "Kind") (.type "object") = some true
  eo_Kind : EqOk K ca "Kind" nf_Kind
  cm_read : ClX.CMet K (ca "Kind") (.type "type") "read" (pa "Kind.read") (fa "Kind.read")
  cv_LENDS : ClX.CVal K (ca "Kind") (.type "type") "LENDS" (.ref (pa "Kind.LENDS")) (.ref (pa "Kind.LENDS"))
  co_LENDS : Con K (ca "Kind") "LENDS" (.ref (pa "Kind.LENDS")) (.ref (pa "Kind.LENDS"))
  at_LENDS : ∀ {T : Tab}, T.K = K → ∀ H, At T H (.ref (pa "Kind.LENDS")) d_LENDS
  cv_LETS : ClX.CVal K (ca "Kind") (.type "type") "LETS" (.ref (pa "Kind.LETS")) (.ref (pa "Kind.LETS"))
  co_LETS : Con K (ca "Kind") "LETS" (.ref (pa "Kind.LETS")) (.ref (pa "Kind.LETS"))
  at_LETS : ∀ {T : Tab}, T.K = K → ∀ H, At T H (.ref (pa "Kind.LETS")) d_LETS
  p_lends : PropOf K (ca "Kind") "lends" (pa "Kind.lends") (fa "Kind.lends")
  p_lets : PropOf K (ca "Kind") "lets" (pa "Kind.lets") (fa "Kind.lets")
  p_turns : PropOf K (ca "Kind") "turns" (pa "Kind.turns") (fa "Kind.turns")
  p_rests : PropOf K (ca "Kind") "rests" (pa "Kind.rests") (fa "Kind.rests")
  na_row : ∀ c, (["Kind"] : List Str).contains c = true → Cls K (ca c) ∧ NoAttr K (ca c) "row"
  fx_line : ∀ c, excs.contains c = true → XfC K (ca c) ∧ PySem.W.findIn K (.ref (ca c)) "line" = some none
  fx_word : ∀ c, excs.contains c = true → XfC K (ca c) ∧ PySem.W.findIn K (.ref (ca c)) "word" = some none
  is_InvalidText : IsOk K ca tb_InvalidText [.ref (ca "InvalidText")]
  is_Kind : IsOk K ca tb_Kind [.ref (ca "Kind")]
  is_MeetError : IsOk K ca tb_MeetError [.ref (ca "MeetError")]
  is_T_Clash_InvalidKind_InvalidPart_NoStation_TooMany : IsOk K ca tb_T_Clash_InvalidKind_InvalidPart_NoStation_TooMany [.ref (ca "Clash"), .ref (ca "InvalidKind"), .ref (ca "InvalidPart"), .ref (ca "NoStation"), .ref (ca "TooMany")]
  is_bool : IsOk K ca tb_bool [.type "bool"]
  is_int : IsOk K ca tb_int [.type "int"]
  is_str : IsOk K ca tb_str [.type "str"]
  ct_MeetError_NoStation_TooMany : ∀ c v, cm_MeetError_NoStation_TooMany c = some v → PySem.W.exmAny K (.ref (ca c)) [.ref (ca "MeetError"), .ref (ca "NoStation"), .ref (ca "TooMany")] = some v
  F_is_number : ∃ fd, FunD K "is_number" "is_number" (defArgs s_is_number) (defBody s_is_number) (defScope s_is_number) [] [] (fa "is_number") fd
  F_is_one_of : ∃ fd, FunD K "is_one_of" "is_one_of" (defArgs s_is_one_of) (defBody s_is_one_of) (defScope s_is_one_of) [] [] (fa "is_one_of") fd
  F_Kind_init : ∃ fd, FunD K "__init__" "Kind.__init__" (defArgs s_Kind_init) (defBody s_Kind_init) (defScope s_Kind_init) [] [("turns", .bl false), ("rests", .non)] (fa "Kind.__init__") fd
  F_number_in : ∃ fd, FunD K "number_in" "number_in" (defArgs s_number_in) (defBody s_number_in) (defScope s_number_in) [] [] (fa "number_in") fd
  F_parts_in : ∃ fd, FunD K "parts_in" "parts_in" (defArgs s_parts_in) (defBody s_parts_in) (defScope s_parts_in) [] [] (fa "parts_in") fd
  F_Kind_read : ∃ fd, FunD K "read" "Kind.read" (defArgs s_Kind_read) (defBody s_Kind_read) (defScope s_Kind_read) [] [] (fa "Kind.read") fd
  F_take : ∃ fd, FunD K "_law_take" "_law_take" (defArgs s_take) (defBody s_take) (defScope s_take) [] [] (fa "_law_take") fd
  F_other : ∃ fd, FunD K "_law_other" "_law_other" (defArgs s_other) (defBody s_other) (defScope s_other) [] [] (fa "_law_other") fd
  F_bent : ∃ fd, FunD K "_law_bent" "_law_bent" (defArgs s_bent) (defBody s_bent) (defScope s_bent) [] [] (fa "_law_bent") fd
  F_is_rest : ∃ fd, FunD K "_law_is_rest" "_law_is_rest" (defArgs s_is_rest) (defBody s_is_rest) (defScope s_is_rest) [] [] (fa "_law_is_rest") fd
  F_due : ∃ fd, FunD K "_law_due" "_law_due" (defArgs s_due) (defBody s_due) (defScope s_due) [] [] (fa "_law_due") fd
  F_Kind_lends : ∃ fd, FunD K "lends" "Kind.lends" (defArgs s_Kind_lends) (defBody s_Kind_lends) (defScope s_Kind_lends) [] [] (fa "Kind.lends") fd
  F_Kind_lets : ∃ fd, FunD K "lets" "Kind.lets" (defArgs s_Kind_lets) (defBody s_Kind_lets) (defScope s_Kind_lets) [] [] (fa "Kind.lets") fd
  F_Kind_rests : ∃ fd, FunD K "rests" "Kind.rests" (defArgs s_Kind_rests) (defBody s_Kind_rests) (defScope s_Kind_rests) [] [] (fa "Kind.rests") fd
  F_Kind_turns : ∃ fd, FunD K "turns" "Kind.turns" (defArgs s_Kind_turns) (defBody s_Kind_turns) (defScope s_Kind_turns) [] [] (fa "Kind.turns") fd
  F_told : ∃ fd, FunD K "_law_told" "_law_told" (defArgs s_told) (defBody s_told) (defScope s_told) [] [] (fa "_law_told") fd
  F_read_right : ∃ fd, FunD K "_law_read_right" "_law_read_right" (defArgs s_read_right) (defBody s_read_right) (defScope s_read_right) [] [] (fa "_law_read_right") fd ∧ fd.code = .ref (pc "_law_read_right")
  F_Kind_eq : ∃ fd, FunD K "__eq__" "Kind.__eq__" (defArgs s_Kind_eq) (defBody s_Kind_eq) (defScope s_Kind_eq) [] [] (fa "Kind.__eq__") fd
  F_Kind_str : ∃ fd, FunD K "__str__" "Kind.__str__" (defArgs s_Kind_str) (defBody s_Kind_str) (defScope s_Kind_str) [] [] (fa "Kind.__str__") fd
  F_Kind_repr : ∃ fd, FunD K "__repr__" "Kind.__repr__" (defArgs s_Kind_repr) (defBody s_Kind_repr) (defScope s_Kind_repr) [] [] (fa "Kind.__repr__") fd
  F_shown_right : ∃ fd, FunD K "_law_shown_right" "_law_shown_right" (defArgs s_shown_right) (defBody s_shown_right) (defScope s_shown_right) [] [] (fa "_law_shown_right") fd
  F_words : ∃ fd, FunD K "_law_words" "_law_words" (defArgs s_words) (defBody s_words) (defScope s_words) [] [] (fa "_law_words") fd
  F_law : ∃ fd, FunD K "law" "law" (defArgs s_law) (defBody s_law) (defScope s_law) [] [] (fa "law") fd ∧ fd.code = .ref (pc "law")
  F_begin : ∃ fd, FunD K "_law_begin" "_law_begin" (defArgs s_begin) (defBody s_begin) (defScope s_begin) [] [] (fa "_law_begin") fd
  t_law : LamX.TabB base mg (pc "law") (pt "law")
  t_read_right : LamX.TabB base mg (pc "_law_read_right") (pt "_law_read_right")
  ne_law_read_right : pt "law" ≠ pt "_law_read_right"
end K03

set_option maxHeartbeats 4000000
/-! the walk -/
namespace K03
open PySem PySem.Spec PyProof.Rows L2 LamX Sd
section
variable {P : Program} {w : World} {K : PySem.W.Frag} {mg : Str → Option Value} {base : Heap} {ca fa pa pt pc : Str → Addr}
theorem it_law {K ca ms f0} {pt : Str → Addr} : Tab.isT ⟨K, ca, ms, tbx pt, f0⟩ (pt "law") := ⟨(pt "law", "law.<locals>.<lambda>"), .head _, rfl⟩
theorem it_read_right {K ca ms f0} {pt : Str → Addr} : Tab.isT ⟨K, ca, ms, tbx pt, f0⟩ (pt "_law_read_right") := ⟨(pt "_law_read_right", "_law_read_right.<locals>.<lambda>"), .tail _ (.head _), rfl⟩
theorem g_is_number (B : Bx P w K mg base ca fa pa pt pc) {fd : FuncData} (F : FunD K "is_number" "is_number" (defArgs s_is_number) (defBody s_is_number) (defScope s_is_number) [] [] (fa "is_number") fd) : FnG P w K mg base (L2.CX P w) 2 (fa "is_number") fd ["value", "least", "most"] (SpA K ca (tbx pt) (RF F_is_number)) := by
  have S := sc_is_number
  exact F.okG (k := 1) S (fun vs H Q E h => runD_len h) (fun cdv A outer s H vs Q E hr hG h => bodyP (tb := tbx pt) (N := N_is_number) (m := 3) (b := f_is_number) (fun E2 => (L2.pss_one (L2.ps_ret (L2.pe_and (L2.pe_callB (L2.call_isU (K := K) rfl) rfl B.n_isinstance PyProof.Rows.boot_isinstance (L2.pa_cons (L2.pv 0) (L2.pa_cons (L2.pe_bltn (v := .ty "int") rfl B.n_int (by decide +kernel) rfl) L2.pa_nil))) (L2.pe_and (L2.pe_not (L2.pe_callB (L2.call_isU (K := K) rfl) rfl B.n_isinstance PyProof.Rows.boot_isinstance (L2.pa_cons (L2.pv 0) (L2.pa_cons (L2.pe_bltn (v := .ty "bool") rfl B.n_bool (by decide +kernel) rfl) L2.pa_nil)))) (L2.pe_one (L2.pe_chain L2.op_le L2.op_le (L2.pv 1) (L2.pv 0) (L2.pv 2)))))))) (fun ms f0 hz C E X lk => ((qs_ret (q_and (q_is1 (.ty "int" : ClsV _ _) B.is_int (q_v 0)) (q_and (q_not (q_is1 (.ty "bool" : ClsV _ _) B.is_bool (q_v 0))) (q_ch (ga := (fun i j => decide (i ≤ j))) (gb := (fun i j => decide (i ≤ j))) (q_v 1) (q_v 0) (q_v 2)))))).z) h)
theorem c_is_number_3 (B : Bx P w K mg base ca fa pa pt pc) : FnX P w K mg base 2 (fa "is_number") 3 [] [.a 0, .a 1, .a 2] [] (SpA K ca (tbx pt) (RF F_is_number)) := by
  obtain ⟨fd, F⟩ := B.F_is_number
  exact ⟨⟨fd, ["value", "least", "most"], g_is_number B F, kb_all F fun _ _ _ _ _ _ us ws l1 l2 => match us, ws, l1, l2 with | [_, _, _], [], _, _ => rfl⟩, F.kp⟩
theorem g_is_one_of (B : Bx P w K mg base ca fa pa pt pc) {fd : FuncData} (F : FunD K "is_one_of" "is_one_of" (defArgs s_is_one_of) (defBody s_is_one_of) (defScope s_is_one_of) [] [] (fa "is_one_of") fd) : FnG P w K mg base (L2.CX P w) 2 (fa "is_one_of") fd ["value", "words"] (SpA K ca (tbx pt) (RF F_is_one_of)) := by
  have S := sc_is_one_of
  exact F.okG (k := 1) S (fun vs H Q E h => runD_len h) (fun cdv A outer s H vs Q E hr hG h => bodyP (tb := tbx pt) (N := N_is_one_of) (m := 2) (b := f_is_one_of) (fun E2 => (L2.pss_one (L2.ps_ret (L2.pe_and (L2.pe_callB (L2.call_isU (K := K) rfl) rfl B.n_isinstance PyProof.Rows.boot_isinstance (L2.pa_cons (L2.pv 0) (L2.pa_cons (L2.pe_bltn (v := .ty "str") rfl B.n_str (by decide +kernel) rfl) L2.pa_nil))) (L2.pe_one (L2.pe_cmpR (L2.op_inX (K := K) rfl) (L2.pv 0) (L2.pv 1) (by with_unfolding_all rfl))))))) (fun ms f0 hz C E X lk => ((qs_ret (q_and (q_is1 (.ty "str" : ClsV _ _) B.is_str (q_v 0)) (q_o o_inX c_fO (q_v 0) (q_v 1))))).z) h)
theorem c_is_one_of_2 (B : Bx P w K mg base ca fa pa pt pc) : FnX P w K mg base 2 (fa "is_one_of") 2 [] [.a 0, .a 1] [] (SpA K ca (tbx pt) (RF F_is_one_of)) := by
  obtain ⟨fd, F⟩ := B.F_is_one_of
  exact ⟨⟨fd, ["value", "words"], g_is_one_of B F, kb_all F fun _ _ _ _ _ _ us ws l1 l2 => match us, ws, l1, l2 with | [_, _], [], _, _ => rfl⟩, F.kp⟩
theorem g_Kind_init (B : Bx P w K mg base ca fa pa pt pc) {fd : FuncData} (F : FunD K "__init__" "Kind.__init__" (defArgs s_Kind_init) (defBody s_Kind_init) (defScope s_Kind_init) [] [("turns", .bl false), ("rests", .non)] (fa "Kind.__init__") fd) : FnG P w K mg base (L2.CX P w) 6 (fa "Kind.__init__") fd ["self", "lends", "lets", "turns", "rests"] (SpA K ca (tbx pt) (RF F_Kind_init)) := by
  have S := sc_Kind_init
  exact F.okG (k := 5) S (fun vs H Q E h => runD_len h) (fun cdv A outer s H vs Q E hr hG h => bodyP (tb := tbx pt) (N := N_Kind_init) (m := 5) (b := f_Kind_init) (fun E2 => (L2.pss_cons (L2.ps_set (i := 5) S.nd rfl (by first | exact Or.inl rfl | exact Or.inr rfl) (L2.pe_or (L2.pe_cmpR L2.op_isN1 (L2.pv 4) L2.pe_non (L2.nomark _)) (L2.pe_one (L2.pe_cX (c_is_number_3 B) (hr.mono (by decide)) hG (takes_of rfl rfl rfl rfl) rfl B.g_is_number (L2.pa_cons (L2.pv 4) (L2.pa_cons (L2.pe_gI B.i_LEAST_REST rfl) (L2.pa_cons (L2.pe_gI B.i_MOST_REST rfl) L2.pa_nil))) L2.pk_nil)))) (L2.pss_cons (L2.ps_set (i := 6) S.nd rfl (by first | exact Or.inl rfl | exact Or.inr rfl) (L2.pe_lst (L2.pa_cons (L2.pe_cX (c_is_one_of_2 B) (hr.mono (by decide)) hG (takes_of rfl rfl rfl rfl) rfl B.g_is_one_of (L2.pa_cons (L2.pv 1) (L2.pa_cons (L2.con_K (K := K) rfl (L2.pv 0)) L2.pa_nil)) L2.pk_nil) (L2.pa_cons (L2.pe_cX (c_is_one_of_2 B) (hr.mono (by decide)) hG (takes_of rfl rfl rfl rfl) rfl B.g_is_one_of (L2.pa_cons (L2.pv 2) (L2.pa_cons (L2.con_K (K := K) rfl (L2.pv 0)) L2.pa_nil)) L2.pk_nil) (L2.pa_cons (L2.pe_callB (L2.call_isU (K := K) rfl) rfl B.n_isinstance PyProof.Rows.boot_isinstance (L2.pa_cons (L2.pv 3) (L2.pa_cons (L2.pe_bltn (v := .ty "bool") rfl B.n_bool (by decide +kernel) rfl) L2.pa_nil))) (L2.pa_cons (L2.pv 5) L2.pa_nil)))))) (L2.pss_cons (L2.ps_setLc rfl S.nd (i := 7) rfl rfl (by rfl) (L2.pi_range1 rfl B.n_range (L2.pa_cons L2.pe_int L2.pa_nil)) (own := [("place", 8)]) (L2.blkOk_by (by kernel_rfl)) (fun _ _ _ _ _ => L2.pg_name (i := 8) S.nd rfl (by first | exact Or.inl rfl | exact Or.inr rfl)) (fun _ _ _ _ _ => L2.pts_one (L2.pt_not (L2.pt_val (L2.pe_ix (Sd.ix_K (K := K) rfl) (L2.pv 6) (L2.pv 8) fun _ _ => rfl)))) (fun _ _ _ _ _ => (L2.pv 8))) (L2.pss_cons (L2.ps_if (L2.pt_cmpR (Sd.op_neU (K := K) rfl hr.units) (L2.pv 7) (L2.pe_lst L2.pa_nil) (L2.nomark _)) (L2.pss_one (L2.ps_raiseX rfl (takes_of rfl rfl rfl rfl) B.x_InvalidKind (B.r_InvalidKind rfl) hr rfl B.g_InvalidKind (L2.pa_cons (L2.pe_ix (Sd.ix_K (K := K) rfl) (L2.pv 7) L2.pe_int fun _ _ => rfl) L2.pa_nil))) L2.pss_nil) (L2.pss_one (L2.setF_K (K := K) rfl (L2.pv 0) (L2.pe_tup (L2.pa_cons (L2.pv 1) (L2.pa_cons (L2.pv 2) (L2.pa_cons (L2.pv 3) (L2.pa_cons (L2.pv 4) L2.pa_nil)))))))))))) (fun ms f0 hz C E X lk => ((qs_seq (qs_asg (i := 5) (q_or (q_o o_isN c_isN (q_v 4) q_non) (q_cX hz lk (fun _ _ => .nil) (qc_d (q_v 4) (qc_d q_int (qc_d q_int qc_n))) qc_n))) (qs_seq (qs_asg (i := 6) (q_l (qa_c (q_cX hz lk (fun _ _ => .nil) (qc_d (q_v 1) (qc_d (q_con rfl B.cl_Kind B.co_LENDS (B.at_LENDS rfl) (q_v 0)) qc_n)) qc_n) (qa_c (q_cX hz lk (fun _ _ => .nil) (qc_d (q_v 2) (qc_d (q_con rfl B.cl_Kind B.co_LETS (B.at_LETS rfl) (q_v 0)) qc_n)) qc_n) (qa_c (q_is1 (.ty "bool" : ClsV _ _) B.is_bool (q_v 3)) (qa_c (q_v 5) qa_n)))))) (qs_seq (qs_asg (i := 7) (q_lc (qi_r1 (qr_c q_int qr_n)) (qg_n 8) (qt_n (qt_t (q_o o_ix c_ix (q_v 6) (q_v 8)))) (q_v 8) (by decide))) (qs_seq (qs_if (qt_t (q_o o_neU c_eq (q_v 7) (q_l qa_n))) (qs_raise (c := "InvalidKind") lk rfl (qa_c (q_o o_ix c_ix (q_v 7) q_int) qa_n)) qs_n) (qs_setF (cs := ["Kind"]) (i := 0) B.na_row (q_t (qa_c (q_v 1) (qa_c (q_v 2) (qa_c (q_v 3) (qa_c (q_v 4) qa_n))))))))))).z) h)
theorem c_Kind_init_3_turns_rests (B : Bx P w K mg base ca fa pa pt pc) : FnX P w K mg base 6 (fa "Kind.__init__") 3 ["turns", "rests"] [.a 0, .a 1, .a 2, .k 0, .k 1] [] (SpA K ca (tbx pt) (RF F_Kind_init)) := by
  obtain ⟨fd, F⟩ := B.F_Kind_init
  exact ⟨⟨fd, ["self", "lends", "lets", "turns", "rests"], g_Kind_init B F, kb_all F fun _ _ _ _ _ _ us ws l1 l2 => match us, ws, l1, l2 with | [_, _, _], [_, _], _, _ => rfl⟩, F.kp⟩
theorem g_number_in (B : Bx P w K mg base ca fa pa pt pc) {fd : FuncData} (F : FunD K "number_in" "number_in" (defArgs s_number_in) (defBody s_number_in) (defScope s_number_in) [] [] (fa "number_in") fd) : FnG P w K mg base (L2.CX P w) 2 (fa "number_in") fd ["word", "least", "most"] (SpA K ca (tbx pt) (RF F_number_in)) := by
  have S := sc_number_in
  exact F.okG (k := 1) S (fun vs H Q E h => runD_len h) (fun cdv A outer s H vs Q E hr hG h => bodyP (tb := tbx pt) (N := N_number_in) (m := 3) (b := f_number_in) (fun E2 => (L2.pss_cons (L2.ps_if (L2.PW.pt (L2.pw_or (L2.pt_not (L2.pt_chain L2.op_le L2.op_le L2.pe_int (L2.pe_callB (Sd.len_K (K := K) rfl) rfl B.n_len boot_len (L2.pa_cons (L2.pv 0) L2.pa_nil)) (L2.pe_callB (Sd.len_K (K := K) rfl) rfl B.n_len boot_len (L2.pa_cons (L2.pe_callTy L2.call_strU rfl B.n_str (by decide +kernel) (L2.pa_cons (L2.pv 2) L2.pa_nil)) L2.pa_nil)))) (L2.pw_or1 (L2.pt_not (L2.pt_val (L2.pe_callB (L2.all_K (K := K) rfl rfl) rfl B.n_all (by decide +kernel) (L2.pa_cons (L2.pe_lc rfl S.nd (L2.pi_str (L2.pv 0)) (own := [("sign", 4)]) (L2.blkOk_by (by kernel_rfl)) (fun _ _ _ _ _ => L2.pg_name (i := 4) S.nd rfl (by first | exact Or.inl rfl | exact Or.inr rfl)) (fun _ _ _ _ _ => L2.pts_nil) (fun _ _ _ _ _ => (L2.pe_cmpR (L2.op_inX (K := K) rfl) (L2.pv 4) (L2.pe_gS B.s_FIGURES rfl) (by with_unfolding_all rfl)))) L2.pa_nil))))))) (L2.pss_one (L2.ps_ret L2.pe_non)) L2.pss_nil) (L2.pss_cons (L2.ps_if (L2.PW.pt (L2.pw_and (L2.pt_cmpR (Sd.op_eqU (K := K) rfl hr.units) (L2.pe_ix (Sd.ix_K (K := K) rfl) (L2.pv 0) L2.pe_int fun _ _ => rfl) L2.pe_str (L2.nomark _)) (L2.pw_and1 (L2.pt_cmpR (Sd.op_neU (K := K) rfl hr.units) (L2.pv 0) L2.pe_str (L2.nomark _))))) (L2.pss_one (L2.ps_ret L2.pe_non)) L2.pss_nil) (L2.pss_cons (L2.ps_set (i := 3) S.nd rfl (by first | exact Or.inl rfl | exact Or.inr rfl) (L2.pe_callTy L2.call_intU rfl B.n_int (by decide +kernel) (L2.pa_cons (L2.pv 0) L2.pa_nil))) (L2.pss_one (L2.ps_ret (L2.pe_ifExp (L2.pt_chain L2.op_le L2.op_le (L2.pv 1) (L2.pv 3) (L2.pv 2)) (L2.pv 3) L2.pe_non))))))) (fun ms f0 hz C E X lk => ((qs_seq (qs_if (qt_or (qt_n (qt_t (q_ch (ga := (fun i j => decide (i ≤ j))) (gb := (fun i j => decide (i ≤ j))) q_int (q_cb o_len c_len (qr_c (q_v 0) qr_n)) (q_cb o_len c_len (qr_c (q_cb o_str c_fOL (qr_c (q_v 2) qr_n)) qr_n))))) (qt_n (qt_t (q_cb o_all c_fOL (qr_c (q_lc (qi_str (q_v 0)) (qg_n 4) qt_yes (q_o o_inX c_fO (q_v 4) q_str) (by decide)) qr_n))))) (qs_ret q_non) qs_n) (qs_seq (qs_if (qt_and (qt_t (q_o o_eqU c_eq (q_o o_ix c_ix (q_v 0) q_int) q_str)) (qt_t (q_o o_neU c_eq (q_v 0) q_str))) (qs_ret q_non) qs_n) (qs_seq (qs_asg (i := 3) (q_cb o_intU c_fOL (qr_c (q_v 0) qr_n))) (qs_ret (q_if (qt_t (q_ch (ga := (fun i j => decide (i ≤ j))) (gb := (fun i j => decide (i ≤ j))) (q_v 1) (q_v 3) (q_v 2))) (q_v 3) q_non)))))).z) h)
theorem c_number_in_3 (B : Bx P w K mg base ca fa pa pt pc) : FnX P w K mg base 2 (fa "number_in") 3 [] [.a 0, .a 1, .a 2] [] (SpA K ca (tbx pt) (RF F_number_in)) := by
  obtain ⟨fd, F⟩ := B.F_number_in
  exact ⟨⟨fd, ["word", "least", "most"], g_number_in B F, kb_all F fun _ _ _ _ _ _ us ws l1 l2 => match us, ws, l1, l2 with | [_, _, _], [], _, _ => rfl⟩, F.kp⟩
theorem g_parts_in (B : Bx P w K mg base ca fa pa pt pc) {fd : FuncData} (F : FunD K "parts_in" "parts_in" (defArgs s_parts_in) (defBody s_parts_in) (defScope s_parts_in) [] [] (fa "parts_in") fd) : FnG P w K mg base (L2.CX P w) 6 (fa "parts_in") fd ["words", "line", "begin"] (SpA K ca (tbx pt) (RF F_parts_in)) := by
  have S := sc_parts_in
  exact F.okG (k := 5) S (fun vs H Q E h => runD_len h) (fun cdv A outer s H vs Q E hr hG h => bodyP (tb := tbx pt) (N := N_parts_in) (m := 3) (b := f_parts_in) (fun E2 => (L2.pss_cons (L2.ps_asg (L2.bm_K (r := L2.rPartition) (K := K) rfl PySem.F.plainAttrs_str PySem.F.slot_str_partition PySem.F.type_str_partition L2.mt_partition (L2.bm_K (r := (L2.rJoin K)) (K := K) rfl PySem.F.plainAttrs_str PySem.F.slot_str_join PySem.F.type_str_join (L2.join_K (K := K) rfl) L2.pe_str (L2.pa_cons (L2.pe_slice (Sd.sl_U (K := K) rfl) (L2.pv 0) L2.po_none (L2.po_some L2.pe_int)) L2.pa_nil)) (L2.pa_cons L2.pe_str L2.pa_nil)) (L2.tupG_K (K := K) rfl rfl (L2.pgs_cons (L2.pg_name (i := 6) S.nd rfl (by first | exact Or.inl rfl | exact Or.inr rfl)) (L2.pgs_cons (L2.pg_name (i := 7) S.nd rfl (by first | exact Or.inl rfl | exact Or.inr rfl)) (L2.pgs_cons (L2.pg_name (i := 8) S.nd rfl (by first | exact Or.inl rfl | exact Or.inr rfl)) L2.pgs_nil))))) (L2.pss_cons (L2.ps_if (L2.PW.pt (L2.pw_or (L2.pt_cmpR (L2.op_notInX (K := K) rfl) (L2.pv 6) (L2.cval_K (K := K) rfl (L2.pe_gR B.g_Kind rfl)) (by with_unfolding_all rfl)) (L2.pw_or1 (L2.pt_cmpR (L2.op_notInX (K := K) rfl) (L2.pv 8) (L2.cval_K (K := K) rfl (L2.pe_gR B.g_Kind rfl)) (by with_unfolding_all rfl))))) (L2.pss_one (L2.ps_raiseX rfl (takes_of rfl rfl rfl rfl) B.x_InvalidText (B.r_InvalidText rfl) hr rfl B.g_InvalidText (L2.pa_cons (L2.pv 1) (L2.pa_cons (L2.pv 2) L2.pa_nil)))) L2.pss_nil) (L2.pss_cons (L2.ps_set (i := 3) S.nd rfl (by first | exact Or.inl rfl | exact Or.inr rfl) (L2.pe_cmpR (Sd.op_eqU (K := K) rfl hr.units) (L2.pe_slice (Sd.sl_U (K := K) rfl) (L2.pv 0) (L2.po_some L2.pe_int) (L2.po_some L2.pe_int)) (L2.pe_lst (L2.pa_cons L2.pe_str L2.pa_nil)) (L2.nomark _))) (L2.pss_cons (L2.ps_set (i := 4) S.nd rfl (by first | exact Or.inl rfl | exact Or.inr rfl) (L2.pe_op (Sd.op_addK (K := K) rfl) L2.pe_int (L2.pe_callTy L2.call_intU rfl B.n_int (by decide +kernel) (L2.pa_cons (L2.pv 3) L2.pa_nil)))) (L2.pss_cons (L2.ps_set (i := 5) S.nd rfl (by first | exact Or.inl rfl | exact Or.inr rfl) L2.pe_non) (L2.pss_cons (L2.ps_if (L2.pt_cmpR (Sd.op_eqU (K := K) rfl hr.units) (L2.pe_slice (Sd.sl_U (K := K) rfl) (L2.pv 0) (L2.po_some (L2.pv 4)) (L2.po_some (L2.pe_op (Sd.op_addK (K := K) rfl) (L2.pv 4) L2.pe_int))) (L2.pe_lst (L2.pa_cons L2.pe_str L2.pa_nil)) (L2.nomark _)) (L2.pss_cons (L2.ps_set (i := 5) S.nd rfl (by first | exact Or.inl rfl | exact Or.inr rfl) (L2.pe_ifExp (L2.pt_cmpR L2.op_lt (L2.pe_op (Sd.op_addK (K := K) rfl) (L2.pv 4) L2.pe_int) (L2.pe_callB (Sd.len_K (K := K) rfl) rfl B.n_len boot_len (L2.pa_cons (L2.pv 0) L2.pa_nil)) (L2.nomark _)) (L2.pe_cX (c_number_in_3 B) (hr.mono (by decide)) hG (takes_of rfl rfl rfl rfl) rfl B.g_number_in (L2.pa_cons (L2.pe_ix (Sd.ix_K (K := K) rfl) (L2.pv 0) (L2.pe_op (Sd.op_addK (K := K) rfl) (L2.pv 4) L2.pe_int) fun _ _ => rfl) (L2.pa_cons (L2.pe_gI B.i_LEAST_REST rfl) (L2.pa_cons (L2.pe_gI B.i_MOST_REST rfl) L2.pa_nil))) L2.pk_nil) L2.pe_non)) (L2.pss_cons (L2.ps_if (L2.pt_cmpR L2.op_isN1 (L2.pv 5) L2.pe_non (L2.nomark _)) (L2.pss_one (L2.ps_raiseX rfl (takes_of rfl rfl rfl rfl) B.x_InvalidText (B.r_InvalidText rfl) hr rfl B.g_InvalidText (L2.pa_cons (L2.pv 1) (L2.pa_cons (L2.pe_op (Sd.op_addK (K := K) rfl) (L2.pe_op (Sd.op_addK (K := K) rfl) (L2.pv 2) (L2.pv 4)) L2.pe_int) L2.pa_nil)))) L2.pss_nil) (L2.pss_one (L2.ps_aug (i := 4) S.nd rfl (by first | exact Or.inl rfl | exact Or.inr rfl) L2.pe_int L2.ip_add)))) L2.pss_nil) (L2.pss_cons (L2.ps_if (L2.pt_cmpR L2.op_lt (L2.pv 4) (L2.pe_callB (Sd.len_K (K := K) rfl) rfl B.n_len boot_len (L2.pa_cons (L2.pv 0) L2.pa_nil)) (L2.nomark _)) (L2.pss_one (L2.ps_raiseX rfl (takes_of rfl rfl rfl rfl) B.x_InvalidText (B.r_InvalidText rfl) hr rfl B.g_InvalidText (L2.pa_cons (L2.pv 1) (L2.pa_cons (L2.pe_op (Sd.op_addK (K := K) rfl) (L2.pv 2) (L2.pv 4)) L2.pa_nil)))) L2.pss_nil) (L2.pss_one (L2.ps_ret (L2.pe_tup (L2.pa_cons (L2.pv 6) (L2.pa_cons (L2.pv 8) (L2.pa_cons (L2.pv 3) (L2.pa_cons (L2.pv 5) L2.pa_nil))))))))))))))) (fun ms f0 hz C E X lk => ((qs_seq (qs_asgG (q_sm o_partition (q_sm o_join q_str (qr_c (q_sl (q_v 0) qo_n (qo_s q_int)) qr_n)) (qr_c q_str qr_n)) (qg_t (n := 3) (qgs_c (qg_n 6) (qgs_c (qg_n 7) (qgs_c (qg_n 8) qgs_n))))) (qs_seq (qs_if (qt_or (qt_t (q_o o_notInX c_fO (q_v 6) (q_cval B.cr_Kind B.cv_LENDS (B.at_LENDS rfl)))) (qt_t (q_o o_notInX c_fO (q_v 8) (q_cval B.cr_Kind B.cv_LETS (B.at_LETS rfl))))) (qs_raise (c := "InvalidText") lk rfl (qa_c (q_v 1) (qa_c (q_v 2) qa_n))) qs_n) (qs_seq (qs_asg (i := 3) (q_o o_eqU c_eq (q_sl (q_v 0) (qo_s q_int) (qo_s q_int)) (q_l (qa_c q_str qa_n)))) (qs_seq (qs_asg (i := 4) (q_o o_addU c_add q_int (q_cb o_intU c_fOL (qr_c (q_v 3) qr_n)))) (qs_seq (qs_asg (i := 5) q_non) (qs_seq (qs_if (qt_t (q_o o_eqU c_eq (q_sl (q_v 0) (qo_s (q_v 4)) (qo_s (q_o o_addU c_add (q_v 4) q_int))) (q_l (qa_c q_str qa_n)))) (qs_seq (qs_asg (i := 5) (q_if (qt_t (q_o o_lt c_lt (q_o o_addU c_add (q_v 4) q_int) (q_cb o_len c_len (qr_c (q_v 0) qr_n)))) (q_cX hz lk (fun _ _ => .nil) (qc_d (q_o o_ix c_ix (q_v 0) (q_o o_addU c_add (q_v 4) q_int)) (qc_d q_int (qc_d q_int qc_n))) qc_n) q_non)) (qs_seq (qs_if (qt_t (q_o o_isN c_isN (q_v 5) q_non)) (qs_raise (c := "InvalidText") lk rfl (qa_c (q_v 1) (qa_c (q_o o_addU c_add (q_o o_addU c_add (q_v 2) (q_v 4)) q_int) qa_n))) qs_n) (qs_aug (i := 4) q_int))) qs_n) (qs_seq (qs_if (qt_t (q_o o_lt c_lt (q_v 4) (q_cb o_len c_len (qr_c (q_v 0) qr_n)))) (qs_raise (c := "InvalidText") lk rfl (qa_c (q_v 1) (qa_c (q_o o_addU c_add (q_v 2) (q_v 4)) qa_n))) qs_n) (qs_ret (q_t (qa_c (q_v 6) (qa_c (q_v 8) (qa_c (q_v 3) (qa_c (q_v 5) qa_n)))))))))))))).z) h)
theorem c_parts_in_3 (B : Bx P w K mg base ca fa pa pt pc) : FnX P w K mg base 6 (fa "parts_in") 3 [] [.a 0, .a 1, .a 2] [] (SpA K ca (tbx pt) (RF F_parts_in)) := by
  obtain ⟨fd, F⟩ := B.F_parts_in
  exact ⟨⟨fd, ["words", "line", "begin"], g_parts_in B F, kb_all F fun _ _ _ _ _ _ us ws l1 l2 => match us, ws, l1, l2 with | [_, _, _], [], _, _ => rfl⟩, F.kp⟩
theorem g_Kind_read (B : Bx P w K mg base ca fa pa pt pc) {fd : FuncData} (F : FunD K "read" "Kind.read" (defArgs s_Kind_read) (defBody s_Kind_read) (defScope s_Kind_read) [] [] (fa "Kind.read") fd) : FnG P w K mg base (L2.CX P w) 10 (fa "Kind.read") fd ["cls", "text"] (SpK K ca (tbx pt) "Kind" F_Kind_read) := by
  have S := sc_Kind_read
  exact F.okG (k := 9) S (fun vs H Q E h => SpK.len (fun _ _ _ _ z => (run_of z).1) h) (fun cdv A outer s H vs Q E hr hG h => bodyC (tb := tbx pt) (c := "Kind") (N := N_Kind_read) (m := 2) (b := f_Kind_read) (fun E2 => (L2.pss_cons (L2.ps_if (L2.pt_not (L2.pt_val (L2.pe_callB (L2.call_isU (K := K) rfl) rfl B.n_isinstance PyProof.Rows.boot_isinstance (L2.pa_cons (L2.pv 1) (L2.pa_cons (L2.pe_bltn (v := .ty "str") rfl B.n_str (by decide +kernel) rfl) L2.pa_nil))))) (L2.pss_one (L2.ps_raiseX rfl (takes_of rfl rfl rfl rfl) B.x_InvalidText (B.r_InvalidText rfl) hr rfl B.g_InvalidText (L2.pa_cons L2.pe_int (L2.pa_cons L2.pe_int L2.pa_nil)))) L2.pss_nil) (L2.pss_cons (L2.ps_asg (L2.pe_cX (c_parts_in_3 B) (hr.mono (by decide)) hG (takes_of rfl rfl rfl rfl) rfl B.g_parts_in (L2.pa_cons (L2.bm_K (r := L2.rSplit) (K := K) rfl PySem.F.plainAttrs_str PySem.F.slot_str_split PySem.F.type_str_split L2.mt_split (L2.pv 1) (L2.pa_cons L2.pe_str L2.pa_nil)) (L2.pa_cons L2.pe_int (L2.pa_cons L2.pe_int L2.pa_nil))) L2.pk_nil) (L2.tupG_K (K := K) rfl rfl (L2.pgs_cons (L2.pg_name (i := 2) S.nd rfl (by first | exact Or.inl rfl | exact Or.inr rfl)) (L2.pgs_cons (L2.pg_name (i := 3) S.nd rfl (by first | exact Or.inl rfl | exact Or.inr rfl)) (L2.pgs_cons (L2.pg_name (i := 4) S.nd rfl (by first | exact Or.inl rfl | exact Or.inr rfl)) (L2.pgs_cons (L2.pg_name (i := 5) S.nd rfl (by first | exact Or.inl rfl | exact Or.inr rfl)) L2.pgs_nil)))))) (L2.pss_one (L2.ps_ret (L2.pe_kXv (i := 0) B.mk_Kind (c_Kind_init_3_turns_rests B) (hr.mono (by decide)) hG (takes_of rfl rfl rfl rfl) rfl (by first | exact Or.inl rfl | exact Or.inr (Or.inl rfl) | exact Or.inr (Or.inr rfl)) (L2.pa_cons (L2.pv 2) (L2.pa_cons (L2.pv 3) L2.pa_nil)) (L2.pk_cons (L2.pv 4) (L2.pk_cons (L2.pv 5) L2.pk_nil)))))))) (fun ms hz C E X lk => ((qs_seq (qs_if (qt_n (qt_t (q_is1 (.ty "str" : ClsV _ _) B.is_str (q_v 1)))) (qs_raise (c := "InvalidText") lk rfl (qa_c q_int (qa_c q_int qa_n))) qs_n) (qs_seq (qs_asgG (q_cX hz lk (fun _ _ => .nil) (qc_d (q_sm o_split (q_v 1) (qr_c q_str qr_n)) (qc_d q_int (qc_d q_int qc_n))) qc_n) (qg_t (n := 4) (qgs_c (qg_n 2) (qgs_c (qg_n 3) (qgs_c (qg_n 4) (qgs_c (qg_n 5) qgs_n)))))) (qs_ret (q_fz (q_kXv hz lk rfl rfl (fun _ _ => .nil) (qc_d (q_v 2) (qc_d (q_v 3) qc_n)) (qc_d (q_v 4) (qc_d (q_v 5) qc_n))))))))) h)
theorem c_Kind_read_2 (B : Bx P w K mg base ca fa pa pt pc) : FnX P w K mg base 10 (fa "Kind.read") 2 [] [.a 0, .a 1] [] (SpK K ca (tbx pt) "Kind" F_Kind_read) := by
  obtain ⟨fd, F⟩ := B.F_Kind_read
  exact ⟨⟨fd, ["cls", "text"], g_Kind_read B F, kb_all F fun _ _ _ _ _ _ us ws l1 l2 => match us, ws, l1, l2 with | [_, _], [], _, _ => rfl⟩, F.kp⟩
theorem c_Kind_read_1_text (B : Bx P w K mg base ca fa pa pt pc) : FnX P w K mg base 10 (fa "Kind.read") 1 ["text"] [.a 0, .k 0] [] (SpK K ca (tbx pt) "Kind" F_Kind_read) := by
  obtain ⟨fd, F⟩ := B.F_Kind_read
  exact ⟨⟨fd, ["cls", "text"], g_Kind_read B F, kb_all F fun _ _ _ _ _ _ us ws l1 l2 => match us, ws, l1, l2 with | [_], [_], _, _ => rfl⟩, F.kp⟩
theorem g_take (B : Bx P w K mg base ca fa pa pt pc) {fd : FuncData} (F : FunD K "_law_take" "_law_take" (defArgs s_take) (defBody s_take) (defScope s_take) [] [] (fa "_law_take") fd) : FnG P w K mg base (L2.CX P w) 2 (fa "_law_take") fd ["_law_hand", "_law_bound"] (SpA K ca (tbx pt) (RF F_take)) := by
  have S := sc_take
  exact F.okG (k := 1) S (fun vs H Q E h => runD_len h) (fun cdv A outer s H vs Q E hr hG h => bodyP (tb := tbx pt) (N := N_take) (m := 2) (b := f_take) (fun E2 => (L2.pss_cons (L2.ps_if (L2.pt_cmpR L2.op_gt (L2.pe_ix (Sd.ix_K (K := K) rfl) (L2.pv 0) L2.pe_int fun _ _ => rfl) L2.pe_int (L2.nomark _)) (L2.pss_cons (L2.ps_set (i := 5) S.nd rfl (by first | exact Or.inl rfl | exact Or.inr rfl) (L2.pe_op L2.op_mod (L2.pe_callTy L2.call_intU rfl B.n_int (by decide +kernel) (L2.pa_cons (L2.pe_ix (Sd.ix_K (K := K) rfl) (L2.pv 0) L2.pe_int fun _ _ => rfl) L2.pa_nil)) (L2.pv 1))) (L2.pss_cons (L2.ps_asg (L2.pe_op L2.op_fdiv (L2.pe_ix (Sd.ix_K (K := K) rfl) (L2.pv 0) L2.pe_int fun _ _ => rfl) (L2.pv 1)) (L2.pg_sub (L2.pv 0) L2.pe_int L2.set_list)) (L2.pss_one (L2.ps_ret (L2.pv 5))))) L2.pss_nil) (L2.pss_cons (L2.ps_set (i := 2) S.nd rfl (by first | exact Or.inl rfl | exact Or.inr rfl) (L2.pe_ix (Sd.ix_K (K := K) rfl) (L2.pv 0) L2.pe_int fun _ _ => rfl)) (L2.pss_cons (L2.ps_asg (L2.pe_op (Sd.op_addK (K := K) rfl) (L2.pv 2) L2.pe_int) (L2.pg_sub (L2.pv 0) L2.pe_int L2.set_list)) (L2.pss_cons (L2.ps_set (i := 3) S.nd rfl (by first | exact Or.inl rfl | exact Or.inr rfl) (L2.pe_op (Sd.op_addK (K := K) rfl) (L2.pe_op L2.op_mulS L2.pe_int (L2.pv 2)) L2.pe_int)) (L2.pss_cons (L2.ps_if (L2.pt_cmpR (Sd.op_neU (K := K) rfl hr.units) (L2.pe_ix (Sd.ix_K (K := K) rfl) (L2.pv 0) L2.pe_int fun _ _ => rfl) (L2.pe_lst L2.pa_nil) (L2.nomark _)) (L2.pss_one (L2.ps_set (i := 3) S.nd rfl (by first | exact Or.inl rfl | exact Or.inr rfl) (L2.pe_ix (Sd.ix_K (K := K) rfl) (L2.pe_ix (Sd.ix_K (K := K) rfl) (L2.pv 0) L2.pe_int fun _ _ => rfl) (L2.pe_op L2.op_mod (L2.pe_callTy L2.call_intU rfl B.n_int (by decide +kernel) (L2.pa_cons (L2.pv 2) L2.pa_nil)) (L2.pe_callB (Sd.len_K (K := K) rfl) rfl B.n_len boot_len (L2.pa_cons (L2.pe_ix (Sd.ix_K (K := K) rfl) (L2.pv 0) L2.pe_int fun _ _ => rfl) L2.pa_nil))) fun _ _ => rfl))) L2.pss_nil) (L2.pss_cons (L2.ps_if (L2.PW.pt (L2.pw_and (L2.pt_cmpR L2.op_lt (L2.pv 2) (L2.pe_callB (Sd.len_K (K := K) rfl) rfl B.n_len boot_len (L2.pa_cons (L2.pe_ix (Sd.ix_K (K := K) rfl) (L2.pv 0) L2.pe_int fun _ _ => rfl) L2.pa_nil)) (L2.nomark _)) (L2.pw_and1 (L2.pt_cmpR L2.op_ge (L2.pe_callB L2.call_abs rfl B.n_abs (by decide +kernel) (L2.pa_cons (L2.pv 3) L2.pa_nil)) (L2.pe_op L2.op_pow L2.pe_int L2.pe_int) (L2.nomark _))))) (L2.pss_cons (L2.ps_set (i := 6) S.nd rfl (by first | exact Or.inl rfl | exact Or.inr rfl) (L2.pe_op (Sd.op_addK (K := K) rfl) (L2.pe_op L2.op_mulS L2.pe_int (L2.pe_op L2.op_sub (L2.pe_callB L2.call_abs rfl B.n_abs (by decide +kernel) (L2.pa_cons (L2.pv 3) L2.pa_nil)) (L2.pe_op L2.op_pow L2.pe_int L2.pe_int))) (L2.pe_callTy L2.call_intU rfl B.n_int (by decide +kernel) (L2.pa_cons (L2.pe_cmpR L2.op_lt (L2.pv 3) L2.pe_int (L2.nomark _)) L2.pa_nil)))) (L2.pss_cons (L2.ps_asg (L2.pe_op L2.op_fdiv (L2.pv 6) (L2.pv 1)) (L2.pg_sub (L2.pv 0) L2.pe_int L2.set_list)) (L2.pss_one (L2.ps_ret (L2.pe_op L2.op_mod (L2.pe_callTy L2.call_intU rfl B.n_int (by decide +kernel) (L2.pa_cons (L2.pv 6) L2.pa_nil)) (L2.pv 1)))))) L2.pss_nil) (L2.pss_cons (L2.ps_set (i := 4) S.nd rfl (by first | exact Or.inl rfl | exact Or.inr rfl) (L2.pe_op L2.op_mod (L2.pe_callTy L2.call_intU rfl B.n_int (by decide +kernel) (L2.pa_cons (L2.pe_op L2.op_pow (L2.pe_op (Sd.op_addK (K := K) rfl) (L2.pe_op (Sd.op_addK (K := K) rfl) (L2.pe_op (Sd.op_addK (K := K) rfl) (L2.pe_op L2.op_mod (L2.pe_callTy L2.call_intU rfl B.n_int (by decide +kernel) (L2.pa_cons (L2.pv 3) L2.pa_nil)) L2.pe_int) (L2.pe_op L2.op_mulS L2.pe_int (L2.pv 2))) (L2.pe_op L2.op_mulS (L2.pe_op L2.op_mulS L2.pe_int (L2.pv 2)) (L2.pv 2))) L2.pe_int) L2.pe_int) L2.pa_nil)) L2.pe_int)) (L2.pss_cons (L2.ps_set (i := 4) S.nd rfl (by first | exact Or.inl rfl | exact Or.inr rfl) (L2.pe_op L2.op_mod (L2.pe_callTy L2.call_intU rfl B.n_int (by decide +kernel) (L2.pa_cons (L2.pe_op L2.op_pow (L2.pe_op (Sd.op_addK (K := K) rfl) (L2.pe_op (Sd.op_addK (K := K) rfl) (L2.pe_op L2.op_mulS (L2.pv 4) (L2.pe_op (Sd.op_addK (K := K) rfl) (L2.pe_op L2.op_mulS L2.pe_int (L2.pv 2)) L2.pe_int)) (L2.pe_op L2.op_mulS L2.pe_int (L2.pv 2))) L2.pe_int) L2.pe_int) L2.pa_nil)) L2.pe_int)) (L2.pss_one (L2.ps_ret (L2.pe_op L2.op_mod (L2.pe_callTy L2.call_intU rfl B.n_int (by decide +kernel) (L2.pa_cons (L2.pe_op L2.op_fdiv (L2.pv 4) L2.pe_int) L2.pa_nil)) (L2.pv 1))))))))))))) (fun ms f0 hz C E X lk => ((qs_seq (qs_if (qt_t (q_o o_gt c_gt (q_o o_ix c_ix (q_v 0) q_int) q_int)) (qs_seq (qs_asg (i := 5) (q_o o_mod c_mod (q_cb o_intU c_fOL (qr_c (q_o o_ix c_ix (q_v 0) q_int) qr_n)) (q_v 1))) (qs_seq (qs_setL (i := 0) (q_o o_div c_div (q_o o_ix c_ix (q_v 0) q_int) (q_v 1)) q_int) (qs_ret (q_v 5)))) qs_n) (qs_seq (qs_asg (i := 2) (q_o o_ix c_ix (q_v 0) q_int)) (qs_seq (qs_setL (i := 0) (q_o o_addU c_add (q_v 2) q_int) q_int) (qs_seq (qs_asg (i := 3) (q_o o_addU c_add (q_o o_mulS c_mulS q_int (q_v 2)) q_int)) (qs_seq (qs_if (qt_t (q_o o_neU c_eq (q_o o_ix c_ix (q_v 0) q_int) (q_l qa_n))) (qs_asg (i := 3) (q_o o_ix c_ix (q_o o_ix c_ix (q_v 0) q_int) (q_o o_mod c_mod (q_cb o_intU c_fOL (qr_c (q_v 2) qr_n)) (q_cb o_len c_len (qr_c (q_o o_ix c_ix (q_v 0) q_int) qr_n))))) qs_n) (qs_seq (qs_if (qt_and (qt_t (q_o o_lt c_lt (q_v 2) (q_cb o_len c_len (qr_c (q_o o_ix c_ix (q_v 0) q_int) qr_n)))) (qt_t (q_o o_ge c_ge (q_cb o_abs c_abs (qr_c (q_v 3) qr_n)) (q_o o_pow c_pow q_int q_int)))) (qs_seq (qs_asg (i := 6) (q_o o_addU c_add (q_o o_mulS c_mulS q_int (q_o o_sub c_sub (q_cb o_abs c_abs (qr_c (q_v 3) qr_n)) (q_o o_pow c_pow q_int q_int))) (q_cb o_intU c_fOL (qr_c (q_o o_lt c_lt (q_v 3) q_int) qr_n)))) (qs_seq (qs_setL (i := 0) (q_o o_div c_div (q_v 6) (q_v 1)) q_int) (qs_ret (q_o o_mod c_mod (q_cb o_intU c_fOL (qr_c (q_v 6) qr_n)) (q_v 1))))) qs_n) (qs_seq (qs_asg (i := 4) (q_o o_mod c_mod (q_cb o_intU c_fOL (qr_c (q_o o_pow c_pow (q_o o_addU c_add (q_o o_addU c_add (q_o o_addU c_add (q_o o_mod c_mod (q_cb o_intU c_fOL (qr_c (q_v 3) qr_n)) q_int) (q_o o_mulS c_mulS q_int (q_v 2))) (q_o o_mulS c_mulS (q_o o_mulS c_mulS q_int (q_v 2)) (q_v 2))) q_int) q_int) qr_n)) q_int)) (qs_seq (qs_asg (i := 4) (q_o o_mod c_mod (q_cb o_intU c_fOL (qr_c (q_o o_pow c_pow (q_o o_addU c_add (q_o o_addU c_add (q_o o_mulS c_mulS (q_v 4) (q_o o_addU c_add (q_o o_mulS c_mulS q_int (q_v 2)) q_int)) (q_o o_mulS c_mulS q_int (q_v 2))) q_int) q_int) qr_n)) q_int)) (qs_ret (q_o o_mod c_mod (q_cb o_intU c_fOL (qr_c (q_o o_div c_div (q_v 4) q_int) qr_n)) (q_v 1)))))))))))).z) h)
theorem c_take_2 (B : Bx P w K mg base ca fa pa pt pc) : FnX P w K mg base 2 (fa "_law_take") 2 [] [.a 0, .a 1] [] (SpA K ca (tbx pt) (RF F_take)) := by
  obtain ⟨fd, F⟩ := B.F_take
  exact ⟨⟨fd, ["_law_hand", "_law_bound"], g_take B F, kb_all F fun _ _ _ _ _ _ us ws l1 l2 => match us, ws, l1, l2 with | [_, _], [], _, _ => rfl⟩, F.kp⟩
theorem g_other (B : Bx P w K mg base ca fa pa pt pc) {fd : FuncData} (F : FunD K "_law_other" "_law_other" (defArgs s_other) (defBody s_other) (defScope s_other) [] [] (fa "_law_other") fd) : FnG P w K mg base (L2.CX P w) 6 (fa "_law_other") fd ["_law_hand"] (SpA K ca (tbx pt) (RF F_other)) := by
  have S := sc_other
  exact F.okG (k := 5) S (fun vs H Q E h => runD_len h) (fun cdv A outer s H vs Q E hr hG h => bodyP (tb := tbx pt) (N := N_other) (m := 1) (b := f_other) (fun E2 => (L2.pss_cons (L2.ps_set (i := 1) S.nd rfl (by first | exact Or.inl rfl | exact Or.inr rfl) (L2.pe_lst (L2.pa_cons L2.pe_str (L2.pa_cons L2.pe_str (L2.pa_cons L2.pe_str (L2.pa_cons L2.pe_str (L2.pa_cons L2.pe_str (L2.pa_cons L2.pe_str (L2.pa_cons L2.pe_str (L2.pa_cons L2.pe_str (L2.pa_cons L2.pe_str (L2.pa_cons L2.pe_str L2.pa_nil)))))))))))) (L2.pss_cons (L2.ps_set (i := 1) S.nd rfl (by first | exact Or.inl rfl | exact Or.inr rfl) (L2.pe_op (Sd.op_addK (K := K) rfl) (L2.pv 1) (L2.pe_lst (L2.pa_cons L2.pe_str (L2.pa_cons L2.pe_str (L2.pa_cons L2.pe_str (L2.pa_cons L2.pe_str (L2.pa_cons L2.pe_str (L2.pa_cons L2.pe_str (L2.pa_cons L2.pe_str (L2.pa_cons L2.pe_str (L2.pa_cons L2.pe_str (L2.pa_cons L2.pe_str (L2.pa_cons L2.pe_str (L2.pa_cons L2.pe_str (L2.pa_cons L2.pe_str (L2.pa_cons L2.pe_str L2.pa_nil))))))))))))))))) (L2.pss_cons (L2.ps_set (i := 1) S.nd rfl (by first | exact Or.inl rfl | exact Or.inr rfl) (L2.pe_op (Sd.op_addK (K := K) rfl) (L2.pv 1) (L2.pe_lst (L2.pa_cons L2.pe_str (L2.pa_cons L2.pe_str (L2.pa_cons L2.pe_str (L2.pa_cons L2.pe_str (L2.pa_cons L2.pe_str (L2.pa_cons (L2.pe_op L2.op_mulS L2.pe_str L2.pe_int) (L2.pa_cons (L2.pe_op (Sd.op_addK (K := K) rfl) L2.pe_str (L2.pe_op L2.op_mulS L2.pe_str L2.pe_int)) (L2.pa_cons L2.pe_str (L2.pa_cons L2.pe_str (L2.pa_cons L2.pe_str L2.pa_nil))))))))))))) (L2.pss_one (L2.ps_ret (L2.pe_ix (Sd.ix_K (K := K) rfl) (L2.pv 1) (L2.pe_cX (c_take_2 B) (hr.mono (by decide)) hG (takes_of rfl rfl rfl rfl) rfl B.g__law_take (L2.pa_cons (L2.pv 0) (L2.pa_cons (L2.pe_callB (Sd.len_K (K := K) rfl) rfl B.n_len boot_len (L2.pa_cons (L2.pv 1) L2.pa_nil)) L2.pa_nil)) L2.pk_nil) fun _ _ => rfl))))))) (fun ms f0 hz C E X lk => ((qs_seq (qs_asg (i := 1) (q_l (qa_c q_str (qa_c q_str (qa_c q_str (qa_c q_str (qa_c q_str (qa_c q_str (qa_c q_str (qa_c q_str (qa_c q_str (qa_c q_str qa_n)))))))))))) (qs_seq (qs_asg (i := 1) (q_o o_addU c_add (q_v 1) (q_l (qa_c q_str (qa_c q_str (qa_c q_str (qa_c q_str (qa_c q_str (qa_c q_str (qa_c q_str (qa_c q_str (qa_c q_str (qa_c q_str (qa_c q_str (qa_c q_str (qa_c q_str (qa_c q_str qa_n))))))))))))))))) (qs_seq (qs_asg (i := 1) (q_o o_addU c_add (q_v 1) (q_l (qa_c q_str (qa_c q_str (qa_c q_str (qa_c q_str (qa_c q_str (qa_c (q_o o_mulS c_mulS q_str q_int) (qa_c (q_o o_addU c_add q_str (q_o o_mulS c_mulS q_str q_int)) (qa_c q_str (qa_c q_str (qa_c q_str qa_n))))))))))))) (qs_ret (q_o o_ix c_ix (q_v 1) (q_cX hz lk (fun _ _ => .nil) (qc_r (q_v 0) (qc_d (q_cb o_len c_len (qr_c (q_v 1) qr_n)) qc_n)) qc_n))))))).z) h)
theorem c_other_1 (B : Bx P w K mg base ca fa pa pt pc) : FnX P w K mg base 6 (fa "_law_other") 1 [] [.a 0] [] (SpA K ca (tbx pt) (RF F_other)) := by
  obtain ⟨fd, F⟩ := B.F_other
  exact ⟨⟨fd, ["_law_hand"], g_other B F, kb_all F fun _ _ _ _ _ _ us ws l1 l2 => match us, ws, l1, l2 with | [_], [], _, _ => rfl⟩, F.kp⟩
theorem g_bent (B : Bx P w K mg base ca fa pa pt pc) {fd : FuncData} (F : FunD K "_law_bent" "_law_bent" (defArgs s_bent) (defBody s_bent) (defScope s_bent) [] [] (fa "_law_bent") fd) : FnG P w K mg base (L2.CX P w) 10 (fa "_law_bent") fd ["_law_hand", "_law_words_here"] (SpA K ca (tbx pt) (RF F_bent)) := by
  have S := sc_bent
  exact F.okG (k := 9) S (fun vs H Q E h => runD_len h) (fun cdv A outer s H vs Q E hr hG h => bodyP (tb := tbx pt) (N := N_bent) (m := 2) (b := f_bent) (fun E2 => (L2.pss_cons (L2.ps_set (i := 2) S.nd rfl (by first | exact Or.inl rfl | exact Or.inr rfl) (L2.pe_cX (c_take_2 B) (hr.mono (by decide)) hG (takes_of rfl rfl rfl rfl) rfl B.g__law_take (L2.pa_cons (L2.pv 0) (L2.pa_cons L2.pe_int L2.pa_nil)) L2.pk_nil)) (L2.pss_cons (L2.ps_set (i := 3) S.nd rfl (by first | exact Or.inl rfl | exact Or.inr rfl) (L2.pe_cX (c_take_2 B) (hr.mono (by decide)) hG (takes_of rfl rfl rfl rfl) rfl B.g__law_take (L2.pa_cons (L2.pv 0) (L2.pa_cons (L2.pe_op (Sd.op_addK (K := K) rfl) (L2.pe_callB (Sd.len_K (K := K) rfl) rfl B.n_len boot_len (L2.pa_cons (L2.pv 1) L2.pa_nil)) L2.pe_int) L2.pa_nil)) L2.pk_nil)) (L2.pss_cons (L2.ps_if (L2.pt_cmpR (Sd.op_eqU (K := K) rfl hr.units) (L2.pv 2) L2.pe_int (L2.nomark _)) (L2.pss_one (L2.ps_ret (L2.pe_op (Sd.op_addK (K := K) rfl) (L2.pe_slice (Sd.sl_U (K := K) rfl) (L2.pv 1) L2.po_none (L2.po_some (L2.pv 3))) (L2.pe_slice (Sd.sl_U (K := K) rfl) (L2.pv 1) (L2.po_some (L2.pe_op (Sd.op_addK (K := K) rfl) (L2.pv 3) L2.pe_int)) L2.po_none)))) L2.pss_nil) (L2.pss_cons (L2.ps_if (L2.pt_cmpR L2.op_lt (L2.pv 2) L2.pe_int (L2.nomark _)) (L2.pss_one (L2.ps_ret (L2.pe_op (Sd.op_addK (K := K) rfl) (L2.pe_op (Sd.op_addK (K := K) rfl) (L2.pe_slice (Sd.sl_U (K := K) rfl) (L2.pv 1) L2.po_none (L2.po_some (L2.pv 3))) (L2.pe_lst (L2.pa_cons (L2.pe_cX (c_other_1 B) (hr.mono (by decide)) hG (takes_of rfl rfl rfl rfl) rfl B.g__law_other (L2.pa_cons (L2.pv 0) L2.pa_nil) L2.pk_nil) L2.pa_nil))) (L2.pe_slice (Sd.sl_U (K := K) rfl) (L2.pv 1) (L2.po_some (L2.pe_op L2.op_sub (L2.pe_op (Sd.op_addK (K := K) rfl) (L2.pv 3) (L2.pv 2)) L2.pe_int)) L2.po_none)))) L2.pss_nil) (L2.pss_cons (L2.ps_if (L2.pt_cmpR (Sd.op_eqU (K := K) rfl hr.units) (L2.pv 2) L2.pe_int (L2.nomark _)) (L2.pss_one (L2.ps_ret (L2.pe_op (Sd.op_addK (K := K) rfl) (L2.pe_op (Sd.op_addK (K := K) rfl) (L2.pe_slice (Sd.sl_U (K := K) rfl) (L2.pv 1) L2.po_none (L2.po_some (L2.pv 3))) (L2.pe_op L2.op_mulS (L2.pe_slice (Sd.sl_U (K := K) rfl) (L2.pv 1) (L2.po_some (L2.pv 3)) (L2.po_some (L2.pe_op (Sd.op_addK (K := K) rfl) (L2.pv 3) L2.pe_int))) L2.pe_int)) (L2.pe_slice (Sd.sl_U (K := K) rfl) (L2.pv 1) (L2.po_some (L2.pe_op (Sd.op_addK (K := K) rfl) (L2.pv 3) L2.pe_int)) L2.po_none)))) L2.pss_nil) (L2.pss_cons (L2.ps_if (L2.pt_cmpR (Sd.op_eqU (K := K) rfl hr.units) (L2.pv 2) L2.pe_int (L2.nomark _)) (L2.pss_one (L2.ps_ret (L2.pe_op (Sd.op_addK (K := K) rfl) (L2.pe_op (Sd.op_addK (K := K) rfl) (L2.pe_slice (Sd.sl_U (K := K) rfl) (L2.pv 1) L2.po_none (L2.po_some (L2.pv 3))) (L2.rev_K (K := K) rfl (L2.pe_slice (Sd.sl_U (K := K) rfl) (L2.pv 1) (L2.po_some (L2.pv 3)) (L2.po_some (L2.pe_op (Sd.op_addK (K := K) rfl) (L2.pv 3) L2.pe_int))))) (L2.pe_slice (Sd.sl_U (K := K) rfl) (L2.pv 1) (L2.po_some (L2.pe_op (Sd.op_addK (K := K) rfl) (L2.pv 3) L2.pe_int)) L2.po_none)))) L2.pss_nil) (L2.pss_one (L2.ps_ret (L2.pe_op (Sd.op_addK (K := K) rfl) (L2.pe_op (Sd.op_addK (K := K) rfl) (L2.pe_slice (Sd.sl_U (K := K) rfl) (L2.pv 1) L2.po_none (L2.po_some (L2.pv 3))) (L2.pe_lst (L2.pa_cons L2.pe_str L2.pa_nil))) (L2.pe_slice (Sd.sl_U (K := K) rfl) (L2.pv 1) (L2.po_some (L2.pv 3)) L2.po_none))))))))))) (fun ms f0 hz C E X lk => ((qs_seq (qs_asg (i := 2) (q_cX hz lk (fun _ _ => .nil) (qc_r (q_v 0) (qc_d q_int qc_n)) qc_n)) (qs_seq (qs_asg (i := 3) (q_cX hz lk (fun _ _ => .nil) (qc_r (q_v 0) (qc_d (q_o o_addU c_add (q_cb o_len c_len (qr_c (q_v 1) qr_n)) q_int) qc_n)) qc_n)) (qs_seq (qs_if (qt_t (q_o o_eqU c_eq (q_v 2) q_int)) (qs_ret (q_o o_addU c_add (q_sl (q_v 1) qo_n (qo_s (q_v 3))) (q_sl (q_v 1) (qo_s (q_o o_addU c_add (q_v 3) q_int)) qo_n))) qs_n) (qs_seq (qs_if (qt_t (q_o o_lt c_lt (q_v 2) q_int)) (qs_ret (q_o o_addU c_add (q_o o_addU c_add (q_sl (q_v 1) qo_n (qo_s (q_v 3))) (q_l (qa_c (q_cX hz lk (fun _ _ => .nil) (qc_r (q_v 0) qc_n) qc_n) qa_n))) (q_sl (q_v 1) (qo_s (q_o o_sub c_sub (q_o o_addU c_add (q_v 3) (q_v 2)) q_int)) qo_n))) qs_n) (qs_seq (qs_if (qt_t (q_o o_eqU c_eq (q_v 2) q_int)) (qs_ret (q_o o_addU c_add (q_o o_addU c_add (q_sl (q_v 1) qo_n (qo_s (q_v 3))) (q_o o_mulS c_mulS (q_sl (q_v 1) (qo_s (q_v 3)) (qo_s (q_o o_addU c_add (q_v 3) q_int))) q_int)) (q_sl (q_v 1) (qo_s (q_o o_addU c_add (q_v 3) q_int)) qo_n))) qs_n) (qs_seq (qs_if (qt_t (q_o o_eqU c_eq (q_v 2) q_int)) (qs_ret (q_o o_addU c_add (q_o o_addU c_add (q_sl (q_v 1) qo_n (qo_s (q_v 3))) (q_rev (q_sl (q_v 1) (qo_s (q_v 3)) (qo_s (q_o o_addU c_add (q_v 3) q_int))))) (q_sl (q_v 1) (qo_s (q_o o_addU c_add (q_v 3) q_int)) qo_n))) qs_n) (qs_ret (q_o o_addU c_add (q_o o_addU c_add (q_sl (q_v 1) qo_n (qo_s (q_v 3))) (q_l (qa_c q_str qa_n))) (q_sl (q_v 1) (qo_s (q_v 3)) qo_n)))))))))).z) h)
theorem c_bent_2 (B : Bx P w K mg base ca fa pa pt pc) : FnX P w K mg base 10 (fa "_law_bent") 2 [] [.a 0, .a 1] [] (SpA K ca (tbx pt) (RF F_bent)) := by
  obtain ⟨fd, F⟩ := B.F_bent
  exact ⟨⟨fd, ["_law_hand", "_law_words_here"], g_bent B F, kb_all F fun _ _ _ _ _ _ us ws l1 l2 => match us, ws, l1, l2 with | [_, _], [], _, _ => rfl⟩, F.kp⟩
theorem g_is_rest (B : Bx P w K mg base ca fa pa pt pc) {fd : FuncData} (F : FunD K "_law_is_rest" "_law_is_rest" (defArgs s_is_rest) (defBody s_is_rest) (defScope s_is_rest) [] [] (fa "_law_is_rest") fd) : FnG P w K mg base (L2.CX P w) 2 (fa "_law_is_rest") fd ["_law_written"] (SpA K ca (tbx pt) (RF F_is_rest)) := by
  have S := sc_is_rest
  exact F.okG (k := 1) S (fun vs H Q E h => runD_len h) (fun cdv A outer s H vs Q E hr hG h => bodyP (tb := tbx pt) (N := N_is_rest) (m := 1) (b := f_is_rest) (fun E2 => (L2.pss_cons (L2.ps_if (L2.PW.pt (L2.pw_or (L2.pt_not (L2.pt_chain L2.op_le L2.op_le L2.pe_int (L2.pe_callB (Sd.len_K (K := K) rfl) rfl B.n_len boot_len (L2.pa_cons (L2.pv 0) L2.pa_nil)) L2.pe_int)) (L2.pw_or1 (L2.pt_cmpR (Sd.op_eqU (K := K) rfl hr.units) (L2.pe_ix (Sd.ix_K (K := K) rfl) (L2.pv 0) L2.pe_int fun _ _ => rfl) L2.pe_str (L2.nomark _))))) (L2.pss_one (L2.ps_ret L2.pe_bl)) L2.pss_nil) (L2.pss_one (L2.ps_ret (L2.pe_and (L2.pe_cmpR (Sd.op_eqU (K := K) rfl hr.units) (L2.pe_lc rfl S.nd (L2.pi_str (L2.pv 0)) (own := [("_law_sign", 1)]) (L2.blkOk_by (by kernel_rfl)) (fun _ _ _ _ _ => L2.pg_name (i := 1) S.nd rfl (by first | exact Or.inl rfl | exact Or.inr rfl)) (fun _ _ _ _ _ => L2.pts_one (L2.pt_cmpR (L2.op_notInX (K := K) rfl) (L2.pv 1) L2.pe_str (by with_unfolding_all rfl))) (fun _ _ _ _ _ => (L2.pv 1))) (L2.pe_lst L2.pa_nil) (L2.nomark _)) (L2.pe_one (L2.pe_chain L2.op_le L2.op_le L2.pe_int (L2.pe_callTy L2.call_intU rfl B.n_int (by decide +kernel) (L2.pa_cons (L2.pv 0) L2.pa_nil)) (L2.pe_op L2.op_pow L2.pe_int L2.pe_int)))))))) (fun ms f0 hz C E X lk => ((qs_seq (qs_if (qt_or (qt_n (qt_t (q_ch (ga := (fun i j => decide (i ≤ j))) (gb := (fun i j => decide (i ≤ j))) q_int (q_cb o_len c_len (qr_c (q_v 0) qr_n)) q_int))) (qt_t (q_o o_eqU c_eq (q_o o_ix c_ix (q_v 0) q_int) q_str))) (qs_ret q_bl) qs_n) (qs_ret (q_and (q_o o_eqU c_eq (q_lc (qi_str (q_v 0)) (qg_n 1) (qt_t (q_o o_notInX c_fO (q_v 1) q_str)) (q_v 1) (by decide)) (q_l qa_n)) (q_ch (ga := (fun i j => decide (i ≤ j))) (gb := (fun i j => decide (i ≤ j))) q_int (q_cb o_intU c_fOL (qr_c (q_v 0) qr_n)) (q_o o_pow c_pow q_int q_int)))))).z) h)
theorem c_is_rest_1 (B : Bx P w K mg base ca fa pa pt pc) : FnX P w K mg base 2 (fa "_law_is_rest") 1 [] [.a 0] [] (SpA K ca (tbx pt) (RF F_is_rest)) := by
  obtain ⟨fd, F⟩ := B.F_is_rest
  exact ⟨⟨fd, ["_law_written"], g_is_rest B F, kb_all F fun _ _ _ _ _ _ us ws l1 l2 => match us, ws, l1, l2 with | [_], [], _, _ => rfl⟩, F.kp⟩
theorem g_due (B : Bx P w K mg base ca fa pa pt pc) {fd : FuncData} (F : FunD K "_law_due" "_law_due" (defArgs s_due) (defBody s_due) (defScope s_due) [] [] (fa "_law_due") fd) : FnG P w K mg base (L2.CX P w) 6 (fa "_law_due") fd ["_law_shown"] (SpA K ca (tbx pt) (RF F_due)) := by
  have S := sc_due
  exact F.okG (k := 5) S (fun vs H Q E h => runD_len h) (fun cdv A outer s H vs Q E hr hG h => bodyP (tb := tbx pt) (N := N_due) (m := 1) (b := f_due) (fun E2 => (L2.pss_cons (L2.ps_set (i := 1) S.nd rfl (by first | exact Or.inl rfl | exact Or.inr rfl) (L2.bm_K (r := L2.rSplit) (K := K) rfl PySem.F.plainAttrs_str PySem.F.slot_str_split PySem.F.type_str_split L2.mt_split (L2.pv 0) (L2.pa_cons L2.pe_str L2.pa_nil))) (L2.pss_cons (L2.ps_set (i := 2) S.nd rfl (by first | exact Or.inl rfl | exact Or.inr rfl) (L2.pe_op (Sd.op_addK (K := K) rfl) (L2.pe_lc rfl S.nd (Sd.pi_K (K := K) rfl (L2.pe_tup (L2.pa_cons L2.pe_str (L2.pa_cons L2.pe_str (L2.pa_cons L2.pe_str L2.pa_nil))))) (own := [("_law_lend", 8)]) (L2.blkOk_by (by kernel_rfl)) (fun _ _ _ _ _ => L2.pg_name (i := 8) S.nd rfl (by first | exact Or.inl rfl | exact Or.inr rfl)) (fun _ _ _ _ _ => L2.pts_nil) (fun _ _ _ _ _ => (L2.pe_tup (L2.pa_cons (L2.pv 8) (L2.pa_cons L2.pe_str L2.pa_nil))))) (L2.pe_lc rfl S.nd (Sd.pi_K (K := K) rfl (L2.pe_tup (L2.pa_cons L2.pe_str (L2.pa_cons L2.pe_str (L2.pa_cons L2.pe_str L2.pa_nil))))) (own := [("_law_lend", 8)]) (L2.blkOk_by (by kernel_rfl)) (fun _ _ _ _ _ => L2.pg_name (i := 8) S.nd rfl (by first | exact Or.inl rfl | exact Or.inr rfl)) (fun _ _ _ _ _ => L2.pts_nil) (fun _ _ _ _ _ => (L2.pe_tup (L2.pa_cons (L2.pv 8) (L2.pa_cons L2.pe_str L2.pa_nil))))))) (L2.pss_cons (L2.ps_set (i := 2) S.nd rfl (by first | exact Or.inl rfl | exact Or.inr rfl) (L2.pe_op (Sd.op_addK (K := K) rfl) (L2.pv 2) (L2.pe_lc rfl S.nd (Sd.pi_K (K := K) rfl (L2.pe_tup (L2.pa_cons L2.pe_str (L2.pa_cons L2.pe_str (L2.pa_cons L2.pe_str L2.pa_nil))))) (own := [("_law_lend", 8)]) (L2.blkOk_by (by kernel_rfl)) (fun _ _ _ _ _ => L2.pg_name (i := 8) S.nd rfl (by first | exact Or.inl rfl | exact Or.inr rfl)) (fun _ _ _ _ _ => L2.pts_nil) (fun _ _ _ _ _ => (L2.pe_tup (L2.pa_cons (L2.pv 8) (L2.pa_cons L2.pe_str L2.pa_nil))))))) (L2.pss_cons (L2.ps_setLc rfl S.nd (i := 3) rfl rfl (by rfl) (Sd.pi_K (K := K) rfl (L2.pv 2)) (own := [("_law_pair", 7)]) (L2.blkOk_by (by kernel_rfl)) (fun _ _ _ _ _ => L2.pg_name (i := 7) S.nd rfl (by first | exact Or.inl rfl | exact Or.inr rfl)) (fun _ _ _ _ _ => L2.pts_one (L2.pt_cmpR (Sd.op_eqU (K := K) rfl hr.units) (L2.pe_op (Sd.op_addK (K := K) rfl) (L2.pe_op (Sd.op_addK (K := K) rfl) (L2.pe_ix (Sd.ix_K (K := K) rfl) (L2.pv 7) L2.pe_int fun _ _ => rfl) L2.pe_str) (L2.pe_ix (Sd.ix_K (K := K) rfl) (L2.pv 7) L2.pe_int fun _ _ => rfl)) (L2.pe_ix (Sd.ix_K (K := K) rfl) (L2.pv 1) L2.pe_int fun _ _ => rfl) (L2.nomark _))) (fun _ _ _ _ _ => (L2.pv 7))) (L2.pss_cons (L2.ps_if (L2.pt_cmpR (Sd.op_eqU (K := K) rfl hr.units) (L2.pv 3) (L2.pe_lst L2.pa_nil) (L2.nomark _)) (L2.pss_one (L2.ps_ret (L2.pe_tup (L2.pa_cons L2.pe_str (L2.pa_cons L2.pe_int L2.pa_nil))))) L2.pss_nil) (L2.pss_cons (L2.ps_set (i := 4) S.nd rfl (by first | exact Or.inl rfl | exact Or.inr rfl) (L2.pe_and (L2.pe_cmpR L2.op_gt (L2.pe_callB (Sd.len_K (K := K) rfl) rfl B.n_len boot_len (L2.pa_cons (L2.pv 1) L2.pa_nil)) L2.pe_int (L2.nomark _)) (L2.pe_one (L2.pe_cmpR (Sd.op_eqU (K := K) rfl hr.units) (L2.pe_ix (Sd.ix_K (K := K) rfl) (L2.pv 1) L2.pe_int fun _ _ => rfl) L2.pe_str (L2.nomark _))))) (L2.pss_cons (L2.ps_set (i := 5) S.nd rfl (by first | exact Or.inl rfl | exact Or.inr rfl) (L2.pe_slice (Sd.sl_U (K := K) rfl) (L2.pv 1) (L2.po_some (L2.pe_op (Sd.op_addK (K := K) rfl) L2.pe_int (L2.pe_callTy L2.call_intU rfl B.n_int (by decide +kernel) (L2.pa_cons (L2.pv 4) L2.pa_nil)))) L2.po_none)) (L2.pss_cons (L2.ps_set (i := 6) S.nd rfl (by first | exact Or.inl rfl | exact Or.inr rfl) (L2.pe_op L2.op_sub (L2.pe_callB (Sd.len_K (K := K) rfl) rfl B.n_len boot_len (L2.pa_cons (L2.pv 1) L2.pa_nil)) (L2.pe_callB (Sd.len_K (K := K) rfl) rfl B.n_len boot_len (L2.pa_cons (L2.pv 5) L2.pa_nil)))) (L2.pss_cons (L2.ps_if (L2.pt_cmpR (Sd.op_eqU (K := K) rfl hr.units) (L2.pv 5) (L2.pe_lst L2.pa_nil) (L2.nomark _)) (L2.pss_one (L2.ps_ret (L2.pe_tup (L2.pa_cons L2.pe_str (L2.pa_cons (L2.pe_lst (L2.pa_cons (L2.pe_ix (Sd.ix_K (K := K) rfl) (L2.pe_ix (Sd.ix_K (K := K) rfl) (L2.pv 3) L2.pe_int fun _ _ => rfl) L2.pe_int fun _ _ => rfl) (L2.pa_cons (L2.pe_ix (Sd.ix_K (K := K) rfl) (L2.pe_ix (Sd.ix_K (K := K) rfl) (L2.pv 3) L2.pe_int fun _ _ => rfl) L2.pe_int fun _ _ => rfl) (L2.pa_cons (L2.pv 4) (L2.pa_cons L2.pe_non L2.pa_nil))))) L2.pa_nil))))) L2.pss_nil) (L2.pss_cons (L2.ps_if (L2.pt_cmpR (Sd.op_neU (K := K) rfl hr.units) (L2.pe_ix (Sd.ix_K (K := K) rfl) (L2.pv 5) L2.pe_int fun _ _ => rfl) L2.pe_str (L2.nomark _)) (L2.pss_one (L2.ps_ret (L2.pe_tup (L2.pa_cons L2.pe_str (L2.pa_cons (L2.pv 6) L2.pa_nil))))) L2.pss_nil) (L2.pss_cons (L2.ps_if (L2.PW.pt (L2.pw_or (L2.pt_cmpR (Sd.op_eqU (K := K) rfl hr.units) (L2.pe_callB (Sd.len_K (K := K) rfl) rfl B.n_len boot_len (L2.pa_cons (L2.pv 5) L2.pa_nil)) L2.pe_int (L2.nomark _)) (L2.pw_or1 (L2.pt_not (L2.pt_val (L2.pe_cX (c_is_rest_1 B) (hr.mono (by decide)) hG (takes_of rfl rfl rfl rfl) rfl B.g__law_is_rest (L2.pa_cons (L2.pe_ix (Sd.ix_K (K := K) rfl) (L2.pv 5) L2.pe_int fun _ _ => rfl) L2.pa_nil) L2.pk_nil)))))) (L2.pss_one (L2.ps_ret (L2.pe_tup (L2.pa_cons L2.pe_str (L2.pa_cons (L2.pe_op (Sd.op_addK (K := K) rfl) (L2.pv 6) L2.pe_int) L2.pa_nil))))) L2.pss_nil) (L2.pss_cons (L2.ps_if (L2.pt_cmpR L2.op_gt (L2.pe_callB (Sd.len_K (K := K) rfl) rfl B.n_len boot_len (L2.pa_cons (L2.pv 5) L2.pa_nil)) L2.pe_int (L2.nomark _)) (L2.pss_one (L2.ps_ret (L2.pe_tup (L2.pa_cons L2.pe_str (L2.pa_cons (L2.pe_op (Sd.op_addK (K := K) rfl) (L2.pv 6) L2.pe_int) L2.pa_nil))))) L2.pss_nil) (L2.pss_one (L2.ps_ret (L2.pe_tup (L2.pa_cons L2.pe_str (L2.pa_cons (L2.pe_lst (L2.pa_cons (L2.pe_ix (Sd.ix_K (K := K) rfl) (L2.pe_ix (Sd.ix_K (K := K) rfl) (L2.pv 3) L2.pe_int fun _ _ => rfl) L2.pe_int fun _ _ => rfl) (L2.pa_cons (L2.pe_ix (Sd.ix_K (K := K) rfl) (L2.pe_ix (Sd.ix_K (K := K) rfl) (L2.pv 3) L2.pe_int fun _ _ => rfl) L2.pe_int fun _ _ => rfl) (L2.pa_cons (L2.pv 4) (L2.pa_cons (L2.pe_callTy L2.call_intU rfl B.n_int (by decide +kernel) (L2.pa_cons (L2.pe_ix (Sd.ix_K (K := K) rfl) (L2.pv 5) L2.pe_int fun _ _ => rfl) L2.pa_nil)) L2.pa_nil))))) L2.pa_nil)))))))))))))))))) (fun ms f0 hz C E X lk => ((qs_seq (qs_asg (i := 1) (q_sm o_split (q_v 0) (qr_c q_str qr_n))) (qs_seq (qs_asg (i := 2) (q_o o_addU c_add (q_lc (qi_s (q_t (qa_c q_str (qa_c q_str (qa_c q_str qa_n))))) (qg_n 8) qt_yes (q_t (qa_c (q_v 8) (qa_c q_str qa_n))) (by decide)) (q_lc (qi_s (q_t (qa_c q_str (qa_c q_str (qa_c q_str qa_n))))) (qg_n 8) qt_yes (q_t (qa_c (q_v 8) (qa_c q_str qa_n))) (by decide)))) (qs_seq (qs_asg (i := 2) (q_o o_addU c_add (q_v 2) (q_lc (qi_s (q_t (qa_c q_str (qa_c q_str (qa_c q_str qa_n))))) (qg_n 8) qt_yes (q_t (qa_c (q_v 8) (qa_c q_str qa_n))) (by decide)))) (qs_seq (qs_asg (i := 3) (q_lc (qi_s (q_v 2)) (qg_n 7) (qt_t (q_o o_eqU c_eq (q_o o_addU c_add (q_o o_addU c_add (q_o o_ix c_ix (q_v 7) q_int) q_str) (q_o o_ix c_ix (q_v 7) q_int)) (q_o o_ix c_ix (q_v 1) q_int))) (q_v 7) (by decide))) (qs_seq (qs_if (qt_t (q_o o_eqU c_eq (q_v 3) (q_l qa_n))) (qs_ret (q_t (qa_c q_str (qa_c q_int qa_n)))) qs_n) (qs_seq (qs_asg (i := 4) (q_and (q_o o_gt c_gt (q_cb o_len c_len (qr_c (q_v 1) qr_n)) q_int) (q_o o_eqU c_eq (q_o o_ix c_ix (q_v 1) q_int) q_str))) (qs_seq (qs_asg (i := 5) (q_sl (q_v 1) (qo_s (q_o o_addU c_add q_int (q_cb o_intU c_fOL (qr_c (q_v 4) qr_n)))) qo_n)) (qs_seq (qs_asg (i := 6) (q_o o_sub c_sub (q_cb o_len c_len (qr_c (q_v 1) qr_n)) (q_cb o_len c_len (qr_c (q_v 5) qr_n)))) (qs_seq (qs_if (qt_t (q_o o_eqU c_eq (q_v 5) (q_l qa_n))) (qs_ret (q_t (qa_c q_str (qa_c (q_l (qa_c (q_o o_ix c_ix (q_o o_ix c_ix (q_v 3) q_int) q_int) (qa_c (q_o o_ix c_ix (q_o o_ix c_ix (q_v 3) q_int) q_int) (qa_c (q_v 4) (qa_c q_non qa_n))))) qa_n)))) qs_n) (qs_seq (qs_if (qt_t (q_o o_neU c_eq (q_o o_ix c_ix (q_v 5) q_int) q_str)) (qs_ret (q_t (qa_c q_str (qa_c (q_v 6) qa_n)))) qs_n) (qs_seq (qs_if (qt_or (qt_t (q_o o_eqU c_eq (q_cb o_len c_len (qr_c (q_v 5) qr_n)) q_int)) (qt_n (qt_t (q_cX hz lk (fun _ _ => .nil) (qc_d (q_o o_ix c_ix (q_v 5) q_int) qc_n) qc_n)))) (qs_ret (q_t (qa_c q_str (qa_c (q_o o_addU c_add (q_v 6) q_int) qa_n)))) qs_n) (qs_seq (qs_if (qt_t (q_o o_gt c_gt (q_cb o_len c_len (qr_c (q_v 5) qr_n)) q_int)) (qs_ret (q_t (qa_c q_str (qa_c (q_o o_addU c_add (q_v 6) q_int) qa_n)))) qs_n) (qs_ret (q_t (qa_c q_str (qa_c (q_l (qa_c (q_o o_ix c_ix (q_o o_ix c_ix (q_v 3) q_int) q_int) (qa_c (q_o o_ix c_ix (q_o o_ix c_ix (q_v 3) q_int) q_int) (qa_c (q_v 4) (qa_c (q_cb o_intU c_fOL (qr_c (q_o o_ix c_ix (q_v 5) q_int) qr_n)) qa_n))))) qa_n))))))))))))))))).z) h)
theorem c_due_1 (B : Bx P w K mg base ca fa pa pt pc) : FnX P w K mg base 6 (fa "_law_due") 1 [] [.a 0] [] (SpA K ca (tbx pt) (RF F_due)) := by
  obtain ⟨fd, F⟩ := B.F_due
  exact ⟨⟨fd, ["_law_shown"], g_due B F, kb_all F fun _ _ _ _ _ _ us ws l1 l2 => match us, ws, l1, l2 with | [_], [], _, _ => rfl⟩, F.kp⟩
theorem g_Kind_lends (B : Bx P w K mg base ca fa pa pt pc) {fd : FuncData} (F : FunD K "lends" "Kind.lends" (defArgs s_Kind_lends) (defBody s_Kind_lends) (defScope s_Kind_lends) [] [] (fa "Kind.lends") fd) : FnG P w K mg base (L2.CX P w) 2 (fa "Kind.lends") fd ["self"] (SpA K ca (tbx pt) (RF F_Kind_lends)) := by
  have S := sc_Kind_lends
  exact F.okG (k := 1) S (fun vs H Q E h => runD_len h) (fun cdv A outer s H vs Q E hr hG h => bodyP (tb := tbx pt) (N := N_Kind_lends) (m := 1) (b := f_Kind_lends) (fun E2 => (L2.pss_one (L2.ps_ret (L2.pe_ix (Sd.ix_K (K := K) rfl) (L2.fld_K (K := K) rfl (L2.pv 0)) L2.pe_int fun _ _ => rfl)))) (fun ms f0 hz C E X lk => ((qs_ret (q_o o_ix c_ix (q_fd (cs := ["Kind"]) B.na_row (q_v 0)) q_int))).z) h)
theorem c_Kind_lends_1 (B : Bx P w K mg base ca fa pa pt pc) : FnX P w K mg base 2 (fa "Kind.lends") 1 [] [.a 0] [] (SpA K ca (tbx pt) (RF F_Kind_lends)) := by
  obtain ⟨fd, F⟩ := B.F_Kind_lends
  exact ⟨⟨fd, ["self"], g_Kind_lends B F, kb_all F fun _ _ _ _ _ _ us ws l1 l2 => match us, ws, l1, l2 with | [_], [], _, _ => rfl⟩, F.kp⟩
theorem g_Kind_lets (B : Bx P w K mg base ca fa pa pt pc) {fd : FuncData} (F : FunD K "lets" "Kind.lets" (defArgs s_Kind_lets) (defBody s_Kind_lets) (defScope s_Kind_lets) [] [] (fa "Kind.lets") fd) : FnG P w K mg base (L2.CX P w) 2 (fa "Kind.lets") fd ["self"] (SpA K ca (tbx pt) (RF F_Kind_lets)) := by
  have S := sc_Kind_lets
  exact F.okG (k := 1) S (fun vs H Q E h => runD_len h) (fun cdv A outer s H vs Q E hr hG h => bodyP (tb := tbx pt) (N := N_Kind_lets) (m := 1) (b := f_Kind_lets) (fun E2 => (L2.pss_one (L2.ps_ret (L2.pe_ix (Sd.ix_K (K := K) rfl) (L2.fld_K (K := K) rfl (L2.pv 0)) L2.pe_int fun _ _ => rfl)))) (fun ms f0 hz C E X lk => ((qs_ret (q_o o_ix c_ix (q_fd (cs := ["Kind"]) B.na_row (q_v 0)) q_int))).z) h)
theorem c_Kind_lets_1 (B : Bx P w K mg base ca fa pa pt pc) : FnX P w K mg base 2 (fa "Kind.lets") 1 [] [.a 0] [] (SpA K ca (tbx pt) (RF F_Kind_lets)) := by
  obtain ⟨fd, F⟩ := B.F_Kind_lets
  exact ⟨⟨fd, ["self"], g_Kind_lets B F, kb_all F fun _ _ _ _ _ _ us ws l1 l2 => match us, ws, l1, l2 with | [_], [], _, _ => rfl⟩, F.kp⟩
theorem g_Kind_rests (B : Bx P w K mg base ca fa pa pt pc) {fd : FuncData} (F : FunD K "rests" "Kind.rests" (defArgs s_Kind_rests) (defBody s_Kind_rests) (defScope s_Kind_rests) [] [] (fa "Kind.rests") fd) : FnG P w K mg base (L2.CX P w) 2 (fa "Kind.rests") fd ["self"] (SpA K ca (tbx pt) (RF F_Kind_rests)) := by
  have S := sc_Kind_rests
  exact F.okG (k := 1) S (fun vs H Q E h => runD_len h) (fun cdv A outer s H vs Q E hr hG h => bodyP (tb := tbx pt) (N := N_Kind_rests) (m := 1) (b := f_Kind_rests) (fun E2 => (L2.pss_one (L2.ps_ret (L2.pe_ix (Sd.ix_K (K := K) rfl) (L2.fld_K (K := K) rfl (L2.pv 0)) L2.pe_int fun _ _ => rfl)))) (fun ms f0 hz C E X lk => ((qs_ret (q_o o_ix c_ix (q_fd (cs := ["Kind"]) B.na_row (q_v 0)) q_int))).z) h)
theorem c_Kind_rests_1 (B : Bx P w K mg base ca fa pa pt pc) : FnX P w K mg base 2 (fa "Kind.rests") 1 [] [.a 0] [] (SpA K ca (tbx pt) (RF F_Kind_rests)) := by
  obtain ⟨fd, F⟩ := B.F_Kind_rests
  exact ⟨⟨fd, ["self"], g_Kind_rests B F, kb_all F fun _ _ _ _ _ _ us ws l1 l2 => match us, ws, l1, l2 with | [_], [], _, _ => rfl⟩, F.kp⟩
theorem g_Kind_turns (B : Bx P w K mg base ca fa pa pt pc) {fd : FuncData} (F : FunD K "turns" "Kind.turns" (defArgs s_Kind_turns) (defBody s_Kind_turns) (defScope s_Kind_turns) [] [] (fa "Kind.turns") fd) : FnG P w K mg base (L2.CX P w) 2 (fa "Kind.turns") fd ["self"] (SpA K ca (tbx pt) (RF F_Kind_turns)) := by
  have S := sc_Kind_turns
  exact F.okG (k := 1) S (fun vs H Q E h => runD_len h) (fun cdv A outer s H vs Q E hr hG h => bodyP (tb := tbx pt) (N := N_Kind_turns) (m := 1) (b := f_Kind_turns) (fun E2 => (L2.pss_one (L2.ps_ret (L2.pe_ix (Sd.ix_K (K := K) rfl) (L2.fld_K (K := K) rfl (L2.pv 0)) L2.pe_int fun _ _ => rfl)))) (fun ms f0 hz C E X lk => ((qs_ret (q_o o_ix c_ix (q_fd (cs := ["Kind"]) B.na_row (q_v 0)) q_int))).z) h)
theorem c_Kind_turns_1 (B : Bx P w K mg base ca fa pa pt pc) : FnX P w K mg base 2 (fa "Kind.turns") 1 [] [.a 0] [] (SpA K ca (tbx pt) (RF F_Kind_turns)) := by
  obtain ⟨fd, F⟩ := B.F_Kind_turns
  exact ⟨⟨fd, ["self"], g_Kind_turns B F, kb_all F fun _ _ _ _ _ _ us ws l1 l2 => match us, ws, l1, l2 with | [_], [], _, _ => rfl⟩, F.kp⟩
theorem ttl_len {tl : XK → Hp → VK → Prop} {vs : List V} {H : Hp} {Q : VK} (h : TTL K ca (tbx pt) F_told tl vs H Q) : vs.length = 0 := by
  obtain ⟨ms, A, Lt, cs, μ, lam, K', hz, hl, pre, Lm, hr, fin⟩ := h
  have z := (run_of (XD := fun _ _ => False) hr).1
  rw [List.length_cons] at z
  rw [hl]
  exact Nat.succ.inj z
theorem gets_told {X : Cx} (B : Bx X.prog X.w X.K X.mg X.base ca fa pa pt pc) (cdg : Value) (qn : Str) : GetsL X N_told "_law_told" (defScope s_told) (fa "_law_told") cdg (defBody s_told) "_law_ask" qn 18 (TTL X.K ca (tbx pt) F_told) := by
  have S := sc_told
  intro f cc s H Q tl vs hr hG act hco hT
  exact ⟨_, (L2.pss_cons (L2.ps_set (i := 1) S.nd rfl (by first | exact Or.inl rfl | exact Or.inr rfl) L2.pe_non) (L2.pss_cons (L2.ps_try_catch (i := 2) (j := 1) rfl rfl rfl S.nd rfl rfl rfl rfl (by first | exact Or.inl rfl | exact Or.inr (Or.inl rfl) | exact Or.inr (Or.inr rfl)) (.tup (.cons ⟨rfl, by decide, .inl B.g_MeetError⟩ (.cons ⟨rfl, by decide, .inl B.g_NoStation⟩ (.cons ⟨rfl, by decide, .inl B.g_TooMany⟩ .nil))) (szB_ok rfl)) (takes_of rfl rfl rfl rfl) (hb := fun W2 pn2 xe2 tk2 => (L2.pss_cons (L2.ps_set (i := 3) S.nd rfl (by first | exact Or.inl rfl | exact Or.inr rfl) (act _ _ _ _ _ tk2)) (L2.pss_one (L2.ps_ret (L2.pe_tup (L2.pa_cons L2.pe_str (L2.pa_cons (L2.pe_lst (L2.pa_cons (L2.pe_pX (W := fun _ _ _ _ => False) (L2.pv 3) B.cl_Kind B.p_lends (c_Kind_lends_1 B) (hr.mono (by decide)) hG) (L2.pa_cons (L2.pe_pX (W := fun _ _ _ _ => False) (L2.pv 3) B.cl_Kind B.p_lets (c_Kind_lets_1 B) (hr.mono (by decide)) hG) (L2.pa_cons (L2.pe_pX (W := fun _ _ _ _ => False) (L2.pv 3) B.cl_Kind B.p_turns (c_Kind_turns_1 B) (hr.mono (by decide)) hG) (L2.pa_cons (L2.pe_pX (W := fun _ _ _ _ => False) (L2.pv 3) B.cl_Kind B.p_rests (c_Kind_rests_1 B) (hr.mono (by decide)) hG) L2.pa_nil))))) L2.pa_nil)))))))) (L2.pss_cons (L2.ps_if (L2.PW.pt (L2.pw_or (L2.pt_not (L2.pt_val (L2.pe_callB (L2.call_isU (K := X.K) rfl) rfl B.n_isinstance PyProof.Rows.boot_isinstance (L2.pa_cons (L2.pv 1) (L2.pa_cons (L2.pe_gR B.g_InvalidText rfl) L2.pa_nil))))) (L2.pw_or (L2.pt_not (L2.pt_val (L2.pe_callB (L2.call_isU (K := X.K) rfl) rfl B.n_isinstance PyProof.Rows.boot_isinstance (L2.pa_cons (L2.pv 1) (L2.pa_cons (L2.pe_gR B.g_MeetError rfl) L2.pa_nil))))) (L2.pw_or1 (L2.pt_cmpR (Sd.op_neU (K := X.K) rfl hr.units) (Sd.fx_K (K := X.K) rfl (L2.pv 1)) L2.pe_int (L2.nomark _)))))) (L2.pss_one (L2.ps_ret (L2.pe_tup (L2.pa_cons L2.pe_str (L2.pa_cons L2.pe_non L2.pa_nil))))) L2.pss_nil) (L2.pss_cons (L2.ps_if (L2.pt_val (L2.pe_callB (L2.call_isU (K := X.K) rfl) rfl B.n_isinstance PyProof.Rows.boot_isinstance (L2.pa_cons (L2.pv 1) (L2.pa_cons (L2.pe_tup (L2.pa_cons (L2.pe_gR B.g_Clash rfl) (L2.pa_cons (L2.pe_gR B.g_InvalidKind rfl) (L2.pa_cons (L2.pe_gR B.g_InvalidPart rfl) (L2.pa_cons (L2.pe_gR B.g_NoStation rfl) (L2.pa_cons (L2.pe_gR B.g_TooMany rfl) L2.pa_nil)))))) L2.pa_nil)))) (L2.pss_one (L2.ps_ret (L2.pe_tup (L2.pa_cons L2.pe_str (L2.pa_cons L2.pe_non L2.pa_nil))))) L2.pss_nil) (L2.pss_one (L2.ps_ret (L2.pe_tup (L2.pa_cons L2.pe_str (L2.pa_cons (Sd.fx_K (K := X.K) rfl (L2.pv 1)) L2.pa_nil))))))))), bodyL (f := f) (cc := cc) (q := qn) (b := f_told) (N := N_told) (fun ms lam hz C L eH nL nT => (qz_seq ((qs_asg (i := 1) q_non)).z (qz_seq (qz_try linkN B.ct_MeetError_NoStation_TooMany (fun W2 X2 lk2 => ((qs_seq (qs_asg (i := 3) (q_act lk2 L (by rw [eH]; exact hco) nL nT)) (qs_ret (q_t (qa_c q_str (qa_c (q_l (qa_c (q_pX hz rfl (q_v 3)) (qa_c (q_pX hz rfl (q_v 3)) (qa_c (q_pX hz rfl (q_v 3)) (qa_c (q_pX hz rfl (q_v 3)) qa_n))))) qa_n)))))).z)) ((qs_seq (qs_if (qt_or (qt_n (qt_t (q_is1 (.own _ : ClsV _ _) B.is_InvalidText (q_v 1)))) (qt_or (qt_n (qt_t (q_is1 (.own _ : ClsV _ _) B.is_MeetError (q_v 1)))) (qt_t (q_o o_neU c_eq (q_u (o_fx (cs := excs) B.fx_line) c_fx (q_v 1)) q_int)))) (qs_ret (q_t (qa_c q_str (qa_c q_non qa_n)))) qs_n) (qs_seq (qs_if (qt_t (q_isT (fun _ _ _ q => q) (.cons (.own _ : ClsV _ _) (.cons (.own _ : ClsV _ _) (.cons (.own _ : ClsV _ _) (.cons (.own _ : ClsV _ _) (.cons (.own _ : ClsV _ _) .nil))))) (szB_ok rfl) B.is_T_Clash_InvalidKind_InvalidPart_NoStation_TooMany (q_v 1))) (qs_ret (q_t (qa_c q_str (qa_c q_non qa_n)))) qs_n) (qs_ret (q_t (qa_c q_str (qa_c (q_u (o_fx (cs := excs) B.fx_word) c_fx (q_v 1)) qa_n))))))).z))) hco hT⟩
theorem in_read_right : (pt "_law_read_right", (("_law_read_right" : Str) ++ ".<locals>.") ++ "<lambda>") ∈ tbx pt := by
  have e : (("_law_read_right" : Str) ++ ".<locals>.") ++ "<lambda>" = "_law_read_right.<locals>.<lambda>" := by decide +kernel
  rw [e]
  exact .tail _ (.head _)
theorem one_read_right (B : Bx P w K mg base ca fa pa pt pc) : ∀ p ∈ tbx pt, p.1 = pt "_law_read_right" → p.2 = (("_law_read_right" : Str) ++ ".<locals>.") ++ "<lambda>" := fun p hp e => by
  have e2 : (("_law_read_right" : Str) ++ ".<locals>.") ++ "<lambda>" = "_law_read_right.<locals>.<lambda>" := by decide +kernel
  rw [e2]
  simp only [tbx, List.mem_cons, List.not_mem_nil, or_false] at hp
  rcases hp with rfl | rfl
  · exact absurd e (fun z => B.ne_law_read_right z)
  · rfl
theorem g_read_right (B : Bx P w K mg base ca fa pa pt pc) {fd : FuncData} (F : FunD K "_law_read_right" "_law_read_right" (defArgs s_read_right) (defBody s_read_right) (defScope s_read_right) [] [] (fa "_law_read_right") fd) (hcode : fd.code = .ref (pc "_law_read_right")) : FnG P w K mg base (L2.CX P w) 23 (fa "_law_read_right") fd ["_law_shown"] (SpA K ca (tbx pt) (RF F_read_right)) := by
  have S := sc_read_right
  obtain ⟨fdT, FT⟩ := B.F_told
  have bT : Binds K fdT ["_law_ask"] [] := FT.bindsN fun _ _ _ _ _ _ us hl => match us, hl with | [_], _ => rfl
  have kpT := FT.kp
  obtain ⟨ocT, odT, dVT, kVT, docT, pmT, anT, cdvT, ctT, oslT, rfl, lkT, hcT, hdT, _⟩ := FT.ex
  rcases hdT with ⟨_, rfl⟩ | ⟨z, _⟩
  case inr => exact absurd rfl z
  exact F.okC (k := 22) hcode S (fun vs H Q E h => runD_len h) (fun A outer s H vs Q E hr hG h => bodyP (tb := tbx pt) (N := N_read_right) (m := 1) (b := f_read_right) (fun E2 => (L2.pss_cons (L2.ps_set (i := 1) S.nd rfl (by first | exact Or.inl rfl | exact Or.inr rfl) (L2.pe_callB (Sd.repr_K (K := K) (ca := ca) rfl hG hr.units B.sys) rfl B.n_repr (by decide +kernel) (L2.pa_cons (L2.pe_cX (c_due_1 B) (hr.mono (by decide)) hG (takes_of rfl rfl rfl rfl) rfl B.g__law_due (L2.pa_cons (L2.pv 0) L2.pa_nil) L2.pk_nil) L2.pa_nil))) (L2.pss_cons (L2.ps_if (L2.pt_cmpR (Sd.op_neU (K := K) rfl hr.units) (L2.pe_callB (Sd.repr_K (K := K) (ca := ca) rfl hG hr.units B.sys) rfl B.n_repr (by decide +kernel) (L2.pa_cons (L2.pe_lam3 (x := "_law_told") (a := "_law_ask") (g := fa "_law_told") (c := pc "_law_read_right") (P := pt "_law_read_right") (k := 17) (Ng := N_told) (ps := []) (T := tbx pt) (TT := TTL K ca (tbx pt) F_told) rfl B.g__law_told kpT lkT hcT bT sc_told rfl (by first | exact Or.inl rfl | exact Or.inr (Or.inl rfl) | exact Or.inr (Or.inr rfl)) (gets_told B _ _) (fun tl vs H Q z => ttl_len z) B.t_read_right rfl in_read_right (one_read_right B) (hr.mono (by decide)) hG (LamX.lamS_by (sc := defScope s_read_right) (by decide +kernel)) rfl (fun _ _ _ _ _ => rfl) L2.pa_nil (fun A2 outer2 s2 H2 E2 f2 cc2 hr2 hG2 => (L2.pe_cmX (L2.pe_gR B.g_Kind rfl) B.cr_Kind B.cm_read (c_Kind_read_2 B) (hr2.mono (by decide)) hG2 (takes_of rfl rfl rfl rfl) (L2.pa_cons (L2.pv 0) L2.pa_nil) L2.pk_nil))) L2.pa_nil)) (L2.pv 1) (L2.nomark _)) (L2.pss_one (L2.ps_ret L2.pe_bl)) L2.pss_nil) (L2.pss_one (L2.ps_ret (L2.pe_cmpR (Sd.op_eqU (K := K) rfl hr.units) (L2.pe_callB (Sd.repr_K (K := K) (ca := ca) rfl hG hr.units B.sys) rfl B.n_repr (by decide +kernel) (L2.pa_cons (L2.pe_lam3 (x := "_law_told") (a := "_law_ask") (g := fa "_law_told") (c := pc "_law_read_right") (P := pt "_law_read_right") (k := 17) (Ng := N_told) (ps := []) (T := tbx pt) (TT := TTL K ca (tbx pt) F_told) rfl B.g__law_told kpT lkT hcT bT sc_told rfl (by first | exact Or.inl rfl | exact Or.inr (Or.inl rfl) | exact Or.inr (Or.inr rfl)) (gets_told B _ _) (fun tl vs H Q z => ttl_len z) B.t_read_right rfl in_read_right (one_read_right B) (hr.mono (by decide)) hG (LamX.lamS_by (sc := defScope s_read_right) (by decide +kernel)) rfl (fun _ _ _ _ _ => rfl) L2.pa_nil (fun A2 outer2 s2 H2 E2 f2 cc2 hr2 hG2 => (L2.pe_cmX0 (L2.pe_gR B.g_Kind rfl) B.cr_Kind B.cm_read (c_Kind_read_1_text B) (hr2.mono (by decide)) hG2 (takes_of rfl rfl rfl rfl)  (L2.pk_cons (L2.pv 0) L2.pk_nil)))) L2.pa_nil)) (L2.pv 1) (L2.nomark _))))))) (fun ms f0 hz C E X lk => ((qs_seq (qs_asg (i := 1) (q_cb o_reprA c_repr (qr_c (q_cX hz lk (fun _ _ => .nil) (qc_d (q_v 0) qc_n) qc_n) qr_n))) (qs_seq (qs_if (qt_t (q_o o_neU c_eq (q_cb o_reprA c_repr (qr_c (q_lam (P := pt "_law_read_right") hz it_read_right qc_n (fun C2 E2 X2 lk2 => (q_cM (src := [.a 0]) hz lk2 rfl (qc_d (q_v 0) qc_n) qc_n))) qr_n)) (q_v 1))) (qs_ret q_bl) qs_n) (qs_ret (q_o o_eqU c_eq (q_cb o_reprA c_repr (qr_c (q_lam (P := pt "_law_read_right") hz it_read_right qc_n (fun C2 E2 X2 lk2 => (q_cM (src := [.k 0]) hz lk2 rfl qc_n (qc_d (q_v 0) qc_n)))) qr_n)) (q_v 1)))))).z) h)
theorem c_read_right_1 (B : Bx P w K mg base ca fa pa pt pc) : FnX P w K mg base 23 (fa "_law_read_right") 1 [] [.a 0] [] (SpA K ca (tbx pt) (RF F_read_right)) := by
  obtain ⟨fd, F, hc⟩ := B.F_read_right
  exact ⟨⟨fd, ["_law_shown"], g_read_right B F hc, kb_all F fun _ _ _ _ _ _ us ws l1 l2 => match us, ws, l1, l2 with | [_], [], _, _ => rfl⟩, F.kp⟩
theorem g_Kind_eq (B : Bx P w K mg base ca fa pa pt pc) {fd : FuncData} (F : FunD K "__eq__" "Kind.__eq__" (defArgs s_Kind_eq) (defBody s_Kind_eq) (defScope s_Kind_eq) [] [] (fa "Kind.__eq__") fd) : FnG P w K mg base (L2.CX P w) 2 (fa "Kind.__eq__") fd ["self", "other"] (SpA K ca (tbx pt) (RF F_Kind_eq)) := by
  have S := sc_Kind_eq
  exact F.okG (k := 1) S (fun vs H Q E h => runD_len h) (fun cdv A outer s H vs Q E hr hG h => bodyP (tb := tbx pt) (N := N_Kind_eq) (m := 2) (b := f_Kind_eq) (fun E2 => (L2.pss_one (L2.ps_ret (L2.pe_and (L2.pe_callB (L2.call_isU (K := K) rfl) rfl B.n_isinstance PyProof.Rows.boot_isinstance (L2.pa_cons (L2.pv 1) (L2.pa_cons (L2.pe_gR B.g_Kind rfl) L2.pa_nil))) (L2.pe_one (L2.pe_cmpR (Sd.op_eqU (K := K) rfl hr.units) (L2.fld_K (K := K) rfl (L2.pv 0)) (L2.fld_K (K := K) rfl (L2.pv 1)) (L2.nomark _))))))) (fun ms f0 hz C E X lk => ((qs_ret (q_and (q_is1 (.own _ : ClsV _ _) B.is_Kind (q_v 1)) (q_o o_eqU c_eq (q_fd (cs := ["Kind"]) B.na_row (q_v 0)) (q_fd (cs := ["Kind"]) B.na_row (q_v 1)))))).z) h)
theorem c_Kind_eq_2 (B : Bx P w K mg base ca fa pa pt pc) : FnX P w K mg base 2 (fa "Kind.__eq__") 2 [] [.a 0, .a 1] [] (SpA K ca (tbx pt) (RF F_Kind_eq)) := by
  obtain ⟨fd, F⟩ := B.F_Kind_eq
  exact ⟨⟨fd, ["self", "other"], g_Kind_eq B F, kb_all F fun _ _ _ _ _ _ us ws l1 l2 => match us, ws, l1, l2 with | [_, _], [], _, _ => rfl⟩, F.kp⟩
theorem g_Kind_str (B : Bx P w K mg base ca fa pa pt pc) {fd : FuncData} (F : FunD K "__str__" "Kind.__str__" (defArgs s_Kind_str) (defBody s_Kind_str) (defScope s_Kind_str) [] [] (fa "Kind.__str__") fd) : FnG P w K mg base (L2.CX P w) 6 (fa "Kind.__str__") fd ["self"] (SpA K ca (tbx pt) (RF F_Kind_str)) := by
  have S := sc_Kind_str
  exact F.okG (k := 5) S (fun vs H Q E h => runD_len h) (fun cdv A outer s H vs Q E hr hG h => bodyP (tb := tbx pt) (N := N_Kind_str) (m := 1) (b := f_Kind_str) (fun E2 => (L2.pss_cons (L2.ps_set (i := 1) S.nd rfl (by first | exact Or.inl rfl | exact Or.inr rfl) (L2.pe_ifExp (L2.pt_val (L2.pe_pX (W := fun _ _ _ _ => False) (L2.pv 0) B.cl_Kind B.p_turns (c_Kind_turns_1 B) (hr.mono (by decide)) hG)) L2.pe_str L2.pe_str)) (L2.pss_cons (L2.ps_set (i := 2) S.nd rfl (by first | exact Or.inl rfl | exact Or.inr rfl) (L2.pe_ifExp (L2.pt_cmpR L2.op_notN1 (L2.pe_pX (W := fun _ _ _ _ => False) (L2.pv 0) B.cl_Kind B.p_rests (c_Kind_rests_1 B) (hr.mono (by decide)) hG) L2.pe_non (L2.nomark _)) (L2.pe_joined (.cons L2.pe_str (.cons (L2.pe_fmt (L2.pe_pX (W := fun _ _ _ _ => False) (L2.pv 0) B.cl_Kind B.p_rests (c_Kind_rests_1 B) (hr.mono (by decide)) hG)) .nil))) L2.pe_str)) (L2.pss_one (L2.ps_ret (L2.pe_joined (.cons (L2.pe_fmt (L2.pe_pX (W := fun _ _ _ _ => False) (L2.pv 0) B.cl_Kind B.p_lends (c_Kind_lends_1 B) (hr.mono (by decide)) hG)) (.cons L2.pe_str (.cons (L2.pe_fmt (L2.pe_pX (W := fun _ _ _ _ => False) (L2.pv 0) B.cl_Kind B.p_lets (c_Kind_lets_1 B) (hr.mono (by decide)) hG)) (.cons (L2.pe_fmt (L2.pv 1)) (.cons (L2.pe_fmt (L2.pv 2)) .nil))))))))))) (fun ms f0 hz C E X lk => ((qs_seq (qs_asg (i := 1) (q_if (qt_t (q_pX hz rfl (q_v 0))) q_str q_str)) (qs_seq (qs_asg (i := 2) (q_if (qt_t (q_o o_notN c_isN (q_pX hz rfl (q_v 0)) q_non)) (q_js (.cons q_str (.cons (q_fmt (q_pX hz rfl (q_v 0))) .nil)) Str.empty) q_str)) (qs_ret (q_js (.cons (q_fmt (q_pX hz rfl (q_v 0))) (.cons q_str (.cons (q_fmt (q_pX hz rfl (q_v 0))) (.cons (q_fmt (q_v 1)) (.cons (q_fmt (q_v 2)) .nil))))) Str.empty))))).z) h)
theorem c_Kind_str_1 (B : Bx P w K mg base ca fa pa pt pc) : FnX P w K mg base 6 (fa "Kind.__str__") 1 [] [.a 0] [] (SpA K ca (tbx pt) (RF F_Kind_str)) := by
  obtain ⟨fd, F⟩ := B.F_Kind_str
  exact ⟨⟨fd, ["self"], g_Kind_str B F, kb_all F fun _ _ _ _ _ _ us ws l1 l2 => match us, ws, l1, l2 with | [_], [], _, _ => rfl⟩, F.kp⟩
theorem g_Kind_repr (B : Bx P w K mg base ca fa pa pt pc) {fd : FuncData} (F : FunD K "__repr__" "Kind.__repr__" (defArgs s_Kind_repr) (defBody s_Kind_repr) (defScope s_Kind_repr) [] [] (fa "Kind.__repr__") fd) : FnG P w K mg base (L2.CX P w) 10 (fa "Kind.__repr__") fd ["self"] (SpA K ca (tbx pt) (RF F_Kind_repr)) := by
  have S := sc_Kind_repr
  exact F.okG (k := 9) S (fun vs H Q E h => runD_len h) (fun cdv A outer s H vs Q E hr hG h => bodyP (tb := tbx pt) (N := N_Kind_repr) (m := 1) (b := f_Kind_repr) (fun E2 => (L2.pss_one (L2.ps_ret (L2.pe_joined (.cons L2.pe_str (.cons (L2.pe_fmtX B.ow_Kind_str B.fm_Kind B.ob_Kind (c_Kind_str_1 B) (hr.mono (by decide)) hG (L2.pv 0)) (.cons L2.pe_str .nil))))))) (fun ms f0 hz C E X lk => ((qs_ret (q_js (.cons q_str (.cons (q_fmtX hz rfl (q_v 0)) (.cons q_str .nil))) Str.empty))).z) h)
theorem c_Kind_repr_1 (B : Bx P w K mg base ca fa pa pt pc) : FnX P w K mg base 10 (fa "Kind.__repr__") 1 [] [.a 0] [] (SpA K ca (tbx pt) (RF F_Kind_repr)) := by
  obtain ⟨fd, F⟩ := B.F_Kind_repr
  exact ⟨⟨fd, ["self"], g_Kind_repr B F, kb_all F fun _ _ _ _ _ _ us ws l1 l2 => match us, ws, l1, l2 with | [_], [], _, _ => rfl⟩, F.kp⟩
theorem g_shown_right (B : Bx P w K mg base ca fa pa pt pc) {fd : FuncData} (F : FunD K "_law_shown_right" "_law_shown_right" (defArgs s_shown_right) (defBody s_shown_right) (defScope s_shown_right) [] [] (fa "_law_shown_right") fd) : FnG P w K mg base (L2.CX P w) 14 (fa "_law_shown_right") fd ["_law_words_here"] (SpA K ca (tbx pt) (RF F_shown_right)) := by
  have S := sc_shown_right
  exact F.okG (k := 13) S (fun vs H Q E h => runD_len h) (fun cdv A outer s H vs Q E hr hG h => bodyP (tb := tbx pt) (N := N_shown_right) (m := 1) (b := f_shown_right) (fun E2 => (L2.pss_cons (L2.ps_set (i := 1) S.nd rfl (by first | exact Or.inl rfl | exact Or.inr rfl) (L2.bm_K (r := (L2.rJoin K)) (K := K) rfl PySem.F.plainAttrs_str PySem.F.slot_str_join PySem.F.type_str_join (L2.join_K (K := K) rfl) L2.pe_str (L2.pa_cons (L2.pv 0) L2.pa_nil))) (L2.pss_cons (L2.ps_set (i := 2) S.nd rfl (by first | exact Or.inl rfl | exact Or.inr rfl) (L2.pe_cX (c_due_1 B) (hr.mono (by decide)) hG (takes_of rfl rfl rfl rfl) rfl B.g__law_due (L2.pa_cons (L2.pv 1) L2.pa_nil) L2.pk_nil)) (L2.pss_cons (L2.ps_set (i := 3) S.nd rfl (by first | exact Or.inl rfl | exact Or.inr rfl) (L2.pe_ix (Sd.ix_K (K := K) rfl) (L2.pv 2) L2.pe_int fun _ _ => rfl)) (L2.pss_cons (L2.ps_set (i := 4) S.nd rfl (by first | exact Or.inl rfl | exact Or.inr rfl) (L2.pe_kX B.mk_Kind (c_Kind_init_3_turns_rests B) (hr.mono (by decide)) hG (takes_of rfl rfl rfl rfl) rfl B.g_Kind (L2.pa_cons (L2.pe_ix (Sd.ix_K (K := K) rfl) (L2.pv 3) L2.pe_int fun _ _ => rfl) (L2.pa_cons (L2.pe_ix (Sd.ix_K (K := K) rfl) (L2.pv 3) L2.pe_int fun _ _ => rfl) L2.pa_nil)) (L2.pk_cons (L2.pe_ix (Sd.ix_K (K := K) rfl) (L2.pv 3) L2.pe_int fun _ _ => rfl) (L2.pk_cons (L2.pe_ix (Sd.ix_K (K := K) rfl) (L2.pv 3) L2.pe_int fun _ _ => rfl) L2.pk_nil)))) (L2.pss_cons (L2.ps_if (L2.pt_cmpR (Sd.op_neU (K := K) rfl hr.units) (L2.pe_callB (Sd.repr_K (K := K) (ca := ca) rfl hG hr.units B.sys) rfl B.n_repr (by decide +kernel) (L2.pa_cons (L2.pe_lst (L2.pa_cons (L2.pe_callTy (L2.CallR.or L2.call_strU (L2.call_strOwn B.ow_Kind_str (c_Kind_str_1 B) (hr.mono (by decide)) hG)) rfl B.n_str (by decide +kernel) (L2.pa_cons (L2.pv 4) L2.pa_nil)) (L2.pa_cons (L2.pe_callB (L2.CallR.or (Sd.repr_K (K := K) (ca := ca) rfl hG hr.units B.sys) (L2.call_reprOwn B.ow_Kind_repr (c_Kind_repr_1 B) (hr.mono (by decide)) hG)) rfl B.n_repr (by decide +kernel) (L2.pa_cons (L2.pv 4) L2.pa_nil)) (L2.pa_cons (L2.pe_callTy (L2.CallR.or L2.call_strU (L2.call_strOwn B.ow_Kind_str (c_Kind_str_1 B) (hr.mono (by decide)) hG)) rfl B.n_str (by decide +kernel) (L2.pa_cons (L2.pv 4) L2.pa_nil)) L2.pa_nil)))) L2.pa_nil)) (L2.pe_callB (Sd.repr_K (K := K) (ca := ca) rfl hG hr.units B.sys) rfl B.n_repr (by decide +kernel) (L2.pa_cons (L2.pe_lst (L2.pa_cons (L2.pv 1) (L2.pa_cons (L2.pe_op (Sd.op_addK (K := K) rfl) (L2.pe_op (Sd.op_addK (K := K) rfl) L2.pe_str (L2.pv 1)) L2.pe_str) (L2.pa_cons (L2.pv 1) L2.pa_nil)))) L2.pa_nil)) (L2.nomark _)) (L2.pss_one (L2.ps_ret L2.pe_bl)) L2.pss_nil) (L2.pss_one (L2.ps_ret (L2.pe_and (L2.pe_cmpR (L2.OpR.or (Sd.op_eqU (K := K) rfl hr.units) (L2.eqX_K (K := K) rfl B.ow_Kind_eq (c_Kind_eq_2 B) (hr.mono (by decide)) hG)) (L2.pe_cmX (L2.pe_gR B.g_Kind rfl) B.cr_Kind B.cm_read (c_Kind_read_2 B) (hr.mono (by decide)) hG (takes_of rfl rfl rfl rfl) (L2.pa_cons (L2.pe_callTy (L2.CallR.or L2.call_strU (L2.call_strOwn B.ow_Kind_str (c_Kind_str_1 B) (hr.mono (by decide)) hG)) rfl B.n_str (by decide +kernel) (L2.pa_cons (L2.pv 4) L2.pa_nil)) L2.pa_nil) L2.pk_nil) (L2.pv 4) (L2.nomark _)) (L2.pe_one (L2.pe_cmpR (L2.OpR.or (Sd.op_eqU (K := K) rfl hr.units) (L2.eqX_K (K := K) rfl B.ow_Kind_eq (c_Kind_eq_2 B) (hr.mono (by decide)) hG)) (L2.pe_cmX (L2.pe_gR B.g_Kind rfl) B.cr_Kind B.cm_read (c_Kind_read_2 B) (hr.mono (by decide)) hG (takes_of rfl rfl rfl rfl) (L2.pa_cons (L2.pv 1) L2.pa_nil) L2.pk_nil) (L2.pv 4) (L2.nomark _)))))))))))) (fun ms f0 hz C E X lk => ((qs_seq (qs_asg (i := 1) (q_sm o_join q_str (qr_c (q_v 0) qr_n))) (qs_seq (qs_asg (i := 2) (q_cX hz lk (fun _ _ => .nil) (qc_d (q_v 1) qc_n) qc_n)) (qs_seq (qs_asg (i := 3) (q_o o_ix c_ix (q_v 2) q_int)) (qs_seq (qs_asg (i := 4) (q_fz (q_kX hz lk rfl (fun _ _ => .nil) (qc_d (q_o o_ix c_ix (q_v 3) q_int) (qc_d (q_o o_ix c_ix (q_v 3) q_int) qc_n)) (qc_d (q_o o_ix c_ix (q_v 3) q_int) (qc_d (q_o o_ix c_ix (q_v 3) q_int) qc_n))))) (qs_seq (qs_if (qt_t (q_o o_neU c_eq (q_cb o_reprA c_repr (qr_c (q_l (qa_c (q_own1 hz rfl o_str (q_v 4)) (qa_c (q_own1R hz rfl (q_v 4)) (qa_c (q_own1 hz rfl o_str (q_v 4)) qa_n)))) qr_n)) (q_cb o_reprA c_repr (qr_c (q_l (qa_c (q_v 1) (qa_c (q_o o_addU c_add (q_o o_addU c_add q_str (q_v 1)) q_str) (qa_c (q_v 1) qa_n)))) qr_n)))) (qs_ret q_bl) qs_n) (qs_ret (q_and (q_eqX (nf := nf_Kind) hz rfl B.eo_Kind o_eqU c_eq (q_cM (src := [.a 0]) hz lk rfl (qc_d (q_own1 hz rfl o_str (q_v 4)) qc_n) qc_n) (q_v 4)) (q_eqX (nf := nf_Kind) hz rfl B.eo_Kind o_eqU c_eq (q_cM (src := [.a 0]) hz lk rfl (qc_d (q_v 1) qc_n) qc_n) (q_v 4)))))))))).z) h)
theorem c_shown_right_1 (B : Bx P w K mg base ca fa pa pt pc) : FnX P w K mg base 14 (fa "_law_shown_right") 1 [] [.a 0] [] (SpA K ca (tbx pt) (RF F_shown_right)) := by
  obtain ⟨fd, F⟩ := B.F_shown_right
  exact ⟨⟨fd, ["_law_words_here"], g_shown_right B F, kb_all F fun _ _ _ _ _ _ us ws l1 l2 => match us, ws, l1, l2 with | [_], [], _, _ => rfl⟩, F.kp⟩
theorem g_words (B : Bx P w K mg base ca fa pa pt pc) {fd : FuncData} (F : FunD K "_law_words" "_law_words" (defArgs s_words) (defBody s_words) (defScope s_words) [] [] (fa "_law_words") fd) : FnG P w K mg base (L2.CX P w) 6 (fa "_law_words") fd ["_law_hand"] (SpA K ca (tbx pt) (RF F_words)) := by
  have S := sc_words
  exact F.okG (k := 5) S (fun vs H Q E h => runD_len h) (fun cdv A outer s H vs Q E hr hG h => bodyP (tb := tbx pt) (N := N_words) (m := 1) (b := f_words) (fun E2 => (L2.pss_cons (L2.ps_set (i := 1) S.nd rfl (by first | exact Or.inl rfl | exact Or.inr rfl) (L2.pe_lst (L2.pa_cons (L2.pe_op (Sd.op_addK (K := K) rfl) (L2.pe_op (Sd.op_addK (K := K) rfl) (L2.pe_ix (Sd.ix_K (K := K) rfl) (L2.pe_lst (L2.pa_cons L2.pe_str (L2.pa_cons L2.pe_str (L2.pa_cons L2.pe_str L2.pa_nil)))) (L2.pe_cX (c_take_2 B) (hr.mono (by decide)) hG (takes_of rfl rfl rfl rfl) rfl B.g__law_take (L2.pa_cons (L2.pv 0) (L2.pa_cons L2.pe_int L2.pa_nil)) L2.pk_nil) fun _ _ => rfl) L2.pe_str) (L2.pe_ix (Sd.ix_K (K := K) rfl) (L2.pe_lst (L2.pa_cons L2.pe_str (L2.pa_cons L2.pe_str (L2.pa_cons L2.pe_str L2.pa_nil)))) (L2.pe_cX (c_take_2 B) (hr.mono (by decide)) hG (takes_of rfl rfl rfl rfl) rfl B.g__law_take (L2.pa_cons (L2.pv 0) (L2.pa_cons L2.pe_int L2.pa_nil)) L2.pk_nil) fun _ _ => rfl)) L2.pa_nil))) (L2.pss_cons (L2.ps_if (L2.pt_cmpR (Sd.op_eqU (K := K) rfl hr.units) (L2.pe_cX (c_take_2 B) (hr.mono (by decide)) hG (takes_of rfl rfl rfl rfl) rfl B.g__law_take (L2.pa_cons (L2.pv 0) (L2.pa_cons L2.pe_int L2.pa_nil)) L2.pk_nil) L2.pe_int (L2.nomark _)) (L2.pss_one (L2.ps_expr (L2.bm_K (r := L2.rAppend) (K := K) rfl PySem.F.plainAttrs_list PySem.F.slot_list_append PySem.F.type_list_append L2.mt_append (L2.pv 1) (L2.pa_cons L2.pe_str L2.pa_nil)))) L2.pss_nil) (L2.pss_cons (L2.ps_if (L2.pt_cmpR (Sd.op_eqU (K := K) rfl hr.units) (L2.pe_cX (c_take_2 B) (hr.mono (by decide)) hG (takes_of rfl rfl rfl rfl) rfl B.g__law_take (L2.pa_cons (L2.pv 0) (L2.pa_cons L2.pe_int L2.pa_nil)) L2.pk_nil) L2.pe_int (L2.nomark _)) (L2.pss_cons (L2.ps_set (i := 2) S.nd rfl (by first | exact Or.inl rfl | exact Or.inr rfl) (L2.pe_ix (Sd.ix_K (K := K) rfl) (L2.pe_lst (L2.pa_cons L2.pe_int (L2.pa_cons L2.pe_int (L2.pa_cons (L2.pe_op L2.op_pow L2.pe_int L2.pe_int) (L2.pa_cons (L2.pe_op (Sd.op_addK (K := K) rfl) L2.pe_int (L2.pe_cX (c_take_2 B) (hr.mono (by decide)) hG (takes_of rfl rfl rfl rfl) rfl B.g__law_take (L2.pa_cons (L2.pv 0) (L2.pa_cons (L2.pe_op L2.op_sub (L2.pe_op L2.op_pow L2.pe_int L2.pe_int) L2.pe_int) L2.pa_nil)) L2.pk_nil)) L2.pa_nil))))) (L2.pe_cX (c_take_2 B) (hr.mono (by decide)) hG (takes_of rfl rfl rfl rfl) rfl B.g__law_take (L2.pa_cons (L2.pv 0) (L2.pa_cons L2.pe_int L2.pa_nil)) L2.pk_nil) fun _ _ => rfl)) (L2.pss_one (L2.ps_set (i := 1) S.nd rfl (by first | exact Or.inl rfl | exact Or.inr rfl) (L2.pe_op (Sd.op_addK (K := K) rfl) (L2.pv 1) (L2.pe_lst (L2.pa_cons L2.pe_str (L2.pa_cons (L2.pe_callTy L2.call_strU rfl B.n_str (by decide +kernel) (L2.pa_cons (L2.pv 2) L2.pa_nil)) L2.pa_nil))))))) L2.pss_nil) (L2.pss_one (L2.ps_ret (L2.pv 1))))))) (fun ms f0 hz C E X lk => ((qs_seq (qs_asg (i := 1) (q_l (qa_c (q_o o_addU c_add (q_o o_addU c_add (q_o o_ix c_ix (q_l (qa_c q_str (qa_c q_str (qa_c q_str qa_n)))) (q_cX hz lk (fun _ _ => .nil) (qc_r (q_v 0) (qc_d q_int qc_n)) qc_n)) q_str) (q_o o_ix c_ix (q_l (qa_c q_str (qa_c q_str (qa_c q_str qa_n)))) (q_cX hz lk (fun _ _ => .nil) (qc_r (q_v 0) (qc_d q_int qc_n)) qc_n))) qa_n))) (qs_seq (qs_if (qt_t (q_o o_eqU c_eq (q_cX hz lk (fun _ _ => .nil) (qc_r (q_v 0) (qc_d q_int qc_n)) qc_n) q_int)) (qs_drop (q_app (i := 1) q_str)) qs_n) (qs_seq (qs_if (qt_t (q_o o_eqU c_eq (q_cX hz lk (fun _ _ => .nil) (qc_r (q_v 0) (qc_d q_int qc_n)) qc_n) q_int)) (qs_seq (qs_asg (i := 2) (q_o o_ix c_ix (q_l (qa_c q_int (qa_c q_int (qa_c (q_o o_pow c_pow q_int q_int) (qa_c (q_o o_addU c_add q_int (q_cX hz lk (fun _ _ => .nil) (qc_r (q_v 0) (qc_d (q_o o_sub c_sub (q_o o_pow c_pow q_int q_int) q_int) qc_n)) qc_n)) qa_n))))) (q_cX hz lk (fun _ _ => .nil) (qc_r (q_v 0) (qc_d q_int qc_n)) qc_n))) (qs_asg (i := 1) (q_o o_addU c_add (q_v 1) (q_l (qa_c q_str (qa_c (q_cb o_str c_fOL (qr_c (q_v 2) qr_n)) qa_n)))))) qs_n) (qs_ret (q_v 1)))))).z) h)
theorem c_words_1 (B : Bx P w K mg base ca fa pa pt pc) : FnX P w K mg base 6 (fa "_law_words") 1 [] [.a 0] [] (SpA K ca (tbx pt) (RF F_words)) := by
  obtain ⟨fd, F⟩ := B.F_words
  exact ⟨⟨fd, ["_law_hand"], g_words B F, kb_all F fun _ _ _ _ _ _ us ws l1 l2 => match us, ws, l1, l2 with | [_], [], _, _ => rfl⟩, F.kp⟩
end
end K03

set_option maxHeartbeats 4000000
/-! the law's own def -/
namespace K03
open PySem PySem.Spec PyProof.Rows L2 LamX Sd
section
variable {P : Program} {w : World} {K : PySem.W.Frag} {mg : Str → Option Value} {base : Heap} {ca fa pa pt pc : Str → Addr}
/-- the law, as plain Lean: whatever the cells, True -/
def Plain : Prop := ∀ ms : List Int, ms.length ≤ 63 → ws noX f_law { nx := fun _ => False, rt := fun r _ => r = .d (.bl true) } ⟨lawSt 6 1, [hand0 ms], 0⟩
theorem g_begin (B : Bx P w K mg base ca fa pa pt pc) {fd : FuncData} (F : FunD K "_law_begin" "_law_begin" (defArgs s_begin) (defBody s_begin) (defScope s_begin) [] [] (fa "_law_begin") fd) : FnOk P w K mg base (L2.CX P w) 1 (fa "_law_begin") fd ["_law_script"] (spPen K) :=
  F.ok sc_begin (fun vs H Q E h => by obtain ⟨_, _, rfl, _⟩ := h; rfl) (fun cdv A outer s H vs Q E hr h => ⟨_, (L2.pss_one (L2.ps_ret (L2.pe_lst (L2.pa_cons (L2.pe_callTy L2.call_list_of rfl B.n_list (by decide +kernel) (L2.pa_cons (L2.pe_slice L2.sl_list (L2.pv 0) L2.po_none (L2.po_some L2.pe_int)) L2.pa_nil)) (L2.pa_cons L2.pe_int (L2.pa_cons L2.pe_int L2.pa_nil)))))), pen_run h⟩)
theorem passE {X : Cx} : Passes (L2.CX X.prog X.w) X E0 := fun pins σ H s e s' I h => by
  obtain ⟨_, _, _, _, _, _, _, _, _, _, _, _, z⟩ := (show L2.CX X.prog X.w X.stack H s E0 e s' from h)
  exact z.elim
theorem in_law : (pt "law", (("law" : Str) ++ ".<locals>.") ++ "<lambda>") ∈ tbx pt := by
  have e : (("law" : Str) ++ ".<locals>.") ++ "<lambda>" = "law.<locals>.<lambda>" := by decide +kernel
  rw [e]
  exact .head _
theorem one_law (B : Bx P w K mg base ca fa pa pt pc) : ∀ p ∈ tbx pt, p.1 = pt "law" → p.2 = (("law" : Str) ++ ".<locals>.") ++ "<lambda>" := fun p hp e => by
  have e2 : (("law" : Str) ++ ".<locals>.") ++ "<lambda>" = "law.<locals>.<lambda>" := by decide +kernel
  rw [e2]
  simp only [tbx, List.mem_cons, List.not_mem_nil, or_false] at hp
  rcases hp with rfl | rfl
  · rfl
  · exact absurd e (fun z => B.ne_law_read_right z.symm)
theorem g_law (pl : Plain) (B : Bx P w K mg base ca fa pa pt pc) {fd : FuncData} (F : FunD K "law" "law" (defArgs s_law) (defBody s_law) (defScope s_law) [] [] (fa "law") fd) (hcode : fd.code = .ref (pc "law")) : FnG P w K mg base (L2.CX P w) 27 (fa "law") fd ["_law_script"] (spTrue K (tbx pt)) := by
  have S := sc_law
  obtain ⟨fdb, FB⟩ := B.F_begin
  have GB := g_begin B FB
  have bB : Binds K fdb ["_law_script"] [] := FB.bindsN fun _ _ _ _ _ _ us hl => match us, hl with | [_], _ => rfl
  obtain ⟨fdT, FT⟩ := B.F_told
  have bT : Binds K fdT ["_law_ask"] [] := FT.bindsN fun _ _ _ _ _ _ us hl => match us, hl with | [_], _ => rfl
  have kpT := FT.kp
  obtain ⟨ocT, odT, dVT, kVT, docT, pmT, anT, cdvT, ctT, oslT, rfl, lkT, hcT, hdT, _⟩ := FT.ex
  rcases hdT with ⟨_, rfl⟩ | ⟨z, _⟩
  case inr => exact absurd rfl z
  exact F.okC (k := 26) hcode S (fun vs H Q E h => by obtain ⟨_, _, rfl, _⟩ := h; rfl) (fun A outer s H vs Q E hr hG h => ⟨_, (L2.pss_cons (L2.ps_set (i := 1) S.nd rfl (by first | exact Or.inl rfl | exact Or.inr rfl) (L2.pe_call GB (hr.mono (by decide)) rfl B.g__law_begin FB.kp bB .nil passE (L2.pa_cons (L2.pv 0) L2.pa_nil))) (L2.pss_cons (L2.ps_for (L2.passes_of rfl) rfl (L2.pi_range1 rfl B.n_range (L2.pa_cons L2.pe_int L2.pa_nil)) (L2.pg_name (i := 2) S.nd rfl (by first | exact Or.inl rfl | exact Or.inr rfl)) (L2.pss_cons (L2.ps_set (i := 3) S.nd rfl (by first | exact Or.inl rfl | exact Or.inr rfl) (L2.pe_cX (c_words_1 B) (hr.mono (by decide)) hG (takes_of rfl rfl rfl rfl) rfl B.g__law_words (L2.pa_cons (L2.pv 1) L2.pa_nil) L2.pk_nil)) (L2.pss_cons (L2.ps_if (L2.PW.pt (L2.pw_or (L2.pt_not (L2.pt_val (L2.pe_cX (c_shown_right_1 B) (hr.mono (by decide)) hG (takes_of rfl rfl rfl rfl) rfl B.g__law_shown_right (L2.pa_cons (L2.pv 3) L2.pa_nil) L2.pk_nil))) (L2.pw_or1 (L2.pt_not (L2.pt_val (L2.pe_cX (c_read_right_1 B) (hr.mono (by decide)) hG (takes_of rfl rfl rfl rfl) rfl B.g__law_read_right (L2.pa_cons (L2.bm_K (r := (L2.rJoin K)) (K := K) rfl PySem.F.plainAttrs_str PySem.F.slot_str_join PySem.F.type_str_join (L2.join_K (K := K) rfl) L2.pe_str (L2.pa_cons (L2.pv 3) L2.pa_nil)) L2.pa_nil) L2.pk_nil)))))) (L2.pss_one (L2.ps_ret L2.pe_bl)) L2.pss_nil) (L2.pss_cons (L2.ps_set (i := 4) S.nd rfl (by first | exact Or.inl rfl | exact Or.inr rfl) (L2.pe_cX (c_bent_2 B) (hr.mono (by decide)) hG (takes_of rfl rfl rfl rfl) rfl B.g__law_bent (L2.pa_cons (L2.pv 1) (L2.pa_cons (L2.pv 3) L2.pa_nil)) L2.pk_nil)) (L2.pss_cons (L2.ps_if (L2.PW.pt (L2.pw_or (L2.pt_not (L2.pt_val (L2.pe_cX (c_read_right_1 B) (hr.mono (by decide)) hG (takes_of rfl rfl rfl rfl) rfl B.g__law_read_right (L2.pa_cons (L2.bm_K (r := (L2.rJoin K)) (K := K) rfl PySem.F.plainAttrs_str PySem.F.slot_str_join PySem.F.type_str_join (L2.join_K (K := K) rfl) L2.pe_str (L2.pa_cons (L2.pv 4) L2.pa_nil)) L2.pa_nil) L2.pk_nil))) (L2.pw_or1 (L2.pt_not (L2.pt_val (L2.pe_cX (c_read_right_1 B) (hr.mono (by decide)) hG (takes_of rfl rfl rfl rfl) rfl B.g__law_read_right (L2.pa_cons (L2.bm_K (r := (L2.rJoin K)) (K := K) rfl PySem.F.plainAttrs_str PySem.F.slot_str_join PySem.F.type_str_join (L2.join_K (K := K) rfl) L2.pe_str (L2.pa_cons (L2.pe_cX (c_bent_2 B) (hr.mono (by decide)) hG (takes_of rfl rfl rfl rfl) rfl B.g__law_bent (L2.pa_cons (L2.pv 1) (L2.pa_cons (L2.pv 4) L2.pa_nil)) L2.pk_nil) L2.pa_nil)) L2.pa_nil) L2.pk_nil)))))) (L2.pss_one (L2.ps_ret L2.pe_bl)) L2.pss_nil) (L2.pss_cons (L2.ps_set (i := 5) S.nd rfl (by first | exact Or.inl rfl | exact Or.inr rfl) (L2.pe_ix (Sd.ix_K (K := K) rfl) (L2.pe_lst (L2.pa_cons L2.pe_non (L2.pa_cons L2.pe_bl (L2.pa_cons L2.pe_int (L2.pa_cons (L2.pe_lst L2.pa_nil) (L2.pa_cons L2.pe_dnewK (L2.pa_cons (L2.pe_tup (L2.pa_cons L2.pe_str L2.pa_nil)) (L2.pa_cons (L2.pe_lst (L2.pa_cons L2.pe_str L2.pa_nil)) (L2.pa_cons (L2.pe_op L2.op_pow L2.pe_int L2.pe_int) L2.pa_nil))))))))) (L2.pe_cX (c_take_2 B) (hr.mono (by decide)) hG (takes_of rfl rfl rfl rfl) rfl B.g__law_take (L2.pa_cons (L2.pv 1) (L2.pa_cons L2.pe_int L2.pa_nil)) L2.pk_nil) fun _ _ => rfl)) (L2.pss_one (L2.ps_if (L2.pt_cmpR (Sd.op_neU (K := K) rfl hr.units) (L2.pe_lam3 (x := "_law_told") (a := "_law_ask") (g := fa "_law_told") (c := pc "law") (P := pt "law") (k := 17) (Ng := N_told) (ps := []) (T := tbx pt) (TT := TTL K ca (tbx pt) F_told) rfl B.g__law_told kpT lkT hcT bT sc_told rfl (by first | exact Or.inl rfl | exact Or.inr (Or.inl rfl) | exact Or.inr (Or.inr rfl)) (gets_told B _ _) (fun tl vs H Q z => ttl_len z) B.t_law rfl in_law (one_law B) (hr.mono (by decide)) hG (LamX.lamS_by (sc := defScope s_law) (by decide +kernel)) rfl (fun _ _ _ _ _ => rfl) L2.pa_nil (fun A2 outer2 s2 H2 E2 f2 cc2 hr2 hG2 => (L2.pe_cmX (L2.pe_gR B.g_Kind rfl) B.cr_Kind B.cm_read (c_Kind_read_2 B) (hr2.mono (by decide)) hG2 (takes_of rfl rfl rfl rfl) (L2.pa_cons (L2.pv 5) L2.pa_nil) L2.pk_nil))) (L2.pe_tup (L2.pa_cons L2.pe_str (L2.pa_cons L2.pe_int L2.pa_nil))) (L2.nomark _)) (L2.pss_one (L2.ps_ret L2.pe_bl)) L2.pss_nil)))))))) (L2.pss_cons (L2.ps_if (L2.PW.pt (L2.pw_or (L2.pt_not (L2.pt_val (L2.pe_cX (c_read_right_1 B) (hr.mono (by decide)) hG (takes_of rfl rfl rfl rfl) rfl B.g__law_read_right (L2.pa_cons L2.pe_str L2.pa_nil) L2.pk_nil))) (L2.pw_or1 (L2.pt_not (L2.pt_val (L2.pe_cX (c_read_right_1 B) (hr.mono (by decide)) hG (takes_of rfl rfl rfl rfl) rfl B.g__law_read_right (L2.pa_cons L2.pe_str L2.pa_nil) L2.pk_nil)))))) (L2.pss_one (L2.ps_ret L2.pe_bl)) L2.pss_nil) (L2.pss_one (L2.ps_ret (L2.pe_and (L2.pe_cX (c_read_right_1 B) (hr.mono (by decide)) hG (takes_of rfl rfl rfl rfl) rfl B.g__law_read_right (L2.pa_cons L2.pe_str L2.pa_nil) L2.pk_nil) (L2.pe_one (L2.pe_cX (c_read_right_1 B) (hr.mono (by decide)) hG (takes_of rfl rfl rfl rfl) rfl B.g__law_read_right (L2.pa_cons L2.pe_str L2.pa_nil) L2.pk_nil)))))))), law_runP (K := K) (ca := ca) (tb := tbx pt) (N := N_law) (i := 1) (f := fun _ => f_law) (by decide) (by decide) (fun ms hz C => ((qs_seq (qs_for (qi_r1 (qr_c q_int qr_n)) (qg_n 2) (qs_seq (qs_asg (i := 3) (q_cX hz linkN (fun _ _ => .nil) (qc_r (q_v 1) qc_n) qc_n)) (qs_seq (qs_if (qt_or (qt_n (qt_t (q_cX hz linkN (fun _ _ => .nil) (qc_d (q_v 3) qc_n) qc_n))) (qt_n (qt_t (q_cX hz linkN (fun _ _ => .nil) (qc_d (q_sm o_join q_str (qr_c (q_v 3) qr_n)) qc_n) qc_n)))) (qs_ret q_bl) qs_n) (qs_seq (qs_asg (i := 4) (q_cX hz linkN (fun _ _ => .nil) (qc_r (q_v 1) (qc_d (q_v 3) qc_n)) qc_n)) (qs_seq (qs_if (qt_or (qt_n (qt_t (q_cX hz linkN (fun _ _ => .nil) (qc_d (q_sm o_join q_str (qr_c (q_v 4) qr_n)) qc_n) qc_n))) (qt_n (qt_t (q_cX hz linkN (fun _ _ => .nil) (qc_d (q_sm o_join q_str (qr_c (q_cX hz linkN (fun _ _ => .nil) (qc_r (q_v 1) (qc_d (q_v 4) qc_n)) qc_n) qr_n)) qc_n) qc_n)))) (qs_ret q_bl) qs_n) (qs_seq (qs_asg (i := 5) (q_o o_ix c_ix (q_l (qa_c q_non (qa_c q_bl (qa_c q_int (qa_c (q_l qa_n) (qa_c q_d0 (qa_c (q_t (qa_c q_str qa_n)) (qa_c (q_l (qa_c q_str qa_n)) (qa_c (q_o o_pow c_pow q_int q_int) qa_n))))))))) (q_cX hz linkN (fun _ _ => .nil) (qc_r (q_v 1) (qc_d q_int qc_n)) qc_n))) (qs_if (qt_t (q_o o_neU c_eq (q_lam (P := pt "law") hz it_law qc_n (fun C2 E2 X2 lk2 => (q_cM (src := [.a 0]) hz lk2 rfl (qc_d (q_v 5) qc_n) qc_n))) (q_t (qa_c q_str (qa_c q_int qa_n))))) (qs_ret q_bl) qs_n))))))) (qs_seq (qs_if (qt_or (qt_n (qt_t (q_cX hz linkN (fun _ _ => .nil) (qc_d q_str qc_n) qc_n))) (qt_n (qt_t (q_cX hz linkN (fun _ _ => .nil) (qc_d q_str qc_n) qc_n)))) (qs_ret q_bl) qs_n) (qs_ret (q_and (q_cX hz linkN (fun _ _ => .nil) (qc_d q_str qc_n) qc_n) (q_cX hz linkN (fun _ _ => .nil) (qc_d q_str qc_n) qc_n)))))).z) pl h⟩)
end
end K03

set_option maxHeartbeats 1000000
/-! LA: functions evaluated: calls with data alone, comprehensions. -/
namespace Sd
open PySem PySem.Spec PyProof.Rows L2
theorem fz_p (μ : List M) (d : D) : fz μ (.p d) = .p d := rfl
theorem addRs_p (μ : List M) : ∀ (ds : List D) (ls : List Nat), addRs μ ls (ds.map .p) = ls
  | [], _ => rfl
  | d :: ds, ls => addRs_p μ ds ls
theorem clo_nil (μ : List M) : ∀ n : Nat, clo μ n 0 [] = []
  | 0 => rfl
  | n + 1 => rfl
theorem lend_p (μ : List M) (ds : List D) : lend μ (ds.map .p) = [] := by
  unfold lend
  rw [addRs_p]
  exact clo_nil μ _
theorem okL_p (μ : List M) (ds : List D) : okL μ (ds.map .p) [] = true := by
  unfold okL
  have e : (ds.map C1.p).all (refIn μ []) = true := by
    rw [List.all_map]
    exact List.all_eq_true.mpr fun d _ => rfl
  rw [e]
  rfl
theorem ren_p (μ : List M) (ds : List D) : (ds.map C1.p).map (renC μ []) = ds.map C1.p := by
  rw [List.map_map]
  rfl
theorem bkR_nil : ∀ r : RV, (∃ d, r = .d d) → bkR [] r = r
  | _, ⟨_, rfl⟩ => rfl
theorem wb_nil (μ ms : List M) : wb [] μ [] ms = μ := by
  cases ms <;> rfl
/-- a call with data alone that gives data -/
theorem callF_d {F : FD} {ds : List D} {d : D} {ρ : En} {μ : List M} (h : F (ds.map .p) [] = .ok (.d d) μ) : callF F (ds.map .p) ρ = .ok (.d d) ρ := by
  unfold callF
  rw [lend_p, okL_p, if_pos rfl, ren_p]
  show callR [] ρ (F (ds.map .p) []) = _
  rw [h]
  show Ot.ok (bkR [] (.d d)) (ρ.wm (wb [] ρ.μ [] μ)) = _
  rw [wb_nil]
  rfl
theorem callF_x {F : FD} {ds : List D} {x : D} {ρ : En} {μ : List M} (h : F (ds.map .p) [] = .ex x μ) : callF F (ds.map .p) ρ = .ex x ρ := by
  unfold callF
  rw [lend_p, okL_p, if_pos rfl, ren_p]
  show callR [] ρ (F (ds.map .p) []) = _
  rw [h]
  show Ot.ex x (ρ.wm (wb [] ρ.μ [] μ)) = _
  rw [wb_nil]
  rfl
theorem callC_d {F : FD} {ds : List D} {d : D} {ρ : En} (h : F (.fn :: ds.map .p) [] = .ok (.d d) []) : callC F (ds.map .p) ρ = .ok (.d d) ρ := by
  unfold callC
  rw [lend_p, okL_p, if_pos rfl, ren_p]
  show bkX [] ρ (F (.fn :: ds.map .p) []) = _
  rw [h]
  show Ot.ok (RV.d d) (ρ.wm (wb [] ρ.μ [] [])) = _
  rw [wb_nil]
  rfl
theorem callC_x {F : FD} {ds : List D} {x : D} {ρ : En} (h : F (.fn :: ds.map .p) [] = .ex x []) : callC F (ds.map .p) ρ = .ex x ρ := by
  unfold callC
  rw [lend_p, okL_p, if_pos rfl, ren_p]
  show bkX [] ρ (F (.fn :: ds.map .p) []) = _
  rw [h]
  show Ot.ex x (ρ.wm (wb [] ρ.μ [] [])) = _
  rw [wb_nil]
  rfl
/-! ### comprehensions -/
theorem comp_d {j : Nat} {t : FT} {e : FE} {ρ0 : En} {μ : List M} {p : D → Bool} {f : D → D} : ∀ (xs acc : List D), (∀ x ∈ xs, t ((ρ0.wm μ).set j (.p x)) = .ok (p x) ((ρ0.wm μ).set j (.p x))) →
    (∀ x ∈ xs, p x = true → e ((ρ0.wm μ).set j (.p x)) = .ok (.d (f x)) ((ρ0.wm μ).set j (.p x))) → szB (acc.length + xs.length) = true → comp (gN j) t e ρ0 xs acc μ = .ok (acc ++ (xs.filter p).map f) (ρ0.wm μ)
  | [], acc, _, _, _ => by
    show Ot.ok acc (ρ0.wm μ) = _
    simp
  | x :: xs, acc, ht, he, hz => by
    have hz1 : ∀ a, a ≤ acc.length + (x :: xs).length → szB a = true := fun a ha => by
      unfold szB at hz ⊢
      exact Nat.ble_eq_true_of_le (Nat.le_trans ha (Nat.le_of_ble_eq_true hz))
    have h1 := ht x List.mem_cons_self
    show (Ot.nox (t ((ρ0.wm μ).set j (.p x)))).bind _ = _
    rw [h1]
    cases hp : p x with
    | false =>
      show comp (gN j) t e ρ0 xs acc μ = _
      rw [comp_d xs acc (fun y hy => ht y (List.mem_cons_of_mem _ hy)) (fun y hy => he y (List.mem_cons_of_mem _ hy)) (hz1 _ (by simp))]
      simp [List.filter_cons, hp]
    | true =>
      show (Ot.nox (e ((ρ0.wm μ).set j (.p x)))).bind _ = _
      rw [he x List.mem_cons_self hp]
      show (if szB (acc.length + 1) = true then comp (gN j) t e ρ0 xs (acc ++ [f x]) μ else .no) = _
      rw [if_pos (hz1 _ (by simp)), comp_d xs (acc ++ [f x]) (fun y hy => ht y (List.mem_cons_of_mem _ hy)) (fun y hy => he y (List.mem_cons_of_mem _ hy)) (hz1 _ (by simp; omega))]
      simp [List.filter_cons, hp]
theorem fLc_d {i : FI} {j : Nat} {t : FT} {e : FE} {vs : List Nat} {ρ ρ1 : En} {xs : List D} {p : D → Bool} {f : D → D} (hi : i ρ = .ok xs ρ1) (ht : ∀ x ∈ xs, t ((ρ1.wipe vs).set j (.p x)) = .ok (p x) ((ρ1.wipe vs).set j (.p x)))
    (he : ∀ x ∈ xs, p x = true → e ((ρ1.wipe vs).set j (.p x)) = .ok (.d (f x)) ((ρ1.wipe vs).set j (.p x))) (hz : szB xs.length = true) : fLc i (gN j) t e vs ρ = .ok (.n (.l ((xs.filter p).map f))) ρ1 := by
  unfold fLc
  rw [hi]
  show (comp (gN j) t e (ρ1.wipe vs) xs [] ρ1.μ).bind _ = _
  rw [comp_d (p := p) (f := f) xs [] ht he (by simpa using hz)]
  rfl
end Sd

set_option maxHeartbeats 1000000
/-! LC: the combinators' steps, as rules to rewrite by. -/
namespace Sd
open PySem PySem.Spec L2
section
variable {α β : Type} {a : α} {ρ : En} {x y z : D} {s : List (Option C1)} {μ : List M} {k i j l n : Nat} {c : C1} {m : M} {xs ys : List D} {r : RV} {rs : List RV} {b : Bool}
theorem e_bo {K : α → En → Ot β} : (Ot.ok a ρ).bind K = K a ρ := rfl
theorem e_bx {K : α → En → Ot β} : (Ot.ex x ρ : Ot α).bind K = .ex x ρ := rfl
theorem e_bn {K : α → En → Ot β} : (Ot.no : Ot α).bind K = .no := rfl
theorem e_to {K : α → En → Fl} : (Ot.ok a ρ).to K = K a ρ := rfl
theorem e_tx {K : α → En → Fl} : (Ot.ex x ρ : Ot α).to K = .ex x ρ := rfl
theorem e_qn {f : FS} : (Fl.nx ρ).sq f = f ρ := rfl
theorem e_qr {f : FS} : (Fl.rt r μ).sq f = .rt r μ := rfl
theorem e_qx {f : FS} : (Fl.ex x ρ).sq f = .ex x ρ := rfl
theorem e_os : opt (some a) ρ = .ok a ρ := rfl
theorem e_c : fC x ρ = .ok (.d x) ρ := rfl
theorem e_v : fVar i ⟨s, μ, k⟩ = varO ⟨s, μ, k⟩ s[i]? := rfl
theorem e_vp : varO ρ (some (some (.p x))) = .ok (.d x) ρ := rfl
theorem e_vr : varO ρ (some (some (.r l))) = .ok (.r l) ρ := rfl
theorem e_ad : asgF i (.d x) ρ = ρ.set i (.p x) := rfl
theorem e_an : asgF i (.n m) ⟨s, μ, k⟩ = ⟨s.set i (some (.r μ.length)), μ ++ [m], k⟩ := rfl
theorem e_ar : asgF i (.r l) ρ = ρ.set i (.r l) := rfl
theorem e_set : (En.mk s μ k).set i c = ⟨s.set i (some c), μ, k⟩ := rfl
theorem e_add : (En.mk s μ k).add m = ⟨s, μ ++ [m], k⟩ := rfl
theorem e_put : (En.mk s μ k).put l m = ⟨s, μ.set l m, k⟩ := rfl
theorem e_op {o : O2} {f g : FE} : fOp o f g ρ = (f ρ).bind fun r ρ1 => (g ρ1).bind fun s ρ2 => ap2 o ρ2 (rdF r ρ2) (rdF s ρ2) := rfl
theorem e_a2 {o : O2} : ap2 o ρ (some x) (some y) = opt (o x y) ρ := rfl
theorem e_un {o : O1} {f : FE} : fUn o f ρ = (f ρ).bind fun r ρ1 => ap1 o ρ1 (rdF r ρ1) := rfl
theorem e_a1 {o : O1} : ap1 o ρ (some x) = opt (o x) ρ := rfl
theorem e_rd : rdF (.d x) ρ = some x := rfl
theorem e_rn : rdF (.n (.l xs)) ρ = some (.lst xs) := rfl
theorem e_rm : rdF (.n (.m xs ys)) ρ = some (.dct xs ys) := rfl
theorem e_rr : rdF (.r l) ⟨s, μ, k⟩ = frzO μ[l]? := rfl
theorem e_fl : frzO (some (.l xs)) = some (.lst xs) := rfl
theorem e_fz : frzO (some (.z x)) = some x := rfl
theorem e_ed : escF (.d x) ρ = some (x, ρ) := rfl
theorem e_en : escF (.n (.l xs)) ρ = some (.lst xs, ρ) := rfl
theorem e_em : escF (.n (.m xs ys)) ρ = some (.dct xs ys, ρ) := rfl
theorem e_er : escF (.r l) ⟨s, μ, k⟩ = escM l ⟨s, μ, k⟩ μ[l]? := rfl
theorem e_mz : escM l ρ (some (.z x)) = some (x, ρ) := rfl
theorem e_ml : escM l ⟨s, μ, k⟩ (some (.l xs)) = if Nat.ble k l = true then some (.lst xs, ⟨s, μ.set l (.z (.lst xs)), k⟩) else none := rfl
theorem e_aN : aN ρ = .ok [] ρ := rfl
theorem e_aC {f : FE} {g : FA} : aC f g ρ = (f ρ).bind fun r ρ1 => (opt (escF r ρ1) ρ1).bind fun p _ => (g p.2).bind fun xs ρ3 => .ok (p.1 :: xs) ρ3 := rfl
theorem e_rN : rN ρ = .ok [] ρ := rfl
theorem e_rC {f : FE} {g : FR} : rC f g ρ = (f ρ).bind fun r ρ1 => (g ρ1).bind fun rs ρ2 => .ok (r :: rs) ρ2 := rfl
def consO (x : D) : Option (List D) → Option (List D)
  | some xs => some (x :: xs)
  | none => none
theorem e_co : consO x (some xs) = some (x :: xs) := rfl
theorem e_l0 : rdL [] ρ = some [] := rfl
def rdC : Option D → Option (List D) → Option (List D)
  | some x, some xs => some (x :: xs)
  | _, _ => none
theorem e_l1 : rdL (r :: rs) ρ = rdC (rdF r ρ) (rdL rs ρ) := by
  show (match rdF r ρ, rdL rs ρ with
    | some x, some xs => some (x :: xs)
    | _, _ => none) = _
  cases rdF r ρ <;> cases rdL rs ρ <;> rfl
theorem e_lc : rdC (some x) (some xs) = some (x :: xs) := rfl
theorem e_cb {o : OL} {f : FR} : fCB o f ρ = (f ρ).bind fun rs ρ1 => apL o ρ1 (rdL rs ρ1) := rfl
theorem e_aL {o : OL} : apL o ρ (some xs) = opt (o xs) ρ := rfl
theorem e_cN : cN ρ = .ok [] ρ := rfl
theorem e_cD {f : FE} {g : FC} : cD f g ρ = (f ρ).bind fun r ρ1 => (opt (escF r ρ1) ρ1).bind fun p _ => (g p.2).bind fun xs ρ3 => .ok (.p p.1 :: xs) ρ3 := rfl
theorem e_cR {f : FE} {g : FC} : cR f g ρ = (f ρ).bind fun r ρ1 => (opt (refO r) ρ1).bind fun c _ => (g ρ1).bind fun xs ρ3 => .ok (c :: xs) ρ3 := rfl
theorem e_fr : refO (.r l) = some (.r l) := rfl
theorem e_fd : refO (.d x) = some (.p x) := rfl
theorem e_fr' : refO' (.r l) = some (.r l) := rfl
theorem e_fd' : refO' (.d x) = some (.p x) := rfl
theorem e_lst {f : FA} : fLst f ρ = (f ρ).bind fun xs ρ1 => if szB xs.length = true then .ok (.n (.l xs)) ρ1 else .no := rfl
theorem e_tup {f : FA} : fTup f ρ = (f ρ).bind fun xs ρ1 => if szB xs.length = true then .ok (.d (.tup xs)) ρ1 else .no := rfl
theorem e_tb {f : FE} : Sd.tB f ρ = (f ρ).bind fun r ρ1 => apB ρ1 (rdF r ρ1) := rfl
theorem e_ab : apB ρ (some (.bl b)) = .ok b ρ := rfl
theorem e_tA {t u : FT} : tAn t u ρ = (t ρ).bind fun b ρ1 => if b = true then u ρ1 else .ok false ρ1 := rfl
theorem e_tO {t u : FT} : tO t u ρ = (t ρ).bind fun b ρ1 => if b = true then .ok true ρ1 else u ρ1 := rfl
theorem e_tN {t : FT} : tN t ρ = (t ρ).bind fun b ρ1 => .ok (!b) ρ1 := rfl
theorem e_fI {t : FT} {f g : FE} : fIf t f g ρ = (t ρ).bind fun b ρ1 => if b = true then f ρ1 else g ρ1 := rfl
theorem e_i2 {K : Int → Int → Ot RV} {p q : Int} : int2 ρ K (some (.int p)) (some (.int q)) = K p q := rfl
theorem e_ch {ga gb : Int → Int → Bool} {f g h : FE} : fCh ga gb f g h ρ = (f ρ).bind fun r ρ1 => (g ρ1).bind fun s ρ2 => int2 ρ2 (fun i j => if ga i j = true then (h ρ2).bind fun t ρ3 => int2 ρ3 (fun j k => .ok (.d (.bl (gb j k))) ρ3) (some (.int j)) (rdF t ρ3)
  else .ok (.d (.bl false)) ρ2) (rdF r ρ2) (rdF s ρ2) := rfl
theorem e_bk {K : Bool → Ot RV} : blK K (some (.bl b)) = K b := rfl
theorem e_and {f g : FE} : fAnd f g ρ = (f ρ).bind fun r ρ1 => blK (fun b => if b = true then g ρ1 else .ok (.d (.bl false)) ρ1) (rdF r ρ1) := rfl
theorem e_or {f g : FE} : fOr f g ρ = (f ρ).bind fun r ρ1 => blK (fun b => if b = true then .ok (.d (.bl true)) ρ1 else g ρ1) (rdF r ρ1) := rfl
theorem e_not {f : FE} : fNot f ρ = (f ρ).bind fun r ρ1 => blK (fun b => .ok (.d (.bl (!b))) ρ1) (rdF r ρ1) := rfl
theorem e_sm {o : Str → OL} {f : FE} {g : FR} : fSM o f g ρ = (f ρ).bind fun r ρ1 => strK (fun z => (g ρ1).bind fun rs ρ2 => apL (o z) ρ2 (rdL rs ρ2)) r := rfl
theorem e_sk {K : Str → Ot RV} {w : Str} : strK K (.d (.str w)) = K w := rfl
theorem e_oN : oN ρ = .ok none ρ := rfl
theorem e_oS {f : FE} : oS f ρ = (f ρ).bind fun r ρ1 => intK ρ1 (rdF r ρ1) := rfl
theorem e_iK {p : Int} : intK ρ (some (.int p)) = .ok (some p) ρ := rfl
theorem e_sl {f : FE} {g h : FO} : fSlc f g h ρ = (f ρ).bind fun r ρ1 => (g ρ1).bind fun lo ρ2 => (h ρ2).bind fun hi ρ3 => apS lo hi ρ3 (rdF r ρ3) := rfl
theorem e_aS {lo hi : Option Int} : apS lo hi ρ (some x) = opt (slF x lo hi) ρ := rfl
theorem e_ll {lo hi : Option Int} : slF (.lst xs) lo hi = some (.n (.l (cutD xs lo hi))) := rfl
theorem e_rv {f : FE} : fRev f ρ = (f ρ).bind fun r ρ1 => rvK ρ1 (rdF r ρ1) := rfl
theorem e_rk : rvK ρ (some (.lst xs)) = .ok (.n (.l xs.reverse)) ρ := rfl
theorem e_sS {f g : FS} : sSeq f g ρ = (f ρ).sq g := rfl
theorem e_sI {t : FT} {f g : FS} : sIf t f g ρ = (t ρ).to fun c ρ1 => if c = true then f ρ1 else g ρ1 := rfl
theorem e_sN : sN ρ = .nx ρ := rfl
theorem e_sD {f : FE} : sDrop f ρ = (f ρ).to fun _ ρ1 => .nx ρ1 := rfl
theorem e_sR {f : FE} : sRet f ρ = (f ρ).to fun r ρ1 => retO ρ1 (retV r ρ1) := rfl
theorem e_rO : retO ⟨s, μ, k⟩ (some r) = if closedB k (μ.take k) = true then .rt r (μ.take k) else .no := rfl
theorem e_rV : retV (.d x) ρ = some (.d x) := rfl
theorem e_rVn : retV (.n m) ρ = some (.n m) := rfl
theorem e_rVr : retV (.r l) ⟨s, μ, k⟩ = normF l k μ[l]? := rfl
theorem e_sA {f : FE} : sAsg i f ρ = (f ρ).to fun r ρ1 => .nx (asgF i r ρ1) := rfl
theorem e_sG {f : FE} {g : FG} : sAsgG f g ρ = (f ρ).to fun r ρ1 => (opt (escF r ρ1) ρ1).to fun p _ => oFl (g p.1 p.2) := rfl
theorem e_oF : oFl (some ρ) = .nx ρ := rfl
theorem e_gN : gN i x ρ = some (ρ.set i (.p x)) := rfl
theorem e_g0 : Sd.gNil [] ρ = some ρ := rfl
theorem e_g1 {g : FG} {h : FGs} : Sd.gCons g h (x :: xs) ρ = (g x ρ).bind fun ρ1 => h xs ρ1 := rfl
theorem e_gT {g : FGs} : gT n g (.tup xs) ρ = if xs.length == n then g xs ρ else none := rfl
theorem e_sE {c : Str} {ns : List Str} {f : FA} : sRaise c ns f ρ = (f ρ).to fun xs ρ1 => if (xs.length == ns.length) = true then .ex (.exc c ns xs) ρ1 else .no := rfl
theorem e_au {g : Int → Int → Int} {f : FE} : sAug i g f ⟨s, μ, k⟩ = if isIn ⟨s, μ, k⟩ i s[i]? = true then (f ⟨s, μ, k⟩).to fun r ρ1 => augO i g ρ1 s[i]? (rdF r ρ1) else .no := rfl
theorem e_ii {p : Int} : isIn ρ i (some (some (.p (.int p)))) = true := rfl
theorem e_ao {g : Int → Int → Int} {p q : Int} : augO i g ρ (some (some (.p (.int p)))) (some (.int q)) = .nx (ρ.set i (.p (.int (g p q)))) := rfl
theorem e_z {f : FE} : fFz f ρ = (f ρ).bind fun r ρ1 => (opt (escF r ρ1) ρ1).bind fun p _ => .ok (.d p.1) p.2 := rfl
theorem e_cX {F : FD} {src : List Src} {dC : List C1} {f g : FC} : fCX F n j src dC f g ρ = (f ρ).bind fun cs ρ1 => (g ρ1).bind fun ks ρ2 => if (cs.length == n && ks.length == j) = true then callF F (sel cs dC ks src) ρ2 else .no := rfl
theorem e_cM {F : FD} {src : List Src} {f g : FC} : fCM F n j src f g ρ = (f ρ).bind fun cs ρ1 => (g ρ1).bind fun ks ρ2 => if (cs.length + 1 == n && ks.length == j) = true then callC F (sel cs [] ks src) ρ2 else .no := rfl
theorem e_nk : (Ot.ok a ρ).nox = .ok a ρ := rfl
/-! operations -/
theorem o_len_s {w : Str} (h : szB w.length = true) : oLen [.str w] = some (.d (.int (w.length : Nat))) := if_pos h
theorem o_len_l : oLen [.lst xs] = some (.d (.int (xs.length : Nat))) := rfl
theorem o_eq_s {g : Bool → Bool} {u w : Str} : oEq g (.str u) (.str w) = some (.d (.bl (g (decide (u = w))))) := rfl
theorem o_add_i {p q : Int} : oAdd (.int p) (.int q) = some (.d (.int (p + q))) := rfl
theorem o_add_l (h : szB (xs.length + ys.length) = true) : oAdd (.lst xs) (.lst ys) = some (.n (.l (xs ++ ys))) := if_pos h
theorem o_int_b : oIntU [.bl b] = some (.d (.int (if b then 1 else 0))) := rfl
theorem o_int_i {p : Int} : oIntU [.int p] = some (.d (.int p)) := rfl
theorem o_lt_i {p q : Int} : oLt (.int p) (.int q) = some (.d (.bl (decide (p < q)))) := rfl
theorem o_sub_i {p q : Int} : oSub (.int p) (.int q) = some (.d (.int (p - q))) := rfl
theorem o_gt_i {p q : Int} : oGt (.int p) (.int q) = some (.d (.bl (decide (q < p)))) := rfl
theorem o_eq_b {g : Bool → Bool} {p q : Int} : oEq g (.int p) (.int q) = some (.d (.bl (g (p == q)))) := rfl
theorem z0 : szB 0 = true := rfl
theorem z1 : szB 1 = true := rfl
theorem z2 : szB 2 = true := rfl
theorem z3 : szB 3 = true := rfl
theorem z4 : szB 4 = true := rfl
theorem e_c0 : closedB 0 [] = true := rfl
theorem e_t0 : μ.take 0 = [] := rfl
theorem e_er0 : endD (.rt r μ) = .ok r μ := rfl
theorem e_en0 : endD (.nx ⟨s, μ, 0⟩) = .ok (.d .non) [] := rfl
theorem e_ex0 : endD (.ex x ⟨s, μ, 0⟩) = .ex x [] := rfl
theorem o_ix_t0 : oIx (.tup (x :: xs)) (.int 0) = some (.d x) := by
  show atF (x :: xs) 0 = _
  unfold atF atI ixN
  rw [if_pos (by decide), if_pos (by rw [List.length_cons]; omega)]
  rfl
theorem o_ix_t1 : oIx (.tup (x :: y :: xs)) (.int 1) = some (.d y) := by
  show atF (x :: y :: xs) 1 = _
  unfold atF atI ixN
  rw [if_pos (by decide), if_pos (by rw [List.length_cons, List.length_cons]; omega)]
  rfl
theorem o_ix_l0 : oIx (.lst (x :: xs)) (.int 0) = some (.d x) := o_ix_t0
theorem o_ix_l1 : oIx (.lst (x :: y :: xs)) (.int 1) = some (.d y) := o_ix_t1
theorem o_is_n {g : Bool → Bool} : oIsN g x .non = some (.d (.bl (g (isNon x)))) := rfl
end
end Sd

set_option maxHeartbeats 1000000
/-! what writes a rest -/
namespace K03
open PySem PySem.Spec L2 Sd
def figs : Str := "0123456789"
def fig (c : Nat) : Bool := decide (c ∈ figs.cps.toList)
def figsB (w : Str) : Bool := (w.cps.toList.map fig).all id
theorem fig_iff {c : Nat} : fig c = true ↔ 48 ≤ c ∧ c ≤ 57 := by
  unfold fig
  rw [decide_eq_true_iff, show figs.cps.toList = [48, 49, 50, 51, 52, 53, 54, 55, 56, 57] from rfl]
  simp only [List.mem_cons, List.not_mem_nil, or_false]
  omega
theorem figs_text {w : Str} (h : figsB w = true) (h1 : 1 ≤ w.length) (h2 : w.length ≤ 7) : ∃ n, intText? w = some n := by
  refine ⟨_, intText_digits (fun c hc => fig_iff.mp ?_) (fun z => ?_) (by omega)⟩
  · exact List.all_eq_true.mp h _ (List.mem_map.mpr ⟨c, hc, rfl⟩)
  · have : w.cps.toList.length = w.length := Array.length_toList
    rw [z] at this
    simp at this
    omega
/-- what a word writes as a rest: None or a number -/
def rD (w : Str) : D := if (decide ((1 : Int) ≤ (w.length : Nat)) && (decide (((w.length : Nat) : Int) ≤ 7) && figsB w)) = true then
    (if (decide (w.cps.toList[0]? = some 48) && !decide (w = "0")) = true then .non else match intText? w with
      | some n => if (decide (2 ≤ n) && decide (n ≤ 1000000)) = true then .int n else .non
      | none => .non) else .non
theorem all_bl {g : List Bool → Bool} (bs : List Bool) : oAll g [.lst (bs.map D.bl)] = some (.d (.bl (g bs))) := by
  have e : ((bs.map D.bl).all isBlT) = true := by
    rw [List.all_map]; exact List.all_eq_true.mpr fun _ _ => rfl
  have e2 : (bs.map D.bl).map blOf = bs := by
    rw [List.map_map]
    exact List.map_id _
  show (if (bs.map D.bl).all isBlT = true then some (RV.d (.bl (g ((bs.map D.bl).map blOf)))) else none) = _
  rw [if_pos e, e2]
theorem o_str_m : oStr [.int 1000000] = some (.d (.str "1000000")) := rfl
theorem o_len_m : oLen [.str "1000000"] = some (.d (.int (7 : Nat))) := rfl
theorem ix_0 {w : Str} {c : Nat} {r : List Nat} (hz : szB w.length = true) (h : w.cps.toList = c :: r) : oIx (.str w) (.int 0) = some (.d (.str ⟨#[c]⟩)) := by
  show (if szB w.length = true then signAt w 0 else none) = _
  rw [if_pos hz]
  unfold signAt atI ixN
  rw [h]
  rw [if_pos (by decide), if_pos (by rw [List.length_cons]; omega)]
  rfl
theorem dec0 (c : Nat) : decide ((⟨#[c]⟩ : Str) = "0") = decide (c = 48) := by
  refine decide_eq_decide.mpr ⟨fun e => ?_, fun e => by rw [e]; rfl⟩
  have e2 := congrArg (fun s : Str => s.cps.toList) e
  have e3 : [c] = [48] := e2
  exact (List.cons.inj e3).1
theorem int_tx {w : Str} {n : Int} (h : intText? w = some n) (hl : w.length ≤ 7) : oIntU [.str w] = some (.d (.int n)) := by
  show intTx w = _
  unfold intTx
  rw [h]
  exact if_pos (Nat.ble_eq_true_of_le (by omega))
abbrev σn (w : Str) : En := ⟨[some (.p (.str w)), some (.p (.int 2)), some (.p (.int 1000000)), none, none], [], 0⟩
theorem number_in_ev {w : Str} (hz : szB w.length = true) : F_number_in [.p (.str w), .p (.int 2), .p (.int 1000000)] [] = .ok (.d (rD w)) [] := by
  have hc : fLc (iStrF (fVar 0)) (gN 4) tY (fOp (oIn id) (fVar 4) (fC (.str "0123456789"))) [4] (σn w) = .ok (.n (.l ((w.cps.toList.map fig).map D.bl))) (σn w) := by
    refine (fLc_d (i := iStrF (fVar 0)) (t := tY) (ρ := σn w) (p := fun _ => true) (f := fun x => D.bl (match x with | .str ⟨#[c]⟩ => fig c | _ => false)) (xs := signs w) rfl (fun _ _ => rfl) (fun x hx _ => ?_) (by rw [signs_len]; exact hz)).trans ?_
    rotate_left
    · congr 3
      unfold signs
      rw [List.filter_eq_self.mpr fun _ _ => rfl, List.map_map, List.map_map]
      rfl
    · obtain ⟨c, _, rfl⟩ := List.mem_map.mp hx
      rfl
  show endD (f_number_in (σn w)) = _
  unfold f_number_in rD
  simp only [e_bo, e_bx, e_bn, e_to, e_tx, e_qn, e_qr, e_qx, e_os, e_c, e_v, e_vp, e_vr, e_ad, e_an, e_ar, e_set, e_add, e_put, e_op, e_a2, e_un, e_a1, e_rd, e_rn, e_rm, e_rr, e_fl, e_fz, e_ed, e_en, e_em, e_er, e_mz, e_ml, e_aN, e_aC, e_rN, e_rC, e_co, e_l0, e_l1, e_lc, e_cb, e_aL, e_cN, e_cD, e_cR, e_fr, e_fd, e_fr', e_fd', e_lst, e_tup, e_tb, e_ab, e_tA, e_tO, e_tN, e_fI, e_i2, e_ch, e_bk, e_and, e_or, e_not, e_sm, e_sk, e_oN, e_oS, e_iK, e_sl, e_aS, e_ll, e_rv, e_rk, e_sS, e_sI, e_sN, e_sD, e_sR, e_rO, e_rV, e_rVn, e_rVr, e_sA, e_sG, e_oF, e_gN, e_g0, e_g1, e_gT, e_sE, e_au, e_ii, e_ao, e_z, e_cX, e_cM, e_nk, e_c0, e_t0, e_er0, e_en0, e_ex0, o_add_i, o_int_b, o_int_i, o_lt_i, o_is_n, o_eq_s, o_len_l, o_sub_i, o_gt_i, z0, z1, z2, z3, z4, o_ix_t0, o_ix_t1, o_ix_l0, o_ix_l1, List.getElem?_cons_zero, List.getElem?_cons_succ, List.set_cons_zero, List.set_cons_succ, List.nil_append, List.cons_append, List.length_cons, List.length_nil, Nat.zero_add, Nat.reduceAdd, if_true, if_false, Bool.false_eq_true, Bool.not_true, Bool.not_false, reduceIte, hc, o_len_s hz, o_str_m, o_len_m]
  cases h1 : decide ((1 : Int) ≤ (w.length : Nat)) with
  | false =>
    simp only [e_bo, e_bx, e_bn, e_to, e_tx, e_qn, e_qr, e_qx, e_os, e_c, e_v, e_vp, e_vr, e_ad, e_an, e_ar, e_set, e_add, e_put, e_op, e_a2, e_un, e_a1, e_rd, e_rn, e_rm, e_rr, e_fl, e_fz, e_ed, e_en, e_em, e_er, e_mz, e_ml, e_aN, e_aC, e_rN, e_rC, e_co, e_l0, e_l1, e_lc, e_cb, e_aL, e_cN, e_cD, e_cR, e_fr, e_fd, e_fr', e_fd', e_lst, e_tup, e_tb, e_ab, e_tA, e_tO, e_tN, e_fI, e_i2, e_ch, e_bk, e_and, e_or, e_not, e_sm, e_sk, e_oN, e_oS, e_iK, e_sl, e_aS, e_ll, e_rv, e_rk, e_sS, e_sI, e_sN, e_sD, e_sR, e_rO, e_rV, e_rVn, e_rVr, e_sA, e_sG, e_oF, e_gN, e_g0, e_g1, e_gT, e_sE, e_au, e_ii, e_ao, e_z, e_cX, e_cM, e_nk, e_c0, e_t0, e_er0, e_en0, e_ex0, o_add_i, o_int_b, o_int_i, o_lt_i, o_is_n, o_eq_s, o_len_l, o_sub_i, o_gt_i, z0, z1, z2, z3, z4, o_ix_t0, o_ix_t1, o_ix_l0, o_ix_l1, List.getElem?_cons_zero, List.getElem?_cons_succ, List.set_cons_zero, List.set_cons_succ, List.nil_append, List.cons_append, List.length_cons, List.length_nil, Nat.zero_add, Nat.reduceAdd, if_true, if_false, Bool.false_eq_true, Bool.not_true, Bool.not_false, reduceIte]
    all_goals rfl
  | true =>
    simp only [e_bo, e_bx, e_bn, e_to, e_tx, e_qn, e_qr, e_qx, e_os, e_c, e_v, e_vp, e_vr, e_ad, e_an, e_ar, e_set, e_add, e_put, e_op, e_a2, e_un, e_a1, e_rd, e_rn, e_rm, e_rr, e_fl, e_fz, e_ed, e_en, e_em, e_er, e_mz, e_ml, e_aN, e_aC, e_rN, e_rC, e_co, e_l0, e_l1, e_lc, e_cb, e_aL, e_cN, e_cD, e_cR, e_fr, e_fd, e_fr', e_fd', e_lst, e_tup, e_tb, e_ab, e_tA, e_tO, e_tN, e_fI, e_i2, e_ch, e_bk, e_and, e_or, e_not, e_sm, e_sk, e_oN, e_oS, e_iK, e_sl, e_aS, e_ll, e_rv, e_rk, e_sS, e_sI, e_sN, e_sD, e_sR, e_rO, e_rV, e_rVn, e_rVr, e_sA, e_sG, e_oF, e_gN, e_g0, e_g1, e_gT, e_sE, e_au, e_ii, e_ao, e_z, e_cX, e_cM, e_nk, e_c0, e_t0, e_er0, e_en0, e_ex0, o_add_i, o_int_b, o_int_i, o_lt_i, o_is_n, o_eq_s, o_len_l, o_sub_i, o_gt_i, z0, z1, z2, z3, z4, o_ix_t0, o_ix_t1, o_ix_l0, o_ix_l1, List.getElem?_cons_zero, List.getElem?_cons_succ, List.set_cons_zero, List.set_cons_succ, List.nil_append, List.cons_append, List.length_cons, List.length_nil, Nat.zero_add, Nat.reduceAdd, if_true, if_false, Bool.false_eq_true, Bool.not_true, Bool.not_false, reduceIte, o_str_m, o_len_m]
    cases h2 : decide (((w.length : Nat) : Int) ≤ 7) with
    | false =>
      simp only [e_bo, e_bx, e_bn, e_to, e_tx, e_qn, e_qr, e_qx, e_os, e_c, e_v, e_vp, e_vr, e_ad, e_an, e_ar, e_set, e_add, e_put, e_op, e_a2, e_un, e_a1, e_rd, e_rn, e_rm, e_rr, e_fl, e_fz, e_ed, e_en, e_em, e_er, e_mz, e_ml, e_aN, e_aC, e_rN, e_rC, e_co, e_l0, e_l1, e_lc, e_cb, e_aL, e_cN, e_cD, e_cR, e_fr, e_fd, e_fr', e_fd', e_lst, e_tup, e_tb, e_ab, e_tA, e_tO, e_tN, e_fI, e_i2, e_ch, e_bk, e_and, e_or, e_not, e_sm, e_sk, e_oN, e_oS, e_iK, e_sl, e_aS, e_ll, e_rv, e_rk, e_sS, e_sI, e_sN, e_sD, e_sR, e_rO, e_rV, e_rVn, e_rVr, e_sA, e_sG, e_oF, e_gN, e_g0, e_g1, e_gT, e_sE, e_au, e_ii, e_ao, e_z, e_cX, e_cM, e_nk, e_c0, e_t0, e_er0, e_en0, e_ex0, o_add_i, o_int_b, o_int_i, o_lt_i, o_is_n, o_eq_s, o_len_l, o_sub_i, o_gt_i, z0, z1, z2, z3, z4, o_ix_t0, o_ix_t1, o_ix_l0, o_ix_l1, List.getElem?_cons_zero, List.getElem?_cons_succ, List.set_cons_zero, List.set_cons_succ, List.nil_append, List.cons_append, List.length_cons, List.length_nil, Nat.zero_add, Nat.reduceAdd, if_true, if_false, Bool.false_eq_true, Bool.not_true, Bool.not_false, reduceIte, Bool.true_and, Bool.false_and, show decide (((w.length : Nat) : Int) ≤ ((7 : Nat) : Int)) = false from h2]
      all_goals rfl
    | true =>
      have l1 : 1 ≤ w.length := by have := of_decide_eq_true h1; omega
      have l2 : w.length ≤ 7 := by have := of_decide_eq_true h2; omega
      simp only [e_bo, e_bx, e_bn, e_to, e_tx, e_qn, e_qr, e_qx, e_os, e_c, e_v, e_vp, e_vr, e_ad, e_an, e_ar, e_set, e_add, e_put, e_op, e_a2, e_un, e_a1, e_rd, e_rn, e_rm, e_rr, e_fl, e_fz, e_ed, e_en, e_em, e_er, e_mz, e_ml, e_aN, e_aC, e_rN, e_rC, e_co, e_l0, e_l1, e_lc, e_cb, e_aL, e_cN, e_cD, e_cR, e_fr, e_fd, e_fr', e_fd', e_lst, e_tup, e_tb, e_ab, e_tA, e_tO, e_tN, e_fI, e_i2, e_ch, e_bk, e_and, e_or, e_not, e_sm, e_sk, e_oN, e_oS, e_iK, e_sl, e_aS, e_ll, e_rv, e_rk, e_sS, e_sI, e_sN, e_sD, e_sR, e_rO, e_rV, e_rVn, e_rVr, e_sA, e_sG, e_oF, e_gN, e_g0, e_g1, e_gT, e_sE, e_au, e_ii, e_ao, e_z, e_cX, e_cM, e_nk, e_c0, e_t0, e_er0, e_en0, e_ex0, o_add_i, o_int_b, o_int_i, o_lt_i, o_is_n, o_eq_s, o_len_l, o_sub_i, o_gt_i, z0, z1, z2, z3, z4, o_ix_t0, o_ix_t1, o_ix_l0, o_ix_l1, List.getElem?_cons_zero, List.getElem?_cons_succ, List.set_cons_zero, List.set_cons_succ, List.nil_append, List.cons_append, List.length_cons, List.length_nil, Nat.zero_add, Nat.reduceAdd, if_true, if_false, Bool.false_eq_true, Bool.not_true, Bool.not_false, reduceIte, Bool.true_and, show decide (((w.length : Nat) : Int) ≤ ((7 : Nat) : Int)) = true from h2, hc, all_bl]
      cases h3 : (w.cps.toList.map fig).all id with
      | false =>
        simp only [e_bo, e_bx, e_bn, e_to, e_tx, e_qn, e_qr, e_qx, e_os, e_c, e_v, e_vp, e_vr, e_ad, e_an, e_ar, e_set, e_add, e_put, e_op, e_a2, e_un, e_a1, e_rd, e_rn, e_rm, e_rr, e_fl, e_fz, e_ed, e_en, e_em, e_er, e_mz, e_ml, e_aN, e_aC, e_rN, e_rC, e_co, e_l0, e_l1, e_lc, e_cb, e_aL, e_cN, e_cD, e_cR, e_fr, e_fd, e_fr', e_fd', e_lst, e_tup, e_tb, e_ab, e_tA, e_tO, e_tN, e_fI, e_i2, e_ch, e_bk, e_and, e_or, e_not, e_sm, e_sk, e_oN, e_oS, e_iK, e_sl, e_aS, e_ll, e_rv, e_rk, e_sS, e_sI, e_sN, e_sD, e_sR, e_rO, e_rV, e_rVn, e_rVr, e_sA, e_sG, e_oF, e_gN, e_g0, e_g1, e_gT, e_sE, e_au, e_ii, e_ao, e_z, e_cX, e_cM, e_nk, e_c0, e_t0, e_er0, e_en0, e_ex0, o_add_i, o_int_b, o_int_i, o_lt_i, o_is_n, o_eq_s, o_len_l, o_sub_i, o_gt_i, z0, z1, z2, z3, z4, o_ix_t0, o_ix_t1, o_ix_l0, o_ix_l1, List.getElem?_cons_zero, List.getElem?_cons_succ, List.set_cons_zero, List.set_cons_succ, List.nil_append, List.cons_append, List.length_cons, List.length_nil, Nat.zero_add, Nat.reduceAdd, if_true, if_false, Bool.false_eq_true, Bool.not_true, Bool.not_false, reduceIte, show figsB w = false from h3]
        all_goals rfl
      | true =>
        have h3' : figsB w = true := h3
        obtain ⟨n, hn⟩ := figs_text h3' l1 l2
        obtain ⟨c, r, hL⟩ : ∃ c r, w.cps.toList = c :: r := by
          cases z : w.cps.toList with
          | nil =>
            have : w.cps.toList.length = w.length := Array.length_toList
            rw [z] at this
            simp at this
            omega
          | cons c r => exact ⟨c, r, rfl⟩
        simp only [e_bo, e_bx, e_bn, e_to, e_tx, e_qn, e_qr, e_qx, e_os, e_c, e_v, e_vp, e_vr, e_ad, e_an, e_ar, e_set, e_add, e_put, e_op, e_a2, e_un, e_a1, e_rd, e_rn, e_rm, e_rr, e_fl, e_fz, e_ed, e_en, e_em, e_er, e_mz, e_ml, e_aN, e_aC, e_rN, e_rC, e_co, e_l0, e_l1, e_lc, e_cb, e_aL, e_cN, e_cD, e_cR, e_fr, e_fd, e_fr', e_fd', e_lst, e_tup, e_tb, e_ab, e_tA, e_tO, e_tN, e_fI, e_i2, e_ch, e_bk, e_and, e_or, e_not, e_sm, e_sk, e_oN, e_oS, e_iK, e_sl, e_aS, e_ll, e_rv, e_rk, e_sS, e_sI, e_sN, e_sD, e_sR, e_rO, e_rV, e_rVn, e_rVr, e_sA, e_sG, e_oF, e_gN, e_g0, e_g1, e_gT, e_sE, e_au, e_ii, e_ao, e_z, e_cX, e_cM, e_nk, e_c0, e_t0, e_er0, e_en0, e_ex0, o_add_i, o_int_b, o_int_i, o_lt_i, o_is_n, o_eq_s, o_len_l, o_sub_i, o_gt_i, z0, z1, z2, z3, z4, o_ix_t0, o_ix_t1, o_ix_l0, o_ix_l1, List.getElem?_cons_zero, List.getElem?_cons_succ, List.set_cons_zero, List.set_cons_succ, List.nil_append, List.cons_append, List.length_cons, List.length_nil, Nat.zero_add, Nat.reduceAdd, if_true, if_false, Bool.false_eq_true, Bool.not_true, Bool.not_false, reduceIte, h3', hL, ix_0 hz hL, dec0, id_eq, int_tx hn l2, hn, Option.some.injEq]
        cases h4 : decide (c = 48) <;> cases h5 : decide (w = "0")
        all_goals simp only [e_bo, e_bx, e_bn, e_to, e_tx, e_qn, e_qr, e_qx, e_os, e_c, e_v, e_vp, e_vr, e_ad, e_an, e_ar, e_set, e_add, e_put, e_op, e_a2, e_un, e_a1, e_rd, e_rn, e_rm, e_rr, e_fl, e_fz, e_ed, e_en, e_em, e_er, e_mz, e_ml, e_aN, e_aC, e_rN, e_rC, e_co, e_l0, e_l1, e_lc, e_cb, e_aL, e_cN, e_cD, e_cR, e_fr, e_fd, e_fr', e_fd', e_lst, e_tup, e_tb, e_ab, e_tA, e_tO, e_tN, e_fI, e_i2, e_ch, e_bk, e_and, e_or, e_not, e_sm, e_sk, e_oN, e_oS, e_iK, e_sl, e_aS, e_ll, e_rv, e_rk, e_sS, e_sI, e_sN, e_sD, e_sR, e_rO, e_rV, e_rVn, e_rVr, e_sA, e_sG, e_oF, e_gN, e_g0, e_g1, e_gT, e_sE, e_au, e_ii, e_ao, e_z, e_cX, e_cM, e_nk, e_c0, e_t0, e_er0, e_en0, e_ex0, o_add_i, o_int_b, o_int_i, o_lt_i, o_is_n, o_eq_s, o_len_l, o_sub_i, o_gt_i, z0, z1, z2, z3, z4, o_ix_t0, o_ix_t1, o_ix_l0, o_ix_l1, List.getElem?_cons_zero, List.getElem?_cons_succ, List.set_cons_zero, List.set_cons_succ, List.nil_append, List.cons_append, List.length_cons, List.length_nil, Nat.zero_add, Nat.reduceAdd, if_true, if_false, Bool.false_eq_true, Bool.not_true, Bool.not_false, reduceIte, Bool.true_and, Bool.false_and, ix_0 hz hL, dec0, h4, h5, id_eq, int_tx hn l2]
        all_goals first
          | rfl
          | (cases h6 : decide (2 ≤ n) <;> cases h7 : decide (n ≤ 1000000)
             all_goals simp only [e_bo, e_bx, e_bn, e_to, e_tx, e_qn, e_qr, e_qx, e_os, e_c, e_v, e_vp, e_vr, e_ad, e_an, e_ar, e_set, e_add, e_put, e_op, e_a2, e_un, e_a1, e_rd, e_rn, e_rm, e_rr, e_fl, e_fz, e_ed, e_en, e_em, e_er, e_mz, e_ml, e_aN, e_aC, e_rN, e_rC, e_co, e_l0, e_l1, e_lc, e_cb, e_aL, e_cN, e_cD, e_cR, e_fr, e_fd, e_fr', e_fd', e_lst, e_tup, e_tb, e_ab, e_tA, e_tO, e_tN, e_fI, e_i2, e_ch, e_bk, e_and, e_or, e_not, e_sm, e_sk, e_oN, e_oS, e_iK, e_sl, e_aS, e_ll, e_rv, e_rk, e_sS, e_sI, e_sN, e_sD, e_sR, e_rO, e_rV, e_rVn, e_rVr, e_sA, e_sG, e_oF, e_gN, e_g0, e_g1, e_gT, e_sE, e_au, e_ii, e_ao, e_z, e_cX, e_cM, e_nk, e_c0, e_t0, e_er0, e_en0, e_ex0, o_add_i, o_int_b, o_int_i, o_lt_i, o_is_n, o_eq_s, o_len_l, o_sub_i, o_gt_i, z0, z1, z2, z3, z4, o_ix_t0, o_ix_t1, o_ix_l0, o_ix_l1, List.getElem?_cons_zero, List.getElem?_cons_succ, List.set_cons_zero, List.set_cons_succ, List.nil_append, List.cons_append, List.length_cons, List.length_nil, Nat.zero_add, Nat.reduceAdd, if_true, if_false, Bool.false_eq_true, Bool.not_true, Bool.not_false, reduceIte, Bool.true_and, Bool.false_and, h6, h7]
             all_goals rfl)
end K03

set_option maxHeartbeats 1000000
/-! lists of texts compared -/
namespace K03
open PySem PySem.Spec L2 Sd
def okS (x : Str) : Bool := PyData.strOk x
theorem py_strs : ∀ ns : List Str, D.pyAll (ns.map D.str) = some (ns.map PyData.str)
  | [] => rfl
  | n :: ns => by
    show (match D.py (.str n), D.pyAll (ns.map D.str) with
      | some y, some ys => some (y :: ys)
      | _, _ => none) = _
    rw [py_strs ns]
    rfl
theorem lay_strs : ∀ ns : List Str, (ns.all okS) = true → PyData.canLayAll0 (ns.map PyData.str) = true ∧ PyData.depthAll (ns.map PyData.str) = 0
  | [], _ => ⟨rfl, rfl⟩
  | n :: ns, h => by
    rw [List.all_cons] at h
    obtain ⟨h0, h⟩ := Bool.and_eq_true_iff.mp h
    obtain ⟨h1, h2⟩ := lay_strs ns h
    refine ⟨?_, ?_⟩
    · show (PyData.strOk n && PyData.canLayAll0 (ns.map PyData.str)) = true
      rw [h1, show PyData.strOk n = true from h0]
      rfl
    · show max 0 (PyData.depthAll (ns.map PyData.str)) = 0
      rw [h2]
      rfl
theorem shaped_strs (ns : List Str) (h : (ns.all okS) = true) : SeqAt.shaped (.list (ns.map PyData.str)) = true := by
  obtain ⟨h1, h2⟩ := lay_strs ns h
  have e : SeqAt.shaped (.list (ns.map PyData.str)) = (PyData.canLayAll0 (ns.map PyData.str) && decide (PyData.depthAll (ns.map PyData.str) + 1 ≤ 64)) := rfl
  rw [e, h1, h2]
  rfl
theorem eqv_strs : ∀ xs ys : List Str, PyData.eqvAll (xs.map PyData.str) (ys.map PyData.str) = decide (xs = ys)
  | [], [] => rfl
  | [], _ :: _ => rfl
  | _ :: _, [] => rfl
  | x :: xs, y :: ys => by
    show ((x == y) && PyData.eqvAll (xs.map PyData.str) (ys.map PyData.str)) = _
    rw [eqv_strs xs ys]
    rw [Bool.eq_iff_iff, Bool.and_eq_true, beq_iff_eq, decide_eq_true_iff, decide_eq_true_iff, List.cons.injEq]
/-- == of two lists of texts -/
theorem eq_strs {g : Bool → Bool} {xs ys : List Str} (hx : (xs.all okS) = true) (hy : (ys.all okS) = true) : oEq g (.lst (xs.map D.str)) (.lst (ys.map D.str)) = some (.d (.bl (g (decide (xs = ys))))) := by
  have e1 : ∀ zs : List Str, D.py (.lst (zs.map D.str)) = some (.list (zs.map PyData.str)) := fun zs => by
    show (D.pyAll (zs.map D.str)).map PyData.list = _
    rw [py_strs]
    rfl
  have e2 : eqO (.lst (xs.map D.str)) (.lst (ys.map D.str)) = some (decide (xs = ys)) := by
    show eqP _ _ = _
    unfold eqP
    rw [e1, e1]
    show (if (SeqAt.shaped (.list (xs.map PyData.str)) && SeqAt.shaped (.list (ys.map PyData.str))) = true then some (PyData.eqvAll (xs.map PyData.str) (ys.map PyData.str)) else none) = _
    rw [shaped_strs xs hx, shaped_strs ys hy, eqv_strs]
    rfl
  unfold oEq
  rw [e2]
theorem eq_nil {g : Bool → Bool} {xs : List Str} (hx : (xs.all okS) = true) : oEq g (.lst (xs.map D.str)) (.lst []) = some (.d (.bl (g (decide (xs = []))))) := eq_strs (ys := []) hx rfl
/-! a rest, as the law has it -/
abbrev σr (w : Str) : En := ⟨[some (.p (.str w)), none], [], 0⟩
theorem dec0' (c : Nat) : (c = 48) ↔ ((⟨#[c]⟩ : Str) = "0") := by
  have := dec0 c
  exact (decide_eq_decide.mp this).symm
theorem rest_one {w : Str} (h : w = "0") : intText? w = some 0 := by
  subst h
  decide +kernel
theorem is_rest_ev {w : Str} (hz : szB w.length = true) (hk : okS w = true) : F_is_rest [.p (.str w)] [] = .ok (.d (.bl (!isNon (rD w)))) [] := by
  have hk2 : ∀ c ∈ w.cps.toList, okS ⟨#[c]⟩ = true := fun c hc => by
    have h1 := Array.all_eq_true'.mp hk c (Array.mem_toList_iff.mp hc)
    show PyData.strOk ⟨#[c]⟩ = true
    unfold PyData.strOk
    simpa using h1
  have hc : fLc (iStrF (fVar 0)) (gN 1) (Sd.tB (fOp (oIn not) (fVar 1) (fC (.str "0123456789")))) (fVar 1) [1] (σr w) = .ok (.n (.l (((w.cps.toList.filter fun c => !fig c).map fun c => (⟨#[c]⟩ : Str)).map D.str))) (σr w) := by
    refine (fLc_d (i := iStrF (fVar 0)) (t := Sd.tB (fOp (oIn not) (fVar 1) (fC (.str "0123456789")))) (e := fVar 1) (ρ := σr w) (p := fun x => (match x with | .str ⟨#[c]⟩ => !fig c | _ => false)) (f := fun x => x) (xs := signs w) rfl (fun x hx => ?_) (fun x hx _ => ?_) (by rw [signs_len]; exact hz)).trans ?_
    · obtain ⟨c, _, rfl⟩ := List.mem_map.mp hx
      rfl
    · obtain ⟨c, _, rfl⟩ := List.mem_map.mp hx
      rfl
    · congr 3
      unfold signs
      rw [List.filter_map, List.map_map, List.map_map]
      rfl
  have hall : (((w.cps.toList.filter fun c => !fig c).map fun c => (⟨#[c]⟩ : Str)).all okS) = true := by
    rw [List.all_map]
    exact List.all_eq_true.mpr fun c hm => hk2 c (List.mem_filter.mp hm).1
  have hem : decide (((w.cps.toList.filter fun c => !fig c).map fun c => (⟨#[c]⟩ : Str)) = []) = figsB w := by
    unfold figsB
    rw [Bool.eq_iff_iff, decide_eq_true_iff, List.map_eq_nil_iff, List.filter_eq_nil_iff, List.all_map, List.all_eq_true]
    simp
  show endD (f_is_rest (σr w)) = _
  unfold f_is_rest rD
  simp only [e_bo, e_bx, e_bn, e_to, e_tx, e_qn, e_qr, e_qx, e_os, e_c, e_v, e_vp, e_vr, e_ad, e_an, e_ar, e_set, e_add, e_put, e_op, e_a2, e_un, e_a1, e_rd, e_rn, e_rm, e_rr, e_fl, e_fz, e_ed, e_en, e_em, e_er, e_mz, e_ml, e_aN, e_aC, e_rN, e_rC, e_co, e_l0, e_l1, e_lc, e_cb, e_aL, e_cN, e_cD, e_cR, e_fr, e_fd, e_fr', e_fd', e_lst, e_tup, e_tb, e_ab, e_tA, e_tO, e_tN, e_fI, e_i2, e_ch, e_bk, e_and, e_or, e_not, e_sm, e_sk, e_oN, e_oS, e_iK, e_sl, e_aS, e_ll, e_rv, e_rk, e_sS, e_sI, e_sN, e_sD, e_sR, e_rO, e_rV, e_rVn, e_rVr, e_sA, e_sG, e_oF, e_gN, e_g0, e_g1, e_gT, e_sE, e_au, e_ii, e_ao, e_z, e_cX, e_cM, e_nk, e_c0, e_t0, e_er0, e_en0, e_ex0, o_add_i, o_int_b, o_int_i, o_lt_i, o_is_n, o_eq_s, o_len_l, o_sub_i, o_gt_i, z0, z1, z2, z3, z4, o_ix_t0, o_ix_t1, o_ix_l0, o_ix_l1, List.getElem?_cons_zero, List.getElem?_cons_succ, List.set_cons_zero, List.set_cons_succ, List.nil_append, List.cons_append, List.length_cons, List.length_nil, Nat.zero_add, Nat.reduceAdd, if_true, if_false, Bool.false_eq_true, Bool.not_true, Bool.not_false, reduceIte, hc, o_len_s hz]
  cases h1 : decide ((1 : Int) ≤ (w.length : Nat)) with
  | false =>
    simp only [e_bo, e_bx, e_bn, e_to, e_tx, e_qn, e_qr, e_qx, e_os, e_c, e_v, e_vp, e_vr, e_ad, e_an, e_ar, e_set, e_add, e_put, e_op, e_a2, e_un, e_a1, e_rd, e_rn, e_rm, e_rr, e_fl, e_fz, e_ed, e_en, e_em, e_er, e_mz, e_ml, e_aN, e_aC, e_rN, e_rC, e_co, e_l0, e_l1, e_lc, e_cb, e_aL, e_cN, e_cD, e_cR, e_fr, e_fd, e_fr', e_fd', e_lst, e_tup, e_tb, e_ab, e_tA, e_tO, e_tN, e_fI, e_i2, e_ch, e_bk, e_and, e_or, e_not, e_sm, e_sk, e_oN, e_oS, e_iK, e_sl, e_aS, e_ll, e_rv, e_rk, e_sS, e_sI, e_sN, e_sD, e_sR, e_rO, e_rV, e_rVn, e_rVr, e_sA, e_sG, e_oF, e_gN, e_g0, e_g1, e_gT, e_sE, e_au, e_ii, e_ao, e_z, e_cX, e_cM, e_nk, e_c0, e_t0, e_er0, e_en0, e_ex0, o_add_i, o_int_b, o_int_i, o_lt_i, o_is_n, o_eq_s, o_len_l, o_sub_i, o_gt_i, z0, z1, z2, z3, z4, o_ix_t0, o_ix_t1, o_ix_l0, o_ix_l1, List.getElem?_cons_zero, List.getElem?_cons_succ, List.set_cons_zero, List.set_cons_succ, List.nil_append, List.cons_append, List.length_cons, List.length_nil, Nat.zero_add, Nat.reduceAdd, if_true, if_false, Bool.false_eq_true, Bool.not_true, Bool.not_false, reduceIte, Bool.false_and]
    all_goals rfl
  | true =>
    simp only [e_bo, e_bx, e_bn, e_to, e_tx, e_qn, e_qr, e_qx, e_os, e_c, e_v, e_vp, e_vr, e_ad, e_an, e_ar, e_set, e_add, e_put, e_op, e_a2, e_un, e_a1, e_rd, e_rn, e_rm, e_rr, e_fl, e_fz, e_ed, e_en, e_em, e_er, e_mz, e_ml, e_aN, e_aC, e_rN, e_rC, e_co, e_l0, e_l1, e_lc, e_cb, e_aL, e_cN, e_cD, e_cR, e_fr, e_fd, e_fr', e_fd', e_lst, e_tup, e_tb, e_ab, e_tA, e_tO, e_tN, e_fI, e_i2, e_ch, e_bk, e_and, e_or, e_not, e_sm, e_sk, e_oN, e_oS, e_iK, e_sl, e_aS, e_ll, e_rv, e_rk, e_sS, e_sI, e_sN, e_sD, e_sR, e_rO, e_rV, e_rVn, e_rVr, e_sA, e_sG, e_oF, e_gN, e_g0, e_g1, e_gT, e_sE, e_au, e_ii, e_ao, e_z, e_cX, e_cM, e_nk, e_c0, e_t0, e_er0, e_en0, e_ex0, o_add_i, o_int_b, o_int_i, o_lt_i, o_is_n, o_eq_s, o_len_l, o_sub_i, o_gt_i, z0, z1, z2, z3, z4, o_ix_t0, o_ix_t1, o_ix_l0, o_ix_l1, List.getElem?_cons_zero, List.getElem?_cons_succ, List.set_cons_zero, List.set_cons_succ, List.nil_append, List.cons_append, List.length_cons, List.length_nil, Nat.zero_add, Nat.reduceAdd, if_true, if_false, Bool.false_eq_true, Bool.not_true, Bool.not_false, reduceIte]
    cases h2 : decide (((w.length : Nat) : Int) ≤ 7) with
    | false =>
      simp only [e_bo, e_bx, e_bn, e_to, e_tx, e_qn, e_qr, e_qx, e_os, e_c, e_v, e_vp, e_vr, e_ad, e_an, e_ar, e_set, e_add, e_put, e_op, e_a2, e_un, e_a1, e_rd, e_rn, e_rm, e_rr, e_fl, e_fz, e_ed, e_en, e_em, e_er, e_mz, e_ml, e_aN, e_aC, e_rN, e_rC, e_co, e_l0, e_l1, e_lc, e_cb, e_aL, e_cN, e_cD, e_cR, e_fr, e_fd, e_fr', e_fd', e_lst, e_tup, e_tb, e_ab, e_tA, e_tO, e_tN, e_fI, e_i2, e_ch, e_bk, e_and, e_or, e_not, e_sm, e_sk, e_oN, e_oS, e_iK, e_sl, e_aS, e_ll, e_rv, e_rk, e_sS, e_sI, e_sN, e_sD, e_sR, e_rO, e_rV, e_rVn, e_rVr, e_sA, e_sG, e_oF, e_gN, e_g0, e_g1, e_gT, e_sE, e_au, e_ii, e_ao, e_z, e_cX, e_cM, e_nk, e_c0, e_t0, e_er0, e_en0, e_ex0, o_add_i, o_int_b, o_int_i, o_lt_i, o_is_n, o_eq_s, o_len_l, o_sub_i, o_gt_i, z0, z1, z2, z3, z4, o_ix_t0, o_ix_t1, o_ix_l0, o_ix_l1, List.getElem?_cons_zero, List.getElem?_cons_succ, List.set_cons_zero, List.set_cons_succ, List.nil_append, List.cons_append, List.length_cons, List.length_nil, Nat.zero_add, Nat.reduceAdd, if_true, if_false, Bool.false_eq_true, Bool.not_true, Bool.not_false, reduceIte, Bool.true_and, Bool.false_and]
      all_goals rfl
    | true =>
      have l1 : 1 ≤ w.length := by have := of_decide_eq_true h1; omega
      have l2 : w.length ≤ 7 := by have := of_decide_eq_true h2; omega
      obtain ⟨c, r, hL⟩ : ∃ c r, w.cps.toList = c :: r := by
        cases z : w.cps.toList with
        | nil =>
          have : w.cps.toList.length = w.length := Array.length_toList
          rw [z] at this
          simp at this
          omega
        | cons c r => exact ⟨c, r, rfl⟩
      simp only [e_bo, e_bx, e_bn, e_to, e_tx, e_qn, e_qr, e_qx, e_os, e_c, e_v, e_vp, e_vr, e_ad, e_an, e_ar, e_set, e_add, e_put, e_op, e_a2, e_un, e_a1, e_rd, e_rn, e_rm, e_rr, e_fl, e_fz, e_ed, e_en, e_em, e_er, e_mz, e_ml, e_aN, e_aC, e_rN, e_rC, e_co, e_l0, e_l1, e_lc, e_cb, e_aL, e_cN, e_cD, e_cR, e_fr, e_fd, e_fr', e_fd', e_lst, e_tup, e_tb, e_ab, e_tA, e_tO, e_tN, e_fI, e_i2, e_ch, e_bk, e_and, e_or, e_not, e_sm, e_sk, e_oN, e_oS, e_iK, e_sl, e_aS, e_ll, e_rv, e_rk, e_sS, e_sI, e_sN, e_sD, e_sR, e_rO, e_rV, e_rVn, e_rVr, e_sA, e_sG, e_oF, e_gN, e_g0, e_g1, e_gT, e_sE, e_au, e_ii, e_ao, e_z, e_cX, e_cM, e_nk, e_c0, e_t0, e_er0, e_en0, e_ex0, o_add_i, o_int_b, o_int_i, o_lt_i, o_is_n, o_eq_s, o_len_l, o_sub_i, o_gt_i, z0, z1, z2, z3, z4, o_ix_t0, o_ix_t1, o_ix_l0, o_ix_l1, List.getElem?_cons_zero, List.getElem?_cons_succ, List.set_cons_zero, List.set_cons_succ, List.nil_append, List.cons_append, List.length_cons, List.length_nil, Nat.zero_add, Nat.reduceAdd, if_true, if_false, Bool.false_eq_true, Bool.not_true, Bool.not_false, reduceIte, Bool.true_and, ix_0 hz hL, dec0, id_eq]
      cases h4 : decide (c = 48) with
      | true =>
        simp only [e_bo, e_bx, e_bn, e_to, e_tx, e_qn, e_qr, e_qx, e_os, e_c, e_v, e_vp, e_vr, e_ad, e_an, e_ar, e_set, e_add, e_put, e_op, e_a2, e_un, e_a1, e_rd, e_rn, e_rm, e_rr, e_fl, e_fz, e_ed, e_en, e_em, e_er, e_mz, e_ml, e_aN, e_aC, e_rN, e_rC, e_co, e_l0, e_l1, e_lc, e_cb, e_aL, e_cN, e_cD, e_cR, e_fr, e_fd, e_fr', e_fd', e_lst, e_tup, e_tb, e_ab, e_tA, e_tO, e_tN, e_fI, e_i2, e_ch, e_bk, e_and, e_or, e_not, e_sm, e_sk, e_oN, e_oS, e_iK, e_sl, e_aS, e_ll, e_rv, e_rk, e_sS, e_sI, e_sN, e_sD, e_sR, e_rO, e_rV, e_rVn, e_rVr, e_sA, e_sG, e_oF, e_gN, e_g0, e_g1, e_gT, e_sE, e_au, e_ii, e_ao, e_z, e_cX, e_cM, e_nk, e_c0, e_t0, e_er0, e_en0, e_ex0, o_add_i, o_int_b, o_int_i, o_lt_i, o_is_n, o_eq_s, o_len_l, o_sub_i, o_gt_i, z0, z1, z2, z3, z4, o_ix_t0, o_ix_t1, o_ix_l0, o_ix_l1, List.getElem?_cons_zero, List.getElem?_cons_succ, List.set_cons_zero, List.set_cons_succ, List.nil_append, List.cons_append, List.length_cons, List.length_nil, Nat.zero_add, Nat.reduceAdd, if_true, if_false, Bool.false_eq_true, Bool.not_true, Bool.not_false, reduceIte, hL, h4]
        have h4' := of_decide_eq_true h4
        subst h4'
        cases h5 : decide (w = "0") with
        | false =>
          cases h3 : figsB w <;> rfl
        | true =>
          have h5' := of_decide_eq_true h5
          cases h3 : figsB w
          · rfl
          · simp only [e_bo, e_bx, e_bn, e_to, e_tx, e_qn, e_qr, e_qx, e_os, e_c, e_v, e_vp, e_vr, e_ad, e_an, e_ar, e_set, e_add, e_put, e_op, e_a2, e_un, e_a1, e_rd, e_rn, e_rm, e_rr, e_fl, e_fz, e_ed, e_en, e_em, e_er, e_mz, e_ml, e_aN, e_aC, e_rN, e_rC, e_co, e_l0, e_l1, e_lc, e_cb, e_aL, e_cN, e_cD, e_cR, e_fr, e_fd, e_fr', e_fd', e_lst, e_tup, e_tb, e_ab, e_tA, e_tO, e_tN, e_fI, e_i2, e_ch, e_bk, e_and, e_or, e_not, e_sm, e_sk, e_oN, e_oS, e_iK, e_sl, e_aS, e_ll, e_rv, e_rk, e_sS, e_sI, e_sN, e_sD, e_sR, e_rO, e_rV, e_rVn, e_rVr, e_sA, e_sG, e_oF, e_gN, e_g0, e_g1, e_gT, e_sE, e_au, e_ii, e_ao, e_z, e_cX, e_cM, e_nk, e_c0, e_t0, e_er0, e_en0, e_ex0, o_add_i, o_int_b, o_int_i, o_lt_i, o_is_n, o_eq_s, o_len_l, o_sub_i, o_gt_i, z0, z1, z2, z3, z4, o_ix_t0, o_ix_t1, o_ix_l0, o_ix_l1, List.getElem?_cons_zero, List.getElem?_cons_succ, List.set_cons_zero, List.set_cons_succ, List.nil_append, List.cons_append, List.length_cons, List.length_nil, Nat.zero_add, Nat.reduceAdd, if_true, if_false, Bool.false_eq_true, Bool.not_true, Bool.not_false, reduceIte, rest_one h5', h5]
            all_goals rfl
      | false =>
        have hs0 : szB 0 = true := rfl
        simp only [e_bo, e_bx, e_bn, e_to, e_tx, e_qn, e_qr, e_qx, e_os, e_c, e_v, e_vp, e_vr, e_ad, e_an, e_ar, e_set, e_add, e_put, e_op, e_a2, e_un, e_a1, e_rd, e_rn, e_rm, e_rr, e_fl, e_fz, e_ed, e_en, e_em, e_er, e_mz, e_ml, e_aN, e_aC, e_rN, e_rC, e_co, e_l0, e_l1, e_lc, e_cb, e_aL, e_cN, e_cD, e_cR, e_fr, e_fd, e_fr', e_fd', e_lst, e_tup, e_tb, e_ab, e_tA, e_tO, e_tN, e_fI, e_i2, e_ch, e_bk, e_and, e_or, e_not, e_sm, e_sk, e_oN, e_oS, e_iK, e_sl, e_aS, e_ll, e_rv, e_rk, e_sS, e_sI, e_sN, e_sD, e_sR, e_rO, e_rV, e_rVn, e_rVr, e_sA, e_sG, e_oF, e_gN, e_g0, e_g1, e_gT, e_sE, e_au, e_ii, e_ao, e_z, e_cX, e_cM, e_nk, e_c0, e_t0, e_er0, e_en0, e_ex0, o_add_i, o_int_b, o_int_i, o_lt_i, o_is_n, o_eq_s, o_len_l, o_sub_i, o_gt_i, z0, z1, z2, z3, z4, o_ix_t0, o_ix_t1, o_ix_l0, o_ix_l1, List.getElem?_cons_zero, List.getElem?_cons_succ, List.set_cons_zero, List.set_cons_succ, List.nil_append, List.cons_append, List.length_cons, List.length_nil, Nat.zero_add, Nat.reduceAdd, if_true, if_false, Bool.false_eq_true, Bool.not_true, Bool.not_false, reduceIte, hc, hs0, List.length_nil, eq_nil hall, hem, id_eq]
        cases h3 : figsB w with
        | false =>
          simp only [e_bo, e_bx, e_bn, e_to, e_tx, e_qn, e_qr, e_qx, e_os, e_c, e_v, e_vp, e_vr, e_ad, e_an, e_ar, e_set, e_add, e_put, e_op, e_a2, e_un, e_a1, e_rd, e_rn, e_rm, e_rr, e_fl, e_fz, e_ed, e_en, e_em, e_er, e_mz, e_ml, e_aN, e_aC, e_rN, e_rC, e_co, e_l0, e_l1, e_lc, e_cb, e_aL, e_cN, e_cD, e_cR, e_fr, e_fd, e_fr', e_fd', e_lst, e_tup, e_tb, e_ab, e_tA, e_tO, e_tN, e_fI, e_i2, e_ch, e_bk, e_and, e_or, e_not, e_sm, e_sk, e_oN, e_oS, e_iK, e_sl, e_aS, e_ll, e_rv, e_rk, e_sS, e_sI, e_sN, e_sD, e_sR, e_rO, e_rV, e_rVn, e_rVr, e_sA, e_sG, e_oF, e_gN, e_g0, e_g1, e_gT, e_sE, e_au, e_ii, e_ao, e_z, e_cX, e_cM, e_nk, e_c0, e_t0, e_er0, e_en0, e_ex0, o_add_i, o_int_b, o_int_i, o_lt_i, o_is_n, o_eq_s, o_len_l, o_sub_i, o_gt_i, z0, z1, z2, z3, z4, o_ix_t0, o_ix_t1, o_ix_l0, o_ix_l1, List.getElem?_cons_zero, List.getElem?_cons_succ, List.set_cons_zero, List.set_cons_succ, List.nil_append, List.cons_append, List.length_cons, List.length_nil, Nat.zero_add, Nat.reduceAdd, if_true, if_false, Bool.false_eq_true, Bool.not_true, Bool.not_false, reduceIte]
          all_goals rfl
        | true =>
          obtain ⟨n, hn⟩ := figs_text h3 l1 l2
          have hp : oPow (.int 10) (.int 6) = some (.d (.int 1000000)) := rfl
          have h4' : decide (c :: r = 48 :: r) = false := by
            refine decide_eq_false fun e => ?_
            rw [(List.cons.inj e).1] at h4
            cases h4
          simp only [e_bo, e_bx, e_bn, e_to, e_tx, e_qn, e_qr, e_qx, e_os, e_c, e_v, e_vp, e_vr, e_ad, e_an, e_ar, e_set, e_add, e_put, e_op, e_a2, e_un, e_a1, e_rd, e_rn, e_rm, e_rr, e_fl, e_fz, e_ed, e_en, e_em, e_er, e_mz, e_ml, e_aN, e_aC, e_rN, e_rC, e_co, e_l0, e_l1, e_lc, e_cb, e_aL, e_cN, e_cD, e_cR, e_fr, e_fd, e_fr', e_fd', e_lst, e_tup, e_tb, e_ab, e_tA, e_tO, e_tN, e_fI, e_i2, e_ch, e_bk, e_and, e_or, e_not, e_sm, e_sk, e_oN, e_oS, e_iK, e_sl, e_aS, e_ll, e_rv, e_rk, e_sS, e_sI, e_sN, e_sD, e_sR, e_rO, e_rV, e_rVn, e_rVr, e_sA, e_sG, e_oF, e_gN, e_g0, e_g1, e_gT, e_sE, e_au, e_ii, e_ao, e_z, e_cX, e_cM, e_nk, e_c0, e_t0, e_er0, e_en0, e_ex0, o_add_i, o_int_b, o_int_i, o_lt_i, o_is_n, o_eq_s, o_len_l, o_sub_i, o_gt_i, z0, z1, z2, z3, z4, o_ix_t0, o_ix_t1, o_ix_l0, o_ix_l1, List.getElem?_cons_zero, List.getElem?_cons_succ, List.set_cons_zero, List.set_cons_succ, List.nil_append, List.cons_append, List.length_cons, List.length_nil, Nat.zero_add, Nat.reduceAdd, if_true, if_false, Bool.false_eq_true, Bool.not_true, Bool.not_false, reduceIte, int_tx hn l2, hp, hn, hL, h4, Option.some.injEq, Bool.false_and]
          cases h6 : decide (2 ≤ n) <;> cases h7 : decide (n ≤ 1000000)
          all_goals simp only [e_bo, e_bx, e_bn, e_to, e_tx, e_qn, e_qr, e_qx, e_os, e_c, e_v, e_vp, e_vr, e_ad, e_an, e_ar, e_set, e_add, e_put, e_op, e_a2, e_un, e_a1, e_rd, e_rn, e_rm, e_rr, e_fl, e_fz, e_ed, e_en, e_em, e_er, e_mz, e_ml, e_aN, e_aC, e_rN, e_rC, e_co, e_l0, e_l1, e_lc, e_cb, e_aL, e_cN, e_cD, e_cR, e_fr, e_fd, e_fr', e_fd', e_lst, e_tup, e_tb, e_ab, e_tA, e_tO, e_tN, e_fI, e_i2, e_ch, e_bk, e_and, e_or, e_not, e_sm, e_sk, e_oN, e_oS, e_iK, e_sl, e_aS, e_ll, e_rv, e_rk, e_sS, e_sI, e_sN, e_sD, e_sR, e_rO, e_rV, e_rVn, e_rVr, e_sA, e_sG, e_oF, e_gN, e_g0, e_g1, e_gT, e_sE, e_au, e_ii, e_ao, e_z, e_cX, e_cM, e_nk, e_c0, e_t0, e_er0, e_en0, e_ex0, o_add_i, o_int_b, o_int_i, o_lt_i, o_is_n, o_eq_s, o_len_l, o_sub_i, o_gt_i, z0, z1, z2, z3, z4, o_ix_t0, o_ix_t1, o_ix_l0, o_ix_l1, List.getElem?_cons_zero, List.getElem?_cons_succ, List.set_cons_zero, List.set_cons_succ, List.nil_append, List.cons_append, List.length_cons, List.length_nil, Nat.zero_add, Nat.reduceAdd, if_true, if_false, Bool.false_eq_true, Bool.not_true, Bool.not_false, reduceIte, Bool.true_and, Bool.false_and, h6, h7, hp]
          all_goals rfl
end K03

set_option maxHeartbeats 1000000
/-! what a row of words tells -/
namespace K03
open PySem PySem.Spec L2 Sd
def lendsL : List Str := ["both", "far", "one"]
def letsL : List Str := ["both", "far", "any"]
def pr (w : Str) : Option (Str × Str) := if (lendsL.contains (Txt.partition w "/").1 && letsL.contains (Txt.partition w "/").2.2) = true then some ((Txt.partition w "/").1, (Txt.partition w "/").2.2) else none
theorem mem_l {a : Str} (h : a ∈ lendsL) : a = "both" ∨ a = "far" ∨ a = "one" := by simpa [lendsL] using h
theorem mem_t {a : Str} (h : a ∈ letsL) : a = "both" ∨ a = "far" ∨ a = "any" := by simpa [letsL] using h
theorem slash : TL.tl ("/" : Str) = [47] := rfl
theorem pr_of {a b : Str} (ha : a ∈ lendsL) (hb : b ∈ letsL) : pr (a ++ "/" ++ b) = some (a, b) := by
  have h : (47 : Nat) ∉ TL.tl a := by rcases mem_l ha with rfl | rfl | rfl <;> decide +kernel
  have e := TL.partition_app slash (a := a) (b := b) h
  unfold pr
  rw [e, List.contains_iff_mem.mpr ha, List.contains_iff_mem.mpr hb]
  rfl
theorem pr_some {w a b : Str} (h : pr w = some (a, b)) : a ∈ lendsL ∧ b ∈ letsL ∧ w = a ++ "/" ++ b := by
  unfold pr at h
  split at h
  · rename_i z
    obtain ⟨z1, z2⟩ := Bool.and_eq_true_iff.mp z
    have h := Option.some.inj h
    obtain ⟨h1, h2⟩ := Prod.mk.inj h
    subst h1 h2
    have m1 := List.contains_iff_mem.mp z1
    have m2 := List.contains_iff_mem.mp z2
    refine ⟨m1, m2, ?_⟩
    by_cases q : (47 : Nat) ∈ TL.tl w
    · obtain ⟨s, t, e, ns⟩ := List.eq_append_cons_of_mem q
      have ew : w = (⟨s.toArray⟩ : Str) ++ "/" ++ (⟨t.toArray⟩ : Str) := by
        refine TL.ext_tl ?_
        rw [TL.tl_append, TL.tl_append, slash, e]
        show s ++ 47 :: t = s ++ [47] ++ t
        simp
      have e2 := TL.partition_app slash (a := (⟨s.toArray⟩ : Str)) (b := (⟨t.toArray⟩ : Str)) ns
      rw [← ew] at e2
      rw [e2]
      exact ew
    · have e := TL.partition_none slash (a := w) q
      rw [e] at m2
      rcases mem_t m2 with z | z | z
      · exact absurd (show Str.empty = "both" from z) (by decide +kernel)
      · exact absurd (show Str.empty = "far" from z) (by decide +kernel)
      · exact absurd (show Str.empty = "any" from z) (by decide +kernel)
  · cases h
def pairsL : List (Str × Str) := [("one", "any"), ("far", "any"), ("both", "any"), ("one", "far"), ("far", "far"), ("both", "far"), ("one", "both"), ("far", "both"), ("both", "both")]
theorem pairs_mem : ∀ q ∈ pairsL, q.1 ∈ lendsL ∧ q.2 ∈ letsL := by decide +kernel
theorem first_ev (w : Str) : pairsL.filter (fun q => decide (q.1 ++ "/" ++ q.2 = w)) = match pr w with
    | some q => [q]
    | none => [] := by
  cases h : pr w with
  | none =>
    refine List.filter_eq_nil_iff.mpr fun q hq z => ?_
    obtain ⟨m1, m2⟩ := pairs_mem q hq
    have e := pr_of m1 m2
    rw [of_decide_eq_true z, h] at e
    cases e
  | some q =>
    obtain ⟨a, b⟩ := q
    obtain ⟨m1, m2, rfl⟩ := pr_some h
    rcases mem_l m1 with rfl | rfl | rfl <;> rcases mem_t m2 with rfl | rfl | rfl <;> decide +kernel
/-- what the words of a text tell -/
inductive Out where
  | kind (a b : Str) (t : Bool) (r : D)
  | wrong (k : Nat)
def tailO (a b : Str) (t : Bool) (k : Nat) : List Str → Out
  | [] => .kind a b t .non
  | x :: y => if x = "rests" then (match y with
    | [] => .wrong (k + 1)
    | n :: more => if isNon (rD n) = true then .wrong (k + 1) else (match more with
      | [] => .kind a b t (rD n)
      | _ :: _ => .wrong (k + 2))) else .wrong k
def dueO : List Str → Out
  | [] => .wrong 0
  | w0 :: r => match pr w0 with
    | none => .wrong 0
    | some (a, b) => (match r with
      | [] => .kind a b false .non
      | w1 :: r1 => if w1 = "turns" then tailO a b true 2 r1 else tailO a b false 1 (w1 :: r1))
def Out.d : Out → D
  | .kind a b t r => .tup [.str "kind", .lst [.str a, .str b, .bl t, r]]
  | .wrong k => .tup [.str "wrong", .int (k : Nat)]
theorem cut_from (xs : List D) (n : Nat) : cutD xs (some (n : Int)) none = xs.drop n := by
  unfold cutD
  rw [HT.sIx_nat, HT.sIx_none]
  rcases Nat.le_total n xs.length with h | h
  · rw [Nat.min_eq_left h]
    exact List.take_of_length_le (by rw [List.length_drop]; exact Nat.le_refl _)
  · rw [Nat.min_eq_right h, List.drop_of_length_le h, List.drop_of_length_le (Nat.le_refl _)]
    simp
theorem cut_to (xs : List D) (n m : Nat) : cutD xs (some (n : Int)) (some (m : Int)) = (xs.drop n).take (m - n) := by
  unfold cutD
  rw [HT.sIx_nat, HT.sIx_nat]
  rcases Nat.le_total n xs.length with h | h
  · rw [Nat.min_eq_left h]
    rcases Nat.le_total m xs.length with h2 | h2
    · rw [Nat.min_eq_left h2]
    · rw [Nat.min_eq_right h2, List.take_of_length_le (by rw [List.length_drop]; exact Nat.le_refl _), List.take_of_length_le (by rw [List.length_drop]; omega)]
  · rw [Nat.min_eq_right h, List.drop_of_length_le h, List.drop_of_length_le (Nat.le_refl _)]
    simp
end K03

set_option maxHeartbeats 2000000
/-! what the law finds due -/
namespace K03
open PySem PySem.Spec L2 Sd
def tupD (q : Str × Str) : D := .tup [.str q.1, .str q.2]
theorem ok_l : ∀ a ∈ lendsL, okS a = true := by decide +kernel
theorem ok_t : ∀ a ∈ letsL, okS a = true := by decide +kernel
theorem eqF {a b : Str} {g : Bool → Bool} (ha : a ∈ lendsL) (hb : b ∈ letsL) : oEq g (.lst [tupD (a, b)]) (.lst []) = some (.d (.bl (g false))) := by
  have s : SeqAt.shaped (.list [.tuple [.str a, .str b]]) = (((PyData.strOk a && (PyData.strOk b && true)) && true) && decide (2 ≤ 64)) := rfl
  have e : eqO (.lst [tupD (a, b)]) (.lst []) = some false := by
    show (if (SeqAt.shaped (.list [.tuple [.str a, .str b]]) && SeqAt.shaped (.list [])) = true then some (PyData.eqvAll [.tuple [.str a, .str b]] []) else none) = _
    rw [s, show PyData.strOk a = true from ok_l a ha, show PyData.strOk b = true from ok_t b hb]
    rfl
  unfold oEq
  rw [e]
theorem split_ev {z : Str} (hz : szB (z.length + 2) = true) : oSplit z [.str " "] = some (.n (.l ((Txt.split z " ").map D.str))) := by
  show (if (!((" " : Str).length == 0) && szB (z.length + 2)) = true then some (RV.n (.l ((Txt.split z " ").map D.str))) else none) = _
  rw [hz]
  rfl
abbrev σd1 (z : Str) (ws : List Str) : En := ⟨[some (.p (.str z)), some (.r 0), none, none, none, none, none, none, none], [.l (ws.map D.str)], 0⟩
abbrev σd2 (z : Str) (ws : List Str) : En := ⟨[some (.p (.str z)), some (.r 0), some (.r 1), none, none, none, none, none, none], [.l (ws.map D.str), .l ((pairsL.take 6).map tupD)], 0⟩
abbrev σd3 (z : Str) (ws : List Str) : En := ⟨[some (.p (.str z)), some (.r 0), some (.r 2), none, none, none, none, none, none], [.l (ws.map D.str), .l ((pairsL.take 6).map tupD), .l (pairsL.map tupD)], 0⟩
abbrev σd4 (z : Str) (ws : List Str) : En := ⟨[some (.p (.str z)), some (.r 0), some (.r 2), none, none, none, none, none, none], [.l (ws.map D.str), .l ((pairsL.take 6).map tupD), .z (.lst (pairsL.map tupD))], 0⟩
def firstD (w0 : Str) : List D := match pr w0 with
  | some q => [tupD q]
  | none => []
theorem first_fn {z w0 : Str} {r : List Str} : fLc (iSeq (fVar 2)) (gN 7) (Sd.tB (fOp (oEq id) (fOp oAdd (fOp oAdd (fOp oIx (fVar 7) (fC (.int 0))) (fC (.str "/"))) (fOp oIx (fVar 7) (fC (.int 1)))) (fOp oIx (fVar 1) (fC (.int 0))))) (fVar 7) [7] (σd3 z (w0 :: r)) = .ok (.n (.l (firstD w0))) (σd4 z (w0 :: r)) := by
  refine (fLc_d (i := iSeq (fVar 2)) (ρ := σd3 z (w0 :: r)) (ρ1 := σd4 z (w0 :: r)) (xs := pairsL.map tupD) (p := fun x => (match x with | .tup [.str a, .str b] => decide (a ++ "/" ++ b = w0) | _ => false)) (f := fun x => x) rfl (fun x hx => ?_) (fun x hx _ => ?_) rfl).trans ?_
  · obtain ⟨q, hq, rfl⟩ := List.mem_map.mp hx
    have key : ∀ q ∈ pairsL, szB (q.1.length + ("/" : Str).length) = true ∧ szB ((q.1 ++ "/").length + q.2.length) = true := by decide +kernel
    obtain ⟨k1, k2⟩ := key q hq
    have a1 : oAdd (.str q.1) (.str "/") = some (.d (.str (q.1 ++ "/"))) := if_pos k1
    have a2 : oAdd (.str (q.1 ++ "/")) (.str q.2) = some (.d (.str (q.1 ++ "/" ++ q.2))) := if_pos k2
    have i0 : oIx (tupD q) (.int 0) = some (.d (.str q.1)) := rfl
    have i1 : oIx (tupD q) (.int 1) = some (.d (.str q.2)) := rfl
    have i2 : oIx (.lst (List.map D.str (w0 :: r))) (.int 0) = some (.d (.str w0)) := o_ix_l0
    show Sd.tB _ (⟨[some (.p (.str z)), some (.r 0), some (.r 2), none, none, none, none, some (.p (tupD q)), none], [.l ((w0 :: r).map D.str), .l ((pairsL.take 6).map tupD), .z (.lst (pairsL.map tupD))], 0⟩ : En) = _
    simp only [e_bo, e_bx, e_bn, e_to, e_tx, e_qn, e_qr, e_qx, e_os, e_c, e_v, e_vp, e_vr, e_ad, e_an, e_ar, e_set, e_add, e_put, e_op, e_a2, e_un, e_a1, e_rd, e_rn, e_rm, e_rr, e_fl, e_fz, e_ed, e_en, e_em, e_er, e_mz, e_ml, e_aN, e_aC, e_rN, e_rC, e_co, e_l0, e_l1, e_lc, e_cb, e_aL, e_cN, e_cD, e_cR, e_fr, e_fd, e_fr', e_fd', e_lst, e_tup, e_tb, e_ab, e_tA, e_tO, e_tN, e_fI, e_i2, e_ch, e_bk, e_and, e_or, e_not, e_sm, e_sk, e_oN, e_oS, e_iK, e_sl, e_aS, e_ll, e_rv, e_rk, e_sS, e_sI, e_sN, e_sD, e_sR, e_rO, e_rV, e_rVn, e_rVr, e_sA, e_sG, e_oF, e_gN, e_g0, e_g1, e_gT, e_sE, e_au, e_ii, e_ao, e_z, e_cX, e_cM, e_nk, e_c0, e_t0, e_er0, e_en0, e_ex0, o_add_i, o_int_b, o_int_i, o_lt_i, o_is_n, o_eq_s, o_eq_b, o_len_l, o_sub_i, o_gt_i, z0, z1, z2, z3, z4, o_ix_t0, o_ix_t1, o_ix_l0, o_ix_l1, List.getElem?_cons_zero, List.getElem?_cons_succ, List.set_cons_zero, List.set_cons_succ, List.nil_append, List.cons_append, List.length_cons, List.length_nil, Nat.zero_add, Nat.reduceAdd, if_true, if_false, Bool.false_eq_true, Bool.not_true, Bool.not_false, reduceIte, i0, i1, a1, a2, i2, id_eq]
    all_goals rfl
  · obtain ⟨q, _, rfl⟩ := List.mem_map.mp hx
    rfl
  · rw [List.filter_map, List.map_id']
    have e : (pairsL.filter ((fun x => (match x with | .tup [.str a, .str b] => decide (a ++ "/" ++ b = w0) | _ => false)) ∘ tupD)) = match pr w0 with
        | some q => [q]
        | none => [] := first_ev w0
    rw [e]
    unfold firstD
    cases pr w0 <;> rfl
theorem cut1 (xs : List D) : cutD xs (some 1) none = xs.drop 1 := cut_from xs 1
theorem cut2 (xs : List D) : cutD xs (some 2) none = xs.drop 2 := cut_from xs 2
theorem sz_le {n m : Nat} (h : szB m = true) (l : n ≤ m) : szB n = true := Nat.ble_eq_true_of_le (Nat.le_trans l (Nat.le_of_ble_eq_true h))
def f_due_tail : FS := (sSeq (sIf (tB (fOp (oEq id) (fVar 5) (fLst aN))) (sRet (fTup (aC (fC (.str "kind")) (aC (fLst (aC (fOp oIx (fOp oIx (fVar 3) (fC (.int 0))) (fC (.int 0))) (aC (fOp oIx (fOp oIx (fVar 3) (fC (.int 0))) (fC (.int 1))) (aC (fVar 4) (aC (fC .non) aN))))) aN)))) sN) (sSeq (sIf (tB (fOp (oEq not) (fOp oIx (fVar 5) (fC (.int 0))) (fC (.str "rests")))) (sRet (fTup (aC (fC (.str "wrong")) (aC (fVar 6) aN)))) sN) (sSeq (sIf (tO (tB (fOp (oEq id) (fCB oLen (rC (fVar 5) rN)) (fC (.int 1)))) (tN (tB (fCX F_is_rest 1 0 [.a 0] [] (cD (fOp oIx (fVar 5) (fC (.int 1))) cN) cN)))) (sRet (fTup (aC (fC (.str "wrong")) (aC (fOp oAdd (fVar 6) (fC (.int 1))) aN)))) sN) (sSeq (sIf (tB (fOp oGt (fCB oLen (rC (fVar 5) rN)) (fC (.int 2)))) (sRet (fTup (aC (fC (.str "wrong")) (aC (fOp oAdd (fVar 6) (fC (.int 2))) aN)))) sN) (sRet (fTup (aC (fC (.str "kind")) (aC (fLst (aC (fOp oIx (fOp oIx (fVar 3) (fC (.int 0))) (fC (.int 0))) (aC (fOp oIx (fOp oIx (fVar 3) (fC (.int 0))) (fC (.int 1))) (aC (fVar 4) (aC (fCB oIntU (rC (fOp oIx (fVar 5) (fC (.int 1))) rN)) aN))))) aN))))))))
def f_due' : FS := (sSeq (sAsg 1 (fSM oSplit (fVar 0) (rC (fC (.str " ")) rN))) (sSeq (sAsg 2 (fOp oAdd (fLc (iSeq (fTup (aC (fC (.str "one")) (aC (fC (.str "far")) (aC (fC (.str "both")) aN))))) (gN 8) tY (fTup (aC (fVar 8) (aC (fC (.str "any")) aN))) [8]) (fLc (iSeq (fTup (aC (fC (.str "one")) (aC (fC (.str "far")) (aC (fC (.str "both")) aN))))) (gN 8) tY (fTup (aC (fVar 8) (aC (fC (.str "far")) aN))) [8]))) (sSeq (sAsg 2 (fOp oAdd (fVar 2) (fLc (iSeq (fTup (aC (fC (.str "one")) (aC (fC (.str "far")) (aC (fC (.str "both")) aN))))) (gN 8) tY (fTup (aC (fVar 8) (aC (fC (.str "both")) aN))) [8]))) (sSeq (sAsg 3 (fLc (iSeq (fVar 2)) (gN 7) (tB (fOp (oEq id) (fOp oAdd (fOp oAdd (fOp oIx (fVar 7) (fC (.int 0))) (fC (.str "/"))) (fOp oIx (fVar 7) (fC (.int 1)))) (fOp oIx (fVar 1) (fC (.int 0))))) (fVar 7) [7])) (sSeq (sIf (tB (fOp (oEq id) (fVar 3) (fLst aN))) (sRet (fTup (aC (fC (.str "wrong")) (aC (fC (.int 0)) aN)))) sN) (sSeq (sAsg 4 (fAnd (fOp oGt (fCB oLen (rC (fVar 1) rN)) (fC (.int 1))) (fOp (oEq id) (fOp oIx (fVar 1) (fC (.int 1))) (fC (.str "turns"))))) (sSeq (sAsg 5 (fSlc (fVar 1) (oS (fOp oAdd (fC (.int 1)) (fCB oIntU (rC (fVar 4) rN)))) oN)) (sSeq (sAsg 6 (fOp oSub (fCB oLen (rC (fVar 1) rN)) (fCB oLen (rC (fVar 5) rN)))) f_due_tail))))))))
theorem f_due_eq : f_due = f_due' := rfl
theorem eqc {x : Str} {y : List Str} {g : Bool → Bool} (h : ((x :: y).all okS) = true) : oEq g (.lst (D.str x :: y.map D.str)) (.lst []) = some (.d (.bl (g false))) := (eq_nil (xs := x :: y) h).trans rfl
theorem rd_int {w : Str} (h : isNon (rD w) = false) : ∃ v : Int, rD w = .int v ∧ oIntU [.str w] = some (.d (.int v)) ∧ (2 ≤ v ∧ v ≤ 1000000) := by
  unfold rD at h ⊢
  cases h1 : (decide ((1 : Int) ≤ (w.length : Nat)) && (decide (((w.length : Nat) : Int) ≤ 7) && figsB w)) with
  | false =>
    rw [h1] at h
    cases h
  | true =>
    rw [h1, if_pos rfl] at h
    rw [if_pos rfl]
    obtain ⟨_, k1⟩ := Bool.and_eq_true_iff.mp h1
    obtain ⟨k1, _⟩ := Bool.and_eq_true_iff.mp k1
    have l2 : w.length ≤ 7 := by have := of_decide_eq_true k1; omega
    cases h2 : (decide (w.cps.toList[0]? = some 48) && !decide (w = "0")) with
    | true =>
      rw [h2] at h
      cases h
    | false =>
      rw [h2, if_neg Bool.false_ne_true] at h
      rw [if_neg Bool.false_ne_true]; cases h3 : intText? w with
      | none =>
        rw [h3] at h
        cases h
      | some n =>
        rw [h3] at h
        have h : isNon (if (decide (2 ≤ n) && decide (n ≤ 1000000)) = true then D.int n else .non) = false := h
        cases h4 : (decide (2 ≤ n) && decide (n ≤ 1000000)) with
        | false =>
          rw [h4] at h
          cases h
        | true =>
          obtain ⟨k2, k3⟩ := Bool.and_eq_true_iff.mp h4
          refine ⟨n, ?_, int_tx h3 l2, of_decide_eq_true k2, of_decide_eq_true k3⟩
          show (if (decide (2 ≤ n) && decide (n ≤ 1000000)) = true then D.int n else .non) = _
          rw [h4]
          rfl
theorem tail_ev {z a b : Str} {t : Bool} {k : Nat} {bs ws : List Str} {m1 m2 : M} (ha : a ∈ lendsL) (hb : b ∈ letsL) (hk : (bs.all okS) = true) (hw : ∀ w ∈ bs, szB w.length = true ∧ okS w = true) :
    endD (f_due_tail ⟨[some (.p (.str z)), some (.r 0), some (.r 2), some (.r 3), some (.p (.bl t)), some (.r 4), some (.p (.int (k : Nat))), none, none], [.l (ws.map D.str), m1, m2, .l [tupD (a, b)], .l (bs.map D.str)], 0⟩) = .ok (.d (tailO a b t k bs).d) [] := by
  unfold f_due_tail
  have t0 : oIx (tupD (a, b)) (.int 0) = some (.d (.str a)) := o_ix_t0
  have t1 : oIx (tupD (a, b)) (.int 1) = some (.d (.str b)) := o_ix_t1
  cases bs with
  | nil =>
    have e : oEq id (.lst (([] : List Str).map D.str)) (.lst []) = some (.d (.bl true)) := rfl
    simp only [e_bo, e_bx, e_bn, e_to, e_tx, e_qn, e_qr, e_qx, e_os, e_c, e_v, e_vp, e_vr, e_ad, e_an, e_ar, e_set, e_add, e_put, e_op, e_a2, e_un, e_a1, e_rd, e_rn, e_rm, e_rr, e_fl, e_fz, e_ed, e_en, e_em, e_er, e_mz, e_ml, e_aN, e_aC, e_rN, e_rC, e_co, e_l0, e_l1, e_lc, e_cb, e_aL, e_cN, e_cD, e_cR, e_fr, e_fd, e_fr', e_fd', e_lst, e_tup, e_tb, e_ab, e_tA, e_tO, e_tN, e_fI, e_i2, e_ch, e_bk, e_and, e_or, e_not, e_sm, e_sk, e_oN, e_oS, e_iK, e_sl, e_aS, e_ll, e_rv, e_rk, e_sS, e_sI, e_sN, e_sD, e_sR, e_rO, e_rV, e_rVn, e_rVr, e_sA, e_sG, e_oF, e_gN, e_g0, e_g1, e_gT, e_sE, e_au, e_ii, e_ao, e_z, e_cX, e_cM, e_nk, e_c0, e_t0, e_er0, e_en0, e_ex0, o_add_i, o_int_b, o_int_i, o_lt_i, o_is_n, o_eq_s, o_eq_b, o_len_l, o_sub_i, o_gt_i, z0, z1, z2, z3, z4, o_ix_t0, o_ix_t1, o_ix_l0, o_ix_l1, List.getElem?_cons_zero, List.getElem?_cons_succ, List.set_cons_zero, List.set_cons_succ, List.nil_append, List.cons_append, List.length_cons, List.length_nil, Nat.zero_add, Nat.reduceAdd, if_true, if_false, Bool.false_eq_true, Bool.not_true, Bool.not_false, reduceIte, e, t0, t1, List.map_nil]
    all_goals rfl
  | cons x y =>
    simp only [e_bo, e_bx, e_bn, e_to, e_tx, e_qn, e_qr, e_qx, e_os, e_c, e_v, e_vp, e_vr, e_ad, e_an, e_ar, e_set, e_add, e_put, e_op, e_a2, e_un, e_a1, e_rd, e_rn, e_rm, e_rr, e_fl, e_fz, e_ed, e_en, e_em, e_er, e_mz, e_ml, e_aN, e_aC, e_rN, e_rC, e_co, e_l0, e_l1, e_lc, e_cb, e_aL, e_cN, e_cD, e_cR, e_fr, e_fd, e_fr', e_fd', e_lst, e_tup, e_tb, e_ab, e_tA, e_tO, e_tN, e_fI, e_i2, e_ch, e_bk, e_and, e_or, e_not, e_sm, e_sk, e_oN, e_oS, e_iK, e_sl, e_aS, e_ll, e_rv, e_rk, e_sS, e_sI, e_sN, e_sD, e_sR, e_rO, e_rV, e_rVn, e_rVr, e_sA, e_sG, e_oF, e_gN, e_g0, e_g1, e_gT, e_sE, e_au, e_ii, e_ao, e_z, e_cX, e_cM, e_nk, e_c0, e_t0, e_er0, e_en0, e_ex0, o_add_i, o_int_b, o_int_i, o_lt_i, o_is_n, o_eq_s, o_eq_b, o_len_l, o_sub_i, o_gt_i, z0, z1, z2, z3, z4, o_ix_t0, o_ix_t1, o_ix_l0, o_ix_l1, List.getElem?_cons_zero, List.getElem?_cons_succ, List.set_cons_zero, List.set_cons_succ, List.nil_append, List.cons_append, List.length_cons, List.length_nil, Nat.zero_add, Nat.reduceAdd, if_true, if_false, Bool.false_eq_true, Bool.not_true, Bool.not_false, reduceIte, eqc hk, id_eq, List.map_cons, List.length_map]
    cases h1 : decide (x = "rests") with
    | false =>
      simp only [e_bo, e_bx, e_bn, e_to, e_tx, e_qn, e_qr, e_qx, e_os, e_c, e_v, e_vp, e_vr, e_ad, e_an, e_ar, e_set, e_add, e_put, e_op, e_a2, e_un, e_a1, e_rd, e_rn, e_rm, e_rr, e_fl, e_fz, e_ed, e_en, e_em, e_er, e_mz, e_ml, e_aN, e_aC, e_rN, e_rC, e_co, e_l0, e_l1, e_lc, e_cb, e_aL, e_cN, e_cD, e_cR, e_fr, e_fd, e_fr', e_fd', e_lst, e_tup, e_tb, e_ab, e_tA, e_tO, e_tN, e_fI, e_i2, e_ch, e_bk, e_and, e_or, e_not, e_sm, e_sk, e_oN, e_oS, e_iK, e_sl, e_aS, e_ll, e_rv, e_rk, e_sS, e_sI, e_sN, e_sD, e_sR, e_rO, e_rV, e_rVn, e_rVr, e_sA, e_sG, e_oF, e_gN, e_g0, e_g1, e_gT, e_sE, e_au, e_ii, e_ao, e_z, e_cX, e_cM, e_nk, e_c0, e_t0, e_er0, e_en0, e_ex0, o_add_i, o_int_b, o_int_i, o_lt_i, o_is_n, o_eq_s, o_eq_b, o_len_l, o_sub_i, o_gt_i, z0, z1, z2, z3, z4, o_ix_t0, o_ix_t1, o_ix_l0, o_ix_l1, List.getElem?_cons_zero, List.getElem?_cons_succ, List.set_cons_zero, List.set_cons_succ, List.nil_append, List.cons_append, List.length_cons, List.length_nil, Nat.zero_add, Nat.reduceAdd, if_true, if_false, Bool.false_eq_true, Bool.not_true, Bool.not_false, reduceIte, h1]
      have e : tailO a b t k (x :: y) = .wrong k := if_neg (of_decide_eq_false h1)
      rw [e]
      all_goals rfl
    | true =>
      simp only [e_bo, e_bx, e_bn, e_to, e_tx, e_qn, e_qr, e_qx, e_os, e_c, e_v, e_vp, e_vr, e_ad, e_an, e_ar, e_set, e_add, e_put, e_op, e_a2, e_un, e_a1, e_rd, e_rn, e_rm, e_rr, e_fl, e_fz, e_ed, e_en, e_em, e_er, e_mz, e_ml, e_aN, e_aC, e_rN, e_rC, e_co, e_l0, e_l1, e_lc, e_cb, e_aL, e_cN, e_cD, e_cR, e_fr, e_fd, e_fr', e_fd', e_lst, e_tup, e_tb, e_ab, e_tA, e_tO, e_tN, e_fI, e_i2, e_ch, e_bk, e_and, e_or, e_not, e_sm, e_sk, e_oN, e_oS, e_iK, e_sl, e_aS, e_ll, e_rv, e_rk, e_sS, e_sI, e_sN, e_sD, e_sR, e_rO, e_rV, e_rVn, e_rVr, e_sA, e_sG, e_oF, e_gN, e_g0, e_g1, e_gT, e_sE, e_au, e_ii, e_ao, e_z, e_cX, e_cM, e_nk, e_c0, e_t0, e_er0, e_en0, e_ex0, o_add_i, o_int_b, o_int_i, o_lt_i, o_is_n, o_eq_s, o_eq_b, o_len_l, o_sub_i, o_gt_i, z0, z1, z2, z3, z4, o_ix_t0, o_ix_t1, o_ix_l0, o_ix_l1, List.getElem?_cons_zero, List.getElem?_cons_succ, List.set_cons_zero, List.set_cons_succ, List.nil_append, List.cons_append, List.length_cons, List.length_nil, Nat.zero_add, Nat.reduceAdd, if_true, if_false, Bool.false_eq_true, Bool.not_true, Bool.not_false, reduceIte, h1]
      have h1' := of_decide_eq_true h1
      cases y with
      | nil =>
        have q : ((((0 : Nat) + 1 : Nat) : Int) == 1) = true := rfl
        have e : tailO a b t k (x :: []) = .wrong (k + 1) := if_pos h1'
        rw [e]
        simp only [e_bo, e_bx, e_bn, e_to, e_tx, e_qn, e_qr, e_qx, e_os, e_c, e_v, e_vp, e_vr, e_ad, e_an, e_ar, e_set, e_add, e_put, e_op, e_a2, e_un, e_a1, e_rd, e_rn, e_rm, e_rr, e_fl, e_fz, e_ed, e_en, e_em, e_er, e_mz, e_ml, e_aN, e_aC, e_rN, e_rC, e_co, e_l0, e_l1, e_lc, e_cb, e_aL, e_cN, e_cD, e_cR, e_fr, e_fd, e_fr', e_fd', e_lst, e_tup, e_tb, e_ab, e_tA, e_tO, e_tN, e_fI, e_i2, e_ch, e_bk, e_and, e_or, e_not, e_sm, e_sk, e_oN, e_oS, e_iK, e_sl, e_aS, e_ll, e_rv, e_rk, e_sS, e_sI, e_sN, e_sD, e_sR, e_rO, e_rV, e_rVn, e_rVr, e_sA, e_sG, e_oF, e_gN, e_g0, e_g1, e_gT, e_sE, e_au, e_ii, e_ao, e_z, e_cX, e_cM, e_nk, e_c0, e_t0, e_er0, e_en0, e_ex0, o_add_i, o_int_b, o_int_i, o_lt_i, o_is_n, o_eq_s, o_eq_b, o_len_l, o_sub_i, o_gt_i, z0, z1, z2, z3, z4, o_ix_t0, o_ix_t1, o_ix_l0, o_ix_l1, List.getElem?_cons_zero, List.getElem?_cons_succ, List.set_cons_zero, List.set_cons_succ, List.nil_append, List.cons_append, List.length_cons, List.length_nil, Nat.zero_add, Nat.reduceAdd, if_true, if_false, Bool.false_eq_true, Bool.not_true, Bool.not_false, reduceIte, List.map_nil, id_eq, q]
        all_goals rfl
      | cons n more =>
        have q : (((more.length + 1 + 1 : Nat) : Int) == 1) = false := by
          rw [beq_eq_false_iff_ne]
          omega
        obtain ⟨w1, w2⟩ := hw n (List.mem_cons_of_mem _ List.mem_cons_self)
        have c1 : ∀ ρ : En, callF F_is_rest [.p (.str n)] ρ = .ok (.d (.bl (!isNon (rD n)))) ρ := fun ρ => callF_d (ds := [.str n]) (is_rest_ev w1 w2)
        have s1 : sel [C1.p (.str n)] [] [] [.a 0] = [.p (.str n)] := rfl
        simp only [e_bo, e_bx, e_bn, e_to, e_tx, e_qn, e_qr, e_qx, e_os, e_c, e_v, e_vp, e_vr, e_ad, e_an, e_ar, e_set, e_add, e_put, e_op, e_a2, e_un, e_a1, e_rd, e_rn, e_rm, e_rr, e_fl, e_fz, e_ed, e_en, e_em, e_er, e_mz, e_ml, e_aN, e_aC, e_rN, e_rC, e_co, e_l0, e_l1, e_lc, e_cb, e_aL, e_cN, e_cD, e_cR, e_fr, e_fd, e_fr', e_fd', e_lst, e_tup, e_tb, e_ab, e_tA, e_tO, e_tN, e_fI, e_i2, e_ch, e_bk, e_and, e_or, e_not, e_sm, e_sk, e_oN, e_oS, e_iK, e_sl, e_aS, e_ll, e_rv, e_rk, e_sS, e_sI, e_sN, e_sD, e_sR, e_rO, e_rV, e_rVn, e_rVr, e_sA, e_sG, e_oF, e_gN, e_g0, e_g1, e_gT, e_sE, e_au, e_ii, e_ao, e_z, e_cX, e_cM, e_nk, e_c0, e_t0, e_er0, e_en0, e_ex0, o_add_i, o_int_b, o_int_i, o_lt_i, o_is_n, o_eq_s, o_eq_b, o_len_l, o_sub_i, o_gt_i, z0, z1, z2, z3, z4, o_ix_t0, o_ix_t1, o_ix_l0, o_ix_l1, List.getElem?_cons_zero, List.getElem?_cons_succ, List.set_cons_zero, List.set_cons_succ, List.nil_append, List.cons_append, List.length_cons, List.length_nil, Nat.zero_add, Nat.reduceAdd, if_true, if_false, Bool.false_eq_true, Bool.not_true, Bool.not_false, reduceIte, List.map_cons, id_eq, q, List.length_map, s1, c1, beq_self_eq_true, Bool.and_self]
        cases h2 : isNon (rD n) with
        | true =>
          have e : tailO a b t k (x :: n :: more) = .wrong (k + 1) := (if_pos h1').trans (if_pos h2)
          rw [e]
          simp only [e_bo, e_bx, e_bn, e_to, e_tx, e_qn, e_qr, e_qx, e_os, e_c, e_v, e_vp, e_vr, e_ad, e_an, e_ar, e_set, e_add, e_put, e_op, e_a2, e_un, e_a1, e_rd, e_rn, e_rm, e_rr, e_fl, e_fz, e_ed, e_en, e_em, e_er, e_mz, e_ml, e_aN, e_aC, e_rN, e_rC, e_co, e_l0, e_l1, e_lc, e_cb, e_aL, e_cN, e_cD, e_cR, e_fr, e_fd, e_fr', e_fd', e_lst, e_tup, e_tb, e_ab, e_tA, e_tO, e_tN, e_fI, e_i2, e_ch, e_bk, e_and, e_or, e_not, e_sm, e_sk, e_oN, e_oS, e_iK, e_sl, e_aS, e_ll, e_rv, e_rk, e_sS, e_sI, e_sN, e_sD, e_sR, e_rO, e_rV, e_rVn, e_rVr, e_sA, e_sG, e_oF, e_gN, e_g0, e_g1, e_gT, e_sE, e_au, e_ii, e_ao, e_z, e_cX, e_cM, e_nk, e_c0, e_t0, e_er0, e_en0, e_ex0, o_add_i, o_int_b, o_int_i, o_lt_i, o_is_n, o_eq_s, o_eq_b, o_len_l, o_sub_i, o_gt_i, z0, z1, z2, z3, z4, o_ix_t0, o_ix_t1, o_ix_l0, o_ix_l1, List.getElem?_cons_zero, List.getElem?_cons_succ, List.set_cons_zero, List.set_cons_succ, List.nil_append, List.cons_append, List.length_cons, List.length_nil, Nat.zero_add, Nat.reduceAdd, if_true, if_false, Bool.false_eq_true, Bool.not_true, Bool.not_false, reduceIte, h2]
          all_goals rfl
        | false =>
          have h2' : ¬ isNon (rD n) = true := by rw [h2]; exact Bool.false_ne_true
          simp only [e_bo, e_bx, e_bn, e_to, e_tx, e_qn, e_qr, e_qx, e_os, e_c, e_v, e_vp, e_vr, e_ad, e_an, e_ar, e_set, e_add, e_put, e_op, e_a2, e_un, e_a1, e_rd, e_rn, e_rm, e_rr, e_fl, e_fz, e_ed, e_en, e_em, e_er, e_mz, e_ml, e_aN, e_aC, e_rN, e_rC, e_co, e_l0, e_l1, e_lc, e_cb, e_aL, e_cN, e_cD, e_cR, e_fr, e_fd, e_fr', e_fd', e_lst, e_tup, e_tb, e_ab, e_tA, e_tO, e_tN, e_fI, e_i2, e_ch, e_bk, e_and, e_or, e_not, e_sm, e_sk, e_oN, e_oS, e_iK, e_sl, e_aS, e_ll, e_rv, e_rk, e_sS, e_sI, e_sN, e_sD, e_sR, e_rO, e_rV, e_rVn, e_rVr, e_sA, e_sG, e_oF, e_gN, e_g0, e_g1, e_gT, e_sE, e_au, e_ii, e_ao, e_z, e_cX, e_cM, e_nk, e_c0, e_t0, e_er0, e_en0, e_ex0, o_add_i, o_int_b, o_int_i, o_lt_i, o_is_n, o_eq_s, o_eq_b, o_len_l, o_sub_i, o_gt_i, z0, z1, z2, z3, z4, o_ix_t0, o_ix_t1, o_ix_l0, o_ix_l1, List.getElem?_cons_zero, List.getElem?_cons_succ, List.set_cons_zero, List.set_cons_succ, List.nil_append, List.cons_append, List.length_cons, List.length_nil, Nat.zero_add, Nat.reduceAdd, if_true, if_false, Bool.false_eq_true, Bool.not_true, Bool.not_false, reduceIte, h2]
          cases more with
          | nil =>
            have e : tailO a b t k (x :: n :: []) = .kind a b t (rD n) := (if_pos h1').trans (if_neg h2')
            rw [e]
            obtain ⟨v, v1, v2, v3⟩ := rd_int h2
            have q3 : decide ((2 : Int) < ((2 : Nat) : Int)) = false := rfl
            rw [v1]
            simp only [e_bo, e_bx, e_bn, e_to, e_tx, e_qn, e_qr, e_qx, e_os, e_c, e_v, e_vp, e_vr, e_ad, e_an, e_ar, e_set, e_add, e_put, e_op, e_a2, e_un, e_a1, e_rd, e_rn, e_rm, e_rr, e_fl, e_fz, e_ed, e_en, e_em, e_er, e_mz, e_ml, e_aN, e_aC, e_rN, e_rC, e_co, e_l0, e_l1, e_lc, e_cb, e_aL, e_cN, e_cD, e_cR, e_fr, e_fd, e_fr', e_fd', e_lst, e_tup, e_tb, e_ab, e_tA, e_tO, e_tN, e_fI, e_i2, e_ch, e_bk, e_and, e_or, e_not, e_sm, e_sk, e_oN, e_oS, e_iK, e_sl, e_aS, e_ll, e_rv, e_rk, e_sS, e_sI, e_sN, e_sD, e_sR, e_rO, e_rV, e_rVn, e_rVr, e_sA, e_sG, e_oF, e_gN, e_g0, e_g1, e_gT, e_sE, e_au, e_ii, e_ao, e_z, e_cX, e_cM, e_nk, e_c0, e_t0, e_er0, e_en0, e_ex0, o_add_i, o_int_b, o_int_i, o_lt_i, o_is_n, o_eq_s, o_eq_b, o_len_l, o_sub_i, o_gt_i, z0, z1, z2, z3, z4, o_ix_t0, o_ix_t1, o_ix_l0, o_ix_l1, List.getElem?_cons_zero, List.getElem?_cons_succ, List.set_cons_zero, List.set_cons_succ, List.nil_append, List.cons_append, List.length_cons, List.length_nil, Nat.zero_add, Nat.reduceAdd, if_true, if_false, Bool.false_eq_true, Bool.not_true, Bool.not_false, reduceIte, List.map_nil, t0, t1, q3, v2]
            all_goals rfl
          | cons m2 more2 =>
            have e : tailO a b t k (x :: n :: m2 :: more2) = .wrong (k + 2) := (if_pos h1').trans (if_neg h2')
            rw [e]
            have q2 : decide ((2 : Int) < ((more2.length + 1 + 1 + 1 : Nat) : Int)) = true := decide_eq_true (by omega)
            simp only [e_bo, e_bx, e_bn, e_to, e_tx, e_qn, e_qr, e_qx, e_os, e_c, e_v, e_vp, e_vr, e_ad, e_an, e_ar, e_set, e_add, e_put, e_op, e_a2, e_un, e_a1, e_rd, e_rn, e_rm, e_rr, e_fl, e_fz, e_ed, e_en, e_em, e_er, e_mz, e_ml, e_aN, e_aC, e_rN, e_rC, e_co, e_l0, e_l1, e_lc, e_cb, e_aL, e_cN, e_cD, e_cR, e_fr, e_fd, e_fr', e_fd', e_lst, e_tup, e_tb, e_ab, e_tA, e_tO, e_tN, e_fI, e_i2, e_ch, e_bk, e_and, e_or, e_not, e_sm, e_sk, e_oN, e_oS, e_iK, e_sl, e_aS, e_ll, e_rv, e_rk, e_sS, e_sI, e_sN, e_sD, e_sR, e_rO, e_rV, e_rVn, e_rVr, e_sA, e_sG, e_oF, e_gN, e_g0, e_g1, e_gT, e_sE, e_au, e_ii, e_ao, e_z, e_cX, e_cM, e_nk, e_c0, e_t0, e_er0, e_en0, e_ex0, o_add_i, o_int_b, o_int_i, o_lt_i, o_is_n, o_eq_s, o_eq_b, o_len_l, o_sub_i, o_gt_i, z0, z1, z2, z3, z4, o_ix_t0, o_ix_t1, o_ix_l0, o_ix_l1, List.getElem?_cons_zero, List.getElem?_cons_succ, List.set_cons_zero, List.set_cons_succ, List.nil_append, List.cons_append, List.length_cons, List.length_nil, Nat.zero_add, Nat.reduceAdd, if_true, if_false, Bool.false_eq_true, Bool.not_true, Bool.not_false, reduceIte, List.map_cons, List.length_map, q2]
            all_goals rfl
theorem due_ev {z w0 : Str} {r : List Str} (hs : Txt.split z " " = w0 :: r) (hz : szB (z.length + 2) = true) (hw : ∀ w ∈ w0 :: r, szB w.length = true ∧ okS w = true) : F_due [.p (.str z)] [] = .ok (.d (dueO (w0 :: r)).d) [] := by
  have hk : ((w0 :: r).all okS) = true := List.all_eq_true.mpr fun w hm => (hw w hm).2
  have cA : ∀ x : Str, fLc (iSeq (fTup (aC (fC (.str "one")) (aC (fC (.str "far")) (aC (fC (.str "both")) aN))))) (gN 8) tY (fTup (aC (fVar 8) (aC (fC (.str x)) aN))) [8] (σd1 z (w0 :: r)) = .ok (.n (.l [tupD ("one", x), tupD ("far", x), tupD ("both", x)])) (σd1 z (w0 :: r)) := fun _ => rfl
  have cB : ∀ x : Str, fLc (iSeq (fTup (aC (fC (.str "one")) (aC (fC (.str "far")) (aC (fC (.str "both")) aN))))) (gN 8) tY (fTup (aC (fVar 8) (aC (fC (.str x)) aN))) [8] (σd2 z (w0 :: r)) = .ok (.n (.l [tupD ("one", x), tupD ("far", x), tupD ("both", x)])) (σd2 z (w0 :: r)) := fun _ => rfl
  have a1 : oAdd (.lst [tupD ("one", "any"), tupD ("far", "any"), tupD ("both", "any")]) (.lst [tupD ("one", "far"), tupD ("far", "far"), tupD ("both", "far")]) = some (.n (.l ((pairsL.take 6).map tupD))) := rfl
  have a2 : oAdd (.lst ((pairsL.take 6).map tupD)) (.lst [tupD ("one", "both"), tupD ("far", "both"), tupD ("both", "both")]) = some (.n (.l (pairsL.map tupD))) := rfl
  show endD (f_due ⟨[some (.p (.str z)), none, none, none, none, none, none, none, none], [], 0⟩) = _
  rw [f_due_eq]
  unfold f_due'
  simp only [e_bo, e_bx, e_bn, e_to, e_tx, e_qn, e_qr, e_qx, e_os, e_c, e_v, e_vp, e_vr, e_ad, e_an, e_ar, e_set, e_add, e_put, e_op, e_a2, e_un, e_a1, e_rd, e_rn, e_rm, e_rr, e_fl, e_fz, e_ed, e_en, e_em, e_er, e_mz, e_ml, e_aN, e_aC, e_rN, e_rC, e_co, e_l0, e_l1, e_lc, e_cb, e_aL, e_cN, e_cD, e_cR, e_fr, e_fd, e_fr', e_fd', e_lst, e_tup, e_tb, e_ab, e_tA, e_tO, e_tN, e_fI, e_i2, e_ch, e_bk, e_and, e_or, e_not, e_sm, e_sk, e_oN, e_oS, e_iK, e_sl, e_aS, e_ll, e_rv, e_rk, e_sS, e_sI, e_sN, e_sD, e_sR, e_rO, e_rV, e_rVn, e_rVr, e_sA, e_sG, e_oF, e_gN, e_g0, e_g1, e_gT, e_sE, e_au, e_ii, e_ao, e_z, e_cX, e_cM, e_nk, e_c0, e_t0, e_er0, e_en0, e_ex0, o_add_i, o_int_b, o_int_i, o_lt_i, o_is_n, o_eq_s, o_eq_b, o_len_l, o_sub_i, o_gt_i, z0, z1, z2, z3, z4, o_ix_t0, o_ix_t1, o_ix_l0, o_ix_l1, List.getElem?_cons_zero, List.getElem?_cons_succ, List.set_cons_zero, List.set_cons_succ, List.nil_append, List.cons_append, List.length_cons, List.length_nil, Nat.zero_add, Nat.reduceAdd, if_true, if_false, Bool.false_eq_true, Bool.not_true, Bool.not_false, reduceIte, split_ev hz, hs, cA, cB, a1, a2, first_fn]
  have eN : oEq id (.lst []) (.lst []) = some (.d (.bl true)) := rfl
  cases hp : pr w0 with
  | none =>
    have ef : firstD w0 = [] := by unfold firstD; rw [hp]
    have eo : dueO (w0 :: r) = .wrong 0 := by show (match pr w0 with | none => Out.wrong 0 | some (a, b) => _) = _; rw [hp]
    rw [eo]
    simp only [e_bo, e_bx, e_bn, e_to, e_tx, e_qn, e_qr, e_qx, e_os, e_c, e_v, e_vp, e_vr, e_ad, e_an, e_ar, e_set, e_add, e_put, e_op, e_a2, e_un, e_a1, e_rd, e_rn, e_rm, e_rr, e_fl, e_fz, e_ed, e_en, e_em, e_er, e_mz, e_ml, e_aN, e_aC, e_rN, e_rC, e_co, e_l0, e_l1, e_lc, e_cb, e_aL, e_cN, e_cD, e_cR, e_fr, e_fd, e_fr', e_fd', e_lst, e_tup, e_tb, e_ab, e_tA, e_tO, e_tN, e_fI, e_i2, e_ch, e_bk, e_and, e_or, e_not, e_sm, e_sk, e_oN, e_oS, e_iK, e_sl, e_aS, e_ll, e_rv, e_rk, e_sS, e_sI, e_sN, e_sD, e_sR, e_rO, e_rV, e_rVn, e_rVr, e_sA, e_sG, e_oF, e_gN, e_g0, e_g1, e_gT, e_sE, e_au, e_ii, e_ao, e_z, e_cX, e_cM, e_nk, e_c0, e_t0, e_er0, e_en0, e_ex0, o_add_i, o_int_b, o_int_i, o_lt_i, o_is_n, o_eq_s, o_eq_b, o_len_l, o_sub_i, o_gt_i, z0, z1, z2, z3, z4, o_ix_t0, o_ix_t1, o_ix_l0, o_ix_l1, List.getElem?_cons_zero, List.getElem?_cons_succ, List.set_cons_zero, List.set_cons_succ, List.nil_append, List.cons_append, List.length_cons, List.length_nil, Nat.zero_add, Nat.reduceAdd, if_true, if_false, Bool.false_eq_true, Bool.not_true, Bool.not_false, reduceIte, ef, eN, id_eq]
    all_goals rfl
  | some q =>
    obtain ⟨a, b⟩ := q
    obtain ⟨ma, mb, _⟩ := pr_some hp
    have ef : firstD w0 = [tupD (a, b)] := by unfold firstD; rw [hp]
    simp only [e_bo, e_bx, e_bn, e_to, e_tx, e_qn, e_qr, e_qx, e_os, e_c, e_v, e_vp, e_vr, e_ad, e_an, e_ar, e_set, e_add, e_put, e_op, e_a2, e_un, e_a1, e_rd, e_rn, e_rm, e_rr, e_fl, e_fz, e_ed, e_en, e_em, e_er, e_mz, e_ml, e_aN, e_aC, e_rN, e_rC, e_co, e_l0, e_l1, e_lc, e_cb, e_aL, e_cN, e_cD, e_cR, e_fr, e_fd, e_fr', e_fd', e_lst, e_tup, e_tb, e_ab, e_tA, e_tO, e_tN, e_fI, e_i2, e_ch, e_bk, e_and, e_or, e_not, e_sm, e_sk, e_oN, e_oS, e_iK, e_sl, e_aS, e_ll, e_rv, e_rk, e_sS, e_sI, e_sN, e_sD, e_sR, e_rO, e_rV, e_rVn, e_rVr, e_sA, e_sG, e_oF, e_gN, e_g0, e_g1, e_gT, e_sE, e_au, e_ii, e_ao, e_z, e_cX, e_cM, e_nk, e_c0, e_t0, e_er0, e_en0, e_ex0, o_add_i, o_int_b, o_int_i, o_lt_i, o_is_n, o_eq_s, o_eq_b, o_len_l, o_sub_i, o_gt_i, z0, z1, z2, z3, z4, o_ix_t0, o_ix_t1, o_ix_l0, o_ix_l1, List.getElem?_cons_zero, List.getElem?_cons_succ, List.set_cons_zero, List.set_cons_succ, List.nil_append, List.cons_append, List.length_cons, List.length_nil, Nat.zero_add, Nat.reduceAdd, if_true, if_false, Bool.false_eq_true, Bool.not_true, Bool.not_false, reduceIte, ef, eqF ma mb, id_eq, List.map_cons, List.length_map]
    cases r with
    | nil =>
      have q : decide ((1 : Int) < ((1 : Nat) : Int)) = false := rfl
      have eo : dueO [w0] = tailO a b false 1 [] := by
        show (match pr w0 with | none => Out.wrong 0 | some (a, b) => Out.kind a b false .non) = _
        rw [hp]
        rfl
      rw [eo]
      simp only [e_bo, e_bx, e_bn, e_to, e_tx, e_qn, e_qr, e_qx, e_os, e_c, e_v, e_vp, e_vr, e_ad, e_an, e_ar, e_set, e_add, e_put, e_op, e_a2, e_un, e_a1, e_rd, e_rn, e_rm, e_rr, e_fl, e_fz, e_ed, e_en, e_em, e_er, e_mz, e_ml, e_aN, e_aC, e_rN, e_rC, e_co, e_l0, e_l1, e_lc, e_cb, e_aL, e_cN, e_cD, e_cR, e_fr, e_fd, e_fr', e_fd', e_lst, e_tup, e_tb, e_ab, e_tA, e_tO, e_tN, e_fI, e_i2, e_ch, e_bk, e_and, e_or, e_not, e_sm, e_sk, e_oN, e_oS, e_iK, e_sl, e_aS, e_ll, e_rv, e_rk, e_sS, e_sI, e_sN, e_sD, e_sR, e_rO, e_rV, e_rVn, e_rVr, e_sA, e_sG, e_oF, e_gN, e_g0, e_g1, e_gT, e_sE, e_au, e_ii, e_ao, e_z, e_cX, e_cM, e_nk, e_c0, e_t0, e_er0, e_en0, e_ex0, o_add_i, o_int_b, o_int_i, o_lt_i, o_is_n, o_eq_s, o_eq_b, o_len_l, o_sub_i, o_gt_i, z0, z1, z2, z3, z4, o_ix_t0, o_ix_t1, o_ix_l0, o_ix_l1, List.getElem?_cons_zero, List.getElem?_cons_succ, List.set_cons_zero, List.set_cons_succ, List.nil_append, List.cons_append, List.length_cons, List.length_nil, Nat.zero_add, Nat.reduceAdd, if_true, if_false, Bool.false_eq_true, Bool.not_true, Bool.not_false, reduceIte, q, List.map_nil]
      exact tail_ev (ws := [w0]) (bs := []) (k := 1) (t := false) ma mb rfl (fun _ h => nomatch h)
    | cons w1 r1 =>
      have q : decide ((1 : Int) < ((r1.length + 1 + 1 : Nat) : Int)) = true := decide_eq_true (by omega)
      have hk1 : ((w1 :: r1).all okS) = true := by
        rw [List.all_cons] at hk
        exact (Bool.and_eq_true_iff.mp hk).2
      have hk2 : (r1.all okS) = true := by
        rw [List.all_cons] at hk1
        exact (Bool.and_eq_true_iff.mp hk1).2
      simp only [e_bo, e_bx, e_bn, e_to, e_tx, e_qn, e_qr, e_qx, e_os, e_c, e_v, e_vp, e_vr, e_ad, e_an, e_ar, e_set, e_add, e_put, e_op, e_a2, e_un, e_a1, e_rd, e_rn, e_rm, e_rr, e_fl, e_fz, e_ed, e_en, e_em, e_er, e_mz, e_ml, e_aN, e_aC, e_rN, e_rC, e_co, e_l0, e_l1, e_lc, e_cb, e_aL, e_cN, e_cD, e_cR, e_fr, e_fd, e_fr', e_fd', e_lst, e_tup, e_tb, e_ab, e_tA, e_tO, e_tN, e_fI, e_i2, e_ch, e_bk, e_and, e_or, e_not, e_sm, e_sk, e_oN, e_oS, e_iK, e_sl, e_aS, e_ll, e_rv, e_rk, e_sS, e_sI, e_sN, e_sD, e_sR, e_rO, e_rV, e_rVn, e_rVr, e_sA, e_sG, e_oF, e_gN, e_g0, e_g1, e_gT, e_sE, e_au, e_ii, e_ao, e_z, e_cX, e_cM, e_nk, e_c0, e_t0, e_er0, e_en0, e_ex0, o_add_i, o_int_b, o_int_i, o_lt_i, o_is_n, o_eq_s, o_eq_b, o_len_l, o_sub_i, o_gt_i, z0, z1, z2, z3, z4, o_ix_t0, o_ix_t1, o_ix_l0, o_ix_l1, List.getElem?_cons_zero, List.getElem?_cons_succ, List.set_cons_zero, List.set_cons_succ, List.nil_append, List.cons_append, List.length_cons, List.length_nil, Nat.zero_add, Nat.reduceAdd, if_true, if_false, Bool.false_eq_true, Bool.not_true, Bool.not_false, reduceIte, q, List.map_cons, List.length_map]
      cases ht : decide (w1 = "turns") with
      | true =>
        have eo : dueO (w0 :: w1 :: r1) = tailO a b true 2 r1 := by
          show (match pr w0 with | none => Out.wrong 0 | some (a, b) => if w1 = "turns" then tailO a b true 2 r1 else tailO a b false 1 (w1 :: r1)) = _
          rw [hp]
          exact if_pos (of_decide_eq_true ht)
        rw [eo]
        have i1 : (1 : Int) + 1 = 2 := rfl
        have i2 : ((r1.length + 1 + 1 : Nat) : Int) - (r1.length : Nat) = ((2 : Nat) : Int) := by omega
        simp only [e_bo, e_bx, e_bn, e_to, e_tx, e_qn, e_qr, e_qx, e_os, e_c, e_v, e_vp, e_vr, e_ad, e_an, e_ar, e_set, e_add, e_put, e_op, e_a2, e_un, e_a1, e_rd, e_rn, e_rm, e_rr, e_fl, e_fz, e_ed, e_en, e_em, e_er, e_mz, e_ml, e_aN, e_aC, e_rN, e_rC, e_co, e_l0, e_l1, e_lc, e_cb, e_aL, e_cN, e_cD, e_cR, e_fr, e_fd, e_fr', e_fd', e_lst, e_tup, e_tb, e_ab, e_tA, e_tO, e_tN, e_fI, e_i2, e_ch, e_bk, e_and, e_or, e_not, e_sm, e_sk, e_oN, e_oS, e_iK, e_sl, e_aS, e_ll, e_rv, e_rk, e_sS, e_sI, e_sN, e_sD, e_sR, e_rO, e_rV, e_rVn, e_rVr, e_sA, e_sG, e_oF, e_gN, e_g0, e_g1, e_gT, e_sE, e_au, e_ii, e_ao, e_z, e_cX, e_cM, e_nk, e_c0, e_t0, e_er0, e_en0, e_ex0, o_add_i, o_int_b, o_int_i, o_lt_i, o_is_n, o_eq_s, o_eq_b, o_len_l, o_sub_i, o_gt_i, z0, z1, z2, z3, z4, o_ix_t0, o_ix_t1, o_ix_l0, o_ix_l1, List.getElem?_cons_zero, List.getElem?_cons_succ, List.set_cons_zero, List.set_cons_succ, List.nil_append, List.cons_append, List.length_cons, List.length_nil, Nat.zero_add, Nat.reduceAdd, if_true, if_false, Bool.false_eq_true, Bool.not_true, Bool.not_false, reduceIte, ht, id_eq, i1, cut2, List.drop_succ_cons, List.drop_zero, List.length_map, i2]
        exact tail_ev (ws := w0 :: w1 :: r1) (bs := r1) (k := 2) (t := true) ma mb hk2 (fun w h => hw w (List.mem_cons_of_mem _ (List.mem_cons_of_mem _ h)))
      | false =>
        have eo : dueO (w0 :: w1 :: r1) = tailO a b false 1 (w1 :: r1) := by
          show (match pr w0 with | none => Out.wrong 0 | some (a, b) => if w1 = "turns" then tailO a b true 2 r1 else tailO a b false 1 (w1 :: r1)) = _
          rw [hp]
          exact if_neg (of_decide_eq_false ht)
        rw [eo]
        have i1 : (1 : Int) + 0 = 1 := rfl
        have i2 : ((r1.length + 1 + 1 : Nat) : Int) - ((r1.length + 1 : Nat) : Int) = ((1 : Nat) : Int) := by omega
        simp only [e_bo, e_bx, e_bn, e_to, e_tx, e_qn, e_qr, e_qx, e_os, e_c, e_v, e_vp, e_vr, e_ad, e_an, e_ar, e_set, e_add, e_put, e_op, e_a2, e_un, e_a1, e_rd, e_rn, e_rm, e_rr, e_fl, e_fz, e_ed, e_en, e_em, e_er, e_mz, e_ml, e_aN, e_aC, e_rN, e_rC, e_co, e_l0, e_l1, e_lc, e_cb, e_aL, e_cN, e_cD, e_cR, e_fr, e_fd, e_fr', e_fd', e_lst, e_tup, e_tb, e_ab, e_tA, e_tO, e_tN, e_fI, e_i2, e_ch, e_bk, e_and, e_or, e_not, e_sm, e_sk, e_oN, e_oS, e_iK, e_sl, e_aS, e_ll, e_rv, e_rk, e_sS, e_sI, e_sN, e_sD, e_sR, e_rO, e_rV, e_rVn, e_rVr, e_sA, e_sG, e_oF, e_gN, e_g0, e_g1, e_gT, e_sE, e_au, e_ii, e_ao, e_z, e_cX, e_cM, e_nk, e_c0, e_t0, e_er0, e_en0, e_ex0, o_add_i, o_int_b, o_int_i, o_lt_i, o_is_n, o_eq_s, o_eq_b, o_len_l, o_sub_i, o_gt_i, z0, z1, z2, z3, z4, o_ix_t0, o_ix_t1, o_ix_l0, o_ix_l1, List.getElem?_cons_zero, List.getElem?_cons_succ, List.set_cons_zero, List.set_cons_succ, List.nil_append, List.cons_append, List.length_cons, List.length_nil, Nat.zero_add, Nat.reduceAdd, if_true, if_false, Bool.false_eq_true, Bool.not_true, Bool.not_false, reduceIte, ht, id_eq, i1, cut1, List.drop_succ_cons, List.drop_zero, List.length_map, i2]
        exact tail_ev (ws := w0 :: w1 :: r1) (bs := w1 :: r1) (k := 1) (t := false) ma mb hk1 (fun w h => hw w (List.mem_cons_of_mem _ h))
end K03

set_option maxHeartbeats 2000000
/-! what the program finds in the words -/
namespace K03
open PySem PySem.Spec L2 Sd
theorem ix_nat {xs : List D} {n : Nat} {d : D} (h : xs[n]? = some d) : oIx (.lst xs) (.int ((n : Nat) : Int)) = some (.d d) := by
  have hl := (List.getElem?_eq_some_iff.mp h).1
  show atF xs n = _
  unfold atF atI ixN
  rw [if_pos (Int.natCast_nonneg n), if_pos (by omega)]
  show (match xs[((n : Nat) : Int).toNat]? with
    | some d => some (RV.d d)
    | none => none) = _
  rw [Int.toNat_natCast, h]
theorem cutk (xs : List D) (k : Nat) : cutD xs (some (k : Int)) (some ((k : Int) + 1)) = (xs.drop k).take 1 := by
  have e := cut_to xs k (k + 1)
  rw [Nat.add_sub_cancel_left] at e
  exact e
theorem cut12 (xs : List D) : cutD xs (some 1) (some 2) = (xs.drop 1).take 1 := cut_to xs 1 2
theorem cut01 (x : D) (xs : List D) : cutD (x :: xs) none (some 1) = [x] := by
  have s : HT.sIx (x :: xs).length (x :: xs).length (some 1) = min 1 (x :: xs).length := HT.sIx_nat _ _ 1
  unfold cutD
  rw [s, HT.sIx_none, List.length_cons, Nat.min_eq_left (by omega)]
  rfl
theorem in_l (x : Str) : oIn not (.str x) d_LENDS = some (.d (.bl (!lendsL.contains x))) := by
  have e : inV (.str x) [.str "both", .str "far", .str "one"] = lendsL.contains x := by
    rw [Bool.eq_iff_iff, List.contains_iff_mem]
    show (("both" : Str) == x || (("far" : Str) == x || (("one" : Str) == x || false))) = true ↔ x ∈ lendsL
    constructor
    · intro h
      simp only [Bool.or_eq_true, beq_iff_eq, Bool.or_false] at h
      rcases h with rfl | rfl | rfl <;> decide +kernel
    · intro h
      rcases mem_l h with rfl | rfl | rfl <;> decide +kernel
  have e2 : oIn not (.str x) d_LENDS = some (.d (.bl (not (inV (.str x) [.str "both", .str "far", .str "one"])))) := rfl
  rw [e2, e]
theorem in_t (x : Str) : oIn not (.str x) d_LETS = some (.d (.bl (!letsL.contains x))) := by
  have e : inV (.str x) [.str "both", .str "far", .str "any"] = letsL.contains x := by
    rw [Bool.eq_iff_iff, List.contains_iff_mem]
    show (("both" : Str) == x || (("far" : Str) == x || (("any" : Str) == x || false))) = true ↔ x ∈ letsL
    constructor
    · intro h
      simp only [Bool.or_eq_true, beq_iff_eq, Bool.or_false] at h
      rcases h with rfl | rfl | rfl <;> decide +kernel
    · intro h
      rcases mem_t h with rfl | rfl | rfl <;> decide +kernel
  have e2 : oIn not (.str x) d_LETS = some (.d (.bl (not (inV (.str x) [.str "both", .str "far", .str "any"])))) := rfl
  rw [e2, e]
def outP : Out → OtD
  | .kind a b t r => .ok (.d (.tup [.str a, .str b, .bl t, r])) []
  | .wrong k => .ex (.exc "InvalidText" ["line", "word"] [.int 0, .int (k : Nat)]) []
def f_parts_tail : FS := (sSeq (sIf (tB (fOp (oEq id) (fSlc (fVar 0) (oS (fVar 4)) (oS (fOp oAdd (fVar 4) (fC (.int 1))))) (fLst (aC (fC (.str "rests")) aN)))) (sSeq (sAsg 5 (fIf (tB (fOp oLt (fOp oAdd (fVar 4) (fC (.int 1))) (fCB oLen (rC (fVar 0) rN)))) (fCX F_number_in 3 0 [.a 0, .a 1, .a 2] [] (cD (fOp oIx (fVar 0) (fOp oAdd (fVar 4) (fC (.int 1)))) (cD (fC (.int 2)) (cD (fC (.int 1000000)) cN))) cN) (fC .non))) (sSeq (sIf (tB (fOp (oIsN id) (fVar 5) (fC .non))) (sRaise "InvalidText" ["line", "word"] (aC (fVar 1) (aC (fOp oAdd (fOp oAdd (fVar 2) (fVar 4)) (fC (.int 1))) aN))) sN) (sAug 4 (fun i j => i + j) (fC (.int 2))))) sN) (sSeq (sIf (tB (fOp oLt (fVar 4) (fCB oLen (rC (fVar 0) rN)))) (sRaise "InvalidText" ["line", "word"] (aC (fVar 1) (aC (fOp oAdd (fVar 2) (fVar 4)) aN))) sN) (sRet (fTup (aC (fVar 6) (aC (fVar 8) (aC (fVar 3) (aC (fVar 5) aN))))))))
def f_parts' : FS := (sSeq (sAsgG (fSM oPartition (fSM oJoin (fC (.str "")) (rC (fSlc (fVar 0) oN (oS (fC (.int 1)))) rN)) (rC (fC (.str "/")) rN)) (gT 3 (gCons (gN 6) (gCons (gN 7) (gCons (gN 8) gNil))))) (sSeq (sIf (tO (tB (fOp (oIn not) (fVar 6) (fC d_LENDS))) (tB (fOp (oIn not) (fVar 8) (fC d_LETS)))) (sRaise "InvalidText" ["line", "word"] (aC (fVar 1) (aC (fVar 2) aN))) sN) (sSeq (sAsg 3 (fOp (oEq id) (fSlc (fVar 0) (oS (fC (.int 1))) (oS (fC (.int 2)))) (fLst (aC (fC (.str "turns")) aN)))) (sSeq (sAsg 4 (fOp oAdd (fC (.int 1)) (fCB oIntU (rC (fVar 3) rN)))) (sSeq (sAsg 5 (fC .non)) f_parts_tail)))))
theorem f_parts_eq : f_parts_in = f_parts' := rfl
theorem partsT_ev {a b st : Str} {t : Bool} {k : Nat} {bs ws pre : List Str} (he : ws = pre ++ bs) (hp : pre.length = k) (hk : (bs.all okS) = true) (hw : ∀ w ∈ bs, szB w.length = true ∧ okS w = true) :
    endD (f_parts_tail ⟨[some (.p (.lst (ws.map D.str))), some (.p (.int 0)), some (.p (.int 0)), some (.p (.bl t)), some (.p (.int (k : Nat))), some (.p .non), some (.p (.str a)), some (.p (.str st)), some (.p (.str b))], [], 0⟩) = outP (tailO a b t k bs) := by
  have hd : (ws.map D.str).drop k = bs.map D.str := by
    rw [he, ← hp, List.map_append, List.drop_left' (by rw [List.length_map])]
  have hl : ws.length = k + bs.length := by rw [he, List.length_append, hp]
  unfold f_parts_tail
  have hr : ((["rests"] : List Str).all okS) = true := by decide +kernel
  cases bs with
  | nil =>
    have e1 : oEq id (.lst []) (.lst [.str "rests"]) = some (.d (.bl false)) := eq_strs (xs := []) (ys := ([("rests" : Str)] : List Str)) rfl hr
    have q : decide (((k : Nat) : Int) < ((ws.length : Nat) : Int)) = false := decide_eq_false (by rw [hl]; simp)
    simp only [e_bo, e_bx, e_bn, e_to, e_tx, e_qn, e_qr, e_qx, e_os, e_c, e_v, e_vp, e_vr, e_ad, e_an, e_ar, e_set, e_add, e_put, e_op, e_a2, e_un, e_a1, e_rd, e_rn, e_rm, e_rr, e_fl, e_fz, e_ed, e_en, e_em, e_er, e_mz, e_ml, e_aN, e_aC, e_rN, e_rC, e_co, e_l0, e_l1, e_lc, e_cb, e_aL, e_cN, e_cD, e_cR, e_fr, e_fd, e_fr', e_fd', e_lst, e_tup, e_tb, e_ab, e_tA, e_tO, e_tN, e_fI, e_i2, e_ch, e_bk, e_and, e_or, e_not, e_sm, e_sk, e_oN, e_oS, e_iK, e_sl, e_aS, e_ll, e_rv, e_rk, e_sS, e_sI, e_sN, e_sD, e_sR, e_rO, e_rV, e_rVn, e_rVr, e_sA, e_sG, e_oF, e_gN, e_g0, e_g1, e_gT, e_sE, e_au, e_ii, e_ao, e_z, e_cX, e_cM, e_nk, e_c0, e_t0, e_er0, e_en0, e_ex0, o_add_i, o_int_b, o_int_i, o_lt_i, o_is_n, o_eq_s, o_eq_b, o_len_l, o_sub_i, o_gt_i, z0, z1, z2, z3, z4, o_ix_t0, o_ix_t1, o_ix_l0, o_ix_l1, List.getElem?_cons_zero, List.getElem?_cons_succ, List.set_cons_zero, List.set_cons_succ, List.nil_append, List.cons_append, List.length_map, List.length_cons, List.length_nil, Nat.zero_add, Nat.reduceAdd, if_true, if_false, Bool.false_eq_true, Bool.not_true, Bool.not_false, reduceIte, cutk, hd, List.map_nil, List.take_nil, e1, List.length_map, q]
    all_goals rfl
  | cons x y =>
    have e1 : oEq id (.lst [.str x]) (.lst [.str "rests"]) = some (.d (.bl (decide ([x] = (["rests"] : List Str))))) := eq_strs (xs := [x]) (ys := ([("rests" : Str)] : List Str)) (by
      rw [List.all_cons] at hk
      rw [List.all_cons, (Bool.and_eq_true_iff.mp hk).1]
      rfl) hr
    have e2 : decide ([x] = (["rests"] : List Str)) = decide (x = "rests") := by
      refine decide_eq_decide.mpr ⟨fun e => (List.cons.inj e).1, fun e => by rw [e]⟩
    simp only [e_bo, e_bx, e_bn, e_to, e_tx, e_qn, e_qr, e_qx, e_os, e_c, e_v, e_vp, e_vr, e_ad, e_an, e_ar, e_set, e_add, e_put, e_op, e_a2, e_un, e_a1, e_rd, e_rn, e_rm, e_rr, e_fl, e_fz, e_ed, e_en, e_em, e_er, e_mz, e_ml, e_aN, e_aC, e_rN, e_rC, e_co, e_l0, e_l1, e_lc, e_cb, e_aL, e_cN, e_cD, e_cR, e_fr, e_fd, e_fr', e_fd', e_lst, e_tup, e_tb, e_ab, e_tA, e_tO, e_tN, e_fI, e_i2, e_ch, e_bk, e_and, e_or, e_not, e_sm, e_sk, e_oN, e_oS, e_iK, e_sl, e_aS, e_ll, e_rv, e_rk, e_sS, e_sI, e_sN, e_sD, e_sR, e_rO, e_rV, e_rVn, e_rVr, e_sA, e_sG, e_oF, e_gN, e_g0, e_g1, e_gT, e_sE, e_au, e_ii, e_ao, e_z, e_cX, e_cM, e_nk, e_c0, e_t0, e_er0, e_en0, e_ex0, o_add_i, o_int_b, o_int_i, o_lt_i, o_is_n, o_eq_s, o_eq_b, o_len_l, o_sub_i, o_gt_i, z0, z1, z2, z3, z4, o_ix_t0, o_ix_t1, o_ix_l0, o_ix_l1, List.getElem?_cons_zero, List.getElem?_cons_succ, List.set_cons_zero, List.set_cons_succ, List.nil_append, List.cons_append, List.length_map, List.length_cons, List.length_nil, Nat.zero_add, Nat.reduceAdd, if_true, if_false, Bool.false_eq_true, Bool.not_true, Bool.not_false, reduceIte, cutk, hd, List.map_cons, List.take_succ_cons, List.take_zero, e1, e2, List.length_map]
    cases h1 : decide (x = "rests") with
    | false =>
      have e : tailO a b t k (x :: y) = .wrong k := if_neg (of_decide_eq_false h1)
      have q : decide (((k : Nat) : Int) < ((ws.length : Nat) : Int)) = true := decide_eq_true (by rw [hl, List.length_cons]; omega)
      rw [e]
      simp only [e_bo, e_bx, e_bn, e_to, e_tx, e_qn, e_qr, e_qx, e_os, e_c, e_v, e_vp, e_vr, e_ad, e_an, e_ar, e_set, e_add, e_put, e_op, e_a2, e_un, e_a1, e_rd, e_rn, e_rm, e_rr, e_fl, e_fz, e_ed, e_en, e_em, e_er, e_mz, e_ml, e_aN, e_aC, e_rN, e_rC, e_co, e_l0, e_l1, e_lc, e_cb, e_aL, e_cN, e_cD, e_cR, e_fr, e_fd, e_fr', e_fd', e_lst, e_tup, e_tb, e_ab, e_tA, e_tO, e_tN, e_fI, e_i2, e_ch, e_bk, e_and, e_or, e_not, e_sm, e_sk, e_oN, e_oS, e_iK, e_sl, e_aS, e_ll, e_rv, e_rk, e_sS, e_sI, e_sN, e_sD, e_sR, e_rO, e_rV, e_rVn, e_rVr, e_sA, e_sG, e_oF, e_gN, e_g0, e_g1, e_gT, e_sE, e_au, e_ii, e_ao, e_z, e_cX, e_cM, e_nk, e_c0, e_t0, e_er0, e_en0, e_ex0, o_add_i, o_int_b, o_int_i, o_lt_i, o_is_n, o_eq_s, o_eq_b, o_len_l, o_sub_i, o_gt_i, z0, z1, z2, z3, z4, o_ix_t0, o_ix_t1, o_ix_l0, o_ix_l1, List.getElem?_cons_zero, List.getElem?_cons_succ, List.set_cons_zero, List.set_cons_succ, List.nil_append, List.cons_append, List.length_map, List.length_cons, List.length_nil, Nat.zero_add, Nat.reduceAdd, if_true, if_false, Bool.false_eq_true, Bool.not_true, Bool.not_false, reduceIte, q, Int.zero_add, beq_self_eq_true]
      all_goals rfl
    | true =>
      have h1' := of_decide_eq_true h1
      simp only [e_bo, e_bx, e_bn, e_to, e_tx, e_qn, e_qr, e_qx, e_os, e_c, e_v, e_vp, e_vr, e_ad, e_an, e_ar, e_set, e_add, e_put, e_op, e_a2, e_un, e_a1, e_rd, e_rn, e_rm, e_rr, e_fl, e_fz, e_ed, e_en, e_em, e_er, e_mz, e_ml, e_aN, e_aC, e_rN, e_rC, e_co, e_l0, e_l1, e_lc, e_cb, e_aL, e_cN, e_cD, e_cR, e_fr, e_fd, e_fr', e_fd', e_lst, e_tup, e_tb, e_ab, e_tA, e_tO, e_tN, e_fI, e_i2, e_ch, e_bk, e_and, e_or, e_not, e_sm, e_sk, e_oN, e_oS, e_iK, e_sl, e_aS, e_ll, e_rv, e_rk, e_sS, e_sI, e_sN, e_sD, e_sR, e_rO, e_rV, e_rVn, e_rVr, e_sA, e_sG, e_oF, e_gN, e_g0, e_g1, e_gT, e_sE, e_au, e_ii, e_ao, e_z, e_cX, e_cM, e_nk, e_c0, e_t0, e_er0, e_en0, e_ex0, o_add_i, o_int_b, o_int_i, o_lt_i, o_is_n, o_eq_s, o_eq_b, o_len_l, o_sub_i, o_gt_i, z0, z1, z2, z3, z4, o_ix_t0, o_ix_t1, o_ix_l0, o_ix_l1, List.getElem?_cons_zero, List.getElem?_cons_succ, List.set_cons_zero, List.set_cons_succ, List.nil_append, List.cons_append, List.length_map, List.length_cons, List.length_nil, Nat.zero_add, Nat.reduceAdd, if_true, if_false, Bool.false_eq_true, Bool.not_true, Bool.not_false, reduceIte]
      cases y with
      | nil =>
        have e : tailO a b t k (x :: []) = .wrong (k + 1) := if_pos h1'
        have q : decide (((k : Nat) : Int) + 1 < ((ws.length : Nat) : Int)) = false := decide_eq_false (by rw [hl, List.length_cons, List.length_nil]; omega)
        rw [e]
        simp only [e_bo, e_bx, e_bn, e_to, e_tx, e_qn, e_qr, e_qx, e_os, e_c, e_v, e_vp, e_vr, e_ad, e_an, e_ar, e_set, e_add, e_put, e_op, e_a2, e_un, e_a1, e_rd, e_rn, e_rm, e_rr, e_fl, e_fz, e_ed, e_en, e_em, e_er, e_mz, e_ml, e_aN, e_aC, e_rN, e_rC, e_co, e_l0, e_l1, e_lc, e_cb, e_aL, e_cN, e_cD, e_cR, e_fr, e_fd, e_fr', e_fd', e_lst, e_tup, e_tb, e_ab, e_tA, e_tO, e_tN, e_fI, e_i2, e_ch, e_bk, e_and, e_or, e_not, e_sm, e_sk, e_oN, e_oS, e_iK, e_sl, e_aS, e_ll, e_rv, e_rk, e_sS, e_sI, e_sN, e_sD, e_sR, e_rO, e_rV, e_rVn, e_rVr, e_sA, e_sG, e_oF, e_gN, e_g0, e_g1, e_gT, e_sE, e_au, e_ii, e_ao, e_z, e_cX, e_cM, e_nk, e_c0, e_t0, e_er0, e_en0, e_ex0, o_add_i, o_int_b, o_int_i, o_lt_i, o_is_n, o_eq_s, o_eq_b, o_len_l, o_sub_i, o_gt_i, z0, z1, z2, z3, z4, o_ix_t0, o_ix_t1, o_ix_l0, o_ix_l1, List.getElem?_cons_zero, List.getElem?_cons_succ, List.set_cons_zero, List.set_cons_succ, List.nil_append, List.cons_append, List.length_map, List.length_cons, List.length_nil, Nat.zero_add, Nat.reduceAdd, if_true, if_false, Bool.false_eq_true, Bool.not_true, Bool.not_false, reduceIte, q, Int.zero_add, beq_self_eq_true, show isNon .non = true from rfl, id_eq]
        all_goals rfl
      | cons n more =>
        obtain ⟨w1, w2⟩ := hw n (List.mem_cons_of_mem _ List.mem_cons_self)
        have q : decide (((k : Nat) : Int) + 1 < ((ws.length : Nat) : Int)) = true := decide_eq_true (by rw [hl, List.length_cons, List.length_cons]; omega)
        have ix : oIx (.lst (ws.map D.str)) (.int (((k : Nat) : Int) + 1)) = some (.d (.str n)) := ix_nat (n := k + 1) (by
          rw [he, ← hp, List.getElem?_map, List.getElem?_append_right (by omega), Nat.add_sub_cancel_left]
          rfl)
        have c1 : ∀ ρ : En, callF F_number_in [.p (.str n), .p (.int 2), .p (.int 1000000)] ρ = .ok (.d (rD n)) ρ := fun ρ => callF_d (ds := [.str n, .int 2, .int 1000000]) (number_in_ev w1)
        have s1 : sel [C1.p (.str n), .p (.int 2), .p (.int 1000000)] [] [] [.a 0, .a 1, .a 2] = [.p (.str n), .p (.int 2), .p (.int 1000000)] := rfl
        simp only [e_bo, e_bx, e_bn, e_to, e_tx, e_qn, e_qr, e_qx, e_os, e_c, e_v, e_vp, e_vr, e_ad, e_an, e_ar, e_set, e_add, e_put, e_op, e_a2, e_un, e_a1, e_rd, e_rn, e_rm, e_rr, e_fl, e_fz, e_ed, e_en, e_em, e_er, e_mz, e_ml, e_aN, e_aC, e_rN, e_rC, e_co, e_l0, e_l1, e_lc, e_cb, e_aL, e_cN, e_cD, e_cR, e_fr, e_fd, e_fr', e_fd', e_lst, e_tup, e_tb, e_ab, e_tA, e_tO, e_tN, e_fI, e_i2, e_ch, e_bk, e_and, e_or, e_not, e_sm, e_sk, e_oN, e_oS, e_iK, e_sl, e_aS, e_ll, e_rv, e_rk, e_sS, e_sI, e_sN, e_sD, e_sR, e_rO, e_rV, e_rVn, e_rVr, e_sA, e_sG, e_oF, e_gN, e_g0, e_g1, e_gT, e_sE, e_au, e_ii, e_ao, e_z, e_cX, e_cM, e_nk, e_c0, e_t0, e_er0, e_en0, e_ex0, o_add_i, o_int_b, o_int_i, o_lt_i, o_is_n, o_eq_s, o_eq_b, o_len_l, o_sub_i, o_gt_i, z0, z1, z2, z3, z4, o_ix_t0, o_ix_t1, o_ix_l0, o_ix_l1, List.getElem?_cons_zero, List.getElem?_cons_succ, List.set_cons_zero, List.set_cons_succ, List.nil_append, List.cons_append, List.length_map, List.length_cons, List.length_nil, Nat.zero_add, Nat.reduceAdd, if_true, if_false, Bool.false_eq_true, Bool.not_true, Bool.not_false, reduceIte, q, ix, s1, c1, beq_self_eq_true, Bool.and_self, id_eq]
        cases h2 : isNon (rD n) with
        | true =>
          have e : tailO a b t k (x :: n :: more) = .wrong (k + 1) := (if_pos h1').trans (if_pos h2)
          rw [e]
          simp only [e_bo, e_bx, e_bn, e_to, e_tx, e_qn, e_qr, e_qx, e_os, e_c, e_v, e_vp, e_vr, e_ad, e_an, e_ar, e_set, e_add, e_put, e_op, e_a2, e_un, e_a1, e_rd, e_rn, e_rm, e_rr, e_fl, e_fz, e_ed, e_en, e_em, e_er, e_mz, e_ml, e_aN, e_aC, e_rN, e_rC, e_co, e_l0, e_l1, e_lc, e_cb, e_aL, e_cN, e_cD, e_cR, e_fr, e_fd, e_fr', e_fd', e_lst, e_tup, e_tb, e_ab, e_tA, e_tO, e_tN, e_fI, e_i2, e_ch, e_bk, e_and, e_or, e_not, e_sm, e_sk, e_oN, e_oS, e_iK, e_sl, e_aS, e_ll, e_rv, e_rk, e_sS, e_sI, e_sN, e_sD, e_sR, e_rO, e_rV, e_rVn, e_rVr, e_sA, e_sG, e_oF, e_gN, e_g0, e_g1, e_gT, e_sE, e_au, e_ii, e_ao, e_z, e_cX, e_cM, e_nk, e_c0, e_t0, e_er0, e_en0, e_ex0, o_add_i, o_int_b, o_int_i, o_lt_i, o_is_n, o_eq_s, o_eq_b, o_len_l, o_sub_i, o_gt_i, z0, z1, z2, z3, z4, o_ix_t0, o_ix_t1, o_ix_l0, o_ix_l1, List.getElem?_cons_zero, List.getElem?_cons_succ, List.set_cons_zero, List.set_cons_succ, List.nil_append, List.cons_append, List.length_map, List.length_cons, List.length_nil, Nat.zero_add, Nat.reduceAdd, if_true, if_false, Bool.false_eq_true, Bool.not_true, Bool.not_false, reduceIte, h2, Int.zero_add]
          all_goals rfl
        | false =>
          have h2' : ¬ isNon (rD n) = true := by rw [h2]; exact Bool.false_ne_true
          simp only [e_bo, e_bx, e_bn, e_to, e_tx, e_qn, e_qr, e_qx, e_os, e_c, e_v, e_vp, e_vr, e_ad, e_an, e_ar, e_set, e_add, e_put, e_op, e_a2, e_un, e_a1, e_rd, e_rn, e_rm, e_rr, e_fl, e_fz, e_ed, e_en, e_em, e_er, e_mz, e_ml, e_aN, e_aC, e_rN, e_rC, e_co, e_l0, e_l1, e_lc, e_cb, e_aL, e_cN, e_cD, e_cR, e_fr, e_fd, e_fr', e_fd', e_lst, e_tup, e_tb, e_ab, e_tA, e_tO, e_tN, e_fI, e_i2, e_ch, e_bk, e_and, e_or, e_not, e_sm, e_sk, e_oN, e_oS, e_iK, e_sl, e_aS, e_ll, e_rv, e_rk, e_sS, e_sI, e_sN, e_sD, e_sR, e_rO, e_rV, e_rVn, e_rVr, e_sA, e_sG, e_oF, e_gN, e_g0, e_g1, e_gT, e_sE, e_au, e_ii, e_ao, e_z, e_cX, e_cM, e_nk, e_c0, e_t0, e_er0, e_en0, e_ex0, o_add_i, o_int_b, o_int_i, o_lt_i, o_is_n, o_eq_s, o_eq_b, o_len_l, o_sub_i, o_gt_i, z0, z1, z2, z3, z4, o_ix_t0, o_ix_t1, o_ix_l0, o_ix_l1, List.getElem?_cons_zero, List.getElem?_cons_succ, List.set_cons_zero, List.set_cons_succ, List.nil_append, List.cons_append, List.length_map, List.length_cons, List.length_nil, Nat.zero_add, Nat.reduceAdd, if_true, if_false, Bool.false_eq_true, Bool.not_true, Bool.not_false, reduceIte, h2]
          cases more with
          | nil =>
            have e : tailO a b t k (x :: n :: []) = .kind a b t (rD n) := (if_pos h1').trans (if_neg h2')
            have q2 : decide (((k : Nat) : Int) + 2 < ((ws.length : Nat) : Int)) = false := decide_eq_false (by rw [hl, List.length_cons, List.length_cons, List.length_nil]; omega)
            rw [e]
            simp only [e_bo, e_bx, e_bn, e_to, e_tx, e_qn, e_qr, e_qx, e_os, e_c, e_v, e_vp, e_vr, e_ad, e_an, e_ar, e_set, e_add, e_put, e_op, e_a2, e_un, e_a1, e_rd, e_rn, e_rm, e_rr, e_fl, e_fz, e_ed, e_en, e_em, e_er, e_mz, e_ml, e_aN, e_aC, e_rN, e_rC, e_co, e_l0, e_l1, e_lc, e_cb, e_aL, e_cN, e_cD, e_cR, e_fr, e_fd, e_fr', e_fd', e_lst, e_tup, e_tb, e_ab, e_tA, e_tO, e_tN, e_fI, e_i2, e_ch, e_bk, e_and, e_or, e_not, e_sm, e_sk, e_oN, e_oS, e_iK, e_sl, e_aS, e_ll, e_rv, e_rk, e_sS, e_sI, e_sN, e_sD, e_sR, e_rO, e_rV, e_rVn, e_rVr, e_sA, e_sG, e_oF, e_gN, e_g0, e_g1, e_gT, e_sE, e_au, e_ii, e_ao, e_z, e_cX, e_cM, e_nk, e_c0, e_t0, e_er0, e_en0, e_ex0, o_add_i, o_int_b, o_int_i, o_lt_i, o_is_n, o_eq_s, o_eq_b, o_len_l, o_sub_i, o_gt_i, z0, z1, z2, z3, z4, o_ix_t0, o_ix_t1, o_ix_l0, o_ix_l1, List.getElem?_cons_zero, List.getElem?_cons_succ, List.set_cons_zero, List.set_cons_succ, List.nil_append, List.cons_append, List.length_map, List.length_cons, List.length_nil, Nat.zero_add, Nat.reduceAdd, if_true, if_false, Bool.false_eq_true, Bool.not_true, Bool.not_false, reduceIte, q2]
            all_goals rfl
          | cons m2 more2 =>
            have e : tailO a b t k (x :: n :: m2 :: more2) = .wrong (k + 2) := (if_pos h1').trans (if_neg h2')
            have q2 : decide (((k : Nat) : Int) + 2 < ((ws.length : Nat) : Int)) = true := decide_eq_true (by rw [hl, List.length_cons, List.length_cons, List.length_cons]; omega)
            rw [e]
            simp only [e_bo, e_bx, e_bn, e_to, e_tx, e_qn, e_qr, e_qx, e_os, e_c, e_v, e_vp, e_vr, e_ad, e_an, e_ar, e_set, e_add, e_put, e_op, e_a2, e_un, e_a1, e_rd, e_rn, e_rm, e_rr, e_fl, e_fz, e_ed, e_en, e_em, e_er, e_mz, e_ml, e_aN, e_aC, e_rN, e_rC, e_co, e_l0, e_l1, e_lc, e_cb, e_aL, e_cN, e_cD, e_cR, e_fr, e_fd, e_fr', e_fd', e_lst, e_tup, e_tb, e_ab, e_tA, e_tO, e_tN, e_fI, e_i2, e_ch, e_bk, e_and, e_or, e_not, e_sm, e_sk, e_oN, e_oS, e_iK, e_sl, e_aS, e_ll, e_rv, e_rk, e_sS, e_sI, e_sN, e_sD, e_sR, e_rO, e_rV, e_rVn, e_rVr, e_sA, e_sG, e_oF, e_gN, e_g0, e_g1, e_gT, e_sE, e_au, e_ii, e_ao, e_z, e_cX, e_cM, e_nk, e_c0, e_t0, e_er0, e_en0, e_ex0, o_add_i, o_int_b, o_int_i, o_lt_i, o_is_n, o_eq_s, o_eq_b, o_len_l, o_sub_i, o_gt_i, z0, z1, z2, z3, z4, o_ix_t0, o_ix_t1, o_ix_l0, o_ix_l1, List.getElem?_cons_zero, List.getElem?_cons_succ, List.set_cons_zero, List.set_cons_succ, List.nil_append, List.cons_append, List.length_map, List.length_cons, List.length_nil, Nat.zero_add, Nat.reduceAdd, if_true, if_false, Bool.false_eq_true, Bool.not_true, Bool.not_false, reduceIte, q2, Int.zero_add]
            all_goals rfl
theorem parts_ev {w0 : Str} {r : List Str} (hz : ∀ w ∈ w0 :: r, szB w.length = true ∧ okS w = true) : F_parts_in [.p (.lst ((w0 :: r).map D.str)), .p (.int 0), .p (.int 0)] [] = outP (dueO (w0 :: r)) := by
  have hk : ((w0 :: r).all okS) = true := List.all_eq_true.mpr fun w hm => (hz w hm).2
  have hr : (r.all okS) = true := by
    rw [List.all_cons] at hk
    exact (Bool.and_eq_true_iff.mp hk).2
  have hz0 := (hz w0 List.mem_cons_self).1
  have hj : Txt.join "" [w0] = w0 := rfl
  have j1 : oJoin "" [.lst [.str w0]] = some (.d (.str w0)) := by
    show (if (true && szB ((w0.length + 0) + 1 * 0)) = true then some (RV.d (.str (Txt.join "" [w0]))) else none) = _
    rw [hj, Nat.mul_zero, Nat.add_zero, hz0]
    rfl
  have p1 : oPartition w0 [.str "/"] = some (.d (.tup [.str (Txt.partition w0 "/").1, .str (Txt.partition w0 "/").2.1, .str (Txt.partition w0 "/").2.2])) := by
    show (if (true && szB w0.length) = true then _ else none) = _
    rw [hz0]
    rfl
  have ht : (([("turns" : Str)] : List Str).all okS) = true := by decide +kernel
  show endD (f_parts_in ⟨[some (.p (.lst ((w0 :: r).map D.str))), some (.p (.int 0)), some (.p (.int 0)), none, none, none, none, none, none], [], 0⟩) = _
  rw [f_parts_eq]
  unfold f_parts'
  simp only [e_bo, e_bx, e_bn, e_to, e_tx, e_qn, e_qr, e_qx, e_os, e_c, e_v, e_vp, e_vr, e_ad, e_an, e_ar, e_set, e_add, e_put, e_op, e_a2, e_un, e_a1, e_rd, e_rn, e_rm, e_rr, e_fl, e_fz, e_ed, e_en, e_em, e_er, e_mz, e_ml, e_aN, e_aC, e_rN, e_rC, e_co, e_l0, e_l1, e_lc, e_cb, e_aL, e_cN, e_cD, e_cR, e_fr, e_fd, e_fr', e_fd', e_lst, e_tup, e_tb, e_ab, e_tA, e_tO, e_tN, e_fI, e_i2, e_ch, e_bk, e_and, e_or, e_not, e_sm, e_sk, e_oN, e_oS, e_iK, e_sl, e_aS, e_ll, e_rv, e_rk, e_sS, e_sI, e_sN, e_sD, e_sR, e_rO, e_rV, e_rVn, e_rVr, e_sA, e_sG, e_oF, e_gN, e_g0, e_g1, e_gT, e_sE, e_au, e_ii, e_ao, e_z, e_cX, e_cM, e_nk, e_c0, e_t0, e_er0, e_en0, e_ex0, o_add_i, o_int_b, o_int_i, o_lt_i, o_is_n, o_eq_s, o_eq_b, o_len_l, o_sub_i, o_gt_i, z0, z1, z2, z3, z4, o_ix_t0, o_ix_t1, o_ix_l0, o_ix_l1, List.getElem?_cons_zero, List.getElem?_cons_succ, List.set_cons_zero, List.set_cons_succ, List.nil_append, List.cons_append, List.length_map, List.length_cons, List.length_nil, Nat.zero_add, Nat.reduceAdd, if_true, if_false, Bool.false_eq_true, Bool.not_true, Bool.not_false, reduceIte, List.map_cons, cut01, j1, p1, beq_self_eq_true, Option.bind_some, in_l, in_t]
  cases hp : pr w0 with
  | none =>
    have eo : dueO (w0 :: r) = .wrong 0 := by
      show (match pr w0 with | none => Out.wrong 0 | some (a, b) => _) = _
      rw [hp]
    have hn : (lendsL.contains (Txt.partition w0 "/").1 && letsL.contains (Txt.partition w0 "/").2.2) = false := by
      unfold pr at hp
      split at hp
      · cases hp
      · rename_i z
        exact Bool.eq_false_iff.mpr z
    rw [eo]
    cases h1 : lendsL.contains (Txt.partition w0 "/").1 with
    | false =>
      simp only [e_bo, e_bx, e_bn, e_to, e_tx, e_qn, e_qr, e_qx, e_os, e_c, e_v, e_vp, e_vr, e_ad, e_an, e_ar, e_set, e_add, e_put, e_op, e_a2, e_un, e_a1, e_rd, e_rn, e_rm, e_rr, e_fl, e_fz, e_ed, e_en, e_em, e_er, e_mz, e_ml, e_aN, e_aC, e_rN, e_rC, e_co, e_l0, e_l1, e_lc, e_cb, e_aL, e_cN, e_cD, e_cR, e_fr, e_fd, e_fr', e_fd', e_lst, e_tup, e_tb, e_ab, e_tA, e_tO, e_tN, e_fI, e_i2, e_ch, e_bk, e_and, e_or, e_not, e_sm, e_sk, e_oN, e_oS, e_iK, e_sl, e_aS, e_ll, e_rv, e_rk, e_sS, e_sI, e_sN, e_sD, e_sR, e_rO, e_rV, e_rVn, e_rVr, e_sA, e_sG, e_oF, e_gN, e_g0, e_g1, e_gT, e_sE, e_au, e_ii, e_ao, e_z, e_cX, e_cM, e_nk, e_c0, e_t0, e_er0, e_en0, e_ex0, o_add_i, o_int_b, o_int_i, o_lt_i, o_is_n, o_eq_s, o_eq_b, o_len_l, o_sub_i, o_gt_i, z0, z1, z2, z3, z4, o_ix_t0, o_ix_t1, o_ix_l0, o_ix_l1, List.getElem?_cons_zero, List.getElem?_cons_succ, List.set_cons_zero, List.set_cons_succ, List.nil_append, List.cons_append, List.length_map, List.length_cons, List.length_nil, Nat.zero_add, Nat.reduceAdd, if_true, if_false, Bool.false_eq_true, Bool.not_true, Bool.not_false, reduceIte, beq_self_eq_true]
      all_goals rfl
    | true =>
      rw [h1, Bool.true_and] at hn
      simp only [e_bo, e_bx, e_bn, e_to, e_tx, e_qn, e_qr, e_qx, e_os, e_c, e_v, e_vp, e_vr, e_ad, e_an, e_ar, e_set, e_add, e_put, e_op, e_a2, e_un, e_a1, e_rd, e_rn, e_rm, e_rr, e_fl, e_fz, e_ed, e_en, e_em, e_er, e_mz, e_ml, e_aN, e_aC, e_rN, e_rC, e_co, e_l0, e_l1, e_lc, e_cb, e_aL, e_cN, e_cD, e_cR, e_fr, e_fd, e_fr', e_fd', e_lst, e_tup, e_tb, e_ab, e_tA, e_tO, e_tN, e_fI, e_i2, e_ch, e_bk, e_and, e_or, e_not, e_sm, e_sk, e_oN, e_oS, e_iK, e_sl, e_aS, e_ll, e_rv, e_rk, e_sS, e_sI, e_sN, e_sD, e_sR, e_rO, e_rV, e_rVn, e_rVr, e_sA, e_sG, e_oF, e_gN, e_g0, e_g1, e_gT, e_sE, e_au, e_ii, e_ao, e_z, e_cX, e_cM, e_nk, e_c0, e_t0, e_er0, e_en0, e_ex0, o_add_i, o_int_b, o_int_i, o_lt_i, o_is_n, o_eq_s, o_eq_b, o_len_l, o_sub_i, o_gt_i, z0, z1, z2, z3, z4, o_ix_t0, o_ix_t1, o_ix_l0, o_ix_l1, List.getElem?_cons_zero, List.getElem?_cons_succ, List.set_cons_zero, List.set_cons_succ, List.nil_append, List.cons_append, List.length_map, List.length_cons, List.length_nil, Nat.zero_add, Nat.reduceAdd, if_true, if_false, Bool.false_eq_true, Bool.not_true, Bool.not_false, reduceIte, hn, beq_self_eq_true]
      all_goals rfl
  | some q =>
    obtain ⟨a, b⟩ := q
    have hs : (lendsL.contains (Txt.partition w0 "/").1 && letsL.contains (Txt.partition w0 "/").2.2) = true ∧ (Txt.partition w0 "/").1 = a ∧ (Txt.partition w0 "/").2.2 = b := by
      unfold pr at hp
      split at hp
      · rename_i z
        have h := Option.some.inj hp
        obtain ⟨h1, h2⟩ := Prod.mk.inj h
        exact ⟨z, h1, h2⟩
      · cases hp
    obtain ⟨hs, ha, hb⟩ := hs
    obtain ⟨h1, h2⟩ := Bool.and_eq_true_iff.mp hs
    rw [ha] at h1
    rw [hb] at h2
    simp only [e_bo, e_bx, e_bn, e_to, e_tx, e_qn, e_qr, e_qx, e_os, e_c, e_v, e_vp, e_vr, e_ad, e_an, e_ar, e_set, e_add, e_put, e_op, e_a2, e_un, e_a1, e_rd, e_rn, e_rm, e_rr, e_fl, e_fz, e_ed, e_en, e_em, e_er, e_mz, e_ml, e_aN, e_aC, e_rN, e_rC, e_co, e_l0, e_l1, e_lc, e_cb, e_aL, e_cN, e_cD, e_cR, e_fr, e_fd, e_fr', e_fd', e_lst, e_tup, e_tb, e_ab, e_tA, e_tO, e_tN, e_fI, e_i2, e_ch, e_bk, e_and, e_or, e_not, e_sm, e_sk, e_oN, e_oS, e_iK, e_sl, e_aS, e_ll, e_rv, e_rk, e_sS, e_sI, e_sN, e_sD, e_sR, e_rO, e_rV, e_rVn, e_rVr, e_sA, e_sG, e_oF, e_gN, e_g0, e_g1, e_gT, e_sE, e_au, e_ii, e_ao, e_z, e_cX, e_cM, e_nk, e_c0, e_t0, e_er0, e_en0, e_ex0, o_add_i, o_int_b, o_int_i, o_lt_i, o_is_n, o_eq_s, o_eq_b, o_len_l, o_sub_i, o_gt_i, z0, z1, z2, z3, z4, o_ix_t0, o_ix_t1, o_ix_l0, o_ix_l1, List.getElem?_cons_zero, List.getElem?_cons_succ, List.set_cons_zero, List.set_cons_succ, List.nil_append, List.cons_append, List.length_map, List.length_cons, List.length_nil, Nat.zero_add, Nat.reduceAdd, if_true, if_false, Bool.false_eq_true, Bool.not_true, Bool.not_false, reduceIte, ha, hb, h1, h2]
    cases r with
    | nil =>
      have e1 : oEq id (.lst []) (.lst [.str "turns"]) = some (.d (.bl false)) := eq_strs (xs := []) (ys := ([("turns" : Str)] : List Str)) rfl ht
      have eo : dueO [w0] = tailO a b false 1 [] := by
        show (match pr w0 with | none => Out.wrong 0 | some (a, b) => Out.kind a b false .non) = _
        rw [hp]
        rfl
      rw [eo]
      simp only [e_bo, e_bx, e_bn, e_to, e_tx, e_qn, e_qr, e_qx, e_os, e_c, e_v, e_vp, e_vr, e_ad, e_an, e_ar, e_set, e_add, e_put, e_op, e_a2, e_un, e_a1, e_rd, e_rn, e_rm, e_rr, e_fl, e_fz, e_ed, e_en, e_em, e_er, e_mz, e_ml, e_aN, e_aC, e_rN, e_rC, e_co, e_l0, e_l1, e_lc, e_cb, e_aL, e_cN, e_cD, e_cR, e_fr, e_fd, e_fr', e_fd', e_lst, e_tup, e_tb, e_ab, e_tA, e_tO, e_tN, e_fI, e_i2, e_ch, e_bk, e_and, e_or, e_not, e_sm, e_sk, e_oN, e_oS, e_iK, e_sl, e_aS, e_ll, e_rv, e_rk, e_sS, e_sI, e_sN, e_sD, e_sR, e_rO, e_rV, e_rVn, e_rVr, e_sA, e_sG, e_oF, e_gN, e_g0, e_g1, e_gT, e_sE, e_au, e_ii, e_ao, e_z, e_cX, e_cM, e_nk, e_c0, e_t0, e_er0, e_en0, e_ex0, o_add_i, o_int_b, o_int_i, o_lt_i, o_is_n, o_eq_s, o_eq_b, o_len_l, o_sub_i, o_gt_i, z0, z1, z2, z3, z4, o_ix_t0, o_ix_t1, o_ix_l0, o_ix_l1, List.getElem?_cons_zero, List.getElem?_cons_succ, List.set_cons_zero, List.set_cons_succ, List.nil_append, List.cons_append, List.length_map, List.length_cons, List.length_nil, Nat.zero_add, Nat.reduceAdd, if_true, if_false, Bool.false_eq_true, Bool.not_true, Bool.not_false, reduceIte, cut12, List.map_nil, List.drop_succ_cons, List.drop_nil, List.take_nil, e1]
      exact partsT_ev (ws := [w0]) (pre := [w0]) (bs := []) (k := 1) (t := false) rfl rfl rfl (fun _ h => nomatch h)
    | cons w1 r1 =>
      have hr2 : (r1.all okS) = true := by
        rw [List.all_cons] at hr
        exact (Bool.and_eq_true_iff.mp hr).2
      have e1 : oEq id (.lst [.str w1]) (.lst [.str "turns"]) = some (.d (.bl (decide ([w1] = ([("turns" : Str)] : List Str))))) := eq_strs (xs := [w1]) (ys := ([("turns" : Str)] : List Str)) (by
        rw [List.all_cons] at hr
        rw [List.all_cons, (Bool.and_eq_true_iff.mp hr).1]
        rfl) ht
      have e2 : decide ([w1] = ([("turns" : Str)] : List Str)) = decide (w1 = "turns") := by
        refine decide_eq_decide.mpr ⟨fun e => (List.cons.inj e).1, fun e => by rw [e]⟩
      simp only [e_bo, e_bx, e_bn, e_to, e_tx, e_qn, e_qr, e_qx, e_os, e_c, e_v, e_vp, e_vr, e_ad, e_an, e_ar, e_set, e_add, e_put, e_op, e_a2, e_un, e_a1, e_rd, e_rn, e_rm, e_rr, e_fl, e_fz, e_ed, e_en, e_em, e_er, e_mz, e_ml, e_aN, e_aC, e_rN, e_rC, e_co, e_l0, e_l1, e_lc, e_cb, e_aL, e_cN, e_cD, e_cR, e_fr, e_fd, e_fr', e_fd', e_lst, e_tup, e_tb, e_ab, e_tA, e_tO, e_tN, e_fI, e_i2, e_ch, e_bk, e_and, e_or, e_not, e_sm, e_sk, e_oN, e_oS, e_iK, e_sl, e_aS, e_ll, e_rv, e_rk, e_sS, e_sI, e_sN, e_sD, e_sR, e_rO, e_rV, e_rVn, e_rVr, e_sA, e_sG, e_oF, e_gN, e_g0, e_g1, e_gT, e_sE, e_au, e_ii, e_ao, e_z, e_cX, e_cM, e_nk, e_c0, e_t0, e_er0, e_en0, e_ex0, o_add_i, o_int_b, o_int_i, o_lt_i, o_is_n, o_eq_s, o_eq_b, o_len_l, o_sub_i, o_gt_i, z0, z1, z2, z3, z4, o_ix_t0, o_ix_t1, o_ix_l0, o_ix_l1, List.getElem?_cons_zero, List.getElem?_cons_succ, List.set_cons_zero, List.set_cons_succ, List.nil_append, List.cons_append, List.length_map, List.length_cons, List.length_nil, Nat.zero_add, Nat.reduceAdd, if_true, if_false, Bool.false_eq_true, Bool.not_true, Bool.not_false, reduceIte, cut12, List.map_cons, List.drop_succ_cons, List.drop_zero, List.take_succ_cons, List.take_zero, e1, e2]
      cases ht : decide (w1 = "turns") with
      | true =>
        have eo : dueO (w0 :: w1 :: r1) = tailO a b true 2 r1 := by
          show (match pr w0 with | none => Out.wrong 0 | some (a, b) => if w1 = "turns" then tailO a b true 2 r1 else tailO a b false 1 (w1 :: r1)) = _
          rw [hp]
          exact if_pos (of_decide_eq_true ht)
        rw [eo]
        have i1 : (1 : Int) + 1 = ((2 : Nat) : Int) := rfl
        simp only [e_bo, e_bx, e_bn, e_to, e_tx, e_qn, e_qr, e_qx, e_os, e_c, e_v, e_vp, e_vr, e_ad, e_an, e_ar, e_set, e_add, e_put, e_op, e_a2, e_un, e_a1, e_rd, e_rn, e_rm, e_rr, e_fl, e_fz, e_ed, e_en, e_em, e_er, e_mz, e_ml, e_aN, e_aC, e_rN, e_rC, e_co, e_l0, e_l1, e_lc, e_cb, e_aL, e_cN, e_cD, e_cR, e_fr, e_fd, e_fr', e_fd', e_lst, e_tup, e_tb, e_ab, e_tA, e_tO, e_tN, e_fI, e_i2, e_ch, e_bk, e_and, e_or, e_not, e_sm, e_sk, e_oN, e_oS, e_iK, e_sl, e_aS, e_ll, e_rv, e_rk, e_sS, e_sI, e_sN, e_sD, e_sR, e_rO, e_rV, e_rVn, e_rVr, e_sA, e_sG, e_oF, e_gN, e_g0, e_g1, e_gT, e_sE, e_au, e_ii, e_ao, e_z, e_cX, e_cM, e_nk, e_c0, e_t0, e_er0, e_en0, e_ex0, o_add_i, o_int_b, o_int_i, o_lt_i, o_is_n, o_eq_s, o_eq_b, o_len_l, o_sub_i, o_gt_i, z0, z1, z2, z3, z4, o_ix_t0, o_ix_t1, o_ix_l0, o_ix_l1, List.getElem?_cons_zero, List.getElem?_cons_succ, List.set_cons_zero, List.set_cons_succ, List.nil_append, List.cons_append, List.length_map, List.length_cons, List.length_nil, Nat.zero_add, Nat.reduceAdd, if_true, if_false, Bool.false_eq_true, Bool.not_true, Bool.not_false, reduceIte, id_eq, i1]
        exact partsT_ev (ws := w0 :: w1 :: r1) (pre := [w0, w1]) (bs := r1) (k := 2) (t := true) rfl rfl hr2 (fun w h => hz w (List.mem_cons_of_mem _ (List.mem_cons_of_mem _ h)))
      | false =>
        have eo : dueO (w0 :: w1 :: r1) = tailO a b false 1 (w1 :: r1) := by
          show (match pr w0 with | none => Out.wrong 0 | some (a, b) => if w1 = "turns" then tailO a b true 2 r1 else tailO a b false 1 (w1 :: r1)) = _
          rw [hp]
          exact if_neg (of_decide_eq_false ht)
        rw [eo]
        have i1 : (1 : Int) + 0 = ((1 : Nat) : Int) := rfl
        simp only [e_bo, e_bx, e_bn, e_to, e_tx, e_qn, e_qr, e_qx, e_os, e_c, e_v, e_vp, e_vr, e_ad, e_an, e_ar, e_set, e_add, e_put, e_op, e_a2, e_un, e_a1, e_rd, e_rn, e_rm, e_rr, e_fl, e_fz, e_ed, e_en, e_em, e_er, e_mz, e_ml, e_aN, e_aC, e_rN, e_rC, e_co, e_l0, e_l1, e_lc, e_cb, e_aL, e_cN, e_cD, e_cR, e_fr, e_fd, e_fr', e_fd', e_lst, e_tup, e_tb, e_ab, e_tA, e_tO, e_tN, e_fI, e_i2, e_ch, e_bk, e_and, e_or, e_not, e_sm, e_sk, e_oN, e_oS, e_iK, e_sl, e_aS, e_ll, e_rv, e_rk, e_sS, e_sI, e_sN, e_sD, e_sR, e_rO, e_rV, e_rVn, e_rVr, e_sA, e_sG, e_oF, e_gN, e_g0, e_g1, e_gT, e_sE, e_au, e_ii, e_ao, e_z, e_cX, e_cM, e_nk, e_c0, e_t0, e_er0, e_en0, e_ex0, o_add_i, o_int_b, o_int_i, o_lt_i, o_is_n, o_eq_s, o_eq_b, o_len_l, o_sub_i, o_gt_i, z0, z1, z2, z3, z4, o_ix_t0, o_ix_t1, o_ix_l0, o_ix_l1, List.getElem?_cons_zero, List.getElem?_cons_succ, List.set_cons_zero, List.set_cons_succ, List.nil_append, List.cons_append, List.length_map, List.length_cons, List.length_nil, Nat.zero_add, Nat.reduceAdd, if_true, if_false, Bool.false_eq_true, Bool.not_true, Bool.not_false, reduceIte, id_eq, i1]
        exact partsT_ev (ws := w0 :: w1 :: r1) (pre := [w0]) (bs := w1 :: r1) (k := 1) (t := false) rfl rfl hr (fun w h => hz w (List.mem_cons_of_mem _ h))
end K03

set_option maxHeartbeats 2000000
/-! a kind made, read, told -/
namespace K03
open PySem PySem.Spec L2 Sd
def kindD (a b : Str) (t : Bool) (r : D) : D := .ins "Kind" ["row"] [.tup [.str a, .str b, .bl t, r]]
/-- a rest that may be -/
def okR (r : D) : Prop := r = .non ∨ ∃ v : Int, r = .int v ∧ 2 ≤ v ∧ v ≤ 1000000
theorem is_one_ev {x : Str} {d : D} {b : Bool} (h : oIn id (.str x) d = some (.d (.bl b))) : F_is_one_of [.p (.str x), .p d] [] = .ok (.d (.bl b)) [] := by
  show endD (f_is_one_of ⟨[some (.p (.str x)), some (.p d)], [], 0⟩) = _
  unfold f_is_one_of
  have e : oIs tb_str (.str x) = some (.d (.bl true)) := rfl
  simp only [e_bo, e_bx, e_bn, e_to, e_tx, e_qn, e_qr, e_qx, e_os, e_c, e_v, e_vp, e_vr, e_ad, e_an, e_ar, e_set, e_add, e_put, e_op, e_a2, e_un, e_a1, e_rd, e_rn, e_rm, e_rr, e_fl, e_fz, e_ed, e_en, e_em, e_er, e_mz, e_ml, e_aN, e_aC, e_rN, e_rC, e_co, e_l0, e_l1, e_lc, e_cb, e_aL, e_cN, e_cD, e_cR, e_fr, e_fd, e_fr', e_fd', e_lst, e_tup, e_tb, e_ab, e_tA, e_tO, e_tN, e_fI, e_i2, e_ch, e_bk, e_and, e_or, e_not, e_sm, e_sk, e_oN, e_oS, e_iK, e_sl, e_aS, e_ll, e_rv, e_rk, e_sS, e_sI, e_sN, e_sD, e_sR, e_rO, e_rV, e_rVn, e_rVr, e_sA, e_sG, e_oF, e_gN, e_g0, e_g1, e_gT, e_sE, e_au, e_ii, e_ao, e_z, e_cX, e_cM, e_nk, e_c0, e_t0, e_er0, e_en0, e_ex0, o_add_i, o_int_b, o_int_i, o_lt_i, o_is_n, o_eq_s, o_eq_b, o_len_l, o_sub_i, o_gt_i, z0, z1, z2, z3, z4, o_ix_t0, o_ix_t1, o_ix_l0, o_ix_l1, List.getElem?_cons_zero, List.getElem?_cons_succ, List.set_cons_zero, List.set_cons_succ, List.nil_append, List.cons_append, List.length_map, List.length_cons, List.length_nil, Nat.zero_add, Nat.reduceAdd, if_true, if_false, Bool.false_eq_true, Bool.not_true, Bool.not_false, reduceIte, e, h]
theorem inl_ev {x : Str} (h : x ∈ lendsL) : oIn id (.str x) d_LENDS = some (.d (.bl true)) := by
  rcases mem_l h with rfl | rfl | rfl <;> rfl
theorem int_ev {x : Str} (h : x ∈ letsL) : oIn id (.str x) d_LETS = some (.d (.bl true)) := by
  rcases mem_t h with rfl | rfl | rfl <;> rfl
theorem is_number_ev {v : Int} (h1 : 2 ≤ v) (h2 : v ≤ 1000000) : F_is_number [.p (.int v), .p (.int 2), .p (.int 1000000)] [] = .ok (.d (.bl true)) [] := by
  show endD (f_is_number ⟨[some (.p (.int v)), some (.p (.int 2)), some (.p (.int 1000000))], [], 0⟩) = _
  unfold f_is_number
  have e1 : oIs tb_int (.int v) = some (.d (.bl true)) := rfl
  have e2 : oIs tb_bool (.int v) = some (.d (.bl false)) := rfl
  simp only [e_bo, e_bx, e_bn, e_to, e_tx, e_qn, e_qr, e_qx, e_os, e_c, e_v, e_vp, e_vr, e_ad, e_an, e_ar, e_set, e_add, e_put, e_op, e_a2, e_un, e_a1, e_rd, e_rn, e_rm, e_rr, e_fl, e_fz, e_ed, e_en, e_em, e_er, e_mz, e_ml, e_aN, e_aC, e_rN, e_rC, e_co, e_l0, e_l1, e_lc, e_cb, e_aL, e_cN, e_cD, e_cR, e_fr, e_fd, e_fr', e_fd', e_lst, e_tup, e_tb, e_ab, e_tA, e_tO, e_tN, e_fI, e_i2, e_ch, e_bk, e_and, e_or, e_not, e_sm, e_sk, e_oN, e_oS, e_iK, e_sl, e_aS, e_ll, e_rv, e_rk, e_sS, e_sI, e_sN, e_sD, e_sR, e_rO, e_rV, e_rVn, e_rVr, e_sA, e_sG, e_oF, e_gN, e_g0, e_g1, e_gT, e_sE, e_au, e_ii, e_ao, e_z, e_cX, e_cM, e_nk, e_c0, e_t0, e_er0, e_en0, e_ex0, o_add_i, o_int_b, o_int_i, o_lt_i, o_is_n, o_eq_s, o_eq_b, o_len_l, o_sub_i, o_gt_i, z0, z1, z2, z3, z4, o_ix_t0, o_ix_t1, o_ix_l0, o_ix_l1, List.getElem?_cons_zero, List.getElem?_cons_succ, List.set_cons_zero, List.set_cons_succ, List.nil_append, List.cons_append, List.length_map, List.length_cons, List.length_nil, Nat.zero_add, Nat.reduceAdd, if_true, if_false, Bool.false_eq_true, Bool.not_true, Bool.not_false, reduceIte, e1, e2, decide_eq_true h1, decide_eq_true h2]
theorem init_ev {a b : Str} {t : Bool} {r : D} (ha : a ∈ lendsL) (hb : b ∈ letsL) (hr : okR r) : F_Kind_init [.r 0, .p (.str a), .p (.str b), .p (.bl t), .p r] [.i "Kind" [] []] = .ok (.d .non) [.i "Kind" ["row"] [.p (.tup [.str a, .str b, .bl t, r])]] := by
  show endD (f_Kind_init ⟨[some (.r 0), some (.p (.str a)), some (.p (.str b)), some (.p (.bl t)), some (.p r), none, none, none, none], [.i "Kind" [] []], 1⟩) = _
  unfold f_Kind_init
  have s1 : ∀ x y : D, sel [C1.p x, .p y] [] [] [.a 0, .a 1] = [.p x, .p y] := fun _ _ => rfl
  have s2 : ∀ x y z : D, sel [C1.p x, .p y, .p z] [] [] [.a 0, .a 1, .a 2] = [.p x, .p y, .p z] := fun _ _ _ => rfl
  have c1 : ∀ ρ : En, callF F_is_one_of [.p (.str a), .p d_LENDS] ρ = .ok (.d (.bl true)) ρ := fun ρ => callF_d (ds := [.str a, d_LENDS]) (is_one_ev (inl_ev ha))
  have c2 : ∀ ρ : En, callF F_is_one_of [.p (.str b), .p d_LETS] ρ = .ok (.d (.bl true)) ρ := fun ρ => callF_d (ds := [.str b, d_LETS]) (is_one_ev (int_ev hb))
  have k1 : ∀ (s : List (Option C1)) (f : Str) (d : D), s[0]? = some (some (.r 0)) → fCon "Kind" f d (fVar 0) ⟨s, [.i "Kind" [] []], 1⟩ = .ok (.d d) ⟨s, [.i "Kind" [] []], 1⟩ := fun s f d h => by
    have e : fVar 0 ⟨s, [.i "Kind" [] []], 1⟩ = .ok (.r 0) ⟨s, [.i "Kind" [] []], 1⟩ := by
      rw [e_v, h]
      rfl
    unfold fCon fSelf
    rw [e]
    rfl
  have e1 : oIs tb_bool (.bl t) = some (.d (.bl true)) := rfl
  have hN : (fOr (fOp (oIsN id) (fVar 4) (fC .non)) (fCX F_is_number 3 0 [.a 0, .a 1, .a 2] [] (cD (fVar 4) (cD (fC (.int 2)) (cD (fC (.int 1000000)) cN))) cN)) ⟨[some (.r 0), some (.p (.str a)), some (.p (.str b)), some (.p (.bl t)), some (.p r), none, none, none, none], [.i "Kind" [] []], 1⟩ = .ok (.d (.bl true)) ⟨[some (.r 0), some (.p (.str a)), some (.p (.str b)), some (.p (.bl t)), some (.p r), none, none, none, none], [.i "Kind" [] []], 1⟩ := by
    rcases hr with rfl | ⟨v, rfl, h1, h2⟩
    · rfl
    · have c3 : ∀ ρ : En, callF F_is_number [.p (.int v), .p (.int 2), .p (.int 1000000)] ρ = .ok (.d (.bl true)) ρ := fun ρ => callF_d (ds := [.int v, .int 2, .int 1000000]) (is_number_ev h1 h2)
      simp only [e_bo, e_bx, e_bn, e_to, e_tx, e_qn, e_qr, e_qx, e_os, e_c, e_v, e_vp, e_vr, e_ad, e_an, e_ar, e_set, e_add, e_put, e_op, e_a2, e_un, e_a1, e_rd, e_rn, e_rm, e_rr, e_fl, e_fz, e_ed, e_en, e_em, e_er, e_mz, e_ml, e_aN, e_aC, e_rN, e_rC, e_co, e_l0, e_l1, e_lc, e_cb, e_aL, e_cN, e_cD, e_cR, e_fr, e_fd, e_fr', e_fd', e_lst, e_tup, e_tb, e_ab, e_tA, e_tO, e_tN, e_fI, e_i2, e_ch, e_bk, e_and, e_or, e_not, e_sm, e_sk, e_oN, e_oS, e_iK, e_sl, e_aS, e_ll, e_rv, e_rk, e_sS, e_sI, e_sN, e_sD, e_sR, e_rO, e_rV, e_rVn, e_rVr, e_sA, e_sG, e_oF, e_gN, e_g0, e_g1, e_gT, e_sE, e_au, e_ii, e_ao, e_z, e_cX, e_cM, e_nk, e_c0, e_t0, e_er0, e_en0, e_ex0, o_add_i, o_int_b, o_int_i, o_lt_i, o_is_n, o_eq_s, o_eq_b, o_len_l, o_sub_i, o_gt_i, z0, z1, z2, z3, z4, o_ix_t0, o_ix_t1, o_ix_l0, o_ix_l1, List.getElem?_cons_zero, List.getElem?_cons_succ, List.set_cons_zero, List.set_cons_succ, List.nil_append, List.cons_append, List.length_map, List.length_cons, List.length_nil, Nat.zero_add, Nat.reduceAdd, if_true, if_false, Bool.false_eq_true, Bool.not_true, Bool.not_false, reduceIte, show Sd.isNon (.int v) = false from rfl, id_eq, s2, c3, beq_self_eq_true, Bool.and_self]
  rw [e_sS, e_sA, hN]
  have hL : fLc (iRng rng1 (rC (fC (.int 4)) rN)) (gN 8) (tN (Sd.tB (fOp oIx (fVar 6) (fVar 8)))) (fVar 8) [8] ⟨[some (.r 0), some (.p (.str a)), some (.p (.str b)), some (.p (.bl t)), some (.p r), some (.p (.bl true)), some (.r 1), none, none], [.i "Kind" [] [], .l [.bl true, .bl true, .bl true, .bl true]], 1⟩ =
    .ok (.n (.l [])) ⟨[some (.r 0), some (.p (.str a)), some (.p (.str b)), some (.p (.bl t)), some (.p r), some (.p (.bl true)), some (.r 1), none, none], [.i "Kind" [] [], .l [.bl true, .bl true, .bl true, .bl true]], 1⟩ := rfl
  have eN : oEq not (.lst []) (.lst []) = some (.d (.bl false)) := rfl
  simp only [e_bo, e_bx, e_bn, e_to, e_tx, e_qn, e_qr, e_qx, e_os, e_c, e_v, e_vp, e_vr, e_ad, e_an, e_ar, e_set, e_add, e_put, e_op, e_a2, e_un, e_a1, e_rd, e_rn, e_rm, e_rr, e_fl, e_fz, e_ed, e_en, e_em, e_er, e_mz, e_ml, e_aN, e_aC, e_rN, e_rC, e_co, e_l0, e_l1, e_lc, e_cb, e_aL, e_cN, e_cD, e_cR, e_fr, e_fd, e_fr', e_fd', e_lst, e_tup, e_tb, e_ab, e_tA, e_tO, e_tN, e_fI, e_i2, e_ch, e_bk, e_and, e_or, e_not, e_sm, e_sk, e_oN, e_oS, e_iK, e_sl, e_aS, e_ll, e_rv, e_rk, e_sS, e_sI, e_sN, e_sD, e_sR, e_rO, e_rV, e_rVn, e_rVr, e_sA, e_sG, e_oF, e_gN, e_g0, e_g1, e_gT, e_sE, e_au, e_ii, e_ao, e_z, e_cX, e_cM, e_nk, e_c0, e_t0, e_er0, e_en0, e_ex0, o_add_i, o_int_b, o_int_i, o_lt_i, o_is_n, o_eq_s, o_eq_b, o_len_l, o_sub_i, o_gt_i, z0, z1, z2, z3, z4, o_ix_t0, o_ix_t1, o_ix_l0, o_ix_l1, List.getElem?_cons_zero, List.getElem?_cons_succ, List.set_cons_zero, List.set_cons_succ, List.nil_append, List.cons_append, List.length_map, List.length_cons, List.length_nil, Nat.zero_add, Nat.reduceAdd, if_true, if_false, Bool.false_eq_true, Bool.not_true, Bool.not_false, reduceIte, s1, c1, c2, k1, e1, beq_self_eq_true, Bool.and_self, hL, eN]
  all_goals rfl
/-- Kind(..) at a state without objects -/
theorem makeK_ev {s : List (Option C1)} {a b : Str} {t : Bool} {r : D} {fa fk : FC} {n j : Nat} {src : List Src} {cs ks : List C1} (ha : a ∈ lendsL) (hb : b ∈ letsL) (hr : okR r) (h1 : fa ⟨s, [], 0⟩ = .ok cs ⟨s, [], 0⟩) (h2 : fk ⟨s, [], 0⟩ = .ok ks ⟨s, [], 0⟩)
    (hl : (cs.length + 1 == n && ks.length == j) = true) (hs : sel (.r 0 :: cs) [] ks src = [.r 0, .p (.str a), .p (.str b), .p (.bl t), .p r]) : fKX "Kind" F_Kind_init n j src [] fa fk ⟨s, [], 0⟩ = .ok (.r 0) ⟨s, [.i "Kind" ["row"] [.p (.tup [.str a, .str b, .bl t, r])]], 0⟩ := by
  unfold fKX
  rw [h1, e_bo, h2, e_bo, if_pos hl]
  show (callF F_Kind_init (sel (.r 0 :: cs) [] ks src) ⟨s, [.i "Kind" [] []], 0⟩).bind (noneK 0) = _
  rw [hs]
  have e : callF F_Kind_init [.r 0, .p (.str a), .p (.str b), .p (.bl t), .p r] ⟨s, [.i "Kind" [] []], 0⟩ = .ok (.d .non) ⟨s, [.i "Kind" ["row"] [.p (.tup [.str a, .str b, .bl t, r])]], 0⟩ := by
    show callR [0] ⟨s, [.i "Kind" [] []], 0⟩ (F_Kind_init [.r 0, .p (.str a), .p (.str b), .p (.bl t), .p r] [.i "Kind" [] []]) = _
    rw [init_ev ha hb hr]
    rfl
  rw [e]
  rfl
theorem make_ev {i : Nat} {s : List (Option C1)} {a b : Str} {t : Bool} {r : D} {fa fk : FC} {n j : Nat} {src : List Src} {cs ks : List C1} (ha : a ∈ lendsL) (hb : b ∈ letsL) (hr : okR r) (h1 : fa ⟨s, [], 0⟩ = .ok cs ⟨s, [], 0⟩) (h2 : fk ⟨s, [], 0⟩ = .ok ks ⟨s, [], 0⟩)
    (hl : (cs.length + 1 == n && ks.length == j) = true) (hs : sel (.r 0 :: cs) [] ks src = [.r 0, .p (.str a), .p (.str b), .p (.bl t), .p r]) : fFz (fKX "Kind" F_Kind_init n j src [] fa fk) ⟨s, [], 0⟩ = .ok (.d (kindD a b t r)) ⟨s, [.z (kindD a b t r)], 0⟩ := by
  rw [e_z, makeK_ev ha hb hr h1 h2 hl hs]
  rfl

/-- what reading a text ends in -/
def outK : Out → OtD
  | .kind a b t r => .ok (.d (kindD a b t r)) []
  | .wrong k => .ex (.exc "InvalidText" ["line", "word"] [.int 0, .int (k : Nat)]) []
def okO : Out → Prop
  | .kind a b _ r => a ∈ lendsL ∧ b ∈ letsL ∧ okR r
  | .wrong k => k ≤ 4
theorem okO_tail {a b : Str} {t : Bool} {k : Nat} (ha : a ∈ lendsL) (hb : b ∈ letsL) (hk : k ≤ 2) : ∀ bs : List Str, okO (tailO a b t k bs)
  | [] => ⟨ha, hb, .inl rfl⟩
  | x :: y => by
    by_cases h1 : x = "rests"
    · cases y with
      | nil =>
        rw [show tailO a b t k [x] = .wrong (k + 1) from if_pos h1]
        show _ ≤ 4
        omega
      | cons n more =>
        by_cases h2 : Sd.isNon (rD n) = true
        · rw [show tailO a b t k (x :: n :: more) = .wrong (k + 1) from (if_pos h1).trans (if_pos h2)]
          show _ ≤ 4
          omega
        · cases more with
          | nil =>
            rw [show tailO a b t k [x, n] = .kind a b t (rD n) from (if_pos h1).trans (if_neg h2)]
            obtain ⟨v, v1, _, v3⟩ := rd_int (Bool.eq_false_iff.mpr h2)
            exact ⟨ha, hb, .inr ⟨v, v1, v3⟩⟩
          | cons m2 more2 =>
            rw [show tailO a b t k (x :: n :: m2 :: more2) = .wrong (k + 2) from (if_pos h1).trans (if_neg h2)]
            show _ ≤ 4
            omega
    · rw [show tailO a b t k (x :: y) = .wrong k from if_neg h1]
      show _ ≤ 4
      omega
theorem okO_due : ∀ ws : List Str, okO (dueO ws)
  | [] => Nat.zero_le _
  | w0 :: r => by
    cases hp : pr w0 with
    | none =>
      have eo : dueO (w0 :: r) = .wrong 0 := by
        show (match pr w0 with | none => Out.wrong 0 | some (a, b) => _) = _
        rw [hp]
      rw [eo]
      exact Nat.zero_le _
    | some q =>
      obtain ⟨a, b⟩ := q
      obtain ⟨ha, hb, _⟩ := pr_some hp
      cases r with
      | nil =>
        have eo : dueO [w0] = .kind a b false .non := by
          show (match pr w0 with | none => Out.wrong 0 | some (a, b) => Out.kind a b false .non) = _
          rw [hp]
        rw [eo]
        exact ⟨ha, hb, .inl rfl⟩
      | cons w1 r1 =>
        have eo : dueO (w0 :: w1 :: r1) = if w1 = "turns" then tailO a b true 2 r1 else tailO a b false 1 (w1 :: r1) := by
          show (match pr w0 with | none => Out.wrong 0 | some (a, b) => if w1 = "turns" then tailO a b true 2 r1 else tailO a b false 1 (w1 :: r1)) = _
          rw [hp]
        rw [eo]
        split
        · exact okO_tail ha hb (by decide) _
        · exact okO_tail ha hb (by decide) _
theorem read_ev {z w0 : Str} {r : List Str} (hs : Txt.split z " " = w0 :: r) (hz : szB (z.length + 2) = true) (hw : ∀ w ∈ w0 :: r, szB w.length = true ∧ okS w = true) : F_Kind_read [.fn, .p (.str z)] [] = outK (dueO (w0 :: r)) := by
  show endD (f_Kind_read ⟨[some .fn, some (.p (.str z)), none, none, none, none], [], 0⟩) = _
  unfold f_Kind_read
  have e1 : oIs tb_str (.str z) = some (.d (.bl true)) := rfl
  have s2 : ∀ x y z : D, sel [C1.p x, .p y, .p z] [] [] [.a 0, .a 1, .a 2] = [.p x, .p y, .p z] := fun _ _ _ => rfl
  have hok := okO_due (w0 :: r)
  have hp := parts_ev hw
  simp only [e_bo, e_bx, e_bn, e_to, e_tx, e_qn, e_qr, e_qx, e_os, e_c, e_v, e_vp, e_vr, e_ad, e_an, e_ar, e_set, e_add, e_put, e_op, e_a2, e_un, e_a1, e_rd, e_rn, e_rm, e_rr, e_fl, e_fz, e_ed, e_en, e_em, e_er, e_mz, e_ml, e_aN, e_aC, e_rN, e_rC, e_co, e_l0, e_l1, e_lc, e_cb, e_aL, e_cN, e_cD, e_cR, e_fr, e_fd, e_fr', e_fd', e_lst, e_tup, e_tb, e_ab, e_tA, e_tO, e_tN, e_fI, e_i2, e_ch, e_bk, e_and, e_or, e_not, e_sm, e_sk, e_oN, e_oS, e_iK, e_sl, e_aS, e_ll, e_rv, e_rk, e_sS, e_sI, e_sN, e_sD, e_sR, e_rO, e_rV, e_rVn, e_rVr, e_sA, e_sG, e_oF, e_gN, e_g0, e_g1, e_gT, e_sE, e_au, e_ii, e_ao, e_z, e_cX, e_cM, e_nk, e_c0, e_t0, e_er0, e_en0, e_ex0, o_add_i, o_int_b, o_int_i, o_lt_i, o_is_n, o_eq_s, o_eq_b, o_len_l, o_sub_i, o_gt_i, z0, z1, z2, z3, z4, o_ix_t0, o_ix_t1, o_ix_l0, o_ix_l1, List.getElem?_cons_zero, List.getElem?_cons_succ, List.set_cons_zero, List.set_cons_succ, List.nil_append, List.cons_append, List.length_map, List.length_cons, List.length_nil, Nat.zero_add, Nat.reduceAdd, if_true, if_false, Bool.false_eq_true, Bool.not_true, Bool.not_false, reduceIte, e1, split_ev hz, hs, s2, beq_self_eq_true, Bool.and_self]
  cases ho : dueO (w0 :: r) with
  | wrong k =>
    rw [ho] at hp
    have c1 : ∀ ρ : En, callF F_parts_in [.p (.lst ((w0 :: r).map D.str)), .p (.int 0), .p (.int 0)] ρ = .ex (.exc "InvalidText" ["line", "word"] [.int 0, .int (k : Nat)]) ρ := fun ρ => callF_x (ds := [.lst ((w0 :: r).map D.str), .int 0, .int 0]) hp
    simp only [e_bo, e_bx, e_bn, e_to, e_tx, e_qn, e_qr, e_qx, e_os, e_c, e_v, e_vp, e_vr, e_ad, e_an, e_ar, e_set, e_add, e_put, e_op, e_a2, e_un, e_a1, e_rd, e_rn, e_rm, e_rr, e_fl, e_fz, e_ed, e_en, e_em, e_er, e_mz, e_ml, e_aN, e_aC, e_rN, e_rC, e_co, e_l0, e_l1, e_lc, e_cb, e_aL, e_cN, e_cD, e_cR, e_fr, e_fd, e_fr', e_fd', e_lst, e_tup, e_tb, e_ab, e_tA, e_tO, e_tN, e_fI, e_i2, e_ch, e_bk, e_and, e_or, e_not, e_sm, e_sk, e_oN, e_oS, e_iK, e_sl, e_aS, e_ll, e_rv, e_rk, e_sS, e_sI, e_sN, e_sD, e_sR, e_rO, e_rV, e_rVn, e_rVr, e_sA, e_sG, e_oF, e_gN, e_g0, e_g1, e_gT, e_sE, e_au, e_ii, e_ao, e_z, e_cX, e_cM, e_nk, e_c0, e_t0, e_er0, e_en0, e_ex0, o_add_i, o_int_b, o_int_i, o_lt_i, o_is_n, o_eq_s, o_eq_b, o_len_l, o_sub_i, o_gt_i, z0, z1, z2, z3, z4, o_ix_t0, o_ix_t1, o_ix_l0, o_ix_l1, List.getElem?_cons_zero, List.getElem?_cons_succ, List.set_cons_zero, List.set_cons_succ, List.nil_append, List.cons_append, List.length_map, List.length_cons, List.length_nil, Nat.zero_add, Nat.reduceAdd, if_true, if_false, Bool.false_eq_true, Bool.not_true, Bool.not_false, reduceIte, c1]
    all_goals rfl
  | kind a b t rr =>
    rw [ho] at hp hok
    obtain ⟨ha, hb, hr⟩ := hok
    have c1 : ∀ ρ : En, callF F_parts_in [.p (.lst ((w0 :: r).map D.str)), .p (.int 0), .p (.int 0)] ρ = .ok (.d (.tup [.str a, .str b, .bl t, rr])) ρ := fun ρ => callF_d (ds := [.lst ((w0 :: r).map D.str), .int 0, .int 0]) hp
    have kx : ∀ s : List (Option C1), fKXv 0 "Kind" F_Kind_init 3 2 [.a 0, .a 1, .a 2, .k 0, .k 1] [] (cD (fVar 2) (cD (fVar 3) cN)) (cD (fVar 4) (cD (fVar 5) cN)) ⟨some .fn :: s, [], 0⟩ = fKX "Kind" F_Kind_init 3 2 [.a 0, .a 1, .a 2, .k 0, .k 1] [] (cD (fVar 2) (cD (fVar 3) cN)) (cD (fVar 4) (cD (fVar 5) cN)) ⟨some .fn :: s, [], 0⟩ := fun _ => rfl
    have km := makeK_ev (s := [some .fn, some (.p (.str z)), some (.p (.str a)), some (.p (.str b)), some (.p (.bl t)), some (.p rr)]) (fa := cD (fVar 2) (cD (fVar 3) cN)) (fk := cD (fVar 4) (cD (fVar 5) cN)) (n := 3) (j := 2) (src := [.a 0, .a 1, .a 2, .k 0, .k 1]) ha hb hr rfl rfl rfl rfl
    simp only [e_bo, e_bx, e_bn, e_to, e_tx, e_qn, e_qr, e_qx, e_os, e_c, e_v, e_vp, e_vr, e_ad, e_an, e_ar, e_set, e_add, e_put, e_op, e_a2, e_un, e_a1, e_rd, e_rn, e_rm, e_rr, e_fl, e_fz, e_ed, e_en, e_em, e_er, e_mz, e_ml, e_aN, e_aC, e_rN, e_rC, e_co, e_l0, e_l1, e_lc, e_cb, e_aL, e_cN, e_cD, e_cR, e_fr, e_fd, e_fr', e_fd', e_lst, e_tup, e_tb, e_ab, e_tA, e_tO, e_tN, e_fI, e_i2, e_ch, e_bk, e_and, e_or, e_not, e_sm, e_sk, e_oN, e_oS, e_iK, e_sl, e_aS, e_ll, e_rv, e_rk, e_sS, e_sI, e_sN, e_sD, e_sR, e_rO, e_rV, e_rVn, e_rVr, e_sA, e_sG, e_oF, e_gN, e_g0, e_g1, e_gT, e_sE, e_au, e_ii, e_ao, e_z, e_cX, e_cM, e_nk, e_c0, e_t0, e_er0, e_en0, e_ex0, o_add_i, o_int_b, o_int_i, o_lt_i, o_is_n, o_eq_s, o_eq_b, o_len_l, o_sub_i, o_gt_i, z0, z1, z2, z3, z4, o_ix_t0, o_ix_t1, o_ix_l0, o_ix_l1, List.getElem?_cons_zero, List.getElem?_cons_succ, List.set_cons_zero, List.set_cons_succ, List.nil_append, List.cons_append, List.length_map, List.length_cons, List.length_nil, Nat.zero_add, Nat.reduceAdd, if_true, if_false, Bool.false_eq_true, Bool.not_true, Bool.not_false, reduceIte, c1, beq_self_eq_true, Option.bind_some, kx, km]
    all_goals rfl
theorem odd_ev {z : D} (h : oIs tb_str z = some (.d (.bl false))) : F_Kind_read [.fn, .p z] [] = outK (.wrong 0) := by
  show endD (f_Kind_read ⟨[some .fn, some (.p z), none, none, none, none], [], 0⟩) = _
  unfold f_Kind_read
  simp only [e_bo, e_bx, e_bn, e_to, e_tx, e_qn, e_qr, e_qx, e_os, e_c, e_v, e_vp, e_vr, e_ad, e_an, e_ar, e_set, e_add, e_put, e_op, e_a2, e_un, e_a1, e_rd, e_rn, e_rm, e_rr, e_fl, e_fz, e_ed, e_en, e_em, e_er, e_mz, e_ml, e_aN, e_aC, e_rN, e_rC, e_co, e_l0, e_l1, e_lc, e_cb, e_aL, e_cN, e_cD, e_cR, e_fr, e_fd, e_fr', e_fd', e_lst, e_tup, e_tb, e_ab, e_tA, e_tO, e_tN, e_fI, e_i2, e_ch, e_bk, e_and, e_or, e_not, e_sm, e_sk, e_oN, e_oS, e_iK, e_sl, e_aS, e_ll, e_rv, e_rk, e_sS, e_sI, e_sN, e_sD, e_sR, e_rO, e_rV, e_rVn, e_rVr, e_sA, e_sG, e_oF, e_gN, e_g0, e_g1, e_gT, e_sE, e_au, e_ii, e_ao, e_z, e_cX, e_cM, e_nk, e_c0, e_t0, e_er0, e_en0, e_ex0, o_add_i, o_int_b, o_int_i, o_lt_i, o_is_n, o_eq_s, o_eq_b, o_len_l, o_sub_i, o_gt_i, z0, z1, z2, z3, z4, o_ix_t0, o_ix_t1, o_ix_l0, o_ix_l1, List.getElem?_cons_zero, List.getElem?_cons_succ, List.set_cons_zero, List.set_cons_succ, List.nil_append, List.cons_append, List.length_map, List.length_cons, List.length_nil, Nat.zero_add, Nat.reduceAdd, if_true, if_false, Bool.false_eq_true, Bool.not_true, Bool.not_false, reduceIte, h, beq_self_eq_true]
  all_goals rfl
end K03

set_option maxHeartbeats 2000000
/-! what a reading is told as -/
namespace K03
open PySem PySem.Spec L2 Sd
theorem lends_ev {a b : Str} {t : Bool} {r : D} : F_Kind_lends [.p (kindD a b t r)] [] = .ok (.d (.str a)) [] := rfl
theorem lets_ev {a b : Str} {t : Bool} {r : D} : F_Kind_lets [.p (kindD a b t r)] [] = .ok (.d (.str b)) [] := rfl
theorem turns_ev {a b : Str} {t : Bool} {r : D} : F_Kind_turns [.p (kindD a b t r)] [] = .ok (.d (.bl t)) [] := rfl
theorem rests_ev {a b : Str} {t : Bool} {r : D} : F_Kind_rests [.p (kindD a b t r)] [] = .ok (.d r) [] := rfl
theorem prop_ev {i : Nat} {F : FD} {a b : Str} {t : Bool} {r d : D} {s : List (Option C1)} {μ : List M} {k : Nat} (hs : s[i]? = some (some (.p (kindD a b t r)))) (h : F [.p (kindD a b t r)] [] = .ok (.d d) []) : fPX "Kind" F (fVar i) ⟨s, μ, k⟩ = .ok (.d d) ⟨s, μ, k⟩ := by
  have e : fVar i ⟨s, μ, k⟩ = .ok (.d (kindD a b t r)) ⟨s, μ, k⟩ := by
    rw [e_v, hs]
    rfl
  unfold fPX fSelf
  rw [e]
  show (callF F [.p (kindD a b t r)] ⟨s, μ, k⟩).nox = _
  have e2 : callF F [.p (kindD a b t r)] ⟨s, μ, k⟩ = .ok (.d d) ⟨s, μ, k⟩ := callF_d (ds := [kindD a b t r]) h
  rw [e2]
  rfl
theorem told_k {lam : List M → OtD} {a b : Str} {t : Bool} {r : D} (h : lam [] = .ok (.d (kindD a b t r)) []) : F_told lam [.fn] [] = .ok (.d (Out.kind a b t r).d) [] := by
  show endD (f_told lam ⟨[some .fn, none, none, none], [], 0⟩) = _
  unfold f_told
  have hb : (sSeq (sAsg 3 (fAct lam)) (sRet (fTup (aC (fC (.str "kind")) (aC (fLst (aC (fPX "Kind" F_Kind_lends (fVar 3)) (aC (fPX "Kind" F_Kind_lets (fVar 3)) (aC (fPX "Kind" F_Kind_turns (fVar 3)) (aC (fPX "Kind" F_Kind_rests (fVar 3)) aN))))) aN))))) ⟨[some .fn, some (.p .non), none, none], [], 0⟩ = .rt (.d (Out.kind a b t r).d) [] := by
    have ha : fAct lam ⟨[some .fn, some (.p .non), none, none], [], 0⟩ = .ok (.d (kindD a b t r)) ⟨[some .fn, some (.p .non), none, none], [], 0⟩ := by
      show callR [] _ (lam []) = _
      rw [h]
      rfl
    have p1 := prop_ev (i := 3) (F := F_Kind_lends) (s := [some .fn, some (.p .non), none, some (.p (kindD a b t r))]) (μ := []) (k := 0) rfl (lends_ev (a := a) (b := b) (t := t) (r := r))
    have p2 := prop_ev (i := 3) (F := F_Kind_lets) (s := [some .fn, some (.p .non), none, some (.p (kindD a b t r))]) (μ := []) (k := 0) rfl (lets_ev (a := a) (b := b) (t := t) (r := r))
    have p3 := prop_ev (i := 3) (F := F_Kind_turns) (s := [some .fn, some (.p .non), none, some (.p (kindD a b t r))]) (μ := []) (k := 0) rfl (turns_ev (a := a) (b := b) (t := t) (r := r))
    have p4 := prop_ev (i := 3) (F := F_Kind_rests) (s := [some .fn, some (.p .non), none, some (.p (kindD a b t r))]) (μ := []) (k := 0) rfl (rests_ev (a := a) (b := b) (t := t) (r := r))
    simp only [e_bo, e_bx, e_bn, e_to, e_tx, e_qn, e_qr, e_qx, e_os, e_c, e_v, e_vp, e_vr, e_ad, e_an, e_ar, e_set, e_add, e_put, e_op, e_a2, e_un, e_a1, e_rd, e_rn, e_rm, e_rr, e_fl, e_fz, e_ed, e_en, e_em, e_er, e_mz, e_ml, e_aN, e_aC, e_rN, e_rC, e_co, e_l0, e_l1, e_lc, e_cb, e_aL, e_cN, e_cD, e_cR, e_fr, e_fd, e_fr', e_fd', e_lst, e_tup, e_tb, e_ab, e_tA, e_tO, e_tN, e_fI, e_i2, e_ch, e_bk, e_and, e_or, e_not, e_sm, e_sk, e_oN, e_oS, e_iK, e_sl, e_aS, e_ll, e_rv, e_rk, e_sS, e_sI, e_sN, e_sD, e_sR, e_rO, e_rV, e_rVn, e_rVr, e_sA, e_sG, e_oF, e_gN, e_g0, e_g1, e_gT, e_sE, e_au, e_ii, e_ao, e_z, e_cX, e_cM, e_nk, e_c0, e_t0, e_er0, e_en0, e_ex0, o_add_i, o_int_b, o_int_i, o_lt_i, o_is_n, o_eq_s, o_eq_b, o_len_l, o_sub_i, o_gt_i, z0, z1, z2, z3, z4, o_ix_t0, o_ix_t1, o_ix_l0, o_ix_l1, List.getElem?_cons_zero, List.getElem?_cons_succ, List.set_cons_zero, List.set_cons_succ, List.nil_append, List.cons_append, List.length_map, List.length_cons, List.length_nil, Nat.zero_add, Nat.reduceAdd, if_true, if_false, Bool.false_eq_true, Bool.not_true, Bool.not_false, reduceIte, ha, p1, p2, p3, p4]
    all_goals rfl
  have ht : ∀ B : FS, B ⟨[some .fn, some (.p .non), none, none], [], 0⟩ = .rt (.d (Out.kind a b t r).d) [] → sTry cm_MeetError_NoStation_TooMany 2 1 B ⟨[some .fn, some (.p .non), none, none], [], 0⟩ = .rt (.d (Out.kind a b t r).d) [] := fun B h => by
    unfold sTry
    rw [h]
    rfl
  simp only [e_bo, e_bx, e_bn, e_to, e_tx, e_qn, e_qr, e_qx, e_os, e_c, e_v, e_vp, e_vr, e_ad, e_an, e_ar, e_set, e_add, e_put, e_op, e_a2, e_un, e_a1, e_rd, e_rn, e_rm, e_rr, e_fl, e_fz, e_ed, e_en, e_em, e_er, e_mz, e_ml, e_aN, e_aC, e_rN, e_rC, e_co, e_l0, e_l1, e_lc, e_cb, e_aL, e_cN, e_cD, e_cR, e_fr, e_fd, e_fr', e_fd', e_lst, e_tup, e_tb, e_ab, e_tA, e_tO, e_tN, e_fI, e_i2, e_ch, e_bk, e_and, e_or, e_not, e_sm, e_sk, e_oN, e_oS, e_iK, e_sl, e_aS, e_ll, e_rv, e_rk, e_sS, e_sI, e_sN, e_sD, e_sR, e_rO, e_rV, e_rVn, e_rVr, e_sA, e_sG, e_oF, e_gN, e_g0, e_g1, e_gT, e_sE, e_au, e_ii, e_ao, e_z, e_cX, e_cM, e_nk, e_c0, e_t0, e_er0, e_en0, e_ex0, o_add_i, o_int_b, o_int_i, o_lt_i, o_is_n, o_eq_s, o_eq_b, o_len_l, o_sub_i, o_gt_i, z0, z1, z2, z3, z4, o_ix_t0, o_ix_t1, o_ix_l0, o_ix_l1, List.getElem?_cons_zero, List.getElem?_cons_succ, List.set_cons_zero, List.set_cons_succ, List.nil_append, List.cons_append, List.length_map, List.length_cons, List.length_nil, Nat.zero_add, Nat.reduceAdd, if_true, if_false, Bool.false_eq_true, Bool.not_true, Bool.not_false, reduceIte, ht _ hb]
theorem told_x {lam : List M → OtD} {k : Nat} (h : lam [] = .ex (.exc "InvalidText" ["line", "word"] [.int 0, .int (k : Nat)]) []) : F_told lam [.fn] [] = .ok (.d (Out.wrong k).d) [] := by
  show endD (f_told lam ⟨[some .fn, none, none, none], [], 0⟩) = _
  unfold f_told
  have ha : fAct lam ⟨[some .fn, some (.p .non), none, none], [], 0⟩ = .ex (.exc "InvalidText" ["line", "word"] [.int 0, .int (k : Nat)]) ⟨[some .fn, some (.p .non), none, none], [], 0⟩ := by
    show callR [] _ (lam []) = _
    rw [h]
    rfl
  have ht : ∀ B : FS, B ⟨[some .fn, some (.p .non), none, none], [], 0⟩ = .ex (.exc "InvalidText" ["line", "word"] [.int 0, .int (k : Nat)]) ⟨[some .fn, some (.p .non), none, none], [], 0⟩ → sTry cm_MeetError_NoStation_TooMany 2 1 B ⟨[some .fn, some (.p .non), none, none], [], 0⟩ = .nx ⟨[some .fn, some (.p (.exc "InvalidText" ["line", "word"] [.int 0, .int (k : Nat)])), none, none], [], 0⟩ := fun B h => by
    unfold sTry
    rw [h]
    rfl
  have hb : ∀ f : FS, (sSeq (sAsg 3 (fAct lam)) f) ⟨[some .fn, some (.p .non), none, none], [], 0⟩ = .ex (.exc "InvalidText" ["line", "word"] [.int 0, .int (k : Nat)]) ⟨[some .fn, some (.p .non), none, none], [], 0⟩ := fun f => by
    simp only [e_bo, e_bx, e_bn, e_to, e_tx, e_qn, e_qr, e_qx, e_os, e_c, e_v, e_vp, e_vr, e_ad, e_an, e_ar, e_set, e_add, e_put, e_op, e_a2, e_un, e_a1, e_rd, e_rn, e_rm, e_rr, e_fl, e_fz, e_ed, e_en, e_em, e_er, e_mz, e_ml, e_aN, e_aC, e_rN, e_rC, e_co, e_l0, e_l1, e_lc, e_cb, e_aL, e_cN, e_cD, e_cR, e_fr, e_fd, e_fr', e_fd', e_lst, e_tup, e_tb, e_ab, e_tA, e_tO, e_tN, e_fI, e_i2, e_ch, e_bk, e_and, e_or, e_not, e_sm, e_sk, e_oN, e_oS, e_iK, e_sl, e_aS, e_ll, e_rv, e_rk, e_sS, e_sI, e_sN, e_sD, e_sR, e_rO, e_rV, e_rVn, e_rVr, e_sA, e_sG, e_oF, e_gN, e_g0, e_g1, e_gT, e_sE, e_au, e_ii, e_ao, e_z, e_cX, e_cM, e_nk, e_c0, e_t0, e_er0, e_en0, e_ex0, o_add_i, o_int_b, o_int_i, o_lt_i, o_is_n, o_eq_s, o_eq_b, o_len_l, o_sub_i, o_gt_i, z0, z1, z2, z3, z4, o_ix_t0, o_ix_t1, o_ix_l0, o_ix_l1, List.getElem?_cons_zero, List.getElem?_cons_succ, List.set_cons_zero, List.set_cons_succ, List.nil_append, List.cons_append, List.length_map, List.length_cons, List.length_nil, Nat.zero_add, Nat.reduceAdd, if_true, if_false, Bool.false_eq_true, Bool.not_true, Bool.not_false, reduceIte, ha]
    all_goals rfl
  have x1 : oIs tb_InvalidText (.exc "InvalidText" ["line", "word"] [.int 0, .int (k : Nat)]) = some (.d (.bl true)) := rfl
  have x2 : oIs tb_MeetError (.exc "InvalidText" ["line", "word"] [.int 0, .int (k : Nat)]) = some (.d (.bl true)) := rfl
  have x3 : oIs tb_T_Clash_InvalidKind_InvalidPart_NoStation_TooMany (.exc "InvalidText" ["line", "word"] [.int 0, .int (k : Nat)]) = some (.d (.bl false)) := rfl
  have x4 : oFx excs "line" (.exc "InvalidText" ["line", "word"] [.int 0, .int (k : Nat)]) = some (.d (.int 0)) := rfl
  have x5 : oFx excs "word" (.exc "InvalidText" ["line", "word"] [.int 0, .int (k : Nat)]) = some (.d (.int (k : Nat))) := rfl
  simp only [e_bo, e_bx, e_bn, e_to, e_tx, e_qn, e_qr, e_qx, e_os, e_c, e_v, e_vp, e_vr, e_ad, e_an, e_ar, e_set, e_add, e_put, e_op, e_a2, e_un, e_a1, e_rd, e_rn, e_rm, e_rr, e_fl, e_fz, e_ed, e_en, e_em, e_er, e_mz, e_ml, e_aN, e_aC, e_rN, e_rC, e_co, e_l0, e_l1, e_lc, e_cb, e_aL, e_cN, e_cD, e_cR, e_fr, e_fd, e_fr', e_fd', e_lst, e_tup, e_tb, e_ab, e_tA, e_tO, e_tN, e_fI, e_i2, e_ch, e_bk, e_and, e_or, e_not, e_sm, e_sk, e_oN, e_oS, e_iK, e_sl, e_aS, e_ll, e_rv, e_rk, e_sS, e_sI, e_sN, e_sD, e_sR, e_rO, e_rV, e_rVn, e_rVr, e_sA, e_sG, e_oF, e_gN, e_g0, e_g1, e_gT, e_sE, e_au, e_ii, e_ao, e_z, e_cX, e_cM, e_nk, e_c0, e_t0, e_er0, e_en0, e_ex0, o_add_i, o_int_b, o_int_i, o_lt_i, o_is_n, o_eq_s, o_eq_b, o_len_l, o_sub_i, o_gt_i, z0, z1, z2, z3, z4, o_ix_t0, o_ix_t1, o_ix_l0, o_ix_l1, List.getElem?_cons_zero, List.getElem?_cons_succ, List.set_cons_zero, List.set_cons_succ, List.nil_append, List.cons_append, List.length_map, List.length_cons, List.length_nil, Nat.zero_add, Nat.reduceAdd, if_true, if_false, Bool.false_eq_true, Bool.not_true, Bool.not_false, reduceIte, ht _ (hb _), x1, x2, x3, x4, x5, beq_self_eq_true]
  all_goals rfl
theorem told_ev {lam : List M → OtD} {o : Out} (h : lam [] = outK o) : F_told lam [.fn] [] = .ok (.d o.d) [] := by
  cases o with
  | kind a b t r => exact told_k h
  | wrong k => exact told_x h
/-! repr of what is told -/
def reprS (o : Out) : Str := match D.pyR o.d with
  | some e => e.shown
  | none => Str.empty
theorem len_tf : ∀ (ts : List Str) (k : Nat) (acc : Str), (textFrom k acc ts).length ≤ acc.length + (ts.map fun t => t.length + 2).sum
  | [], k, acc => Nat.le_refl _
  | t :: r, k, acc => by
    show (textFrom (k + 1) (acc ++ (if k > 0 then ", " else "" : String) ++ t) r).length ≤ _
    have h := len_tf r (k + 1) (acc ++ (if k > 0 then ", " else "" : String) ++ t)
    have e : (acc ++ (if k > 0 then ", " else "" : String) ++ t : Str).length ≤ acc.length + 2 + t.length := by
      rw [Str.length_append, Str.length_append]; by_cases q : k > 0
      · rw [if_pos q]
        have : (Str.ofString ", ").length = 2 := rfl
        omega
      · rw [if_neg q]
        have : (Str.ofString "").length = 0 := rfl
        omega
    rw [List.map_cons]
    rw [List.sum_cons]
    omega
theorem len_list (ts : List Str) : (listText ts).length ≤ 2 + (ts.map fun t => t.length + 2).sum := by
  unfold listText
  rw [Str.length_append]
  have h := len_tf ts 0 "["
  have e1 : (("[" : Str)).length = 1 := rfl
  have e2 : (("]" : Str)).length = 1 := rfl
  omega
theorem len_tup2 (x y : Str) : (tupleText [x, y]).length = x.length + y.length + 4 := by
  show (("(" : Str) ++ (x ++ ", " ++ y) ++ (")" : Str)).length = _
  rw [Str.length_append, Str.length_append, Str.length_append, Str.length_append]
  have e1 : (("(" : Str)).length = 1 := rfl
  have e2 : ((")" : Str)).length = 1 := rfl
  have e3 : ((", " : Str)).length = 2 := rfl
  omega
theorem len_int {v : Int} (h0 : 0 ≤ v) (h1 : v ≤ 1000000) : (PyData.shown (.int v)).length ≤ 7 := PyProof.Rows.toString_length_le h0 (by decide) (by omega)
theorem log_int {v : Int} (h0 : 0 ≤ v) (h1 : v ≤ 1000000) : PyData.showable (.int v) = true := by
  refine decide_eq_true ?_
  by_cases z : v.natAbs = 0
  · rw [z]
    decide
  · refine (Nat.log2_lt z).mpr (Nat.lt_of_lt_of_le (m := 2 ^ 20) ?_ (Nat.pow_le_pow_right (by decide) (by decide)))
    have : (2 : Nat) ^ 20 = 1048576 := rfl
    omega
theorem repr_of {d : D} {e : PyData} (h1 : D.pyR d = some e) (h2 : isBox d = true) (h3 : e.showable = true) (h4 : e.depth ≤ 60) (h5 : e.shown.length ≤ 100) : oRepr [d] = some (.d (.str e.shown)) := by
  show (match D.pyR d with
    | some e => if (isBox d && (e.showable && (decide (e.depth ≤ 60) && szB e.shown.length))) = true then some (RV.d (.str e.shown)) else none
    | none => none) = _
  rw [h1]
  refine if_pos ?_
  rw [h2, h3, decide_eq_true h4, show szB e.shown.length = true from Nat.ble_eq_true_of_le (by omega)]
  rfl
theorem rl : ∀ a ∈ lendsL, (reprText a).length ≤ 10 := by decide +kernel
theorem rt' : ∀ a ∈ letsL, (reprText a).length ≤ 10 := by decide +kernel
theorem repr_ev {o : Out} (h : okO o) : oRepr [o.d] = some (.d (.str (reprS o))) := by
  cases o with
  | wrong k =>
    have l : k ≤ 4 := h
    have e : D.pyR (Out.wrong k).d = some (.tuple [.str "wrong", .int (k : Nat)]) := rfl
    have z := repr_of e rfl (by
      show (true && (PyData.showable (.int (k : Nat)) && true)) = true
      rw [log_int (by omega) (by omega)]
      rfl) (by show 1 ≤ 60; decide) (by
      show (tupleText [reprText "wrong", PyData.shown (.int (k : Nat))]).length ≤ 100
      rw [len_tup2]
      have h1 := len_int (v := (k : Nat)) (by omega) (by omega)
      have h2 : (reprText "wrong").length = 7 := by decide +kernel
      omega)
    rw [z]
    unfold reprS
    rw [e]
  | kind a b t r =>
    obtain ⟨ha, hb, hr⟩ := h
    obtain ⟨r', e1, e2, e3, e4⟩ : ∃ r' : PyData, D.pyR r = some r' ∧ r'.showable = true ∧ r'.depth = 0 ∧ r'.shown.length ≤ 7 := by
      rcases hr with rfl | ⟨v, rfl, h1, h2⟩
      · exact ⟨.none, rfl, rfl, rfl, by show (("None" : Str)).length ≤ 7; decide +kernel⟩
      · exact ⟨.int v, rfl, log_int (by omega) h2, rfl, len_int (by omega) h2⟩
    have e : D.pyR (Out.kind a b t r).d = some (.tuple [.str "kind", .list [.str a, .str b, .bool t, r']]) := by
      show (match (some (PyData.str "kind") : Option PyData), (match (match (some (PyData.str a) : Option PyData), (match (some (PyData.str b) : Option PyData), (match (some (PyData.bool t) : Option PyData), (match D.pyR r, (some [] : Option (List PyData)) with | some y, some ys => some (y :: ys) | _, _ => none) with | some y, some ys => some (y :: ys) | _, _ => none) with | some y, some ys => some (y :: ys) | _, _ => none) with | some y, some ys => some (y :: ys) | _, _ => none).map PyData.list, (some [] : Option (List PyData)) with | some y, some ys => some (y :: ys) | _, _ => none) with | some y, some ys => some (y :: ys) | _, _ => none).map PyData.tuple = _
      rw [e1]
      rfl
    have z := repr_of e rfl (by
      show (true && ((true && (true && (true && (r'.showable && true)))) && true)) = true
      rw [e2]
      rfl) (by
      show max 0 (max (max 0 (max 0 (max 0 (max r'.depth 0))) + 1) 0) + 1 ≤ 60
      rw [e3]
      decide) (by
      show (tupleText [reprText "kind", listText [reprText a, reprText b, PyData.shown (.bool t), r'.shown]]).length ≤ 100
      rw [len_tup2]
      have h1 := len_list [reprText a, reprText b, PyData.shown (.bool t), r'.shown]
      have h2 : (reprText "kind").length = 6 := by decide +kernel
      have h3 := rl a ha
      have h4 := rt' b hb
      have h5 : (PyData.shown (.bool t)).length ≤ 5 := by cases t <;> (show Str.length _ ≤ 5) <;> decide +kernel
      simp only [List.map_cons, List.map_nil, List.sum_cons, List.sum_nil] at h1
      omega)
    rw [z]
    unfold reprS
    rw [e]
/-- a lambda over a def's slots that hold data -/
theorem callL_d {F : (List M → OtD) → FD} {body : FE} {ds : List (Option D)} {μ : List M} {k : Nat} {d : D} (h : F (lamF body (ds.map fun o => o.map C1.p)) [.fn] [] = .ok (.d d) []) : callL F body [] ⟨ds.map fun o => o.map C1.p, μ, k⟩ = .ok (.d d) ⟨ds.map fun o => o.map C1.p, μ, k⟩ := by
  have e1 : (ds.map fun o => o.map C1.p).filterMap id ++ [] = (ds.filterMap id).map C1.p := by
    rw [List.append_nil, List.filterMap_map, List.map_filterMap]
    rfl
  have e2 : renS μ [] (ds.map fun o => o.map C1.p) = ds.map fun o => o.map C1.p := by
    unfold renS
    rw [List.map_map]
    refine List.map_congr_left fun o _ => ?_
    cases o <;> rfl
  unfold callL
  show (if okL μ ((ds.map fun o => o.map C1.p).filterMap id ++ []) (lend μ ((ds.map fun o => o.map C1.p).filterMap id ++ [])) = true then bkD (lend μ ((ds.map fun o => o.map C1.p).filterMap id ++ [])) _
    (F (lamF body (renS μ (lend μ ((ds.map fun o => o.map C1.p).filterMap id ++ [])) (ds.map fun o => o.map C1.p))) (.fn :: ([] : List C1).map _) (subM μ (lend μ ((ds.map fun o => o.map C1.p).filterMap id ++ [])))) else .no) = _
  rw [e1, lend_p, okL_p, if_pos rfl, e2]
  show bkD [] _ (F (lamF body (ds.map fun o => o.map C1.p)) [.fn] []) = _
  rw [h]
  show Ot.ok (RV.d d) (En.wm ⟨ds.map fun o => o.map C1.p, μ, k⟩ (wb [] μ [] [])) = _
  rw [wb_nil]
  rfl
theorem lam_read {s : List (Option C1)} {body : FE} {o : Out} {z : D} (hb : body ⟨s, [], 0⟩ = callC F_Kind_read [.p z] ⟨s, [], 0⟩) (hr : F_Kind_read [.fn, .p z] [] = outK o) : lamF body s [] = outK o := by
  show endE (body ⟨s, [], 0⟩) = _
  rw [hb]
  cases o with
  | kind a b t r =>
    have e : callC F_Kind_read [.p z] ⟨s, [], 0⟩ = .ok (.d (kindD a b t r)) ⟨s, [], 0⟩ := callC_d (ds := [z]) hr
    rw [e]
    rfl
  | wrong k =>
    have e : callC F_Kind_read [.p z] ⟨s, [], 0⟩ = .ex (.exc "InvalidText" ["line", "word"] [.int 0, .int (k : Nat)]) ⟨s, [], 0⟩ := callC_x (ds := [z]) hr
    rw [e]
    rfl
/-- what is asked of a text: its words are known, none too long -/
structure Gd (z : Str) : Prop where
  hz : szB (z.length + 2) = true
  hw : ∀ w ∈ Txt.split z " ", szB w.length = true ∧ okS w = true
theorem split_ne (z : Str) : ∃ w0 r, Txt.split z " " = w0 :: r := by
  cases h : Txt.split z " " with
  | cons w0 r => exact ⟨w0, r, rfl⟩
  | nil =>
    have e := StrLaws.join_split z " "
    rw [h] at e
    have e2 : Str.empty = z := e
    subst e2
    exact absurd h (by decide +kernel)
theorem read_right_ev {z : Str} (g : Gd z) : F_read_right [.p (.str z)] [] = .ok (.d (.bl true)) [] := by
  obtain ⟨w0, r, hs⟩ := split_ne z
  have hw := g.hw
  rw [hs] at hw
  have hr := read_ev hs g.hz hw
  have hd := due_ev hs g.hz hw
  have hp := repr_ev (okO_due (w0 :: r))
  generalize dueO (w0 :: r) = o at hr hd hp
  show endD (f_read_right ⟨[some (.p (.str z)), none], [], 0⟩) = _
  unfold f_read_right
  have c1 : ∀ ρ : En, callF F_due [.p (.str z)] ρ = .ok (.d o.d) ρ := fun ρ => callF_d (ds := [.str z]) hd
  have s1 : sel [C1.p (.str z)] [] [] [.a 0] = [.p (.str z)] := rfl
  have hL : ∀ body : FE, body ⟨[some (.p (.str z)), some (.p (.str (reprS o)))], [], 0⟩ = callC F_Kind_read [.p (.str z)] ⟨[some (.p (.str z)), some (.p (.str (reprS o)))], [], 0⟩ →
      fLam F_told body cN ⟨[some (.p (.str z)), some (.p (.str (reprS o)))], [], 0⟩ = .ok (.d o.d) ⟨[some (.p (.str z)), some (.p (.str (reprS o)))], [], 0⟩ := fun body hb =>
    show callL F_told body [] ⟨[some (.p (.str z)), some (.p (.str (reprS o)))], [], 0⟩ = _ from callL_d (ds := [some (.str z), some (.str (reprS o))]) (μ := []) (k := 0) (told_ev (lam_read hb hr))
  have l1 := hL (fCM F_Kind_read 2 0 [.a 0] (cD (fVar 0) cN) cN) rfl
  have l2 := hL (fCM F_Kind_read 1 1 [.k 0] cN (cD (fVar 0) cN)) rfl
  simp only [e_bo, e_bx, e_bn, e_to, e_tx, e_qn, e_qr, e_qx, e_os, e_c, e_v, e_vp, e_vr, e_ad, e_an, e_ar, e_set, e_add, e_put, e_op, e_a2, e_un, e_a1, e_rd, e_rn, e_rm, e_rr, e_fl, e_fz, e_ed, e_en, e_em, e_er, e_mz, e_ml, e_aN, e_aC, e_rN, e_rC, e_co, e_l0, e_l1, e_lc, e_cb, e_aL, e_cN, e_cD, e_cR, e_fr, e_fd, e_fr', e_fd', e_lst, e_tup, e_tb, e_ab, e_tA, e_tO, e_tN, e_fI, e_i2, e_ch, e_bk, e_and, e_or, e_not, e_sm, e_sk, e_oN, e_oS, e_iK, e_sl, e_aS, e_ll, e_rv, e_rk, e_sS, e_sI, e_sN, e_sD, e_sR, e_rO, e_rV, e_rVn, e_rVr, e_sA, e_sG, e_oF, e_gN, e_g0, e_g1, e_gT, e_sE, e_au, e_ii, e_ao, e_z, e_cX, e_cM, e_nk, e_c0, e_t0, e_er0, e_en0, e_ex0, o_add_i, o_int_b, o_int_i, o_lt_i, o_is_n, o_eq_s, o_eq_b, o_len_l, o_sub_i, o_gt_i, z0, z1, z2, z3, z4, o_ix_t0, o_ix_t1, o_ix_l0, o_ix_l1, List.getElem?_cons_zero, List.getElem?_cons_succ, List.set_cons_zero, List.set_cons_succ, List.nil_append, List.cons_append, List.length_map, List.length_cons, List.length_nil, Nat.zero_add, Nat.reduceAdd, if_true, if_false, Bool.false_eq_true, Bool.not_true, Bool.not_false, reduceIte, c1, s1, hp, l1, l2, decide_true, id_eq, beq_self_eq_true, Bool.and_self]
  all_goals rfl
end K03

set_option maxHeartbeats 2000000
/-! a draw -/
namespace K03
open PySem PySem.Spec L2 Sd
def hand (ms : List Int) (i r : Int) : M := .l [.lst (ms.map D.int), .int i, .int r]
/-- after n draws at most -/
def Hd (ms : List Int) (n : Nat) (m : M) : Prop := ∃ i r : Int, m = hand ms i r ∧ 0 ≤ i ∧ i ≤ n ∧ 0 ≤ r
def setL2 (i : Nat) (fj : FE) (r : RV) (ρ1 : En) : Fl := (opt (escF r ρ1) ρ1).to fun p _ => (opt (lsF i p.2) p.2).to fun _ _ => (fj p.2).to fun s ρ3 => setK ρ3 p.1 (intD (rdF s ρ3)) (lsF i ρ3)
theorem e_setL {i : Nat} {fj fa : FE} {ρ : En} : sSetL i fj fa ρ = (fa ρ).to fun r ρ1 => setL2 i fj r ρ1 := rfl
theorem e_set1 {s : List (Option C1)} {a b c x : D} {k : Nat} : setL2 0 (fC (.int 1)) (.d x) ⟨some (.r 0) :: s, [.l [a, b, c]], k⟩ = .nx ⟨some (.r 0) :: s, [.l [a, x, c]], k⟩ := rfl
theorem e_set2 {s : List (Option C1)} {a b c x : D} {k : Nat} : setL2 0 (fC (.int 2)) (.d x) ⟨some (.r 0) :: s, [.l [a, b, c]], k⟩ = .nx ⟨some (.r 0) :: s, [.l [a, b, x]], k⟩ := rfl
theorem i0 {a b c : D} : oIx (.lst [a, b, c]) (.int 0) = some (.d a) := rfl
theorem i1 {a b c : D} : oIx (.lst [a, b, c]) (.int 1) = some (.d b) := rfl
theorem i2 {a b c : D} : oIx (.lst [a, b, c]) (.int 2) = some (.d c) := rfl
theorem cl1 {xs : List D} {ms : List M} : closedB 1 (List.take 1 (.l xs :: ms)) = true := rfl
theorem tk1 {m : M} : List.take 1 [m] = [m] := rfl
theorem mod_i {p b : Int} (h : 0 < b) : oMod (.int p) (.int b) = some (.d (.int (p % b))) := if_pos (decide_eq_true h)
theorem div_i {p b : Int} (h : 0 < b) (h2 : b < 1073741824) : oDiv (.int p) (.int b) = some (.d (.int (p / b))) := if_pos (by unfold bDiv; rw [decide_eq_true h, decide_eq_true h2]; rfl)
theorem mul_l {c x : Int} (h : -(2 ^ 64) < c ∧ c < 2 ^ 64) : oMulS (.int c) (.int x) = some (.d (.int (c * x))) := if_pos (by unfold bMul; rw [decide_eq_true h.1, decide_eq_true h.2]; rfl)
theorem mul_r {c x : Int} (h : -(2 ^ 64) < x ∧ x < 2 ^ 64) : oMulS (.int c) (.int x) = some (.d (.int (c * x))) := if_pos (by unfold bMul; rw [decide_eq_true h.1, decide_eq_true h.2, Bool.and_self, Bool.or_true])
theorem pow_i {x : Int} {n : Nat} (h0 : 0 ≤ x) (h : x < 2 ^ 64) (hn : n ≤ 1000000) : oPow (.int x) (.int (n : Nat)) = some (.d (.int (x ^ n))) := if_pos (by
  unfold bPow
  rw [decide_eq_true (Int.natCast_nonneg n), decide_eq_true (show ((n : Nat) : Int) ≤ 1000000 by omega), decide_eq_true (show x.natAbs < 2 ^ 64 by omega)]
  rfl)
theorem pow5 {x : Int} (h0 : 0 ≤ x) (h : x < 2 ^ 64) : oPow (.int x) (.int 5) = some (.d (.int (x ^ 5))) := pow_i (n := 5) h0 h (by decide)
theorem pow3 {x : Int} (h0 : 0 ≤ x) (h : x < 2 ^ 64) : oPow (.int x) (.int 3) = some (.d (.int (x ^ 3))) := pow_i (n := 3) h0 h (by decide)
theorem pow18 : oPow (.int 10) (.int 18) = some (.d (.int 1000000000000000000)) := rfl
theorem abs_i {p : Int} : oAbs [.int p] = some (.d (.int (if p < 0 then -p else p))) := rfl
theorem ge_i {p q : Int} : oGe (.int p) (.int q) = some (.d (.bl (decide (q ≤ p)))) := rfl
def f_take_rest : FS := (sSeq (sAsg 4 (fOp oMod (fCB oIntU (rC (fOp oPow (fOp oAdd (fOp oAdd (fOp oAdd (fOp oMod (fCB oIntU (rC (fVar 3) rN)) (fC (.int 2147483563))) (fOp oMulS (fC (.int 40037)) (fVar 2))) (fOp oMulS (fOp oMulS (fC (.int 5)) (fVar 2)) (fVar 2))) (fC (.int 29))) (fC (.int 5))) rN)) (fC (.int 2147483629)))) (sSeq (sAsg 4 (fOp oMod (fCB oIntU (rC (fOp oPow (fOp oAdd (fOp oAdd (fOp oMulS (fVar 4) (fOp oAdd (fOp oMulS (fC (.int 2)) (fVar 2)) (fC (.int 53)))) (fOp oMulS (fC (.int 30047)) (fVar 2))) (fC (.int 11))) (fC (.int 3))) rN)) (fC (.int 2147483587)))) (sRet (fOp oMod (fCB oIntU (rC (fOp oDiv (fVar 4) (fC (.int 16))) rN)) (fVar 1)))))
def f_take_tail : FS := (sSeq (sIf (tAn (tB (fOp oLt (fVar 2) (fCB oLen (rC (fOp oIx (fVar 0) (fC (.int 0))) rN)))) (tB (fOp oGe (fCB oAbs (rC (fVar 3) rN)) (fOp oPow (fC (.int 10)) (fC (.int 18)))))) (sSeq (sAsg 6 (fOp oAdd (fOp oMulS (fC (.int 2)) (fOp oSub (fCB oAbs (rC (fVar 3) rN)) (fOp oPow (fC (.int 10)) (fC (.int 18))))) (fCB oIntU (rC (fOp oLt (fVar 3) (fC (.int 0))) rN)))) (sSeq (sSetL 0 (fC (.int 2)) (fOp oDiv (fVar 6) (fVar 1))) (sRet (fOp oMod (fCB oIntU (rC (fVar 6) rN)) (fVar 1))))) sN) f_take_rest)
def f_take' : FS := (sSeq (sIf (tB (fOp oGt (fOp oIx (fVar 0) (fC (.int 2))) (fC (.int 0)))) (sSeq (sAsg 5 (fOp oMod (fCB oIntU (rC (fOp oIx (fVar 0) (fC (.int 2))) rN)) (fVar 1))) (sSeq (sSetL 0 (fC (.int 2)) (fOp oDiv (fOp oIx (fVar 0) (fC (.int 2))) (fVar 1))) (sRet (fVar 5)))) sN) (sSeq (sAsg 2 (fOp oIx (fVar 0) (fC (.int 1)))) (sSeq (sSetL 0 (fC (.int 1)) (fOp oAdd (fVar 2) (fC (.int 1)))) (sSeq (sAsg 3 (fOp oAdd (fOp oMulS (fC (.int 40037)) (fVar 2)) (fC (.int 29)))) (sSeq (sIf (tB (fOp (oEq not) (fOp oIx (fVar 0) (fC (.int 0))) (fLst aN))) (sAsg 3 (fOp oIx (fOp oIx (fVar 0) (fC (.int 0))) (fOp oMod (fCB oIntU (rC (fVar 2) rN)) (fCB oLen (rC (fOp oIx (fVar 0) (fC (.int 0))) rN))))) sN) f_take_tail)))))
theorem f_take_eq : f_take = f_take' := rfl
theorem take_tail {ms : List Int} {b i p : Int} {n : Nat} (hb : 0 < b) (hb2 : b < 1073741824) (h0 : 0 ≤ i) (hi : i ≤ n) (hn : n ≤ 100000) :
    ∃ v m, endD (f_take_tail ⟨[some (.r 0), some (.p (.int b)), some (.p (.int i)), some (.p (.int p)), none, none, none], [hand ms (i + 1) 0], 1⟩) = .ok (.d (.int v)) [m] ∧ 0 ≤ v ∧ v < b ∧ Hd ms (n + 1) m := by
  unfold f_take_tail hand
  have fin : ∀ x : Int, 0 ≤ x % b ∧ x % b < b := fun x => ⟨Int.emod_nonneg _ (by omega), Int.emod_lt_of_pos _ hb⟩
  have hh : Hd ms (n + 1) (hand ms (i + 1) 0) := ⟨_, _, rfl, by omega, by omega, by omega⟩
  have tt : 0 ≤ i * i ∧ i * i ≤ 10000000000 := ⟨Int.mul_nonneg h0 h0, Int.le_trans (Int.mul_le_mul (show i ≤ 100000 by omega) (show i ≤ 100000 by omega) h0 (by decide)) (by decide)⟩
  -- the mixed way
  have mixed : ∃ v, endD (f_take_rest ⟨[some (.r 0), some (.p (.int b)), some (.p (.int i)), some (.p (.int p)), none, none, none], [.l [.lst (ms.map D.int), .int (i + 1), .int 0]], 1⟩) = .ok (.d (.int v)) [hand ms (i + 1) 0] ∧ 0 ≤ v ∧ v < b := by
    have c0 := Int.emod_nonneg p (show (2147483563 : Int) ≠ 0 by decide)
    have c1 := Int.emod_lt_of_pos p (show (0 : Int) < 2147483563 by decide)
    have m1 : ∀ x : Int, oMulS (.int 40037) (.int x) = some (.d (.int (40037 * x))) := fun x => mul_l (by decide)
    have m2 : ∀ x : Int, oMulS (.int 5) (.int x) = some (.d (.int (5 * x))) := fun x => mul_l (by decide)
    have m3 : ∀ x : Int, oMulS (.int x) (.int i) = some (.d (.int (x * i))) := fun x => mul_r (by omega)
    have m4 : ∀ x : Int, oMulS (.int 2) (.int x) = some (.d (.int (2 * x))) := fun x => mul_l (by decide)
    have m5 : ∀ x : Int, oMulS (.int 30047) (.int x) = some (.d (.int (30047 * x))) := fun x => mul_l (by decide)
    have e5 : 5 * i * i = 5 * (i * i) := Int.mul_assoc _ _ _
    have q1 : oPow (.int (p % 2147483563 + 40037 * i + 5 * i * i + 29)) (.int 5) = some (.d (.int ((p % 2147483563 + 40037 * i + 5 * i * i + 29) ^ 5))) := pow5 (by rw [e5]; omega) (by rw [e5]; omega)
    obtain ⟨m, em⟩ : ∃ m : Int, m = (p % 2147483563 + 40037 * i + 5 * i * i + 29) ^ 5 % 2147483629 := ⟨_, rfl⟩
    have m0 : 0 ≤ m := em ▸ Int.emod_nonneg _ (by decide)
    have mm : m < 2147483629 := em ▸ Int.emod_lt_of_pos _ (by decide)
    have y0 : 0 ≤ m * (2 * i + 53) := Int.mul_nonneg m0 (by omega)
    have y1 : m * (2 * i + 53) ≤ 2147483629 * 200053 := Int.le_trans (Int.mul_le_mul (Int.le_of_lt mm) (show 2 * i + 53 ≤ 200053 by omega) (by omega) (by decide)) (by decide)
    have m6 : ∀ x : Int, oMulS (.int m) (.int x) = some (.d (.int (m * x))) := fun x => mul_l (by omega)
    have q2 : oPow (.int (m * (2 * i + 53) + 30047 * i + 11)) (.int 3) = some (.d (.int ((m * (2 * i + 53) + 30047 * i + 11) ^ 3))) := pow3 (by omega) (by omega)
    have d1 : ∀ x : Int, oMod (.int x) (.int 2147483563) = some (.d (.int (x % 2147483563))) := fun x => mod_i (by decide)
    have d2 : ∀ x : Int, oMod (.int x) (.int 2147483629) = some (.d (.int (x % 2147483629))) := fun x => mod_i (by decide)
    have d3 : ∀ x : Int, oMod (.int x) (.int 2147483587) = some (.d (.int (x % 2147483587))) := fun x => mod_i (by decide)
    have d4 : ∀ x : Int, oMod (.int x) (.int b) = some (.d (.int (x % b))) := fun x => mod_i hb
    have d5 : ∀ x : Int, oDiv (.int x) (.int 16) = some (.d (.int (x / 16))) := fun x => div_i (by decide) (by decide)
    unfold f_take_rest
    refine ⟨((m * (2 * i + 53) + 30047 * i + 11) ^ 3 % 2147483587) / 16 % b, ?_, fin _⟩
    simp only [e_bo, e_bx, e_bn, e_to, e_tx, e_qn, e_qr, e_qx, e_os, e_c, e_v, e_vp, e_vr, e_ad, e_an, e_ar, e_set, e_add, e_put, e_op, e_a2, e_un, e_a1, e_rd, e_rn, e_rm, e_rr, e_fl, e_fz, e_ed, e_en, e_em, e_er, e_mz, e_ml, e_aN, e_aC, e_rN, e_rC, e_co, e_l0, e_l1, e_lc, e_cb, e_aL, e_cN, e_cD, e_cR, e_fr, e_fd, e_fr', e_fd', e_lst, e_tup, e_tb, e_ab, e_tA, e_tO, e_tN, e_fI, e_i2, e_ch, e_bk, e_and, e_or, e_not, e_sm, e_sk, e_oN, e_oS, e_iK, e_sl, e_aS, e_ll, e_rv, e_rk, e_sS, e_sI, e_sN, e_sD, e_sR, e_rO, e_rV, e_rVn, e_rVr, e_sA, e_sG, e_oF, e_gN, e_g0, e_g1, e_gT, e_sE, e_au, e_ii, e_ao, e_z, e_cX, e_cM, e_nk, e_c0, e_t0, e_er0, e_en0, e_ex0, o_add_i, o_int_b, o_int_i, o_lt_i, o_is_n, o_eq_s, o_eq_b, o_len_l, o_sub_i, o_gt_i, z0, z1, z2, z3, z4, o_ix_t0, o_ix_t1, o_ix_l0, o_ix_l1, List.getElem?_cons_zero, List.getElem?_cons_succ, List.set_cons_zero, List.set_cons_succ, List.nil_append, List.cons_append, List.length_map, List.length_cons, List.length_nil, Nat.zero_add, Nat.reduceAdd, if_true, if_false, Bool.false_eq_true, Bool.not_true, Bool.not_false, reduceIte, i0, i1, i2, d1, d2, d3, d4, d5, m1, m2, m3, m4, m5, q1, ← em, m6, q2, cl1, tk1]
    all_goals rfl
  have z : ∀ x : Int, oMod (.int x) (.int b) = some (.d (.int (x % b))) := fun x => mod_i hb
  simp only [e_bo, e_bx, e_bn, e_to, e_tx, e_qn, e_qr, e_qx, e_os, e_c, e_v, e_vp, e_vr, e_ad, e_an, e_ar, e_set, e_add, e_put, e_op, e_a2, e_un, e_a1, e_rd, e_rn, e_rm, e_rr, e_fl, e_fz, e_ed, e_en, e_em, e_er, e_mz, e_ml, e_aN, e_aC, e_rN, e_rC, e_co, e_l0, e_l1, e_lc, e_cb, e_aL, e_cN, e_cD, e_cR, e_fr, e_fd, e_fr', e_fd', e_lst, e_tup, e_tb, e_ab, e_tA, e_tO, e_tN, e_fI, e_i2, e_ch, e_bk, e_and, e_or, e_not, e_sm, e_sk, e_oN, e_oS, e_iK, e_sl, e_aS, e_ll, e_rv, e_rk, e_sS, e_sI, e_sN, e_sD, e_sR, e_rO, e_rV, e_rVn, e_rVr, e_sA, e_sG, e_oF, e_gN, e_g0, e_g1, e_gT, e_sE, e_au, e_ii, e_ao, e_z, e_cX, e_cM, e_nk, e_c0, e_t0, e_er0, e_en0, e_ex0, o_add_i, o_int_b, o_int_i, o_lt_i, o_is_n, o_eq_s, o_eq_b, o_len_l, o_sub_i, o_gt_i, z0, z1, z2, z3, z4, o_ix_t0, o_ix_t1, o_ix_l0, o_ix_l1, List.getElem?_cons_zero, List.getElem?_cons_succ, List.set_cons_zero, List.set_cons_succ, List.nil_append, List.cons_append, List.length_map, List.length_cons, List.length_nil, Nat.zero_add, Nat.reduceAdd, if_true, if_false, Bool.false_eq_true, Bool.not_true, Bool.not_false, reduceIte, i0, i1, i2, abs_i, ge_i, pow18]
  cases h1 : decide (i < ((ms.length : Nat) : Int)) with
  | false =>
    obtain ⟨v, h, hv⟩ := mixed
    refine ⟨v, _, ?_, hv.1, hv.2, hh⟩
    simp only [e_bo, e_bx, e_bn, e_to, e_tx, e_qn, e_qr, e_qx, e_os, e_c, e_v, e_vp, e_vr, e_ad, e_an, e_ar, e_set, e_add, e_put, e_op, e_a2, e_un, e_a1, e_rd, e_rn, e_rm, e_rr, e_fl, e_fz, e_ed, e_en, e_em, e_er, e_mz, e_ml, e_aN, e_aC, e_rN, e_rC, e_co, e_l0, e_l1, e_lc, e_cb, e_aL, e_cN, e_cD, e_cR, e_fr, e_fd, e_fr', e_fd', e_lst, e_tup, e_tb, e_ab, e_tA, e_tO, e_tN, e_fI, e_i2, e_ch, e_bk, e_and, e_or, e_not, e_sm, e_sk, e_oN, e_oS, e_iK, e_sl, e_aS, e_ll, e_rv, e_rk, e_sS, e_sI, e_sN, e_sD, e_sR, e_rO, e_rV, e_rVn, e_rVr, e_sA, e_sG, e_oF, e_gN, e_g0, e_g1, e_gT, e_sE, e_au, e_ii, e_ao, e_z, e_cX, e_cM, e_nk, e_c0, e_t0, e_er0, e_en0, e_ex0, o_add_i, o_int_b, o_int_i, o_lt_i, o_is_n, o_eq_s, o_eq_b, o_len_l, o_sub_i, o_gt_i, z0, z1, z2, z3, z4, o_ix_t0, o_ix_t1, o_ix_l0, o_ix_l1, List.getElem?_cons_zero, List.getElem?_cons_succ, List.set_cons_zero, List.set_cons_succ, List.nil_append, List.cons_append, List.length_map, List.length_cons, List.length_nil, Nat.zero_add, Nat.reduceAdd, if_true, if_false, Bool.false_eq_true, Bool.not_true, Bool.not_false, reduceIte, h1]
    exact h
  | true =>
    simp only [e_bo, e_bx, e_bn, e_to, e_tx, e_qn, e_qr, e_qx, e_os, e_c, e_v, e_vp, e_vr, e_ad, e_an, e_ar, e_set, e_add, e_put, e_op, e_a2, e_un, e_a1, e_rd, e_rn, e_rm, e_rr, e_fl, e_fz, e_ed, e_en, e_em, e_er, e_mz, e_ml, e_aN, e_aC, e_rN, e_rC, e_co, e_l0, e_l1, e_lc, e_cb, e_aL, e_cN, e_cD, e_cR, e_fr, e_fd, e_fr', e_fd', e_lst, e_tup, e_tb, e_ab, e_tA, e_tO, e_tN, e_fI, e_i2, e_ch, e_bk, e_and, e_or, e_not, e_sm, e_sk, e_oN, e_oS, e_iK, e_sl, e_aS, e_ll, e_rv, e_rk, e_sS, e_sI, e_sN, e_sD, e_sR, e_rO, e_rV, e_rVn, e_rVr, e_sA, e_sG, e_oF, e_gN, e_g0, e_g1, e_gT, e_sE, e_au, e_ii, e_ao, e_z, e_cX, e_cM, e_nk, e_c0, e_t0, e_er0, e_en0, e_ex0, o_add_i, o_int_b, o_int_i, o_lt_i, o_is_n, o_eq_s, o_eq_b, o_len_l, o_sub_i, o_gt_i, z0, z1, z2, z3, z4, o_ix_t0, o_ix_t1, o_ix_l0, o_ix_l1, List.getElem?_cons_zero, List.getElem?_cons_succ, List.set_cons_zero, List.set_cons_succ, List.nil_append, List.cons_append, List.length_map, List.length_cons, List.length_nil, Nat.zero_add, Nat.reduceAdd, if_true, if_false, Bool.false_eq_true, Bool.not_true, Bool.not_false, reduceIte, h1, abs_i, pow18, ge_i]
    cases h2 : decide ((1000000000000000000 : Int) ≤ (if p < 0 then -p else p)) with
    | false =>
      obtain ⟨v, h, hv⟩ := mixed
      refine ⟨v, _, ?_, hv.1, hv.2, hh⟩
      simp only [e_bo, e_bx, e_bn, e_to, e_tx, e_qn, e_qr, e_qx, e_os, e_c, e_v, e_vp, e_vr, e_ad, e_an, e_ar, e_set, e_add, e_put, e_op, e_a2, e_un, e_a1, e_rd, e_rn, e_rm, e_rr, e_fl, e_fz, e_ed, e_en, e_em, e_er, e_mz, e_ml, e_aN, e_aC, e_rN, e_rC, e_co, e_l0, e_l1, e_lc, e_cb, e_aL, e_cN, e_cD, e_cR, e_fr, e_fd, e_fr', e_fd', e_lst, e_tup, e_tb, e_ab, e_tA, e_tO, e_tN, e_fI, e_i2, e_ch, e_bk, e_and, e_or, e_not, e_sm, e_sk, e_oN, e_oS, e_iK, e_sl, e_aS, e_ll, e_rv, e_rk, e_sS, e_sI, e_sN, e_sD, e_sR, e_rO, e_rV, e_rVn, e_rVr, e_sA, e_sG, e_oF, e_gN, e_g0, e_g1, e_gT, e_sE, e_au, e_ii, e_ao, e_z, e_cX, e_cM, e_nk, e_c0, e_t0, e_er0, e_en0, e_ex0, o_add_i, o_int_b, o_int_i, o_lt_i, o_is_n, o_eq_s, o_eq_b, o_len_l, o_sub_i, o_gt_i, z0, z1, z2, z3, z4, o_ix_t0, o_ix_t1, o_ix_l0, o_ix_l1, List.getElem?_cons_zero, List.getElem?_cons_succ, List.set_cons_zero, List.set_cons_succ, List.nil_append, List.cons_append, List.length_map, List.length_cons, List.length_nil, Nat.zero_add, Nat.reduceAdd, if_true, if_false, Bool.false_eq_true, Bool.not_true, Bool.not_false, reduceIte, h2]
      exact h
    | true =>
      have h2' := of_decide_eq_true h2
      have m4 : ∀ x : Int, oMulS (.int 2) (.int x) = some (.d (.int (2 * x))) := fun x => mul_l (by decide)
      have d5 : ∀ x : Int, oDiv (.int x) (.int b) = some (.d (.int (x / b))) := fun x => div_i hb hb2
      refine ⟨(2 * ((if p < 0 then -p else p) - 1000000000000000000) + (if decide (p < 0) = true then 1 else 0)) % b, hand ms (i + 1) ((2 * ((if p < 0 then -p else p) - 1000000000000000000) + (if decide (p < 0) = true then 1 else 0)) / b), ?_, (fin _).1, (fin _).2, _, _, rfl, by omega, by omega, Int.ediv_nonneg ?_ (by omega)⟩
      · simp only [e_bo, e_bx, e_bn, e_to, e_tx, e_qn, e_qr, e_qx, e_os, e_c, e_v, e_vp, e_vr, e_ad, e_an, e_ar, e_set, e_add, e_put, e_op, e_a2, e_un, e_a1, e_rd, e_rn, e_rm, e_rr, e_fl, e_fz, e_ed, e_en, e_em, e_er, e_mz, e_ml, e_aN, e_aC, e_rN, e_rC, e_co, e_l0, e_l1, e_lc, e_cb, e_aL, e_cN, e_cD, e_cR, e_fr, e_fd, e_fr', e_fd', e_lst, e_tup, e_tb, e_ab, e_tA, e_tO, e_tN, e_fI, e_i2, e_ch, e_bk, e_and, e_or, e_not, e_sm, e_sk, e_oN, e_oS, e_iK, e_sl, e_aS, e_ll, e_rv, e_rk, e_sS, e_sI, e_sN, e_sD, e_sR, e_rO, e_rV, e_rVn, e_rVr, e_sA, e_sG, e_oF, e_gN, e_g0, e_g1, e_gT, e_sE, e_au, e_ii, e_ao, e_z, e_cX, e_cM, e_nk, e_c0, e_t0, e_er0, e_en0, e_ex0, o_add_i, o_int_b, o_int_i, o_lt_i, o_is_n, o_eq_s, o_eq_b, o_len_l, o_sub_i, o_gt_i, z0, z1, z2, z3, z4, o_ix_t0, o_ix_t1, o_ix_l0, o_ix_l1, List.getElem?_cons_zero, List.getElem?_cons_succ, List.set_cons_zero, List.set_cons_succ, List.nil_append, List.cons_append, List.length_map, List.length_cons, List.length_nil, Nat.zero_add, Nat.reduceAdd, if_true, if_false, Bool.false_eq_true, Bool.not_true, Bool.not_false, reduceIte, h2, i0, i1, i2, abs_i, pow18, m4, d5, z, e_setL, e_set2, cl1, tk1]
        all_goals rfl
      · have s2 : 0 ≤ (if decide (p < 0) = true then (1 : Int) else 0) := by split <;> decide
        omega
theorem eq_ints {g : Bool → Bool} {ns : List Int} : oEq g (.lst (ns.map D.int)) (.lst []) = some (.d (.bl (g ns.isEmpty))) := by
  have e1 : D.py (.lst (ns.map D.int)) = some (.list (ns.map PyData.int)) := by
    show (D.pyAll (ns.map D.int)).map PyData.list = _
    rw [py_ints]
    rfl
  have e2 : PyData.eqv (.list (ns.map PyData.int)) (.list []) = ns.isEmpty := by cases ns <;> rfl
  have e3 : eqO (.lst (ns.map D.int)) (.lst []) = some ns.isEmpty := by
    show eqP _ _ = _
    unfold eqP
    rw [e1]
    show (if (SeqAt.shaped (.list (ns.map PyData.int)) && SeqAt.shaped (.list [])) = true then some (PyData.eqv (.list (ns.map PyData.int)) (.list [])) else none) = _
    rw [shaped_ints, e2]
    rfl
  unfold oEq
  rw [e3]
theorem take_ev {ms : List Int} {b : Int} {m : M} {n : Nat} (hm : Hd ms n m) (hb : 0 < b) (hb2 : b < 1073741824) (hn : n ≤ 100000) :
    ∃ v m', F_take [.r 0, .p (.int b)] [m] = .ok (.d (.int v)) [m'] ∧ 0 ≤ v ∧ v < b ∧ Hd ms (n + 1) m' := by
  obtain ⟨i, r, rfl, h0, hi, hr⟩ := hm
  have z : ∀ x : Int, oMod (.int x) (.int b) = some (.d (.int (x % b))) := fun x => mod_i hb
  have d5 : ∀ x : Int, oDiv (.int x) (.int b) = some (.d (.int (x / b))) := fun x => div_i hb hb2
  have m1 : ∀ x : Int, oMulS (.int 40037) (.int x) = some (.d (.int (40037 * x))) := fun x => mul_l (by decide)
  have key : ∀ v m', endD (f_take ⟨[some (.r 0), some (.p (.int b)), none, none, none, none, none], [hand ms i r], 1⟩) = .ok (.d (.int v)) [m'] → F_take [.r 0, .p (.int b)] [hand ms i r] = .ok (.d (.int v)) [m'] := fun _ _ h => h
  rw [f_take_eq] at key
  unfold f_take' hand at key
  cases h1 : decide (0 < r) with
  | true =>
    refine ⟨r % b, hand ms i (r / b), key _ _ ?_, Int.emod_nonneg _ (by omega), Int.emod_lt_of_pos _ hb, _, _, rfl, h0, by omega, Int.ediv_nonneg hr (by omega)⟩
    simp only [e_bo, e_bx, e_bn, e_to, e_tx, e_qn, e_qr, e_qx, e_os, e_c, e_v, e_vp, e_vr, e_ad, e_an, e_ar, e_set, e_add, e_put, e_op, e_a2, e_un, e_a1, e_rd, e_rn, e_rm, e_rr, e_fl, e_fz, e_ed, e_en, e_em, e_er, e_mz, e_ml, e_aN, e_aC, e_rN, e_rC, e_co, e_l0, e_l1, e_lc, e_cb, e_aL, e_cN, e_cD, e_cR, e_fr, e_fd, e_fr', e_fd', e_lst, e_tup, e_tb, e_ab, e_tA, e_tO, e_tN, e_fI, e_i2, e_ch, e_bk, e_and, e_or, e_not, e_sm, e_sk, e_oN, e_oS, e_iK, e_sl, e_aS, e_ll, e_rv, e_rk, e_sS, e_sI, e_sN, e_sD, e_sR, e_rO, e_rV, e_rVn, e_rVr, e_sA, e_sG, e_oF, e_gN, e_g0, e_g1, e_gT, e_sE, e_au, e_ii, e_ao, e_z, e_cX, e_cM, e_nk, e_c0, e_t0, e_er0, e_en0, e_ex0, o_add_i, o_int_b, o_int_i, o_lt_i, o_is_n, o_eq_s, o_eq_b, o_len_l, o_sub_i, o_gt_i, z0, z1, z2, z3, z4, o_ix_t0, o_ix_t1, o_ix_l0, o_ix_l1, List.getElem?_cons_zero, List.getElem?_cons_succ, List.set_cons_zero, List.set_cons_succ, List.nil_append, List.cons_append, List.length_map, List.length_cons, List.length_nil, Nat.zero_add, Nat.reduceAdd, if_true, if_false, Bool.false_eq_true, Bool.not_true, Bool.not_false, reduceIte, h1, i0, i1, i2, z, d5, e_setL, e_set2, cl1, tk1]
    all_goals rfl
  | false =>
    have r0 : r = 0 := by have := of_decide_eq_false h1; omega
    subst r0
    cases ms with
    | nil =>
      obtain ⟨v, m', e1, e2⟩ := take_tail (ms := []) (p := 40037 * i + 29) hb hb2 h0 hi hn
      refine ⟨v, m', key _ _ ?_, e2⟩
      have en : oEq not (.lst []) (.lst []) = some (.d (.bl false)) := rfl
      simp only [e_bo, e_bx, e_bn, e_to, e_tx, e_qn, e_qr, e_qx, e_os, e_c, e_v, e_vp, e_vr, e_ad, e_an, e_ar, e_set, e_add, e_put, e_op, e_a2, e_un, e_a1, e_rd, e_rn, e_rm, e_rr, e_fl, e_fz, e_ed, e_en, e_em, e_er, e_mz, e_ml, e_aN, e_aC, e_rN, e_rC, e_co, e_l0, e_l1, e_lc, e_cb, e_aL, e_cN, e_cD, e_cR, e_fr, e_fd, e_fr', e_fd', e_lst, e_tup, e_tb, e_ab, e_tA, e_tO, e_tN, e_fI, e_i2, e_ch, e_bk, e_and, e_or, e_not, e_sm, e_sk, e_oN, e_oS, e_iK, e_sl, e_aS, e_ll, e_rv, e_rk, e_sS, e_sI, e_sN, e_sD, e_sR, e_rO, e_rV, e_rVn, e_rVr, e_sA, e_sG, e_oF, e_gN, e_g0, e_g1, e_gT, e_sE, e_au, e_ii, e_ao, e_z, e_cX, e_cM, e_nk, e_c0, e_t0, e_er0, e_en0, e_ex0, o_add_i, o_int_b, o_int_i, o_lt_i, o_is_n, o_eq_s, o_eq_b, o_len_l, o_sub_i, o_gt_i, z0, z1, z2, z3, z4, o_ix_t0, o_ix_t1, o_ix_l0, o_ix_l1, List.getElem?_cons_zero, List.getElem?_cons_succ, List.set_cons_zero, List.set_cons_succ, List.nil_append, List.cons_append, List.length_map, List.length_cons, List.length_nil, Nat.zero_add, Nat.reduceAdd, if_true, if_false, Bool.false_eq_true, Bool.not_true, Bool.not_false, reduceIte, h1, i0, i1, i2, z, m1, e_setL, e_set1, en, List.map_nil]
      exact e1
    | cons c cs =>
      have hl : (0 : Int) < ((cs.length + 1 : Nat) : Int) := by omega
      have z2 : ∀ x : Int, oMod (.int x) (.int ((cs.length + 1 : Nat) : Int)) = some (.d (.int (x % ((cs.length + 1 : Nat) : Int)))) := fun x => mod_i hl
      obtain ⟨p, hp⟩ : ∃ p : Int, oIx (.lst (D.int c :: cs.map D.int)) (.int (i % ((cs.length + 1 : Nat) : Int))) = some (.d (.int p)) := by
        have j0 := Int.emod_nonneg i (show ((cs.length + 1 : Nat) : Int) ≠ 0 by omega)
        have j1 := Int.emod_lt_of_pos i hl
        obtain ⟨j, hj⟩ : ∃ j : Nat, (j : Int) = i % ((cs.length + 1 : Nat) : Int) := ⟨(i % ((cs.length + 1 : Nat) : Int)).toNat, Int.toNat_of_nonneg j0⟩
        have jl : j < (c :: cs).length := by rw [List.length_cons]; omega
        refine ⟨(c :: cs)[j], ?_⟩
        rw [← hj]
        show atF (D.int c :: cs.map D.int) j = _
        unfold atF atI ixN
        rw [if_pos (Int.natCast_nonneg j), if_pos (by rw [List.length_cons, List.length_map]; rw [List.length_cons] at jl; omega)]
        show (match ((c :: cs).map D.int)[((j : Nat) : Int).toNat]? with
          | some d => some (RV.d d)
          | none => none) = _
        rw [Int.toNat_natCast, List.getElem?_map, List.getElem?_eq_getElem jl]
        rfl
      obtain ⟨v, m', e1, e2⟩ := take_tail (ms := c :: cs) (p := p) hb hb2 h0 hi hn
      refine ⟨v, m', key _ _ ?_, e2⟩
      have en : oEq not (.lst (D.int c :: cs.map D.int)) (.lst []) = some (.d (.bl true)) := eq_ints (ns := c :: cs)
      simp only [e_bo, e_bx, e_bn, e_to, e_tx, e_qn, e_qr, e_qx, e_os, e_c, e_v, e_vp, e_vr, e_ad, e_an, e_ar, e_set, e_add, e_put, e_op, e_a2, e_un, e_a1, e_rd, e_rn, e_rm, e_rr, e_fl, e_fz, e_ed, e_en, e_em, e_er, e_mz, e_ml, e_aN, e_aC, e_rN, e_rC, e_co, e_l0, e_l1, e_lc, e_cb, e_aL, e_cN, e_cD, e_cR, e_fr, e_fd, e_fr', e_fd', e_lst, e_tup, e_tb, e_ab, e_tA, e_tO, e_tN, e_fI, e_i2, e_ch, e_bk, e_and, e_or, e_not, e_sm, e_sk, e_oN, e_oS, e_iK, e_sl, e_aS, e_ll, e_rv, e_rk, e_sS, e_sI, e_sN, e_sD, e_sR, e_rO, e_rV, e_rVn, e_rVr, e_sA, e_sG, e_oF, e_gN, e_g0, e_g1, e_gT, e_sE, e_au, e_ii, e_ao, e_z, e_cX, e_cM, e_nk, e_c0, e_t0, e_er0, e_en0, e_ex0, o_add_i, o_int_b, o_int_i, o_lt_i, o_is_n, o_eq_s, o_eq_b, o_len_l, o_sub_i, o_gt_i, z0, z1, z2, z3, z4, o_ix_t0, o_ix_t1, o_ix_l0, o_ix_l1, List.getElem?_cons_zero, List.getElem?_cons_succ, List.set_cons_zero, List.set_cons_succ, List.nil_append, List.cons_append, List.length_map, List.length_cons, List.length_nil, Nat.zero_add, Nat.reduceAdd, if_true, if_false, Bool.false_eq_true, Bool.not_true, Bool.not_false, reduceIte, h1, i0, i1, i2, z, m1, e_setL, e_set1, en, List.map_cons, z2, hp]
      exact e1
end K03

set_option maxHeartbeats 2000000
/-! good texts; calls that draw -/
namespace K03
open PySem PySem.Spec L2 Sd
theorem joinL_len (S : List Nat) : ∀ (ps : List (List Nat)), ∀ p ∈ ps, p.length ≤ (TL.joinL S ps).length ∧ ∀ c ∈ p, c ∈ TL.joinL S ps
  | [], p, h => nomatch h
  | [q], p, h => by
    rw [List.mem_singleton.mp h]
    exact ⟨Nat.le_refl _, fun c hc => hc⟩
  | q :: q2 :: r, p, h => by
    have e : TL.joinL S (q :: q2 :: r) = q ++ (S ++ TL.joinL S (q2 :: r)) := rfl
    rw [e]; rcases List.mem_cons.mp h with rfl | h
    · refine ⟨by rw [List.length_append]; omega, fun c hc => List.mem_append_left _ hc⟩
    · obtain ⟨h1, h2⟩ := joinL_len S (q2 :: r) p h
      refine ⟨by rw [List.length_append, List.length_append]; omega, fun c hc => List.mem_append_right _ (List.mem_append_right _ (h2 c hc))⟩
theorem okS_iff {w : Str} : okS w = true ↔ ∀ c ∈ TL.tl w, c < 0x110000 := by
  show PyData.strOk w = true ↔ _
  unfold PyData.strOk
  rw [← Array.all_toList, List.all_eq_true]; exact ⟨fun h c hc => of_decide_eq_true (h c hc), fun h c hc => decide_eq_true (h c hc)⟩
theorem gd_of {z : Str} (hl : z.length ≤ 1000000) (hk : okS z = true) : Gd z := by
  refine ⟨Nat.ble_eq_true_of_le (by omega), fun w hw => ?_⟩
  have e := StrLaws.join_split z " "
  have e2 := TL.tl_join " " (Txt.split z " ")
  rw [e] at e2
  obtain ⟨h1, h2⟩ := joinL_len (TL.tl " ") ((Txt.split z " ").map TL.tl) (TL.tl w) (List.mem_map.mpr ⟨w, hw, rfl⟩)
  rw [← e2] at h1 h2
  refine ⟨Nat.ble_eq_true_of_le ?_, okS_iff.mpr fun c hc => okS_iff.mp hk c (h2 c hc)⟩
  rw [TL.len_tl] at hl ⊢
  omega
/-- a good word -/
def Wd1 (w : Str) : Prop := w.length ≤ 10000 ∧ okS w = true
theorem gd_join {us : List Str} (hl : us.length ≤ 20) (hw : ∀ u ∈ us, Wd1 u) : Gd (Txt.join " " us) := by
  have key : ∀ us : List Str, (∀ u ∈ us, Wd1 u) → (TL.joinL (TL.tl " ") (us.map TL.tl)).length ≤ us.length * 10001 ∧ ∀ c ∈ TL.joinL (TL.tl " ") (us.map TL.tl), c < 0x110000 := by
    intro us
    induction us with
    | nil => exact fun _ => ⟨Nat.zero_le _, fun c hc => nomatch hc⟩
    | cons u us ih =>
      intro hw
      obtain ⟨w1, w2⟩ := hw u List.mem_cons_self
      obtain ⟨i1, i2⟩ := ih fun x hx => hw x (List.mem_cons_of_mem _ hx)
      rw [TL.len_tl] at w1
      cases us with
      | nil =>
        show (TL.tl u).length ≤ _ ∧ ∀ c ∈ TL.tl u, _
        exact ⟨by rw [List.length_cons]; omega, okS_iff.mp w2⟩
      | cons v vs =>
        have e : TL.joinL (TL.tl " ") ((u :: v :: vs).map TL.tl) = TL.tl u ++ ([32] ++ TL.joinL (TL.tl " ") ((v :: vs).map TL.tl)) := rfl
        rw [e]
        refine ⟨?_, fun c hc => ?_⟩
        · rw [List.length_append, List.length_append, List.length_cons (a := u)]
          have : ([32] : List Nat).length = 1 := rfl
          omega
        · rcases List.mem_append.mp hc with h | h
          · exact okS_iff.mp w2 c h
          · rcases (List.mem_append.mp h) with h | h
            · rw [List.mem_singleton.mp h]
              decide
            · exact i2 c h
  obtain ⟨k1, k2⟩ := key us hw
  have e : TL.tl (Txt.join " " us) = TL.joinL (TL.tl " ") (us.map TL.tl) := by rw [TL.join_eq, TL.tl_join]
  refine gd_of ?_ (okS_iff.mpr ?_)
  · rw [TL.len_tl, e]
    omega
  · rw [e]
    exact k2
/-- a call that gets the hand -/
theorem callF_h {F : FD} {ds : List D} {r : RV} {s : List (Option C1)} {xs ys : List D} {μ : List M} {k : Nat} (h : F (.r 0 :: ds.map .p) [.l xs] = .ok r [.l ys]) (hr : bkR [0] r = r) : callF F (.r 0 :: ds.map .p) ⟨s, .l xs :: μ, k⟩ = .ok r ⟨s, .l ys :: μ, k⟩ := by
  have e1 : lend (.l xs :: μ) (.r 0 :: ds.map .p) = [0] := by
    unfold lend
    show clo (.l xs :: μ) (μ.length + 1) 0 (addRs (.l xs :: μ) [0] (ds.map .p)) = _
    rw [addRs_p]
    show clo (.l xs :: μ) μ.length 1 [0] = _
    cases μ <;> rfl
  have e2 : okL (.l xs :: μ) (.r 0 :: ds.map .p) [0] = true := by
    unfold okL
    have e : (ds.map C1.p).all (refIn (.l xs :: μ) [0]) = true := by
      rw [List.all_map]
      exact List.all_eq_true.mpr fun d _ => rfl
    show (true && ((true && true) && (true && (ds.map C1.p).all (refIn (.l xs :: μ) [0])))) = true
    rw [e]
    rfl
  have e3 : (C1.r 0 :: ds.map C1.p).map (renC (.l xs :: μ) [0]) = .r 0 :: ds.map .p := by
    rw [List.map_cons, List.map_map]
    rfl
  unfold callF
  show (if okL (.l xs :: μ) (.r 0 :: ds.map .p) (lend (.l xs :: μ) (.r 0 :: ds.map .p)) = true then callR (lend (.l xs :: μ) (.r 0 :: ds.map .p)) _ (F ((.r 0 :: ds.map .p).map (renC (.l xs :: μ) (lend (.l xs :: μ) (.r 0 :: ds.map .p)))) (subM (.l xs :: μ) (lend (.l xs :: μ) (.r 0 :: ds.map .p)))) else .no) = _
  rw [e1, e2, if_pos rfl, e3]
  show callR [0] _ (F (.r 0 :: ds.map .p) [.l xs]) = _
  rw [h]
  show Ot.ok (bkR [0] r) (En.wm ⟨s, .l xs :: μ, k⟩ (wb [0] (.l xs :: μ) [0] [.l ys])) = _
  rw [hr]
  rfl
theorem take_call {ms : List Int} {b : Int} {m : M} {n : Nat} (hm : Hd ms n m) (hb : 0 < b) (hb2 : b < 1073741824) (hn : n ≤ 100000) :
    ∃ v m', (∀ (s : List (Option C1)) (μ : List M) (k : Nat), callF F_take [.r 0, .p (.int b)] ⟨s, m :: μ, k⟩ = .ok (.d (.int v)) ⟨s, m' :: μ, k⟩) ∧ 0 ≤ v ∧ v < b ∧ Hd ms (n + 1) m' := by
  obtain ⟨v, m', h1, h2, h3, h4⟩ := take_ev hm hb hb2 hn
  refine ⟨v, m', fun s μ k => ?_, h2, h3, h4⟩
  obtain ⟨i, r, rfl, _⟩ := hm
  obtain ⟨i', r', rfl, _⟩ := h4
  exact callF_h (ds := [.int b]) h1 rfl
theorem Hd.mono {ms : List Int} {m : M} {n n' : Nat} (h : Hd ms n m) (l : n ≤ n') : Hd ms n' m := by
  obtain ⟨i, r, e, h0, h1, h2⟩ := h
  exact ⟨i, r, e, h0, by omega, h2⟩
end K03

set_option maxHeartbeats 2000000
/-! the words of a drawn kind -/
namespace K03
open PySem PySem.Spec L2 Sd
theorem sel2 {x y : C1} : sel [x, y] [] [] [.a 0, .a 1] = [x, y] := rfl
theorem sel1 {x : C1} : sel [x] [] [] [.a 0] = [x] := rfl
theorem pick3 {x y z : D} {v : Int} (h0 : 0 ≤ v) (h1 : v < 3) : oIx (.lst [x, y, z]) (.int v) = some (.d x) ∨ oIx (.lst [x, y, z]) (.int v) = some (.d y) ∨ oIx (.lst [x, y, z]) (.int v) = some (.d z) := by
  have : v = 0 ∨ v = 1 ∨ v = 2 := by omega
  rcases this with rfl | rfl | rfl
  · exact .inl rfl
  · exact .inr (.inl rfl)
  · exact .inr (.inr rfl)
theorem pickL {v : Int} (h0 : 0 ≤ v) (h1 : v < 3) : ∃ a, a ∈ lendsL ∧ oIx (.lst [.str "one", .str "far", .str "both"]) (.int v) = some (.d (.str a)) := by
  rcases pick3 (x := .str "one") (y := .str "far") (z := .str "both") h0 h1 with h | h | h
  · exact ⟨"one", by decide +kernel, h⟩
  · exact ⟨"far", by decide +kernel, h⟩
  · exact ⟨"both", by decide +kernel, h⟩
theorem pickT {v : Int} (h0 : 0 ≤ v) (h1 : v < 3) : ∃ a, a ∈ letsL ∧ oIx (.lst [.str "any", .str "far", .str "both"]) (.int v) = some (.d (.str a)) := by
  rcases pick3 (x := .str "any") (y := .str "far") (z := .str "both") h0 h1 with h | h | h
  · exact ⟨"any", by decide +kernel, h⟩
  · exact ⟨"far", by decide +kernel, h⟩
  · exact ⟨"both", by decide +kernel, h⟩
theorem pickR {v u : Int} (h0 : 0 ≤ v) (h1 : v < 4) (u0 : 0 ≤ u) (u1 : u < 999999) : ∃ w : Int, oIx (.lst [.int 2, .int 10, .int 1000000, .int (2 + u)]) (.int v) = some (.d (.int w)) ∧ 2 ≤ w ∧ w ≤ 1000000 := by
  have : v = 0 ∨ v = 1 ∨ v = 2 ∨ v = 3 := by omega
  rcases this with rfl | rfl | rfl | rfl
  · exact ⟨2, rfl, by decide, by decide⟩
  · exact ⟨10, rfl, by decide, by decide⟩
  · exact ⟨1000000, rfl, by decide, by decide⟩
  · exact ⟨2 + u, rfl, by omega, by omega⟩
theorem addS {x y : Str} (h : szB (x.length + y.length) = true) : oAdd (.str x) (.str y) = some (.d (.str (x ++ y))) := if_pos h
theorem e_app {s0 s2 : Option C1} {m : M} {xs : List D} {x : D} {k : Nat} : fApp 1 (fC x) ⟨[s0, some (.r 1), s2], [m, .l xs], k⟩ = if szB (xs.length + 1) = true then .ok (.d .non) ⟨[s0, some (.r 1), s2], [m, .l (xs ++ [x])], k⟩ else .no := rfl
theorem e_nf {l k : Nat} {xs : List D} : normF l k (some (.l xs)) = some (if Nat.ble k l = true then .n (.l xs) else .r l) := rfl
theorem b11 : Nat.ble 1 1 = true := rfl
theorem b12 : Nat.ble 1 2 = true := rfl
theorem tkM {m : M} {μ : List M} : List.take 1 (m :: μ) = [m] := rfl
theorem Hd.cl {ms : List Int} {m : M} {n : Nat} (h : Hd ms n m) : closedB 1 [m] = true := by
  obtain ⟨i, r, rfl, _⟩ := h
  rfl
theorem len_l : ∀ a ∈ lendsL, a.length ≤ 4 := by decide +kernel
theorem len_t : ∀ a ∈ letsL, a.length ≤ 4 := by decide +kernel
def tW (t : Bool) : List Str := if t = true then ["turns"] else []
def rW : D → List Str
  | .int v => ["rests", toString v]
  | _ => []
def wordsOf (a b : Str) (t : Bool) (r : D) : List Str := (a ++ "/" ++ b) :: (tW t ++ rW r)
theorem words_ev {ms : List Int} {m : M} {n : Nat} (hm : Hd ms n m) (hn : n ≤ 90000) :
    ∃ a b t r m', a ∈ lendsL ∧ b ∈ letsL ∧ okR r ∧ F_words [.r 0] [m] = .ok (.n (.l ((wordsOf a b t r).map D.str))) [m'] ∧ Hd ms (n + 6) m' := by
  obtain ⟨v1, m1, t1, v10, v11, h1⟩ := take_call (b := 3) hm (by decide) (by decide) (by omega)
  obtain ⟨v2, m2, t2, v20, v21, h2⟩ := take_call (b := 3) h1 (by decide) (by decide) (by omega)
  obtain ⟨v3, m3, t3, v30, v31, h3⟩ := take_call (b := 2) h2 (by decide) (by decide) (by omega)
  obtain ⟨v4, m4, t4, v40, v41, h4⟩ := take_call (b := 2) h3 (by decide) (by decide) (by omega)
  obtain ⟨v5, m5, t5, v50, v51, h5⟩ := take_call (b := 999999) h4 (by decide) (by decide) (by omega)
  obtain ⟨v6, m6, t6, v60, v61, h6⟩ := take_call (b := 4) h5 (by decide) (by decide) (by omega)
  obtain ⟨a, ha, pa⟩ := pickL v10 v11
  obtain ⟨b, hb, pb⟩ := pickT v20 v21
  obtain ⟨w, pw, w0, w1⟩ := pickR v60 v61 v50 v51
  have la := len_l a ha
  have lb := len_t b hb
  have a1 : oAdd (.str a) (.str "/") = some (.d (.str (a ++ "/"))) := addS (Nat.ble_eq_true_of_le (by have : ("/" : Str).length = 1 := rfl; omega))
  have a2 : oAdd (.str (a ++ "/")) (.str b) = some (.d (.str (a ++ "/" ++ b))) := addS (Nat.ble_eq_true_of_le (by rw [Str.length_append]; have : ("/" : Str).length = 1 := rfl; omega))
  have p6 : oPow (.int 10) (.int 6) = some (.d (.int 1000000)) := rfl
  have p7 : (1000000 : Int) - 1 = 999999 := rfl
  have os : oStr [.int w] = some (.d (.str (toString w))) := if_pos (log_int (by omega) w1)
  have d3 : ∀ x : Int, ∀ g : Bool → Bool, oEq g (.int x) (.int 0) = some (.d (.bl (g (x == 0)))) := fun _ _ => rfl
  have go : F_words [.r 0] [m] = endD (f_words ⟨[some (.r 0), none, none], [m], 1⟩) := rfl
  rw [go]
  unfold f_words
  simp only [e_bo, e_bx, e_bn, e_to, e_tx, e_qn, e_qr, e_qx, e_os, e_c, e_v, e_vp, e_vr, e_ad, e_an, e_ar, e_set, e_add, e_put, e_op, e_a2, e_un, e_a1, e_rd, e_rn, e_rm, e_rr, e_fl, e_fz, e_ed, e_en, e_em, e_er, e_mz, e_ml, e_aN, e_aC, e_rN, e_rC, e_co, e_l0, e_l1, e_lc, e_cb, e_aL, e_cN, e_cD, e_cR, e_fr, e_fd, e_fr', e_fd', e_lst, e_tup, e_tb, e_ab, e_tA, e_tO, e_tN, e_fI, e_i2, e_ch, e_bk, e_and, e_or, e_not, e_sm, e_sk, e_oN, e_oS, e_iK, e_sl, e_aS, e_ll, e_rv, e_rk, e_sS, e_sI, e_sN, e_sD, e_sR, e_rO, e_rV, e_rVn, e_rVr, e_sA, e_sG, e_oF, e_gN, e_g0, e_g1, e_gT, e_sE, e_au, e_ii, e_ao, e_z, e_cX, e_cM, e_nk, e_c0, e_t0, e_er0, e_en0, e_ex0, o_add_i, o_int_b, o_int_i, o_lt_i, o_is_n, o_eq_s, o_eq_b, o_len_l, o_sub_i, o_gt_i, z0, z1, z2, z3, z4, o_ix_t0, o_ix_t1, o_ix_l0, o_ix_l1, List.getElem?_cons_zero, List.getElem?_cons_succ, List.set_cons_zero, List.set_cons_succ, List.nil_append, List.cons_append, List.length_map, List.length_cons, List.length_nil, Nat.zero_add, Nat.reduceAdd, if_true, if_false, Bool.false_eq_true, Bool.not_true, Bool.not_false, reduceIte, sel2, t1, pa, a1, t2, pb, a2, t3, d3, beq_self_eq_true, Bool.and_self, id_eq]
  cases k3 : v3 == 0 <;> cases k4 : v4 == 0
  · refine ⟨a, b, false, .non, m4, ha, hb, .inl rfl, ?_, h4.mono (by omega)⟩
    simp only [e_bo, e_bx, e_bn, e_to, e_tx, e_qn, e_qr, e_qx, e_os, e_c, e_v, e_vp, e_vr, e_ad, e_an, e_ar, e_set, e_add, e_put, e_op, e_a2, e_un, e_a1, e_rd, e_rn, e_rm, e_rr, e_fl, e_fz, e_ed, e_en, e_em, e_er, e_mz, e_ml, e_aN, e_aC, e_rN, e_rC, e_co, e_l0, e_l1, e_lc, e_cb, e_aL, e_cN, e_cD, e_cR, e_fr, e_fd, e_fr', e_fd', e_lst, e_tup, e_tb, e_ab, e_tA, e_tO, e_tN, e_fI, e_i2, e_ch, e_bk, e_and, e_or, e_not, e_sm, e_sk, e_oN, e_oS, e_iK, e_sl, e_aS, e_ll, e_rv, e_rk, e_sS, e_sI, e_sN, e_sD, e_sR, e_rO, e_rV, e_rVn, e_rVr, e_sA, e_sG, e_oF, e_gN, e_g0, e_g1, e_gT, e_sE, e_au, e_ii, e_ao, e_z, e_cX, e_cM, e_nk, e_c0, e_t0, e_er0, e_en0, e_ex0, o_add_i, o_int_b, o_int_i, o_lt_i, o_is_n, o_eq_s, o_eq_b, o_len_l, o_sub_i, o_gt_i, z0, z1, z2, z3, z4, o_ix_t0, o_ix_t1, o_ix_l0, o_ix_l1, List.getElem?_cons_zero, List.getElem?_cons_succ, List.set_cons_zero, List.set_cons_succ, List.nil_append, List.cons_append, List.length_map, List.length_cons, List.length_nil, Nat.zero_add, Nat.reduceAdd, if_true, if_false, Bool.false_eq_true, Bool.not_true, Bool.not_false, reduceIte, k3, k4, sel2, t4, d3, beq_self_eq_true, Bool.and_self, id_eq, e_nf, b11, tkM, h4.cl]
    all_goals rfl
  · refine ⟨a, b, false, .int w, m6, ha, hb, .inr ⟨w, rfl, w0, w1⟩, ?_, h6.mono (by omega)⟩
    have a3 : ∀ x y z : D, oAdd (.lst [x]) (.lst [y, z]) = some (.n (.l [x, y, z])) := fun _ _ _ => rfl
    simp only [e_bo, e_bx, e_bn, e_to, e_tx, e_qn, e_qr, e_qx, e_os, e_c, e_v, e_vp, e_vr, e_ad, e_an, e_ar, e_set, e_add, e_put, e_op, e_a2, e_un, e_a1, e_rd, e_rn, e_rm, e_rr, e_fl, e_fz, e_ed, e_en, e_em, e_er, e_mz, e_ml, e_aN, e_aC, e_rN, e_rC, e_co, e_l0, e_l1, e_lc, e_cb, e_aL, e_cN, e_cD, e_cR, e_fr, e_fd, e_fr', e_fd', e_lst, e_tup, e_tb, e_ab, e_tA, e_tO, e_tN, e_fI, e_i2, e_ch, e_bk, e_and, e_or, e_not, e_sm, e_sk, e_oN, e_oS, e_iK, e_sl, e_aS, e_ll, e_rv, e_rk, e_sS, e_sI, e_sN, e_sD, e_sR, e_rO, e_rV, e_rVn, e_rVr, e_sA, e_sG, e_oF, e_gN, e_g0, e_g1, e_gT, e_sE, e_au, e_ii, e_ao, e_z, e_cX, e_cM, e_nk, e_c0, e_t0, e_er0, e_en0, e_ex0, o_add_i, o_int_b, o_int_i, o_lt_i, o_is_n, o_eq_s, o_eq_b, o_len_l, o_sub_i, o_gt_i, z0, z1, z2, z3, z4, o_ix_t0, o_ix_t1, o_ix_l0, o_ix_l1, List.getElem?_cons_zero, List.getElem?_cons_succ, List.set_cons_zero, List.set_cons_succ, List.nil_append, List.cons_append, List.length_map, List.length_cons, List.length_nil, Nat.zero_add, Nat.reduceAdd, if_true, if_false, Bool.false_eq_true, Bool.not_true, Bool.not_false, reduceIte, k3, k4, sel2, t4, d3, beq_self_eq_true, Bool.and_self, id_eq, p6, p7, t5, t6, pw, os, a3, e_nf, b12, tkM, h6.cl]
    all_goals rfl
  · refine ⟨a, b, true, .non, m4, ha, hb, .inl rfl, ?_, h4.mono (by omega)⟩
    simp only [e_bo, e_bx, e_bn, e_to, e_tx, e_qn, e_qr, e_qx, e_os, e_c, e_v, e_vp, e_vr, e_ad, e_an, e_ar, e_set, e_add, e_put, e_op, e_a2, e_un, e_a1, e_rd, e_rn, e_rm, e_rr, e_fl, e_fz, e_ed, e_en, e_em, e_er, e_mz, e_ml, e_aN, e_aC, e_rN, e_rC, e_co, e_l0, e_l1, e_lc, e_cb, e_aL, e_cN, e_cD, e_cR, e_fr, e_fd, e_fr', e_fd', e_lst, e_tup, e_tb, e_ab, e_tA, e_tO, e_tN, e_fI, e_i2, e_ch, e_bk, e_and, e_or, e_not, e_sm, e_sk, e_oN, e_oS, e_iK, e_sl, e_aS, e_ll, e_rv, e_rk, e_sS, e_sI, e_sN, e_sD, e_sR, e_rO, e_rV, e_rVn, e_rVr, e_sA, e_sG, e_oF, e_gN, e_g0, e_g1, e_gT, e_sE, e_au, e_ii, e_ao, e_z, e_cX, e_cM, e_nk, e_c0, e_t0, e_er0, e_en0, e_ex0, o_add_i, o_int_b, o_int_i, o_lt_i, o_is_n, o_eq_s, o_eq_b, o_len_l, o_sub_i, o_gt_i, z0, z1, z2, z3, z4, o_ix_t0, o_ix_t1, o_ix_l0, o_ix_l1, List.getElem?_cons_zero, List.getElem?_cons_succ, List.set_cons_zero, List.set_cons_succ, List.nil_append, List.cons_append, List.length_map, List.length_cons, List.length_nil, Nat.zero_add, Nat.reduceAdd, if_true, if_false, Bool.false_eq_true, Bool.not_true, Bool.not_false, reduceIte, k3, k4, sel2, t4, d3, beq_self_eq_true, Bool.and_self, id_eq, e_app, e_nf, b11, tkM, h4.cl]
    all_goals rfl
  · refine ⟨a, b, true, .int w, m6, ha, hb, .inr ⟨w, rfl, w0, w1⟩, ?_, h6.mono (by omega)⟩
    have a3 : ∀ u x y z : D, oAdd (.lst [u, x]) (.lst [y, z]) = some (.n (.l [u, x, y, z])) := fun _ _ _ _ => rfl
    simp only [e_bo, e_bx, e_bn, e_to, e_tx, e_qn, e_qr, e_qx, e_os, e_c, e_v, e_vp, e_vr, e_ad, e_an, e_ar, e_set, e_add, e_put, e_op, e_a2, e_un, e_a1, e_rd, e_rn, e_rm, e_rr, e_fl, e_fz, e_ed, e_en, e_em, e_er, e_mz, e_ml, e_aN, e_aC, e_rN, e_rC, e_co, e_l0, e_l1, e_lc, e_cb, e_aL, e_cN, e_cD, e_cR, e_fr, e_fd, e_fr', e_fd', e_lst, e_tup, e_tb, e_ab, e_tA, e_tO, e_tN, e_fI, e_i2, e_ch, e_bk, e_and, e_or, e_not, e_sm, e_sk, e_oN, e_oS, e_iK, e_sl, e_aS, e_ll, e_rv, e_rk, e_sS, e_sI, e_sN, e_sD, e_sR, e_rO, e_rV, e_rVn, e_rVr, e_sA, e_sG, e_oF, e_gN, e_g0, e_g1, e_gT, e_sE, e_au, e_ii, e_ao, e_z, e_cX, e_cM, e_nk, e_c0, e_t0, e_er0, e_en0, e_ex0, o_add_i, o_int_b, o_int_i, o_lt_i, o_is_n, o_eq_s, o_eq_b, o_len_l, o_sub_i, o_gt_i, z0, z1, z2, z3, z4, o_ix_t0, o_ix_t1, o_ix_l0, o_ix_l1, List.getElem?_cons_zero, List.getElem?_cons_succ, List.set_cons_zero, List.set_cons_succ, List.nil_append, List.cons_append, List.length_map, List.length_cons, List.length_nil, Nat.zero_add, Nat.reduceAdd, if_true, if_false, Bool.false_eq_true, Bool.not_true, Bool.not_false, reduceIte, k3, k4, sel2, t4, d3, beq_self_eq_true, Bool.and_self, id_eq, e_app, p6, p7, t5, t6, pw, os, a3, e_nf, b12, tkM, h6.cl]
    all_goals rfl
end K03

set_option maxHeartbeats 4000000
/-! words that are bent -/
namespace K03
open PySem PySem.Spec L2 Sd
theorem fold_arr (a : Array Nat) : ∀ (k : Nat) (acc : Array Nat), ((List.replicate k a).foldl (· ++ ·) acc).size = acc.size + k * a.size ∧ ∀ c ∈ ((List.replicate k a).foldl (· ++ ·) acc).toList, c ∈ acc.toList ∨ c ∈ a.toList
  | 0, acc => ⟨by show acc.size = _; omega, fun c h => .inl h⟩
  | k + 1, acc => by
    show ((List.replicate k a).foldl (· ++ ·) (acc ++ a)).size = _ ∧ ∀ c ∈ ((List.replicate k a).foldl (· ++ ·) (acc ++ a)).toList, _
    obtain ⟨h1, h2⟩ := fold_arr a k (acc ++ a)
    refine ⟨?_, fun c hc => ?_⟩
    · rw [h1, Array.size_append, Nat.succ_mul]
      omega
    · rcases h2 c hc with h | h
      · rw [Array.toList_append] at h
        exact List.mem_append.mp h
      · exact .inr h
theorem wd_mul {x : Str} {k : Nat} (h1 : 1 < k) (h2 : x.length ≠ 0) (h3 : k * x.length ≤ 10000) (hx : okS x = true) : Wd1 (Txt.mul x k) ∧ (Txt.mul x k).length = k * x.length := by
  have e : Txt.mul x k = ⟨(List.replicate k x.cps).foldl (· ++ ·) #[]⟩ := by
    unfold Txt.mul
    rw [if_neg (show ¬ (k : Int) < 1 by omega), if_neg (show ¬ (((k : Int) == 1 || x.length == 0) = true) by
      intro z
      rcases Bool.or_eq_true_iff.mp z with z | z
      · have := beq_iff_eq.mp z
        omega
      · exact h2 (beq_iff_eq.mp z)), Int.toNat_natCast]
  obtain ⟨f1, f2⟩ := fold_arr x.cps k #[]
  have l : (Txt.mul x k).length = k * x.length := by
    rw [e]
    show ((List.replicate k x.cps).foldl (· ++ ·) #[]).size = _
    rw [f1]
    show 0 + k * x.cps.size = k * x.cps.size
    omega
  refine ⟨⟨by rw [l]; exact h3, okS_iff.mpr fun c hc => ?_⟩, l⟩
  rw [e] at hc
  rcases f2 c hc with h | h
  · exact absurd h (by simp)
  · exact okS_iff.mp hx c h
@[irreducible] def nn (x : Str) (k : Nat) : Str := Txt.mul x (k : Int)
theorem nn_eq (x : Str) (k : Nat) : nn x k = Txt.mul x (k : Int) := by unfold nn; rfl
abbrev n9 : Str := nn "9" 5000
abbrev n0 : Str := nn "0" 4400
theorem nn_w {x : Str} {k : Nat} (h1 : 1 < k) (h2 : x.length ≠ 0) (h3 : k * x.length ≤ 10000) (hx : okS x = true) : Wd1 (nn x k) ∧ (nn x k).length = k * x.length := by
  rw [nn_eq]
  exact wd_mul h1 h2 h3 hx
theorem mul_nn {x : Str} {k : Nat} (h : decide (PySem.MulOk x (k : Int)) = true) : oMulS (.str x) (.int (k : Nat)) = some (.d (.str (nn x k))) := by
  rw [nn_eq]
  exact if_pos h
theorem mulOk1 {x : Str} {k : Nat} (h1 : x.length = 1) (h2 : 1 < k) (h3 : k ≤ 10000) : PySem.MulOk x (k : Int) := by
  refine ⟨?_, fun _ _ => ?_, fun _ _ => ?_⟩
  · rw [decide_eq_false (show ¬ ((k : Int) < -(2 ^ 63 : Int)) by omega), decide_eq_false (show ¬ ((k : Int) ≥ 2 ^ 63) by omega)]
    rfl
  · rw [h1]
    have : (1 : Int) ≤ (2 ^ 63 - 1) / (k : Int) := (Int.le_ediv_iff_mul_le (by omega)).mpr (by omega)
    show ¬ (((1 : Nat) : Int) > _)
    omega
  · rw [h1, Int.toNat_natCast, Nat.one_mul]
    exact decide_eq_false (by
      show ¬ k > sizeLine
      have := sizeLine_eq
      omega)
theorem n9_w : Wd1 n9 := (nn_w (x := "9") (k := 5000) (by decide) (by decide +kernel) (by decide +kernel) (by decide +kernel)).1
theorem n0_w : Wd1 n0 ∧ n0.length = 4400 * ("0" : Str).length := nn_w (x := "0") (k := 4400) (by decide) (by decide +kernel) (by decide +kernel) (by decide +kernel)
theorem m9 : oMulS (.str "9") (.int 5000) = some (.d (.str n9)) := mul_nn (k := 5000) (decide_eq_true (mulOk1 rfl (by decide) (by decide)))
theorem m0 : oMulS (.str "0") (.int 4400) = some (.d (.str n0)) := mul_nn (k := 4400) (decide_eq_true (mulOk1 rfl (by decide) (by decide)))
theorem okS_app {x y : Str} (hx : okS x = true) (hy : okS y = true) : okS (x ++ y) = true := okS_iff.mpr fun c hc => by
  rw [TL.tl_append] at hc; rcases List.mem_append.mp hc with h | h
  · exact okS_iff.mp hx c h
  · exact okS_iff.mp hy c h
theorem a20 : oAdd (.str "2") (.str n0) = some (.d (.str ("2" ++ n0))) := addS (Nat.ble_eq_true_of_le (by rw [n0_w.2]; decide +kernel))
theorem n20_w : Wd1 ("2" ++ n0) := ⟨by rw [Str.length_append, n0_w.2]; decide +kernel, okS_app (by decide +kernel) n0_w.1.2⟩
def others : List Str := [("one/any" : Str), ("both/far" : Str), ("far/one" : Str), ("any/one" : Str), ("one" : Str), ("one/" : Str), ("/any" : Str), ("one/any/any" : Str), ("One/any" : Str), ("one/any\n" : Str), ("turns" : Str), ("rests" : Str), ("turn" : Str), ("Rests" : Str), ("rests30" : Str), ("" : Str), ("\n" : Str), ("-" : Str), ("2" : Str), ("1" : Str), ("0" : Str), ("02" : Str), ("1000000" : Str), ("+3" : Str), ("1000001" : Str), ("-2" : Str), ("2.0" : Str), ("1_0" : Str), ("10 000" : Str), n9, ("2" : Str) ++ n0, ("999999" : Str), ("rests\n" : Str), ("any" : Str)]
theorem others_w : ∀ w ∈ others, Wd1 w := by
  intro w hw
  have key : ∀ w ∈ ([("one/any" : Str), ("both/far" : Str), ("far/one" : Str), ("any/one" : Str), ("one" : Str), ("one/" : Str), ("/any" : Str), ("one/any/any" : Str), ("One/any" : Str), ("one/any\n" : Str), ("turns" : Str), ("rests" : Str), ("turn" : Str), ("Rests" : Str), ("rests30" : Str), ("" : Str), ("\n" : Str), ("-" : Str), ("2" : Str), ("1" : Str), ("0" : Str), ("02" : Str), ("1000000" : Str), ("+3" : Str), ("1000001" : Str), ("-2" : Str), ("2.0" : Str), ("1_0" : Str), ("10 000" : Str), ("999999" : Str), ("rests\n" : Str), ("any" : Str)] : List Str), w.length ≤ 10000 ∧ okS w = true := by decide +kernel
  simp only [others, List.mem_cons, List.not_mem_nil, or_false] at hw
  by_cases h1 : w = n9
  · rw [h1]; exact n9_w
  · by_cases h2 : w = "2" ++ n0
    · rw [h2]; exact n20_w
    · refine key w ?_
      simp only [List.mem_cons, List.not_mem_nil, or_false]
      simp only [h1, h2, false_or] at hw
      exact hw
end K03

set_option maxHeartbeats 4000000
/-! a word that is no right one -/
namespace K03
open PySem PySem.Spec L2 Sd
def la1 : List D := [.str "one/any", .str "both/far", .str "far/one", .str "any/one", .str "one", .str "one/", .str "/any", .str "one/any/any", .str "One/any", .str "one/any\n"]
def la2 : List D := [.str "turns", .str "rests", .str "turn", .str "Rests", .str "rests30", .str "", .str "\n", .str "-", .str "2", .str "1", .str "0", .str "02", .str "1000000", .str "+3"]
def la3 : List D := [.str "1000001", .str "-2", .str "2.0", .str "1_0", .str "10 000", .str n9, .str ("2" ++ n0), .str "999999", .str "rests\n", .str "any"]
theorem a1 : oAdd (.lst la1) (.lst la2) = some (.n (.l (la1 ++ la2))) := rfl
theorem a2 : oAdd (.lst (la1 ++ la2)) (.lst la3) = some (.n (.l (la1 ++ la2 ++ la3))) := rfl
theorem la : la1 ++ la2 ++ la3 = others.map D.str := rfl
theorem ix34 {v : Int} (v0 : 0 ≤ v) (hl : v.toNat < others.length) : oIx (.lst (la1 ++ la2 ++ la3)) (.int v) = some (.d (.str (others[v.toNat]'hl))) := by
  have e : ((v.toNat : Nat) : Int) = v := Int.toNat_of_nonneg v0
  have h : (others.map D.str)[v.toNat]? = some (.str (others[v.toNat]'hl)) := by rw [List.getElem?_map, List.getElem?_eq_getElem hl]; rfl
  have g := ix_nat h
  rw [e] at g
  rw [la]
  exact g
theorem e_lc' {ρ : En} {f : FA} {xs : List D} (h : f ρ = .ok xs ρ) (z : szB xs.length = true) : fLst f ρ = .ok (.n (.l xs)) ρ := by
  rw [e_lst, h]
  show (if szB xs.length = true then _ else _) = _
  rw [if_pos z]
theorem e_ac {ρ : En} {f : FE} {g : FA} {x : D} {xs : List D} (h : f ρ = .ok (.d x) ρ) (k : g ρ = .ok xs ρ) : aC f g ρ = .ok (x :: xs) ρ := by
  rw [e_aC, h]
  show ((g ρ).bind _) = _
  rw [k]
  rfl
theorem lst3 {ρ : En} : fOp oMulS (fC (.str "9")) (fC (.int 5000)) ρ = .ok (.d (.str n9)) ρ := by
  simp only [e_op, e_c, e_bo, e_rd, e_a2, m9, e_os]
theorem lst4 {ρ : En} : fOp oAdd (fC (.str "2")) (fOp oMulS (fC (.str "0")) (fC (.int 4400))) ρ = .ok (.d (.str ("2" ++ n0))) ρ := by
  simp only [e_op, e_c, e_bo, e_rd, e_a2, m0, a20, e_os]
end K03

set_option maxHeartbeats 4000000
/-! the word that is drawn -/
namespace K03
open PySem PySem.Spec L2 Sd
theorem g1 {ρ : En} : fLst (aC (fC (.str "one/any")) (aC (fC (.str "both/far")) (aC (fC (.str "far/one")) (aC (fC (.str "any/one")) (aC (fC (.str "one")) (aC (fC (.str "one/")) (aC (fC (.str "/any")) (aC (fC (.str "one/any/any")) (aC (fC (.str "One/any")) (aC (fC (.str "one/any\n")) aN)))))))))) ρ = .ok (.n (.l la1)) ρ := e_lc' (e_ac e_c (e_ac e_c (e_ac e_c (e_ac e_c (e_ac e_c (e_ac e_c (e_ac e_c (e_ac e_c (e_ac e_c (e_ac e_c e_aN)))))))))) rfl
theorem g2 {ρ : En} : fLst (aC (fC (.str "turns")) (aC (fC (.str "rests")) (aC (fC (.str "turn")) (aC (fC (.str "Rests")) (aC (fC (.str "rests30")) (aC (fC (.str "")) (aC (fC (.str "\n")) (aC (fC (.str "-")) (aC (fC (.str "2")) (aC (fC (.str "1")) (aC (fC (.str "0")) (aC (fC (.str "02")) (aC (fC (.str "1000000")) (aC (fC (.str "+3")) aN)))))))))))))) ρ = .ok (.n (.l la2)) ρ := e_lc' (e_ac e_c (e_ac e_c (e_ac e_c (e_ac e_c (e_ac e_c (e_ac e_c (e_ac e_c (e_ac e_c (e_ac e_c (e_ac e_c (e_ac e_c (e_ac e_c (e_ac e_c (e_ac e_c e_aN)))))))))))))) rfl
theorem g3 {ρ : En} : fLst (aC (fC (.str "1000001")) (aC (fC (.str "-2")) (aC (fC (.str "2.0")) (aC (fC (.str "1_0")) (aC (fC (.str "10 000")) (aC (fOp oMulS (fC (.str "9")) (fC (.int 5000))) (aC (fOp oAdd (fC (.str "2")) (fOp oMulS (fC (.str "0")) (fC (.int 4400)))) (aC (fC (.str "999999")) (aC (fC (.str "rests\n")) (aC (fC (.str "any")) aN)))))))))) ρ = .ok (.n (.l la3)) ρ := e_lc' (e_ac e_c (e_ac e_c (e_ac e_c (e_ac e_c (e_ac e_c (e_ac lst3 (e_ac lst4 (e_ac e_c (e_ac e_c (e_ac e_c e_aN)))))))))) rfl
theorem la_len : (la1 ++ la2 ++ la3).length = 34 := rfl
theorem o_len34 : oLen [.lst (la1 ++ la2 ++ la3)] = some (.d (.int 34)) := rfl
theorem other_gen {P1 P2 P3 : FE} {xs ys zs : List D} {v : Int} {w : D} {m m' : M} (g1 : ∀ ρ, P1 ρ = .ok (.n (.l xs)) ρ) (g2 : ∀ ρ, P2 ρ = .ok (.n (.l ys)) ρ) (g3 : ∀ ρ, P3 ρ = .ok (.n (.l zs)) ρ)
    (a1 : oAdd (.lst xs) (.lst ys) = some (.n (.l (xs ++ ys)))) (a2 : oAdd (.lst (xs ++ ys)) (.lst zs) = some (.n (.l (xs ++ ys ++ zs)))) (ol : oLen [.lst (xs ++ ys ++ zs)] = some (.d (.int 34)))
    (t1 : ∀ (s : List (Option C1)) (μ : List M) (k : Nat), callF F_take [.r 0, .p (.int 34)] ⟨s, m :: μ, k⟩ = .ok (.d (.int v)) ⟨s, m' :: μ, k⟩)
    (ix : oIx (.lst (xs ++ ys ++ zs)) (.int v) = some (.d w)) (cl : closedB 1 [m'] = true) :
    endD ((sSeq (sAsg 1 P1) (sSeq (sAsg 1 (fOp oAdd (fVar 1) P2)) (sSeq (sAsg 1 (fOp oAdd (fVar 1) P3)) (sRet (fOp oIx (fVar 1) (fCX F_take 2 0 [.a 0, .a 1] [] (cR (fVar 0) (cD (fCB oLen (rC (fVar 1) rN)) cN)) cN)))))) ⟨[some (.r 0), none], [m], 1⟩) = .ok (.d w) [m'] := by
  simp only [e_bo, e_bx, e_bn, e_to, e_tx, e_qn, e_qr, e_qx, e_os, e_c, e_v, e_vp, e_vr, e_ad, e_an, e_ar, e_set, e_add, e_put, e_op, e_a2, e_un, e_a1, e_rd, e_rn, e_rm, e_rr, e_fl, e_fz, e_ed, e_en, e_em, e_er, e_mz, e_ml, e_aN, e_rN, e_rC, e_co, e_l0, e_l1, e_lc, e_cb, e_aL, e_cN, e_cD, e_cR, e_fr, e_fd, e_fr', e_fd', e_tup, e_tb, e_ab, e_tA, e_tO, e_tN, e_fI, e_i2, e_ch, e_bk, e_and, e_or, e_not, e_sm, e_sk, e_oN, e_oS, e_iK, e_sl, e_aS, e_ll, e_rv, e_rk, e_sS, e_sI, e_sN, e_sD, e_sR, e_rO, e_rV, e_rVn, e_rVr, e_sA, e_sG, e_oF, e_gN, e_g0, e_g1, e_gT, e_sE, e_au, e_ii, e_ao, e_z, e_cX, e_cM, e_nk, e_c0, e_t0, e_er0, e_en0, e_ex0, o_add_i, o_int_b, o_int_i, o_lt_i, o_is_n, o_eq_s, o_eq_b, o_len_l, o_sub_i, o_gt_i, z0, z1, z2, z3, z4, o_ix_t0, o_ix_t1, o_ix_l0, o_ix_l1, List.getElem?_cons_zero, List.getElem?_cons_succ, List.set_cons_zero, List.set_cons_succ, List.nil_append, List.cons_append, List.length_map, List.length_cons, List.length_nil, Nat.zero_add, Nat.reduceAdd, if_true, if_false, Bool.false_eq_true, Bool.not_true, Bool.not_false, reduceIte, g1, g2, g3, a1, a2, ol, sel2, t1, ix, beq_self_eq_true, Bool.and_self, tkM, cl]
  all_goals rfl
theorem other_run {v : Int} {m m' : M} (v0 : 0 ≤ v) (hl : v.toNat < others.length)
    (t1 : ∀ (s : List (Option C1)) (μ : List M) (k : Nat), callF F_take [.r 0, .p (.int 34)] ⟨s, m :: μ, k⟩ = .ok (.d (.int v)) ⟨s, m' :: μ, k⟩) (cl : closedB 1 [m'] = true) :
    endD (f_other ⟨[some (.r 0), none], [m], 1⟩) = .ok (.d (.str (others[v.toNat]'hl))) [m'] := by
  unfold f_other
  exact other_gen (fun _ => g1) (fun _ => g2) (fun _ => g3) a1 a2 o_len34 t1 (ix34 v0 hl) cl
theorem other_at (c : List C1) (μ : List M) : F_other [.r 0] μ = endD (f_other ⟨[some (.r 0), none], μ, μ.length⟩) := rfl
theorem oth_len : others.length = 34 := rfl
theorem other_ev {ms : List Int} {m : M} {n : Nat} (hm : Hd ms n m) (hn : n ≤ 90000) : ∃ w m', Wd1 w ∧ F_other [.r 0] [m] = .ok (.d (.str w)) [m'] ∧ Hd ms (n + 1) m' := by
  obtain ⟨v, m', t1, v0, v1, h1⟩ := take_call (b := 34) hm (by decide) (by decide) (by omega)
  have hl : v.toNat < others.length := by rw [oth_len]; omega
  exact ⟨_, m', others_w _ (List.getElem_mem hl), (other_at [] [m]).trans (other_run v0 hl t1 h1.cl), h1⟩
end K03

set_option maxHeartbeats 4000000
/-! words that are bent -/
namespace K03
open PySem PySem.Spec L2 Sd
theorem cut_upto (xs : List D) (n : Nat) : cutD xs none (some (n : Int)) = xs.take n := by
  unfold cutD
  rw [HT.sIx_nat, HT.sIx_none]
  rcases Nat.le_total n xs.length with h | h
  · rw [Nat.min_eq_left h]
    rfl
  · rw [Nat.min_eq_right h, List.take_of_length_le h]; exact List.take_of_length_le (Nat.le_refl _)
theorem wl : ∀ (R : List D), (∀ x ∈ R, ∃ u, x = .str u ∧ Wd1 u) → ∃ us : List Str, R = us.map D.str ∧ ∀ u ∈ us, Wd1 u
  | [], _ => ⟨[], rfl, fun _ h => absurd h (by simp)⟩
  | x :: R, h => by
    obtain ⟨u, rfl, hu⟩ := h x (List.mem_cons_self ..)
    obtain ⟨us, rfl, hs⟩ := wl R fun y hy => h y (List.mem_cons_of_mem _ hy)
    refine ⟨u :: us, rfl, fun w hw => ?_⟩
    rcases List.mem_cons.mp hw with rfl | hw
    · exact hu
    · exact hs w hw
theorem addL {xs ys : List D} (h : xs.length + ys.length ≤ 1000) : oAdd (.lst xs) (.lst ys) = some (.n (.l (xs ++ ys))) := if_pos (Nat.ble_eq_true_of_le (by omega))
theorem mul2 {xs : List D} (h : xs.length ≤ 1000) : oMulS (.lst xs) (.int 2) = some (.n (.l (xs ++ (xs ++ [])))) := by
  show oMul (.lst xs) (.int 2) = _
  have z : szB (xs.length * (2 : Int).toNat) = true := Nat.ble_eq_true_of_le (by show xs.length * 2 ≤ _; omega)
  exact if_pos (by rw [z]; rfl)
theorem e_w1 : Wd1 "" := ⟨by decide +kernel, by decide +kernel⟩
abbrev bS (xs : List D) (m : M) : En := ⟨[some (.r 0), some (.p (.lst xs)), none, none], [m], 1⟩
theorem eqi {g : Bool → Bool} {x y : Int} : oEq g (.int x) (.int y) = some (.d (.bl (g (x == y)))) := rfl
theorem bent0 {xs : List D} {p : Nat} {m m1 m2 : M} (hl : xs.length ≤ 30) (t1 : ∀ (s : List (Option C1)) (μ : List M) (k : Nat), callF F_take [.r 0, .p (.int 6)] ⟨s, m :: μ, k⟩ = .ok (.d (.int 0)) ⟨s, m1 :: μ, k⟩)
    (t2 : ∀ (s : List (Option C1)) (μ : List M) (k : Nat), callF F_take [.r 0, .p (.int ((xs.length : Int) + 1))] ⟨s, m1 :: μ, k⟩ = .ok (.d (.int p)) ⟨s, m2 :: μ, k⟩) (cl : closedB 1 [m2] = true) :
    endD (f_bent (bS xs m)) = .ok (.n (.l (xs.take p ++ xs.drop (p + 1)))) [m2] := by
  have c1 := cut_upto xs p
  have c2 : cutD xs (some ((p : Int) + 1)) none = xs.drop (p + 1) := cut_from xs (p + 1)
  have a1 : oAdd (.lst (xs.take p)) (.lst (xs.drop (p + 1))) = some (.n (.l (xs.take p ++ xs.drop (p + 1)))) := addL (by simp only [List.length_append, List.length_take, List.length_drop, List.length_cons, List.length_nil, List.length_reverse]; omega)
  have q0 : ((0 : Int) == 0) = true := rfl
  unfold f_bent
  simp only [e_bo, e_bx, e_bn, e_to, e_tx, e_qn, e_qr, e_qx, e_os, e_c, e_v, e_vp, e_vr, e_ad, e_an, e_ar, e_set, e_add, e_put, e_op, e_a2, e_un, e_a1, e_rd, e_rn, e_rm, e_rr, e_fl, e_fz, e_ed, e_en, e_em, e_er, e_mz, e_ml, e_aN, e_aC, e_rN, e_rC, e_co, e_l0, e_l1, e_lc, e_cb, e_aL, e_cN, e_cD, e_cR, e_fr, e_fd, e_fr', e_fd', e_lst, e_tup, e_tb, e_ab, e_tA, e_tO, e_tN, e_fI, e_i2, e_ch, e_bk, e_and, e_or, e_not, e_sm, e_sk, e_oN, e_oS, e_iK, e_sl, e_aS, e_ll, e_rv, e_rk, e_sS, e_sI, e_sN, e_sD, e_sR, e_rO, e_rV, e_rVn, e_rVr, e_sA, e_sG, e_oF, e_gN, e_g0, e_g1, e_gT, e_sE, e_au, e_ii, e_ao, e_z, e_cX, e_cM, e_nk, e_c0, e_t0, e_er0, e_en0, e_ex0, o_add_i, o_int_b, o_int_i, o_lt_i, o_is_n, o_eq_s, o_eq_b, o_len_l, o_sub_i, o_gt_i, z0, z1, z2, z3, z4, o_ix_t0, o_ix_t1, o_ix_l0, o_ix_l1, List.getElem?_cons_zero, List.getElem?_cons_succ, List.set_cons_zero, List.set_cons_succ, List.nil_append, List.cons_append, List.length_map, List.length_cons, List.length_nil, Nat.zero_add, Nat.reduceAdd, if_true, if_false, Bool.false_eq_true, Bool.not_true, Bool.not_false, reduceIte, sel2, sel1, t1, t2, c1, c2, a1, q0, eqi, beq_self_eq_true, Bool.and_self, id_eq, tkM, cl]
  all_goals rfl
theorem bent1 {xs : List D} {p : Nat} {m m1 m2 m3 : M} {w : D} (hl : xs.length ≤ 30) (t1 : ∀ (s : List (Option C1)) (μ : List M) (k : Nat), callF F_take [.r 0, .p (.int 6)] ⟨s, m :: μ, k⟩ = .ok (.d (.int 1)) ⟨s, m1 :: μ, k⟩)
    (t2 : ∀ (s : List (Option C1)) (μ : List M) (k : Nat), callF F_take [.r 0, .p (.int ((xs.length : Int) + 1))] ⟨s, m1 :: μ, k⟩ = .ok (.d (.int p)) ⟨s, m2 :: μ, k⟩) (t3 : ∀ (s : List (Option C1)) (μ : List M) (k : Nat), callF F_other [.r 0] ⟨s, m2 :: μ, k⟩ = .ok (.d w) ⟨s, m3 :: μ, k⟩) (cl : closedB 1 [m3] = true) :
    endD (f_bent (bS xs m)) = .ok (.n (.l (xs.take p ++ [w] ++ xs.drop p))) [m3] := by
  have c1 := cut_upto xs p
  have c2 : cutD xs (some ((p : Int) + 1 - 1)) none = xs.drop p := by rw [show (p : Int) + 1 - 1 = p by omega]; exact cut_from xs p
  have a1 : oAdd (.lst (xs.take p)) (.lst ([w])) = some (.n (.l (xs.take p ++ [w]))) := addL (by simp only [List.length_append, List.length_take, List.length_drop, List.length_cons, List.length_nil, List.length_reverse]; omega)
  have a2 : oAdd (.lst (xs.take p ++ [w])) (.lst (xs.drop p)) = some (.n (.l (xs.take p ++ [w] ++ xs.drop p))) := addL (by simp only [List.length_append, List.length_take, List.length_drop, List.length_cons, List.length_nil, List.length_reverse]; omega)
  have q0 : ((1 : Int) == 0) = false := rfl
  have r3 : decide ((1 : Int) < 3) = true := rfl
  unfold f_bent
  simp only [e_bo, e_bx, e_bn, e_to, e_tx, e_qn, e_qr, e_qx, e_os, e_c, e_v, e_vp, e_vr, e_ad, e_an, e_ar, e_set, e_add, e_put, e_op, e_a2, e_un, e_a1, e_rd, e_rn, e_rm, e_rr, e_fl, e_fz, e_ed, e_en, e_em, e_er, e_mz, e_ml, e_aN, e_aC, e_rN, e_rC, e_co, e_l0, e_l1, e_lc, e_cb, e_aL, e_cN, e_cD, e_cR, e_fr, e_fd, e_fr', e_fd', e_lst, e_tup, e_tb, e_ab, e_tA, e_tO, e_tN, e_fI, e_i2, e_ch, e_bk, e_and, e_or, e_not, e_sm, e_sk, e_oN, e_oS, e_iK, e_sl, e_aS, e_ll, e_rv, e_rk, e_sS, e_sI, e_sN, e_sD, e_sR, e_rO, e_rV, e_rVn, e_rVr, e_sA, e_sG, e_oF, e_gN, e_g0, e_g1, e_gT, e_sE, e_au, e_ii, e_ao, e_z, e_cX, e_cM, e_nk, e_c0, e_t0, e_er0, e_en0, e_ex0, o_add_i, o_int_b, o_int_i, o_lt_i, o_is_n, o_eq_s, o_eq_b, o_len_l, o_sub_i, o_gt_i, z0, z1, z2, z3, z4, o_ix_t0, o_ix_t1, o_ix_l0, o_ix_l1, List.getElem?_cons_zero, List.getElem?_cons_succ, List.set_cons_zero, List.set_cons_succ, List.nil_append, List.cons_append, List.length_map, List.length_cons, List.length_nil, Nat.zero_add, Nat.reduceAdd, if_true, if_false, Bool.false_eq_true, Bool.not_true, Bool.not_false, reduceIte, sel2, sel1, t1, t2, t3, c1, c2, a1, a2, q0, r3, eqi, beq_self_eq_true, Bool.and_self, id_eq, tkM, cl]
  all_goals rfl
theorem bent2 {xs : List D} {p : Nat} {m m1 m2 m3 : M} {w : D} (hl : xs.length ≤ 30) (t1 : ∀ (s : List (Option C1)) (μ : List M) (k : Nat), callF F_take [.r 0, .p (.int 6)] ⟨s, m :: μ, k⟩ = .ok (.d (.int 2)) ⟨s, m1 :: μ, k⟩)
    (t2 : ∀ (s : List (Option C1)) (μ : List M) (k : Nat), callF F_take [.r 0, .p (.int ((xs.length : Int) + 1))] ⟨s, m1 :: μ, k⟩ = .ok (.d (.int p)) ⟨s, m2 :: μ, k⟩) (t3 : ∀ (s : List (Option C1)) (μ : List M) (k : Nat), callF F_other [.r 0] ⟨s, m2 :: μ, k⟩ = .ok (.d w) ⟨s, m3 :: μ, k⟩) (cl : closedB 1 [m3] = true) :
    endD (f_bent (bS xs m)) = .ok (.n (.l (xs.take p ++ [w] ++ xs.drop (p + 1)))) [m3] := by
  have c1 := cut_upto xs p
  have c2 : cutD xs (some ((p : Int) + 2 - 1)) none = xs.drop (p + 1) := by rw [show (p : Int) + 2 - 1 = ((p + 1 : Nat) : Int) by omega]; exact cut_from xs (p + 1)
  have a1 : oAdd (.lst (xs.take p)) (.lst ([w])) = some (.n (.l (xs.take p ++ [w]))) := addL (by simp only [List.length_append, List.length_take, List.length_drop, List.length_cons, List.length_nil, List.length_reverse]; omega)
  have a2 : oAdd (.lst (xs.take p ++ [w])) (.lst (xs.drop (p + 1))) = some (.n (.l (xs.take p ++ [w] ++ xs.drop (p + 1)))) := addL (by simp only [List.length_append, List.length_take, List.length_drop, List.length_cons, List.length_nil, List.length_reverse]; omega)
  have q0 : ((2 : Int) == 0) = false := rfl
  have r3 : decide ((2 : Int) < 3) = true := rfl
  unfold f_bent
  simp only [e_bo, e_bx, e_bn, e_to, e_tx, e_qn, e_qr, e_qx, e_os, e_c, e_v, e_vp, e_vr, e_ad, e_an, e_ar, e_set, e_add, e_put, e_op, e_a2, e_un, e_a1, e_rd, e_rn, e_rm, e_rr, e_fl, e_fz, e_ed, e_en, e_em, e_er, e_mz, e_ml, e_aN, e_aC, e_rN, e_rC, e_co, e_l0, e_l1, e_lc, e_cb, e_aL, e_cN, e_cD, e_cR, e_fr, e_fd, e_fr', e_fd', e_lst, e_tup, e_tb, e_ab, e_tA, e_tO, e_tN, e_fI, e_i2, e_ch, e_bk, e_and, e_or, e_not, e_sm, e_sk, e_oN, e_oS, e_iK, e_sl, e_aS, e_ll, e_rv, e_rk, e_sS, e_sI, e_sN, e_sD, e_sR, e_rO, e_rV, e_rVn, e_rVr, e_sA, e_sG, e_oF, e_gN, e_g0, e_g1, e_gT, e_sE, e_au, e_ii, e_ao, e_z, e_cX, e_cM, e_nk, e_c0, e_t0, e_er0, e_en0, e_ex0, o_add_i, o_int_b, o_int_i, o_lt_i, o_is_n, o_eq_s, o_eq_b, o_len_l, o_sub_i, o_gt_i, z0, z1, z2, z3, z4, o_ix_t0, o_ix_t1, o_ix_l0, o_ix_l1, List.getElem?_cons_zero, List.getElem?_cons_succ, List.set_cons_zero, List.set_cons_succ, List.nil_append, List.cons_append, List.length_map, List.length_cons, List.length_nil, Nat.zero_add, Nat.reduceAdd, if_true, if_false, Bool.false_eq_true, Bool.not_true, Bool.not_false, reduceIte, sel2, sel1, t1, t2, t3, c1, c2, a1, a2, q0, r3, eqi, beq_self_eq_true, Bool.and_self, id_eq, tkM, cl]
  all_goals rfl
theorem bent3 {xs : List D} {p : Nat} {m m1 m2 : M} (hl : xs.length ≤ 30) (t1 : ∀ (s : List (Option C1)) (μ : List M) (k : Nat), callF F_take [.r 0, .p (.int 6)] ⟨s, m :: μ, k⟩ = .ok (.d (.int 3)) ⟨s, m1 :: μ, k⟩)
    (t2 : ∀ (s : List (Option C1)) (μ : List M) (k : Nat), callF F_take [.r 0, .p (.int ((xs.length : Int) + 1))] ⟨s, m1 :: μ, k⟩ = .ok (.d (.int p)) ⟨s, m2 :: μ, k⟩) (cl : closedB 1 [m2] = true) :
    endD (f_bent (bS xs m)) = .ok (.n (.l (xs.take p ++ ((xs.drop p).take 1 ++ ((xs.drop p).take 1 ++ [])) ++ xs.drop (p + 1)))) [m2] := by
  have c1 := cut_upto xs p
  have c2 : cutD xs (some ((p : Int) + 1)) none = xs.drop (p + 1) := cut_from xs (p + 1)
  have c4 : cutD xs (some (p : Int)) (some ((p : Int) + 1)) = (xs.drop p).take 1 := cutk xs p
  have a1 : oAdd (.lst (xs.take p)) (.lst (((xs.drop p).take 1 ++ ((xs.drop p).take 1 ++ [])))) = some (.n (.l (xs.take p ++ ((xs.drop p).take 1 ++ ((xs.drop p).take 1 ++ []))))) := addL (by simp only [List.length_append, List.length_take, List.length_drop, List.length_cons, List.length_nil, List.length_reverse]; omega)
  have a2 : oAdd (.lst (xs.take p ++ ((xs.drop p).take 1 ++ ((xs.drop p).take 1 ++ [])))) (.lst (xs.drop (p + 1))) = some (.n (.l (xs.take p ++ ((xs.drop p).take 1 ++ ((xs.drop p).take 1 ++ [])) ++ xs.drop (p + 1)))) := addL (by simp only [List.length_append, List.length_take, List.length_drop, List.length_cons, List.length_nil, List.length_reverse]; omega)
  have u2 : oMulS (.lst ((xs.drop p).take 1)) (.int 2) = some (.n (.l ((xs.drop p).take 1 ++ ((xs.drop p).take 1 ++ [])))) := mul2 (by rw [List.length_take, List.length_drop]; omega)
  have q0 : ((3 : Int) == 0) = false := rfl
  have q3 : ((3 : Int) == 3) = true := rfl
  have r3 : decide ((3 : Int) < 3) = false := rfl
  unfold f_bent
  simp only [e_bo, e_bx, e_bn, e_to, e_tx, e_qn, e_qr, e_qx, e_os, e_c, e_v, e_vp, e_vr, e_ad, e_an, e_ar, e_set, e_add, e_put, e_op, e_a2, e_un, e_a1, e_rd, e_rn, e_rm, e_rr, e_fl, e_fz, e_ed, e_en, e_em, e_er, e_mz, e_ml, e_aN, e_aC, e_rN, e_rC, e_co, e_l0, e_l1, e_lc, e_cb, e_aL, e_cN, e_cD, e_cR, e_fr, e_fd, e_fr', e_fd', e_lst, e_tup, e_tb, e_ab, e_tA, e_tO, e_tN, e_fI, e_i2, e_ch, e_bk, e_and, e_or, e_not, e_sm, e_sk, e_oN, e_oS, e_iK, e_sl, e_aS, e_ll, e_rv, e_rk, e_sS, e_sI, e_sN, e_sD, e_sR, e_rO, e_rV, e_rVn, e_rVr, e_sA, e_sG, e_oF, e_gN, e_g0, e_g1, e_gT, e_sE, e_au, e_ii, e_ao, e_z, e_cX, e_cM, e_nk, e_c0, e_t0, e_er0, e_en0, e_ex0, o_add_i, o_int_b, o_int_i, o_lt_i, o_is_n, o_eq_s, o_eq_b, o_len_l, o_sub_i, o_gt_i, z0, z1, z2, z3, z4, o_ix_t0, o_ix_t1, o_ix_l0, o_ix_l1, List.getElem?_cons_zero, List.getElem?_cons_succ, List.set_cons_zero, List.set_cons_succ, List.nil_append, List.cons_append, List.length_map, List.length_cons, List.length_nil, Nat.zero_add, Nat.reduceAdd, if_true, if_false, Bool.false_eq_true, Bool.not_true, Bool.not_false, reduceIte, sel2, sel1, t1, t2, c1, c2, c4, a1, a2, u2, q0, q3, r3, eqi, beq_self_eq_true, Bool.and_self, id_eq, tkM, cl]
  all_goals rfl
theorem bent4 {xs : List D} {p : Nat} {m m1 m2 : M} (hl : xs.length ≤ 30) (t1 : ∀ (s : List (Option C1)) (μ : List M) (k : Nat), callF F_take [.r 0, .p (.int 6)] ⟨s, m :: μ, k⟩ = .ok (.d (.int 4)) ⟨s, m1 :: μ, k⟩)
    (t2 : ∀ (s : List (Option C1)) (μ : List M) (k : Nat), callF F_take [.r 0, .p (.int ((xs.length : Int) + 1))] ⟨s, m1 :: μ, k⟩ = .ok (.d (.int p)) ⟨s, m2 :: μ, k⟩) (cl : closedB 1 [m2] = true) :
    endD (f_bent (bS xs m)) = .ok (.n (.l (xs.take p ++ ((xs.drop p).take 2).reverse ++ xs.drop (p + 2)))) [m2] := by
  have c1 := cut_upto xs p
  have c2 : cutD xs (some ((p : Int) + 2)) none = xs.drop (p + 2) := cut_from xs (p + 2)
  have c5 : cutD xs (some (p : Int)) (some ((p : Int) + 2)) = (xs.drop p).take 2 := by have e := cut_to xs p (p + 2); rw [Nat.add_sub_cancel_left] at e; exact e
  have a1 : oAdd (.lst (xs.take p)) (.lst (((xs.drop p).take 2).reverse)) = some (.n (.l (xs.take p ++ ((xs.drop p).take 2).reverse))) := addL (by simp only [List.length_append, List.length_take, List.length_drop, List.length_cons, List.length_nil, List.length_reverse]; omega)
  have a2 : oAdd (.lst (xs.take p ++ ((xs.drop p).take 2).reverse)) (.lst (xs.drop (p + 2))) = some (.n (.l (xs.take p ++ ((xs.drop p).take 2).reverse ++ xs.drop (p + 2)))) := addL (by simp only [List.length_append, List.length_take, List.length_drop, List.length_cons, List.length_nil, List.length_reverse]; omega)
  have q0 : ((4 : Int) == 0) = false := rfl
  have q3 : ((4 : Int) == 3) = false := rfl
  have q4 : ((4 : Int) == 4) = true := rfl
  have r3 : decide ((4 : Int) < 3) = false := rfl
  unfold f_bent
  simp only [e_bo, e_bx, e_bn, e_to, e_tx, e_qn, e_qr, e_qx, e_os, e_c, e_v, e_vp, e_vr, e_ad, e_an, e_ar, e_set, e_add, e_put, e_op, e_a2, e_un, e_a1, e_rd, e_rn, e_rm, e_rr, e_fl, e_fz, e_ed, e_en, e_em, e_er, e_mz, e_ml, e_aN, e_aC, e_rN, e_rC, e_co, e_l0, e_l1, e_lc, e_cb, e_aL, e_cN, e_cD, e_cR, e_fr, e_fd, e_fr', e_fd', e_lst, e_tup, e_tb, e_ab, e_tA, e_tO, e_tN, e_fI, e_i2, e_ch, e_bk, e_and, e_or, e_not, e_sm, e_sk, e_oN, e_oS, e_iK, e_sl, e_aS, e_ll, e_rv, e_rk, e_sS, e_sI, e_sN, e_sD, e_sR, e_rO, e_rV, e_rVn, e_rVr, e_sA, e_sG, e_oF, e_gN, e_g0, e_g1, e_gT, e_sE, e_au, e_ii, e_ao, e_z, e_cX, e_cM, e_nk, e_c0, e_t0, e_er0, e_en0, e_ex0, o_add_i, o_int_b, o_int_i, o_lt_i, o_is_n, o_eq_s, o_eq_b, o_len_l, o_sub_i, o_gt_i, z0, z1, z2, z3, z4, o_ix_t0, o_ix_t1, o_ix_l0, o_ix_l1, List.getElem?_cons_zero, List.getElem?_cons_succ, List.set_cons_zero, List.set_cons_succ, List.nil_append, List.cons_append, List.length_map, List.length_cons, List.length_nil, Nat.zero_add, Nat.reduceAdd, if_true, if_false, Bool.false_eq_true, Bool.not_true, Bool.not_false, reduceIte, sel2, sel1, t1, t2, c1, c2, c5, a1, a2, q0, q3, q4, r3, eqi, beq_self_eq_true, Bool.and_self, id_eq, tkM, cl]
  all_goals rfl
theorem bent5 {xs : List D} {p : Nat} {m m1 m2 : M} (hl : xs.length ≤ 30) (t1 : ∀ (s : List (Option C1)) (μ : List M) (k : Nat), callF F_take [.r 0, .p (.int 6)] ⟨s, m :: μ, k⟩ = .ok (.d (.int 5)) ⟨s, m1 :: μ, k⟩)
    (t2 : ∀ (s : List (Option C1)) (μ : List M) (k : Nat), callF F_take [.r 0, .p (.int ((xs.length : Int) + 1))] ⟨s, m1 :: μ, k⟩ = .ok (.d (.int p)) ⟨s, m2 :: μ, k⟩) (cl : closedB 1 [m2] = true) :
    endD (f_bent (bS xs m)) = .ok (.n (.l (xs.take p ++ [.str ""] ++ xs.drop p))) [m2] := by
  have c1 := cut_upto xs p
  have c2 : cutD xs (some (p : Int)) none = xs.drop p := cut_from xs p
  have a1 : oAdd (.lst (xs.take p)) (.lst ([.str ""])) = some (.n (.l (xs.take p ++ [.str ""]))) := addL (by simp only [List.length_append, List.length_take, List.length_drop, List.length_cons, List.length_nil, List.length_reverse]; omega)
  have a2 : oAdd (.lst (xs.take p ++ [.str ""])) (.lst (xs.drop p)) = some (.n (.l (xs.take p ++ [.str ""] ++ xs.drop p))) := addL (by simp only [List.length_append, List.length_take, List.length_drop, List.length_cons, List.length_nil, List.length_reverse]; omega)
  have q0 : ((5 : Int) == 0) = false := rfl
  have q3 : ((5 : Int) == 3) = false := rfl
  have q4 : ((5 : Int) == 4) = false := rfl
  have r3 : decide ((5 : Int) < 3) = false := rfl
  unfold f_bent
  simp only [e_bo, e_bx, e_bn, e_to, e_tx, e_qn, e_qr, e_qx, e_os, e_c, e_v, e_vp, e_vr, e_ad, e_an, e_ar, e_set, e_add, e_put, e_op, e_a2, e_un, e_a1, e_rd, e_rn, e_rm, e_rr, e_fl, e_fz, e_ed, e_en, e_em, e_er, e_mz, e_ml, e_aN, e_aC, e_rN, e_rC, e_co, e_l0, e_l1, e_lc, e_cb, e_aL, e_cN, e_cD, e_cR, e_fr, e_fd, e_fr', e_fd', e_lst, e_tup, e_tb, e_ab, e_tA, e_tO, e_tN, e_fI, e_i2, e_ch, e_bk, e_and, e_or, e_not, e_sm, e_sk, e_oN, e_oS, e_iK, e_sl, e_aS, e_ll, e_rv, e_rk, e_sS, e_sI, e_sN, e_sD, e_sR, e_rO, e_rV, e_rVn, e_rVr, e_sA, e_sG, e_oF, e_gN, e_g0, e_g1, e_gT, e_sE, e_au, e_ii, e_ao, e_z, e_cX, e_cM, e_nk, e_c0, e_t0, e_er0, e_en0, e_ex0, o_add_i, o_int_b, o_int_i, o_lt_i, o_is_n, o_eq_s, o_eq_b, o_len_l, o_sub_i, o_gt_i, z0, z1, z2, z3, z4, o_ix_t0, o_ix_t1, o_ix_l0, o_ix_l1, List.getElem?_cons_zero, List.getElem?_cons_succ, List.set_cons_zero, List.set_cons_succ, List.nil_append, List.cons_append, List.length_map, List.length_cons, List.length_nil, Nat.zero_add, Nat.reduceAdd, if_true, if_false, Bool.false_eq_true, Bool.not_true, Bool.not_false, reduceIte, sel2, sel1, t1, t2, c1, c2, a1, a2, q0, q3, q4, r3, eqi, beq_self_eq_true, Bool.and_self, id_eq, tkM, cl]
  all_goals rfl
end K03

set_option maxHeartbeats 4000000
/-! bent words -/
namespace K03
open PySem PySem.Spec L2 Sd
theorem other_call {ms : List Int} {m : M} {n : Nat} (hm : Hd ms n m) (hn : n ≤ 90000) :
    ∃ w m', Wd1 w ∧ (∀ (s : List (Option C1)) (μ : List M) (k : Nat), callF F_other [.r 0] ⟨s, m :: μ, k⟩ = .ok (.d (.str w)) ⟨s, m' :: μ, k⟩) ∧ Hd ms (n + 1) m' := by
  obtain ⟨w, m', hw, h1, h4⟩ := other_ev hm hn
  refine ⟨w, m', hw, fun s μ k => ?_, h4⟩
  obtain ⟨i, r, rfl, _⟩ := hm
  obtain ⟨i', r', rfl, _⟩ := h4
  exact callF_h (ds := []) h1 rfl
def Wl (xs : List D) : Prop := ∀ x ∈ xs, ∃ u, x = .str u ∧ Wd1 u
theorem Wl.app {xs ys : List D} (h : Wl xs) (k : Wl ys) : Wl (xs ++ ys) := fun x hx => (List.mem_append.mp hx).elim (h x) (k x)
theorem Wl.take {xs : List D} (h : Wl xs) (n : Nat) : Wl (xs.take n) := fun x hx => h x (List.mem_of_mem_take hx)
theorem Wl.drop {xs : List D} (h : Wl xs) (n : Nat) : Wl (xs.drop n) := fun x hx => h x (List.mem_of_mem_drop hx)
theorem Wl.rev {xs : List D} (h : Wl xs) : Wl xs.reverse := fun x hx => h x (List.mem_reverse.mp hx)
theorem Wl.nil : Wl [] := fun _ h => absurd h (by simp)
theorem Wl.one {w : Str} (h : Wd1 w) : Wl [.str w] := fun x hx => ⟨w, by simpa using hx, h⟩
theorem bent_at (xs : List D) (m : M) : F_bent [.r 0, .p (.lst xs)] [m] = endD (f_bent (bS xs m)) := rfl
theorem bent_fin {ms : List Int} {ws : List Str} {R : List D} {m m' : M} {n k : Nat} (h : endD (f_bent (bS (ws.map D.str) m)) = .ok (.n (.l R)) [m']) (hR : Wl R) (hl : R.length ≤ ws.length + 1) (hd : Hd ms k m') (hk : k ≤ n + 3) :
    ∃ (us : List Str) (m' : M), F_bent [.r 0, .p (.lst (ws.map D.str))] [m] = .ok (.n (.l (us.map D.str))) [m'] ∧ (∀ u ∈ us, Wd1 u) ∧ us.length ≤ ws.length + 1 ∧ Hd ms (n + 3) m' := by
  obtain ⟨us, rfl, hu⟩ := wl R hR
  exact ⟨us, m', (bent_at _ _).trans h, hu, by rw [List.length_map] at hl; exact hl, hd.mono hk⟩
theorem bent_ev {ms : List Int} {m : M} {n : Nat} {ws : List Str} (hm : Hd ms n m) (hn : n ≤ 80000) (hw : ∀ u ∈ ws, Wd1 u) (hl : ws.length ≤ 30) :
    ∃ (us : List Str) (m' : M), F_bent [.r 0, .p (.lst (ws.map D.str))] [m] = .ok (.n (.l (us.map D.str))) [m'] ∧ (∀ u ∈ us, Wd1 u) ∧ us.length ≤ ws.length + 1 ∧ Hd ms (n + 3) m' := by
  have hx : Wl (ws.map D.str) := fun x hx => by
    obtain ⟨u, hu, rfl⟩ := List.mem_map.mp hx
    exact ⟨u, rfl, hw u hu⟩
  have el : (ws.map D.str).length = ws.length := List.length_map ..
  have hl' : (ws.map D.str).length ≤ 30 := by rw [el]; exact hl
  obtain ⟨v1, m1, t1, v10, v11, h1⟩ := take_call (b := 6) hm (by decide) (by decide) (by omega)
  obtain ⟨v2, m2, t2, v20, v21, h2⟩ := take_call (b := ((ws.map D.str).length : Int) + 1) h1 (by omega) (by omega) (by omega)
  obtain ⟨w, m3, w1, t3, h3⟩ := other_call h2 (by omega)
  obtain ⟨p, rfl⟩ := Int.eq_ofNat_of_zero_le v20
  have hp : p ≤ ws.length := by omega
  have : v1 = 0 ∨ v1 = 1 ∨ v1 = 2 ∨ v1 = 3 ∨ v1 = 4 ∨ v1 = 5 := by omega
  rcases this with rfl | rfl | rfl | rfl | rfl | rfl
  · exact bent_fin (bent0 hl' t1 t2 h2.cl) ((hx.take _).app (hx.drop _)) (by simp only [List.length_append, List.length_take, List.length_drop, el]; omega) h2 (by omega)
  · exact bent_fin (bent1 hl' t1 t2 t3 h3.cl) (((hx.take _).app (Wl.one w1)).app (hx.drop _)) (by simp only [List.length_append, List.length_take, List.length_drop, List.length_cons, List.length_nil, el]; omega) h3 (by omega)
  · exact bent_fin (bent2 hl' t1 t2 t3 h3.cl) (((hx.take _).app (Wl.one w1)).app (hx.drop _)) (by simp only [List.length_append, List.length_take, List.length_drop, List.length_cons, List.length_nil, el]; omega) h3 (by omega)
  · exact bent_fin (bent3 hl' t1 t2 h2.cl) (((hx.take _).app (((hx.drop _).take _).app (((hx.drop _).take _).app Wl.nil))).app (hx.drop _)) (by simp only [List.length_append, List.length_take, List.length_drop, List.length_nil, el]; omega) h2 (by omega)
  · exact bent_fin (bent4 hl' t1 t2 h2.cl) (((hx.take _).app ((hx.drop _).take _).rev).app (hx.drop _)) (by simp only [List.length_append, List.length_take, List.length_drop, List.length_reverse, el]; omega) h2 (by omega)
  · exact bent_fin (bent5 hl' t1 t2 h2.cl) (((hx.take _).app (Wl.one e_w1)).app (hx.drop _)) (by simp only [List.length_append, List.length_take, List.length_drop, List.length_cons, List.length_nil, el]; omega) h2 (by omega)
end K03

set_option maxHeartbeats 2000000
/-! what drawn words tell -/
namespace K03
open PySem PySem.Spec L2 Sd
theorem numL_head : ∀ n : Nat, 1 ≤ n → ∃ c r, TL.numL n = c :: r ∧ c ≠ 48 := fun n => by
  induction n using Nat.strongRecOn
  with
  | _ n ih =>
    intro h1
    by_cases h : n < 10
    · exact ⟨48 + n, [], TL.numL_lt h, by omega⟩
    · obtain ⟨c, r, e, hc⟩ := ih (n / 10) (by omega) (by omega)
      exact ⟨c, r ++ [48 + n % 10], by rw [TL.numL_step (by omega), e]; rfl, hc⟩
theorem rD_num {n : Nat} (h2 : 2 ≤ n) (h6 : n ≤ 1000000) : rD (Str.ofString (toString ((n : Nat) : Int))) = .int n := by
  have et := TL.tl_num n
  have hl := TL.numL_len (n := n) (k := 7) (by decide) (by omega)
  have hi := TL.int_num (n := n) (by omega)
  obtain ⟨c, r, hc, hn⟩ := numL_head n (by omega)
  generalize Str.ofString (toString ((n : Nat) : Int)) = w at et hi ⊢
  have et : w.cps.toList = TL.numL n := et
  have el : w.length = (TL.numL n).length := by rw [← et]; exact Array.length_toList.symm
  have l1 : 1 ≤ (TL.numL n).length := by rw [hc]; simp
  have f : figsB w = true := by
    unfold figsB
    rw [et]
    refine List.all_eq_true.mpr fun b hb => ?_
    obtain ⟨d, hd, rfl⟩ := List.mem_map.mp hb
    exact fig_iff.mpr (TL.numL_digits n d hd)
  have c1 : (decide ((1 : Int) ≤ (w.length : Nat)) && (decide (((w.length : Nat) : Int) ≤ 7) && figsB w)) = true := by
    rw [f, decide_eq_true (show (1 : Int) ≤ (w.length : Nat) by omega), decide_eq_true (show ((w.length : Nat) : Int) ≤ 7 by omega)]
    rfl
  have c2 : (decide (w.cps.toList[0]? = some 48) && !decide (w = "0")) = false := by
    rw [et, hc]
    rw [decide_eq_false (show ¬ (c :: r)[0]? = some 48 by
      intro z
      exact hn (Option.some.inj z))]
    rfl
  have c3 : (decide ((2 : Int) ≤ (n : Int)) && decide ((n : Int) ≤ 1000000)) = true := by
    rw [decide_eq_true (show (2 : Int) ≤ (n : Int) by omega), decide_eq_true (show (n : Int) ≤ 1000000 by omega)]
    rfl
  unfold rD
  rw [if_pos c1, c2, hi]
  show (if (decide ((2 : Int) ≤ (n : Int)) && decide ((n : Int) ≤ 1000000)) = true then D.int n else .non) = _
  rw [if_pos c3]
theorem rD_int {v : Int} (h2 : 2 ≤ v) (h6 : v ≤ 1000000) : rD (toString v) = .int v := by
  obtain ⟨n, rfl⟩ := Int.eq_ofNat_of_zero_le (show 0 ≤ v by omega)
  exact rD_num (by omega) (by omega)
theorem due_words {a b : Str} {t : Bool} {r : D} (ha : a ∈ lendsL) (hb : b ∈ letsL) (hr : okR r) : dueO (wordsOf a b t r) = .kind a b t r := by
  unfold wordsOf
  show (match pr (a ++ "/" ++ b) with
    | none => Out.wrong 0
    | some (a, b) => (match tW t ++ rW r with
      | [] => .kind a b false .non
      | w1 :: r1 => if w1 = "turns" then tailO a b true 2 r1 else tailO a b false 1 (w1 :: r1))) = _
  rw [pr_of ha hb]
  have nr : ¬ ("rests" : Str) = "turns" := by decide +kernel
  rcases hr with rfl | ⟨v, rfl, v2, v6⟩
  · cases t with
    | false => rfl
    | true => rfl
  · have e := rD_int v2 v6
    have tail : ∀ t k, tailO a b t k ["rests", toString v] = .kind a b t (.int v) := fun t k => by
      show (if ("rests" : Str) = "rests" then (if isNon (rD (toString v)) = true then Out.wrong (k + 1) else .kind a b t (rD (toString v))) else .wrong k) = _
      rw [if_pos rfl, e]
      rfl
    cases t with
    | false =>
      show (if ("rests" : Str) = "turns" then tailO a b true 2 [toString v] else tailO a b false 1 ["rests", toString v]) = _
      rw [if_neg nr, tail]
    | true =>
      show (if ("turns" : Str) = "turns" then tailO a b true 2 ["rests", toString v] else _) = _
      rw [if_pos rfl, tail]
end K03

set_option maxHeartbeats 2000000
/-! drawn words, joined and split -/
namespace K03
open PySem PySem.Spec L2 Sd
theorem num_ok {v : Int} (h2 : 2 ≤ v) (h6 : v ≤ 1000000) : Wd1 (toString v) ∧ (32 : Nat) ∉ TL.tl (toString v : Str) := by
  obtain ⟨n, rfl⟩ := Int.eq_ofNat_of_zero_le (show 0 ≤ v by omega)
  have et : TL.tl (toString ((n : Nat) : Int) : Str) = TL.numL n := TL.tl_num n
  have hl := TL.numL_len (n := n) (k := 7) (by decide) (by omega)
  refine ⟨⟨?_, okS_iff.mpr fun c hc => ?_⟩, ?_⟩
  · rw [TL.len_tl, et]
    omega
  · have hc : c ∈ TL.tl (toString ((n : Nat) : Int) : Str) := hc
    rw [et] at hc
    have := TL.numL_digits n c hc
    omega
  · rw [et]
    exact TL.numL_free (by omega)
theorem cut_ok {a b : Str} (ha : a ∈ lendsL) (hb : b ∈ letsL) : Wd1 (a ++ "/" ++ b) ∧ (32 : Nat) ∉ TL.tl (a ++ "/" ++ b) := by
  rcases mem_l ha with rfl | rfl | rfl <;> rcases mem_t hb with rfl | rfl | rfl <;> exact ⟨⟨by decide +kernel, by decide +kernel⟩, by decide +kernel⟩
theorem words_ok {a b : Str} {t : Bool} {r : D} (ha : a ∈ lendsL) (hb : b ∈ letsL) (hr : okR r) : ∀ w ∈ wordsOf a b t r, Wd1 w ∧ (32 : Nat) ∉ TL.tl w := by
  have h1 : Wd1 ("turns" : Str) ∧ (32 : Nat) ∉ TL.tl ("turns" : Str) := ⟨⟨by decide +kernel, by decide +kernel⟩, by decide +kernel⟩
  have h2 : Wd1 ("rests" : Str) ∧ (32 : Nat) ∉ TL.tl ("rests" : Str) := ⟨⟨by decide +kernel, by decide +kernel⟩, by decide +kernel⟩
  intro w hw
  unfold wordsOf at hw
  rcases List.mem_cons.mp hw with rfl | hw
  · exact cut_ok ha hb
  · rcases List.mem_append.mp hw with hw | hw
    · cases t with
      | false => exact absurd hw (by simp [tW])
      | true =>
        have : w = "turns" := by simpa [tW] using hw
        rw [this]
        exact h1
    · rcases hr with rfl | ⟨v, rfl, v2, v6⟩
      · exact absurd hw (by simp [rW])
      · have : w = "rests" ∨ w = toString v := by simpa [rW] using hw
        rcases this with rfl | rfl
        · exact h2
        · exact num_ok v2 v6
theorem words_len (a b : Str) (t : Bool) (r : D) : (wordsOf a b t r).length ≤ 4 := by
  unfold wordsOf
  rw [List.length_cons, List.length_append]
  have h1 : (tW t).length ≤ 1 := by cases t <;> decide
  have h2 : (rW r).length ≤ 2 := by
    unfold rW
    split
    · exact Nat.le_refl 2
    · exact Nat.zero_le _
  omega
theorem words_split {a b : Str} {t : Bool} {r : D} (ha : a ∈ lendsL) (hb : b ∈ letsL) (hr : okR r) : Txt.split (Txt.join " " (wordsOf a b t r)) " " = wordsOf a b t r :=
  TL.split_join (s := 32) (S := []) rfl (by decide +kernel) (by unfold wordsOf; simp) fun p hp => (words_ok ha hb hr p hp).2
theorem words_gd {a b : Str} {t : Bool} {r : D} (ha : a ∈ lendsL) (hb : b ∈ letsL) (hr : okR r) : Gd (Txt.join " " (wordsOf a b t r)) := gd_join (by have := words_len a b t r; omega) fun u hu => (words_ok ha hb hr u hu).1
theorem words_due {a b : Str} {t : Bool} {r : D} (ha : a ∈ lendsL) (hb : b ∈ letsL) (hr : okR r) : F_due [.p (.str (Txt.join " " (wordsOf a b t r)))] [] = .ok (.d (Out.kind a b t r).d) [] := by
  have g := words_gd (t := t) ha hb hr
  have hw := g.hw
  have hs := words_split (t := t) ha hb hr
  rw [hs] at hw
  have e := due_ev (hs.trans (show wordsOf a b t r = (a ++ "/" ++ b) :: (tW t ++ rW r) from rfl)) g.hz hw
  rw [e, show (a ++ "/" ++ b) :: (tW t ++ rW r) = wordsOf a b t r from rfl, due_words ha hb hr]
end K03

set_option maxHeartbeats 2000000
/-! a kind's text -/
namespace K03
open PySem PySem.Spec L2 Sd
theorem e_fm {f : FE} {ρ : En} : fFmt f ρ = (f ρ).bind fun r ρ1 => ap1 oFmt ρ1 (rdF r ρ1) := rfl
theorem e_j0 {acc : Str} {ρ : En} : fJs [] acc ρ = .ok (.d (.str acc)) ρ := rfl
theorem e_j1 {f : FE} {fs : List FE} {acc : Str} {ρ : En} : fJs (f :: fs) acc ρ = (f ρ).bind fun r ρ1 => jsK acc (fun out => fJs fs out ρ1) r := rfl
theorem e_jk {acc y : Str} {k : Str → Ot RV} (h : szB (acc ++ y).length = true) : jsK acc k (.d (.str y)) = k (acc ++ y) := if_pos h
theorem fm_s {y : Str} (h : y.length ≤ 10000) : oFmt (.str y) = some (.d (.str y)) := if_pos (Nat.ble_eq_true_of_le (by omega))
theorem sz_s {y : Str} (h : y.length ≤ 10000) : szB y.length = true := Nat.ble_eq_true_of_le (by omega)
def rT : D → Str
  | .int v => Str.empty ++ " rests " ++ toString v
  | _ => ""
def tT (t : Bool) : Str := if t = true then " turns" else ""
theorem join_words {a b : Str} {t : Bool} {r : D} (hr : okR r) : Txt.join " " (wordsOf a b t r) = Str.empty ++ a ++ "/" ++ b ++ tT t ++ rT r := by
  rw [TL.join_eq]
  refine TL.ext_tl ?_
  have e0 : TL.tl Str.empty = [] := rfl
  have e1 : TL.tl "" = [] := rfl
  have e2 : TL.tl " turns" = TL.tl " " ++ TL.tl "turns" := rfl
  have e3 : TL.tl " rests " = TL.tl " " ++ (TL.tl "rests" ++ TL.tl " ") := rfl
  rcases hr with rfl | ⟨v, rfl, _, _⟩
  · cases t with
    | false =>
      show TL.tl (a ++ "/" ++ b) = TL.tl (Str.empty ++ a ++ "/" ++ b ++ "" ++ "")
      simp only [TL.tl_append, e0, e1, List.nil_append, List.append_nil]
    | true =>
      show TL.tl (a ++ "/" ++ b ++ " " ++ "turns") = TL.tl (Str.empty ++ a ++ "/" ++ b ++ " turns" ++ "")
      simp only [TL.tl_append, e0, e1, e2, List.nil_append, List.append_nil, List.append_assoc]
  · cases t with
    | false =>
      show TL.tl (a ++ "/" ++ b ++ " " ++ ("rests" ++ " " ++ toString v)) = TL.tl (Str.empty ++ a ++ "/" ++ b ++ "" ++ (Str.empty ++ " rests " ++ toString v))
      simp only [TL.tl_append, e0, e1, e3, List.nil_append, List.append_nil, List.append_assoc]
    | true =>
      show TL.tl (a ++ "/" ++ b ++ " " ++ ("turns" ++ " " ++ ("rests" ++ " " ++ toString v))) = TL.tl (Str.empty ++ a ++ "/" ++ b ++ " turns" ++ (Str.empty ++ " rests " ++ toString v))
      simp only [TL.tl_append, e0, e1, e2, e3, List.nil_append, List.append_nil, List.append_assoc]
end K03

set_option maxHeartbeats 4000000
/-! a kind shown -/
namespace K03
open PySem PySem.Spec L2 Sd
theorem jl (x y : Str) : (x ++ y).length = x.length + y.length := Str.length_append x y
theorem int_len {v : Int} (h2 : 2 ≤ v) (h6 : v ≤ 1000000) : (toString v : Str).length ≤ 7 := len_int (by omega) h6
theorem fm_i {v : Int} (h2 : 2 ≤ v) (h6 : v ≤ 1000000) : oFmt (.int v) = some (.d (.str (toString v))) := if_pos (log_int (by omega) h6)
theorem str_ev {a b : Str} {t : Bool} {r : D} (ha : a ∈ lendsL) (hb : b ∈ letsL) (hr : okR r) : F_Kind_str [.p (kindD a b t r)] [] = .ok (.d (.str (Txt.join " " (wordsOf a b t r)))) [] := by
  rw [join_words hr]
  show endD (f_Kind_str ⟨[some (.p (kindD a b t r)), none, none], [], 0⟩) = _
  unfold f_Kind_str
  have la := len_l a ha
  have lb := len_t b hb
  have l0 : Str.empty.length = 0 := rfl
  have l1 : ("/" : Str).length = 1 := rfl
  have l2 : (" turns" : Str).length = 6 := rfl
  have l3 : ("" : Str).length = 0 := rfl
  have l4 : (" rests " : Str).length = 7 := rfl
  have pt : ∀ x y : Option C1, fPX "Kind" F_Kind_turns (fVar 0) ⟨[some (.p (kindD a b t r)), x, y], [], 0⟩ = .ok (.d (.bl t)) ⟨[some (.p (kindD a b t r)), x, y], [], 0⟩ := fun x y => prop_ev rfl turns_ev
  have p1 : ∀ x y : Option C1, fPX "Kind" F_Kind_lends (fVar 0) ⟨[some (.p (kindD a b t r)), x, y], [], 0⟩ = .ok (.d (.str a)) ⟨[some (.p (kindD a b t r)), x, y], [], 0⟩ := fun x y => prop_ev rfl lends_ev
  have p2 : ∀ x y : Option C1, fPX "Kind" F_Kind_lets (fVar 0) ⟨[some (.p (kindD a b t r)), x, y], [], 0⟩ = .ok (.d (.str b)) ⟨[some (.p (kindD a b t r)), x, y], [], 0⟩ := fun x y => prop_ev rfl lets_ev
  have p4 : ∀ x y : Option C1, fPX "Kind" F_Kind_rests (fVar 0) ⟨[some (.p (kindD a b t r)), x, y], [], 0⟩ = .ok (.d r) ⟨[some (.p (kindD a b t r)), x, y], [], 0⟩ := fun x y => prop_ev rfl rests_ev
  have fa : oFmt (.str a) = some (.d (.str a)) := fm_s (by omega)
  have fb : oFmt (.str b) = some (.d (.str b)) := fm_s (by omega)
  have s1 : szB (Str.empty ++ a).length = true := sz_s (by rw [jl]; omega)
  have s2 : szB (Str.empty ++ a ++ "/").length = true := sz_s (by rw [jl, jl]; omega)
  have s3 : szB (Str.empty ++ a ++ "/" ++ b).length = true := sz_s (by rw [jl, jl, jl]; omega)
  have nn1 : oIsN not .non .non = some (.d (.bl false)) := rfl
  have f0 : oFmt (.str "") = some (.d (.str "")) := fm_s (by omega)
  have f1 : oFmt (.str " turns") = some (.d (.str " turns")) := fm_s (by omega)
  rcases hr with rfl | ⟨v, rfl, v2, v6⟩
  · cases t with
    | false =>
      have s4 : szB (Str.empty ++ a ++ "/" ++ b ++ "").length = true := sz_s (by rw [jl, jl, jl, jl]; omega)
      have s5 : szB (Str.empty ++ a ++ "/" ++ b ++ "" ++ "").length = true := sz_s (by rw [jl, jl, jl, jl, jl]; omega)
      simp only [e_bo, e_bx, e_bn, e_to, e_tx, e_qn, e_qr, e_qx, e_os, e_c, e_v, e_vp, e_vr, e_ad, e_an, e_ar, e_set, e_add, e_put, e_op, e_a2, e_un, e_a1, e_rd, e_rn, e_rm, e_rr, e_fl, e_fz, e_ed, e_en, e_em, e_er, e_mz, e_ml, e_aN, e_aC, e_rN, e_rC, e_co, e_l0, e_l1, e_lc, e_cb, e_aL, e_cN, e_cD, e_cR, e_fr, e_fd, e_fr', e_fd', e_lst, e_tup, e_tb, e_ab, e_tA, e_tO, e_tN, e_fI, e_i2, e_ch, e_bk, e_and, e_or, e_not, e_sm, e_sk, e_oN, e_oS, e_iK, e_sl, e_aS, e_ll, e_rv, e_rk, e_sS, e_sI, e_sN, e_sD, e_sR, e_rO, e_rV, e_rVn, e_rVr, e_sA, e_sG, e_oF, e_gN, e_g0, e_g1, e_gT, e_sE, e_au, e_ii, e_ao, e_z, e_cX, e_cM, e_nk, e_c0, e_t0, e_er0, e_en0, e_ex0, o_add_i, o_int_b, o_int_i, o_lt_i, o_is_n, o_eq_s, o_eq_b, o_len_l, o_sub_i, o_gt_i, z0, z1, z2, z3, z4, o_ix_t0, o_ix_t1, o_ix_l0, o_ix_l1, List.getElem?_cons_zero, List.getElem?_cons_succ, List.set_cons_zero, List.set_cons_succ, List.nil_append, List.cons_append, List.length_map, List.length_cons, List.length_nil, Nat.zero_add, Nat.reduceAdd, if_true, if_false, Bool.false_eq_true, Bool.not_true, Bool.not_false, reduceIte, pt, p1, p2, p4, fa, fb, f0, f1, e_fm, e_j0, e_j1, e_jk s1, e_jk s2, e_jk s3, e_jk s4, e_jk s5, nn1]
      all_goals rfl
    | true =>
      have s4 : szB (Str.empty ++ a ++ "/" ++ b ++ " turns").length = true := sz_s (by rw [jl, jl, jl, jl]; omega)
      have s5 : szB (Str.empty ++ a ++ "/" ++ b ++ " turns" ++ "").length = true := sz_s (by rw [jl, jl, jl, jl, jl]; omega)
      simp only [e_bo, e_bx, e_bn, e_to, e_tx, e_qn, e_qr, e_qx, e_os, e_c, e_v, e_vp, e_vr, e_ad, e_an, e_ar, e_set, e_add, e_put, e_op, e_a2, e_un, e_a1, e_rd, e_rn, e_rm, e_rr, e_fl, e_fz, e_ed, e_en, e_em, e_er, e_mz, e_ml, e_aN, e_aC, e_rN, e_rC, e_co, e_l0, e_l1, e_lc, e_cb, e_aL, e_cN, e_cD, e_cR, e_fr, e_fd, e_fr', e_fd', e_lst, e_tup, e_tb, e_ab, e_tA, e_tO, e_tN, e_fI, e_i2, e_ch, e_bk, e_and, e_or, e_not, e_sm, e_sk, e_oN, e_oS, e_iK, e_sl, e_aS, e_ll, e_rv, e_rk, e_sS, e_sI, e_sN, e_sD, e_sR, e_rO, e_rV, e_rVn, e_rVr, e_sA, e_sG, e_oF, e_gN, e_g0, e_g1, e_gT, e_sE, e_au, e_ii, e_ao, e_z, e_cX, e_cM, e_nk, e_c0, e_t0, e_er0, e_en0, e_ex0, o_add_i, o_int_b, o_int_i, o_lt_i, o_is_n, o_eq_s, o_eq_b, o_len_l, o_sub_i, o_gt_i, z0, z1, z2, z3, z4, o_ix_t0, o_ix_t1, o_ix_l0, o_ix_l1, List.getElem?_cons_zero, List.getElem?_cons_succ, List.set_cons_zero, List.set_cons_succ, List.nil_append, List.cons_append, List.length_map, List.length_cons, List.length_nil, Nat.zero_add, Nat.reduceAdd, if_true, if_false, Bool.false_eq_true, Bool.not_true, Bool.not_false, reduceIte, pt, p1, p2, p4, fa, fb, f0, f1, e_fm, e_j0, e_j1, e_jk s1, e_jk s2, e_jk s3, e_jk s4, e_jk s5, nn1]
      all_goals rfl
  · have lv := int_len v2 v6
    have fv := fm_i v2 v6
    have nn2 : oIsN not (.int v) .non = some (.d (.bl true)) := rfl
    have u1 : szB (Str.empty ++ " rests ").length = true := sz_s (by rw [jl]; omega)
    have u2 : szB (Str.empty ++ " rests " ++ toString v).length = true := sz_s (by rw [jl, jl]; omega)
    have fr : oFmt (.str (Str.empty ++ " rests " ++ toString v)) = some (.d (.str (Str.empty ++ " rests " ++ toString v))) := fm_s (by rw [jl, jl]; omega)
    cases t with
    | false =>
      have s4 : szB (Str.empty ++ a ++ "/" ++ b ++ "").length = true := sz_s (by rw [jl, jl, jl, jl]; omega)
      have s5 : szB (Str.empty ++ a ++ "/" ++ b ++ "" ++ (Str.empty ++ " rests " ++ toString v)).length = true := sz_s (by rw [jl, jl, jl, jl, jl, jl, jl]; omega)
      simp only [e_bo, e_bx, e_bn, e_to, e_tx, e_qn, e_qr, e_qx, e_os, e_c, e_v, e_vp, e_vr, e_ad, e_an, e_ar, e_set, e_add, e_put, e_op, e_a2, e_un, e_a1, e_rd, e_rn, e_rm, e_rr, e_fl, e_fz, e_ed, e_en, e_em, e_er, e_mz, e_ml, e_aN, e_aC, e_rN, e_rC, e_co, e_l0, e_l1, e_lc, e_cb, e_aL, e_cN, e_cD, e_cR, e_fr, e_fd, e_fr', e_fd', e_lst, e_tup, e_tb, e_ab, e_tA, e_tO, e_tN, e_fI, e_i2, e_ch, e_bk, e_and, e_or, e_not, e_sm, e_sk, e_oN, e_oS, e_iK, e_sl, e_aS, e_ll, e_rv, e_rk, e_sS, e_sI, e_sN, e_sD, e_sR, e_rO, e_rV, e_rVn, e_rVr, e_sA, e_sG, e_oF, e_gN, e_g0, e_g1, e_gT, e_sE, e_au, e_ii, e_ao, e_z, e_cX, e_cM, e_nk, e_c0, e_t0, e_er0, e_en0, e_ex0, o_add_i, o_int_b, o_int_i, o_lt_i, o_is_n, o_eq_s, o_eq_b, o_len_l, o_sub_i, o_gt_i, z0, z1, z2, z3, z4, o_ix_t0, o_ix_t1, o_ix_l0, o_ix_l1, List.getElem?_cons_zero, List.getElem?_cons_succ, List.set_cons_zero, List.set_cons_succ, List.nil_append, List.cons_append, List.length_map, List.length_cons, List.length_nil, Nat.zero_add, Nat.reduceAdd, if_true, if_false, Bool.false_eq_true, Bool.not_true, Bool.not_false, reduceIte, pt, p1, p2, p4, fa, fb, fv, fr, f0, f1, e_fm, e_j0, e_j1, e_jk s1, e_jk s2, e_jk s3, e_jk s4, e_jk s5, e_jk u1, e_jk u2, nn2]
      all_goals rfl
    | true =>
      have s4 : szB (Str.empty ++ a ++ "/" ++ b ++ " turns").length = true := sz_s (by rw [jl, jl, jl, jl]; omega)
      have s5 : szB (Str.empty ++ a ++ "/" ++ b ++ " turns" ++ (Str.empty ++ " rests " ++ toString v)).length = true := sz_s (by rw [jl, jl, jl, jl, jl, jl, jl]; omega)
      simp only [e_bo, e_bx, e_bn, e_to, e_tx, e_qn, e_qr, e_qx, e_os, e_c, e_v, e_vp, e_vr, e_ad, e_an, e_ar, e_set, e_add, e_put, e_op, e_a2, e_un, e_a1, e_rd, e_rn, e_rm, e_rr, e_fl, e_fz, e_ed, e_en, e_em, e_er, e_mz, e_ml, e_aN, e_aC, e_rN, e_rC, e_co, e_l0, e_l1, e_lc, e_cb, e_aL, e_cN, e_cD, e_cR, e_fr, e_fd, e_fr', e_fd', e_lst, e_tup, e_tb, e_ab, e_tA, e_tO, e_tN, e_fI, e_i2, e_ch, e_bk, e_and, e_or, e_not, e_sm, e_sk, e_oN, e_oS, e_iK, e_sl, e_aS, e_ll, e_rv, e_rk, e_sS, e_sI, e_sN, e_sD, e_sR, e_rO, e_rV, e_rVn, e_rVr, e_sA, e_sG, e_oF, e_gN, e_g0, e_g1, e_gT, e_sE, e_au, e_ii, e_ao, e_z, e_cX, e_cM, e_nk, e_c0, e_t0, e_er0, e_en0, e_ex0, o_add_i, o_int_b, o_int_i, o_lt_i, o_is_n, o_eq_s, o_eq_b, o_len_l, o_sub_i, o_gt_i, z0, z1, z2, z3, z4, o_ix_t0, o_ix_t1, o_ix_l0, o_ix_l1, List.getElem?_cons_zero, List.getElem?_cons_succ, List.set_cons_zero, List.set_cons_succ, List.nil_append, List.cons_append, List.length_map, List.length_cons, List.length_nil, Nat.zero_add, Nat.reduceAdd, if_true, if_false, Bool.false_eq_true, Bool.not_true, Bool.not_false, reduceIte, pt, p1, p2, p4, fa, fb, fv, fr, f0, f1, e_fm, e_j0, e_j1, e_jk s1, e_jk s2, e_jk s3, e_jk s4, e_jk s5, e_jk u1, e_jk u2, nn2]
      all_goals rfl
end K03

set_option maxHeartbeats 4000000
/-! a kind's own specials -/
namespace K03
open PySem PySem.Spec L2 Sd
theorem own_ev {i : Nat} {F : FD} {o : OL} {a b : Str} {t : Bool} {r : D} {z : Str} {s : List (Option C1)} {μ : List M} {k : Nat} (hs : s[i]? = some (some (.p (kindD a b t r)))) (h : F [.p (kindD a b t r)] [] = .ok (.d (.str z)) []) : fOwn1 "Kind" F o (fVar i) ⟨s, μ, k⟩ = .ok (.d (.str z)) ⟨s, μ, k⟩ := by
  have e : fVar i ⟨s, μ, k⟩ = .ok (.d (kindD a b t r)) ⟨s, μ, k⟩ := by
    rw [e_v, hs]
    rfl
  unfold fOwn1
  rw [e]
  show (strR (callF F [.p (kindD a b t r)] ⟨s, μ, k⟩)).nox = _
  have e2 : callF F [.p (kindD a b t r)] ⟨s, μ, k⟩ = .ok (.d (.str z)) ⟨s, μ, k⟩ := callF_d (ds := [kindD a b t r]) h
  rw [e2]
  rfl
theorem words_sz {a b : Str} {t : Bool} {r : D} (ha : a ∈ lendsL) (hb : b ∈ letsL) (hr : okR r) : (Txt.join " " (wordsOf a b t r)).length ≤ 40 := by
  rw [join_words hr]
  have la := len_l a ha
  have lb := len_t b hb
  have l0 : Str.empty.length = 0 := rfl
  have l1 : ("/" : Str).length = 1 := rfl
  have lt : (tT t).length ≤ 6 := by cases t <;> decide
  have lr : (rT r).length ≤ 14 := by
    rcases hr with rfl | ⟨v, rfl, v2, v6⟩
    · decide
    · show (Str.empty ++ " rests " ++ toString v).length ≤ 14
      have l4 : (" rests " : Str).length = 7 := rfl
      have := int_len v2 v6
      rw [jl, jl]
      omega
  rw [jl, jl, jl, jl, jl]
  omega
theorem repr_k {a b : Str} {t : Bool} {r : D} (ha : a ∈ lendsL) (hb : b ∈ letsL) (hr : okR r) : F_Kind_repr [.p (kindD a b t r)] [] = .ok (.d (.str (Str.empty ++ "Kind(" ++ Txt.join " " (wordsOf a b t r) ++ ")"))) [] := by
  have hw := words_sz (t := t) ha hb hr
  have hs := str_ev (t := t) ha hb hr
  generalize Txt.join " " (wordsOf a b t r) = z at hw hs ⊢
  show endD (f_Kind_repr ⟨[some (.p (kindD a b t r))], [], 0⟩) = _
  unfold f_Kind_repr
  have o1 : fOwn1 "Kind" F_Kind_str oFmtL (fVar 0) ⟨[some (.p (kindD a b t r))], [], 0⟩ = .ok (.d (.str z)) ⟨[some (.p (kindD a b t r))], [], 0⟩ := own_ev rfl hs
  have l0 : Str.empty.length = 0 := rfl
  have l1 : ("Kind(" : Str).length = 5 := rfl
  have l2 : (")" : Str).length = 1 := rfl
  have s1 : szB (Str.empty ++ "Kind(").length = true := sz_s (by rw [jl]; omega)
  have s2 : szB (Str.empty ++ "Kind(" ++ z).length = true := sz_s (by rw [jl, jl]; omega)
  have s3 : szB (Str.empty ++ "Kind(" ++ z ++ ")").length = true := sz_s (by rw [jl, jl, jl]; omega)
  simp only [e_bo, e_bx, e_bn, e_to, e_tx, e_qn, e_qr, e_qx, e_os, e_c, e_v, e_vp, e_vr, e_ad, e_an, e_ar, e_set, e_add, e_put, e_op, e_a2, e_un, e_a1, e_rd, e_rn, e_rm, e_rr, e_fl, e_fz, e_ed, e_en, e_em, e_er, e_mz, e_ml, e_aN, e_aC, e_rN, e_rC, e_co, e_l0, e_l1, e_lc, e_cb, e_aL, e_cN, e_cD, e_cR, e_fr, e_fd, e_fr', e_fd', e_lst, e_tup, e_tb, e_ab, e_tA, e_tO, e_tN, e_fI, e_i2, e_ch, e_bk, e_and, e_or, e_not, e_sm, e_sk, e_oN, e_oS, e_iK, e_sl, e_aS, e_ll, e_rv, e_rk, e_sS, e_sI, e_sN, e_sD, e_sR, e_rO, e_rV, e_rVn, e_rVr, e_sA, e_sG, e_oF, e_gN, e_g0, e_g1, e_gT, e_sE, e_au, e_ii, e_ao, e_z, e_cX, e_cM, e_nk, e_c0, e_t0, e_er0, e_en0, e_ex0, o_add_i, o_int_b, o_int_i, o_lt_i, o_is_n, o_eq_s, o_eq_b, o_len_l, o_sub_i, o_gt_i, z0, z1, z2, z3, z4, o_ix_t0, o_ix_t1, o_ix_l0, o_ix_l1, List.getElem?_cons_zero, List.getElem?_cons_succ, List.set_cons_zero, List.set_cons_succ, List.nil_append, List.cons_append, List.length_map, List.length_cons, List.length_nil, Nat.zero_add, Nat.reduceAdd, if_true, if_false, Bool.false_eq_true, Bool.not_true, Bool.not_false, reduceIte, o1, e_j0, e_j1, e_jk s1, e_jk s2, e_jk s3]
  all_goals rfl
end K03

set_option maxHeartbeats 4000000
/-! three texts written -/
namespace K03
open PySem PySem.Spec L2 Sd
theorem rp_len {x : Str} (hl : x.length ≤ 60) (h : okS x = true) : (reprText x).length ≤ 602 := by
  have := StrLaws.reprText_len x fun c hc => by
    have := okS_iff.mp h c hc
    omega
  omega
theorem repr3 {x y z : Str} (hx : x.length ≤ 60) (kx : okS x = true) (hy : y.length ≤ 60) (ky : okS y = true) (hz : z.length ≤ 60) (kz : okS z = true) :
    oRepr [.lst [.str x, .str y, .str z]] = some (.d (.str (listText [reprText x, reprText y, reprText z]))) := by
  have e : D.pyR (.lst [.str x, .str y, .str z]) = some (.list [.str x, .str y, .str z]) := rfl
  show (match D.pyR (.lst [.str x, .str y, .str z]) with
    | some e => if (isBox (.lst [.str x, .str y, .str z]) && (e.showable && (decide (e.depth ≤ 60) && szB e.shown.length))) = true then some (RV.d (.str e.shown)) else none
    | none => none) = _
  rw [e]
  refine if_pos ?_
  have l := len_list [reprText x, reprText y, reprText z]
  have h1 := rp_len hx kx
  have h2 := rp_len hy ky
  have h3 := rp_len hz kz
  simp only [List.map_cons, List.map_nil, List.sum_cons, List.sum_nil] at l
  have s : szB (listText [reprText x, reprText y, reprText z]).length = true := Nat.ble_eq_true_of_le (by omega)
  show (true && (true && (decide _ && szB (listText [reprText x, reprText y, reprText z]).length))) = true
  rw [s]
  rfl
end K03

set_option maxHeartbeats 4000000
/-! a kind equals itself -/
namespace K03
open PySem PySem.Spec L2 Sd
theorem eq_row {a b : Str} {t : Bool} {r : D} (ha : a ∈ lendsL) (hb : b ∈ letsL) (hr : okR r) : oEq id (.tup [.str a, .str b, .bl t, r]) (.tup [.str a, .str b, .bl t, r]) = some (.d (.bl true)) := by
  have ka : okS a = true := by rcases mem_l ha with rfl | rfl | rfl <;> decide +kernel
  have kb : okS b = true := by rcases mem_t hb with rfl | rfl | rfl <;> decide +kernel
  have key : ∃ d : PyData, D.py (.tup [.str a, .str b, .bl t, r]) = some d ∧ SeqAt.shaped d = true ∧ PyData.eqv d d = true := by
    rcases hr with rfl | ⟨v, rfl, v2, v6⟩
    · refine ⟨.tuple [.str a, .str b, .bool t, .none], rfl, ?_, by simp [PyData.eqv, PyData.eqvAll]⟩
      show ((PyData.strOk a && (PyData.strOk b && (true && (true && true)))) && decide _) = true
      rw [show PyData.strOk a = true from ka, show PyData.strOk b = true from kb]
      rfl
    · refine ⟨.tuple [.str a, .str b, .bool t, .int v], rfl, ?_, by simp [PyData.eqv, PyData.eqvAll]⟩
      show ((PyData.strOk a && (PyData.strOk b && (true && (true && true)))) && decide _) = true
      rw [show PyData.strOk a = true from ka, show PyData.strOk b = true from kb]
      rfl
  obtain ⟨d, e, s, p⟩ := key
  show (match eqP (.tup [.str a, .str b, .bl t, r]) (.tup [.str a, .str b, .bl t, r]) with
    | some b => some (RV.d (.bl (id b)))
    | none => none) = _
  unfold eqP
  rw [e]
  show (match (if (SeqAt.shaped d && SeqAt.shaped d) = true then some (PyData.eqv d d) else none) with
    | some b => some (RV.d (.bl (id b)))
    | none => none) = _
  rw [s, p]
  rfl
theorem eq_k {a b : Str} {t : Bool} {r : D} (ha : a ∈ lendsL) (hb : b ∈ letsL) (hr : okR r) : F_Kind_eq [.p (kindD a b t r), .p (kindD a b t r)] [] = .ok (.d (.bl true)) [] := by
  show endD (f_Kind_eq ⟨[some (.p (kindD a b t r)), some (.p (kindD a b t r))], [], 0⟩) = _
  unfold f_Kind_eq
  have i1 : oIs tb_Kind (kindD a b t r) = some (.d (.bl true)) := rfl
  have g0 : fFd ["Kind"] "row" (fVar 0) ⟨[some (.p (kindD a b t r)), some (.p (kindD a b t r))], [], 0⟩ = .ok (.d (.tup [.str a, .str b, .bl t, r])) ⟨[some (.p (kindD a b t r)), some (.p (kindD a b t r))], [], 0⟩ := rfl
  have g1 : fFd ["Kind"] "row" (fVar 1) ⟨[some (.p (kindD a b t r)), some (.p (kindD a b t r))], [], 0⟩ = .ok (.d (.tup [.str a, .str b, .bl t, r])) ⟨[some (.p (kindD a b t r)), some (.p (kindD a b t r))], [], 0⟩ := rfl
  simp only [e_bo, e_bx, e_bn, e_to, e_tx, e_qn, e_qr, e_qx, e_os, e_c, e_v, e_vp, e_vr, e_ad, e_an, e_ar, e_set, e_add, e_put, e_op, e_a2, e_un, e_a1, e_rd, e_rn, e_rm, e_rr, e_fl, e_fz, e_ed, e_en, e_em, e_er, e_mz, e_ml, e_aN, e_aC, e_rN, e_rC, e_co, e_l0, e_l1, e_lc, e_cb, e_aL, e_cN, e_cD, e_cR, e_fr, e_fd, e_fr', e_fd', e_lst, e_tup, e_tb, e_ab, e_tA, e_tO, e_tN, e_fI, e_i2, e_ch, e_bk, e_and, e_or, e_not, e_sm, e_sk, e_oN, e_oS, e_iK, e_sl, e_aS, e_ll, e_rv, e_rk, e_sS, e_sI, e_sN, e_sD, e_sR, e_rO, e_rV, e_rVn, e_rVr, e_sA, e_sG, e_oF, e_gN, e_g0, e_g1, e_gT, e_sE, e_au, e_ii, e_ao, e_z, e_cX, e_cM, e_nk, e_c0, e_t0, e_er0, e_en0, e_ex0, o_add_i, o_int_b, o_int_i, o_lt_i, o_is_n, o_eq_s, o_eq_b, o_len_l, o_sub_i, o_gt_i, z0, z1, z2, z3, z4, o_ix_t0, o_ix_t1, o_ix_l0, o_ix_l1, List.getElem?_cons_zero, List.getElem?_cons_succ, List.set_cons_zero, List.set_cons_succ, List.nil_append, List.cons_append, List.length_map, List.length_cons, List.length_nil, Nat.zero_add, Nat.reduceAdd, if_true, if_false, Bool.false_eq_true, Bool.not_true, Bool.not_false, reduceIte, i1, g0, g1, eq_row ha hb hr]
  all_goals rfl
theorem eqx_ev {g : FE} {a b : Str} {t : Bool} {r : D} {s : List (Option C1)} {μ : List M} {k i : Nat} (ha : a ∈ lendsL) (hb : b ∈ letsL) (hr : okR r) (h1 : g ⟨s, μ, k⟩ = .ok (.d (kindD a b t r)) ⟨s, μ, k⟩) (hs : s[i]? = some (some (.p (kindD a b t r)))) :
    fEqX "Kind" nf_Kind F_Kind_eq (oEq id) g (fVar i) ⟨s, μ, k⟩ = .ok (.d (.bl true)) ⟨s, μ, k⟩ := by
  have e : fVar i ⟨s, μ, k⟩ = .ok (.d (kindD a b t r)) ⟨s, μ, k⟩ := by
    rw [e_v, hs]
    rfl
  unfold fEqX
  rw [h1]
  show (fVar i ⟨s, μ, k⟩).bind _ = _
  rw [e]
  show (callF F_Kind_eq [.p (kindD a b t r), .p (kindD a b t r)] ⟨s, μ, k⟩).nox = _
  have e2 : callF F_Kind_eq [.p (kindD a b t r), .p (kindD a b t r)] ⟨s, μ, k⟩ = .ok (.d (.bl true)) ⟨s, μ, k⟩ := callF_d (ds := [kindD a b t r, kindD a b t r]) (eq_k ha hb hr)
  rw [e2]
  rfl
end K03

set_option maxHeartbeats 4000000
/-! drawn words are shown as they are -/
namespace K03
open PySem PySem.Spec L2 Sd
abbrev sS (ws : List D) (v1 v2 v3 v4 : Option C1) : List (Option C1) := [some (.p (.lst ws)), v1, v2, v3, v4]
theorem shown_at (ws : List D) : F_shown_right [.p (.lst ws)] [] = endD (f_shown_right ⟨sS ws none none none none, [], 0⟩) := rfl
theorem made_ev {a b : Str} {t : Bool} {r : D} {ws : List D} {v1 v2 : Option C1} (ha : a ∈ lendsL) (hb : b ∈ letsL) (hr : okR r) :
    fFz (fKX "Kind" F_Kind_init 3 2 [.a 0, .a 1, .a 2, .k 0, .k 1] [] (cD (fOp oIx (fVar 3) (fC (.int 0))) (cD (fOp oIx (fVar 3) (fC (.int 1))) cN)) (cD (fOp oIx (fVar 3) (fC (.int 2))) (cD (fOp oIx (fVar 3) (fC (.int 3))) cN))) ⟨sS ws v1 v2 (some (.p (.lst [.str a, .str b, .bl t, r]))) none, [], 0⟩ = .ok (.d (kindD a b t r)) ⟨sS ws v1 v2 (some (.p (.lst [.str a, .str b, .bl t, r]))) none, [.z (kindD a b t r)], 0⟩ :=
  make_ev ha hb hr (cs := [.p (.str a), .p (.str b)]) (ks := [.p (.bl t), .p r]) (s := sS ws v1 v2 (some (.p (.lst [.str a, .str b, .bl t, r]))) none) (i := 0) rfl rfl rfl rfl
theorem join_op {us : List Str} (hl : us.length ≤ 20) (hw : ∀ u ∈ us, Wd1 u) : oJoin " " [.lst (us.map D.str)] = some (.d (.str (Txt.join " " us))) := by
  have e1 : (us.map D.str).map strOf = us := by
    rw [List.map_map]
    exact List.map_id _
  have e2 : (us.map D.str).all isStrT = true := by
    rw [List.all_map]; exact List.all_eq_true.mpr fun _ _ => rfl
  have key : ∀ us : List Str, (∀ u ∈ us, Wd1 u) → (us.map (·.length)).sum ≤ us.length * 10000 := by
    intro us
    induction us with
    | nil => exact fun _ => Nat.zero_le _
    | cons u us ih =>
      intro h
      have h1 := (h u (List.mem_cons_self ..)).1
      have h2 := ih fun w hw => h w (List.mem_cons_of_mem _ hw); simp only [List.map_cons, List.sum_cons, List.length_cons]
      omega
  have h1 := key us hw
  have l1 : (" " : Str).length = 1 := rfl
  show joinF " " (us.map D.str) = _
  unfold joinF
  rw [e1, e2, l1]
  exact if_pos (by
    rw [Bool.true_and]
    exact Nat.ble_eq_true_of_le (by omega))
theorem join_ok {a b : Str} {t : Bool} {r : D} (ha : a ∈ lendsL) (hb : b ∈ letsL) (hr : okR r) : oJoin " " [.lst ((wordsOf a b t r).map D.str)] = some (.d (.str (Txt.join " " (wordsOf a b t r)))) := join_op (by have := words_len a b t r; omega) fun u hu => (words_ok ha hb hr u hu).1
theorem ok_z {a b : Str} {t : Bool} {r : D} (ha : a ∈ lendsL) (hb : b ∈ letsL) (hr : okR r) : okS (Txt.join " " (wordsOf a b t r)) = true := by
  rw [join_words hr]
  have ka : okS a = true := by rcases mem_l ha with rfl | rfl | rfl <;> decide +kernel
  have kb : okS b = true := by rcases mem_t hb with rfl | rfl | rfl <;> decide +kernel
  have kt : okS (tT t) = true := by cases t <;> decide +kernel
  have kr : okS (rT r) = true := by
    rcases hr with rfl | ⟨v, rfl, v2, v6⟩
    · decide +kernel
    · exact okS_app (by decide +kernel) (num_ok v2 v6).1.2
  exact okS_app (okS_app (okS_app (okS_app (okS_app (by decide +kernel) ka) (by decide +kernel)) kb) kt) kr
theorem shown_right_ev {a b : Str} {t : Bool} {r : D} (ha : a ∈ lendsL) (hb : b ∈ letsL) (hr : okR r) : F_shown_right [.p (.lst ((wordsOf a b t r).map D.str))] [] = .ok (.d (.bl true)) [] := by
  have j1 := join_ok (t := t) ha hb hr
  have kz := ok_z (t := t) ha hb hr
  have lz := words_sz (t := t) ha hb hr
  have hd := words_due (t := t) ha hb hr
  have hs := str_ev (t := t) ha hb hr
  have hp := repr_k (t := t) ha hb hr
  have hrd : F_Kind_read [.fn, .p (.str (Txt.join " " (wordsOf a b t r)))] [] = .ok (.d (kindD a b t r)) [] := by
    have g := words_gd (t := t) ha hb hr
    have hw := g.hw
    have hsp := words_split (t := t) ha hb hr
    rw [hsp] at hw
    have e := read_ev (hsp.trans (show wordsOf a b t r = (a ++ "/" ++ b) :: (tW t ++ rW r) from rfl)) g.hz hw
    rw [e, show (a ++ "/" ++ b) :: (tW t ++ rW r) = wordsOf a b t r from rfl, due_words ha hb hr]
    rfl
  rw [shown_at]
  generalize (wordsOf a b t r).map D.str = ws at j1 ⊢
  generalize Txt.join " " (wordsOf a b t r) = z at j1 kz lz hd hs hp hrd
  have c1 : ∀ ρ : En, callF F_due [.p (.str z)] ρ = .ok (.d (.tup [.str "kind", .lst [.str a, .str b, .bl t, r]])) ρ := fun ρ => callF_d (ds := [.str z]) hd
  have s1 : ∀ x : C1, sel [x] [] [] [.a 0] = [x] := fun _ => rfl
  have l1 : ("Kind(" : Str).length = 5 := rfl
  have l2 : (")" : Str).length = 1 := rfl
  have e0 : Str.empty ++ "Kind(" = ("Kind(" : Str) := TL.ext_tl rfl
  rw [e0] at hp
  have a1 : oAdd (.str "Kind(") (.str z) = some (.d (.str ("Kind(" ++ z))) := addS (Nat.ble_eq_true_of_le (by omega))
  have a2 : oAdd (.str ("Kind(" ++ z)) (.str ")") = some (.d (.str ("Kind(" ++ z ++ ")"))) := addS (Nat.ble_eq_true_of_le (by rw [jl]; omega))
  have rp := repr3 (x := z) (y := "Kind(" ++ z ++ ")") (z := z) (by omega) kz (by rw [jl, jl]; omega) (okS_app (okS_app (by decide +kernel) kz) (by decide +kernel)) (by omega) kz
  have mk := made_ev (ws := ws) (v1 := some (.p (.str z))) (v2 := some (.p (.tup [.str "kind", .lst [.str a, .str b, .bl t, r]]))) ha hb hr (t := t)
  unfold f_shown_right
  have o1 : fOwn1 "Kind" F_Kind_str oStr (fVar 4) ⟨sS ws (some (.p (.str z))) (some (.p (.tup [.str "kind", .lst [.str a, .str b, .bl t, r]]))) (some (.p (.lst [.str a, .str b, .bl t, r]))) (some (.p (kindD a b t r))), [.z (kindD a b t r)], 0⟩ = .ok (.d (.str z)) ⟨sS ws (some (.p (.str z))) (some (.p (.tup [.str "kind", .lst [.str a, .str b, .bl t, r]]))) (some (.p (.lst [.str a, .str b, .bl t, r]))) (some (.p (kindD a b t r))), [.z (kindD a b t r)], 0⟩ := own_ev rfl hs
  have o2 : fOwn1 "Kind" F_Kind_repr oRepr (fVar 4) ⟨sS ws (some (.p (.str z))) (some (.p (.tup [.str "kind", .lst [.str a, .str b, .bl t, r]]))) (some (.p (.lst [.str a, .str b, .bl t, r]))) (some (.p (kindD a b t r))), [.z (kindD a b t r)], 0⟩ = .ok (.d (.str ("Kind(" ++ z ++ ")"))) ⟨sS ws (some (.p (.str z))) (some (.p (.tup [.str "kind", .lst [.str a, .str b, .bl t, r]]))) (some (.p (.lst [.str a, .str b, .bl t, r]))) (some (.p (kindD a b t r))), [.z (kindD a b t r)], 0⟩ := own_ev rfl hp
  have rd : ∀ ρ : En, callC F_Kind_read [.p (.str z)] ρ = .ok (.d (kindD a b t r)) ρ := fun ρ => callC_d (ds := [.str z]) hrd
  have q1 : fEqX "Kind" nf_Kind F_Kind_eq (oEq id) (fCM F_Kind_read 2 0 [.a 0] (cD (fOwn1 "Kind" F_Kind_str oStr (fVar 4)) cN) cN) (fVar 4) ⟨sS ws (some (.p (.str z))) (some (.p (.tup [.str "kind", .lst [.str a, .str b, .bl t, r]]))) (some (.p (.lst [.str a, .str b, .bl t, r]))) (some (.p (kindD a b t r))), [.z (kindD a b t r)], 0⟩ = .ok (.d (.bl true)) ⟨sS ws (some (.p (.str z))) (some (.p (.tup [.str "kind", .lst [.str a, .str b, .bl t, r]]))) (some (.p (.lst [.str a, .str b, .bl t, r]))) (some (.p (kindD a b t r))), [.z (kindD a b t r)], 0⟩ :=
    eqx_ev ha hb hr (by
      simp only [e_bo, e_bx, e_bn, e_to, e_tx, e_qn, e_qr, e_qx, e_os, e_c, e_v, e_vp, e_vr, e_ad, e_an, e_ar, e_set, e_add, e_put, e_op, e_a2, e_un, e_a1, e_rd, e_rn, e_rm, e_rr, e_fl, e_fz, e_ed, e_en, e_em, e_er, e_mz, e_ml, e_aN, e_aC, e_rN, e_rC, e_co, e_l0, e_l1, e_lc, e_cb, e_aL, e_cN, e_cD, e_cR, e_fr, e_fd, e_fr', e_fd', e_lst, e_tup, e_tb, e_ab, e_tA, e_tO, e_tN, e_fI, e_i2, e_ch, e_bk, e_and, e_or, e_not, e_sm, e_sk, e_oN, e_oS, e_iK, e_sl, e_aS, e_ll, e_rv, e_rk, e_sS, e_sI, e_sN, e_sD, e_sR, e_rO, e_rV, e_rVn, e_rVr, e_sA, e_sG, e_oF, e_gN, e_g0, e_g1, e_gT, e_sE, e_au, e_ii, e_ao, e_cX, e_cM, e_nk, e_c0, e_t0, e_er0, e_en0, e_ex0, o_add_i, o_int_b, o_int_i, o_lt_i, o_is_n, o_eq_s, o_eq_b, o_len_l, o_sub_i, o_gt_i, z0, z1, z2, z3, z4, o_ix_t0, o_ix_t1, o_ix_l0, o_ix_l1, List.getElem?_cons_zero, List.getElem?_cons_succ, List.set_cons_zero, List.set_cons_succ, List.nil_append, List.cons_append, List.length_map, List.length_cons, List.length_nil, Nat.zero_add, Nat.reduceAdd, if_true, if_false, Bool.false_eq_true, Bool.not_true, Bool.not_false, reduceIte, o1, s1, rd, beq_self_eq_true, Bool.and_self]
      all_goals rfl) rfl
  have q2 : fEqX "Kind" nf_Kind F_Kind_eq (oEq id) (fCM F_Kind_read 2 0 [.a 0] (cD (fVar 1) cN) cN) (fVar 4) ⟨sS ws (some (.p (.str z))) (some (.p (.tup [.str "kind", .lst [.str a, .str b, .bl t, r]]))) (some (.p (.lst [.str a, .str b, .bl t, r]))) (some (.p (kindD a b t r))), [.z (kindD a b t r)], 0⟩ = .ok (.d (.bl true)) ⟨sS ws (some (.p (.str z))) (some (.p (.tup [.str "kind", .lst [.str a, .str b, .bl t, r]]))) (some (.p (.lst [.str a, .str b, .bl t, r]))) (some (.p (kindD a b t r))), [.z (kindD a b t r)], 0⟩ :=
    eqx_ev ha hb hr (by
      simp only [e_bo, e_bx, e_bn, e_to, e_tx, e_qn, e_qr, e_qx, e_os, e_c, e_v, e_vp, e_vr, e_ad, e_an, e_ar, e_set, e_add, e_put, e_op, e_a2, e_un, e_a1, e_rd, e_rn, e_rm, e_rr, e_fl, e_fz, e_ed, e_en, e_em, e_er, e_mz, e_ml, e_aN, e_aC, e_rN, e_rC, e_co, e_l0, e_l1, e_lc, e_cb, e_aL, e_cN, e_cD, e_cR, e_fr, e_fd, e_fr', e_fd', e_lst, e_tup, e_tb, e_ab, e_tA, e_tO, e_tN, e_fI, e_i2, e_ch, e_bk, e_and, e_or, e_not, e_sm, e_sk, e_oN, e_oS, e_iK, e_sl, e_aS, e_ll, e_rv, e_rk, e_sS, e_sI, e_sN, e_sD, e_sR, e_rO, e_rV, e_rVn, e_rVr, e_sA, e_sG, e_oF, e_gN, e_g0, e_g1, e_gT, e_sE, e_au, e_ii, e_ao, e_cX, e_cM, e_nk, e_c0, e_t0, e_er0, e_en0, e_ex0, o_add_i, o_int_b, o_int_i, o_lt_i, o_is_n, o_eq_s, o_eq_b, o_len_l, o_sub_i, o_gt_i, z0, z1, z2, z3, z4, o_ix_t0, o_ix_t1, o_ix_l0, o_ix_l1, List.getElem?_cons_zero, List.getElem?_cons_succ, List.set_cons_zero, List.set_cons_succ, List.nil_append, List.cons_append, List.length_map, List.length_cons, List.length_nil, Nat.zero_add, Nat.reduceAdd, if_true, if_false, Bool.false_eq_true, Bool.not_true, Bool.not_false, reduceIte, sS, s1, rd, beq_self_eq_true, Bool.and_self]
      all_goals rfl) rfl
  have z3 : szB 3 = true := rfl
  simp only [e_bo, e_bx, e_bn, e_to, e_tx, e_qn, e_qr, e_qx, e_os, e_c, e_v, e_vp, e_vr, e_ad, e_an, e_ar, e_set, e_add, e_put, e_op, e_a2, e_un, e_a1, e_rd, e_rn, e_rm, e_rr, e_fl, e_fz, e_ed, e_en, e_em, e_er, e_mz, e_ml, e_aN, e_aC, e_rN, e_rC, e_co, e_l0, e_l1, e_lc, e_cb, e_aL, e_cN, e_cD, e_cR, e_fr, e_fd, e_fr', e_fd', e_lst, e_tup, e_tb, e_ab, e_tA, e_tO, e_tN, e_fI, e_i2, e_ch, e_bk, e_and, e_or, e_not, e_sm, e_sk, e_oN, e_oS, e_iK, e_sl, e_aS, e_ll, e_rv, e_rk, e_sS, e_sI, e_sN, e_sD, e_sR, e_rO, e_rV, e_rVn, e_rVr, e_sA, e_sG, e_oF, e_gN, e_g0, e_g1, e_gT, e_sE, e_au, e_ii, e_ao, e_cX, e_cM, e_nk, e_c0, e_t0, e_er0, e_en0, e_ex0, o_add_i, o_int_b, o_int_i, o_lt_i, o_is_n, o_eq_s, o_eq_b, o_len_l, o_sub_i, o_gt_i, z0, z1, z2, z3, z4, o_ix_t0, o_ix_t1, o_ix_l0, o_ix_l1, List.getElem?_cons_zero, List.getElem?_cons_succ, List.set_cons_zero, List.set_cons_succ, List.nil_append, List.cons_append, List.length_map, List.length_cons, List.length_nil, Nat.zero_add, Nat.reduceAdd, if_true, if_false, Bool.false_eq_true, Bool.not_true, Bool.not_false, reduceIte, j1, c1, s1, mk, o1, o2, a1, a2, rp, q1, q2, z3, decide_true, beq_self_eq_true, Bool.and_self]
  all_goals rfl
end K03

set_option maxHeartbeats 4000000
/-! the fixed texts, and words read -/
namespace K03
open PySem PySem.Spec L2 Sd
theorem rr_call {z : Str} (g : Gd z) (ρ : En) : callF F_read_right [.p (.str z)] ρ = .ok (.d (.bl true)) ρ := callF_d (ds := [.str z]) (read_right_ev g)
theorem fix1 : Gd "one/any rests 3 turns" := gd_of (by decide +kernel) (by decide +kernel)
theorem fix2 : Gd "one/any turns rests 2 " := gd_of (by decide +kernel) (by decide +kernel)
theorem fix3 : Gd "" := gd_of (by decide +kernel) (by decide +kernel)
theorem fix4 : Gd "one/any rests" := gd_of (by decide +kernel) (by decide +kernel)
theorem rr_words {us : List Str} (hl : us.length ≤ 20) (hw : ∀ u ∈ us, Wd1 u) (ρ : En) : callF F_read_right [.p (.str (Txt.join " " us))] ρ = .ok (.d (.bl true)) ρ := rr_call (gd_join hl hw) ρ
theorem sr_call {a b : Str} {t : Bool} {r : D} (ha : a ∈ lendsL) (hb : b ∈ letsL) (hr : okR r) (ρ : En) : callF F_shown_right [.p (.lst ((wordsOf a b t r).map D.str))] ρ = .ok (.d (.bl true)) ρ := callF_d (ds := [.lst ((wordsOf a b t r).map D.str)]) (shown_right_ev ha hb hr)
end K03

set_option maxHeartbeats 4000000
/-! one turn of the law: the words -/
namespace K03
open PySem PySem.Spec L2 Sd
theorem words_call {ms : List Int} {m : M} {n : Nat} (hm : Hd ms n m) (hn : n ≤ 90000) :
    ∃ a b t r m', a ∈ lendsL ∧ b ∈ letsL ∧ okR r ∧ (∀ (s : List (Option C1)) (μ : List M) (k : Nat), callF F_words [.r 0] ⟨s, m :: μ, k⟩ = .ok (.n (.l ((wordsOf a b t r).map D.str))) ⟨s, m' :: μ, k⟩) ∧ Hd ms (n + 6) m' := by
  obtain ⟨a, b, t, r, m', ha, hb, hr, h1, h4⟩ := words_ev hm hn
  refine ⟨a, b, t, r, m', ha, hb, hr, fun s μ k => ?_, h4⟩
  obtain ⟨i, r, rfl, _⟩ := hm
  obtain ⟨i', r', rfl, _⟩ := h4
  exact callF_h (ds := []) h1 rfl
theorem bent_call {ms : List Int} {m : M} {n : Nat} {ws : List Str} (hm : Hd ms n m) (hn : n ≤ 80000) (hw : ∀ u ∈ ws, Wd1 u) (hl : ws.length ≤ 30) :
    ∃ (us : List Str) (m' : M), (∀ (s : List (Option C1)) (μ : List M) (k : Nat), callF F_bent [.r 0, .p (.lst (ws.map D.str))] ⟨s, m :: μ, k⟩ = .ok (.n (.l (us.map D.str))) ⟨s, m' :: μ, k⟩) ∧ (∀ u ∈ us, Wd1 u) ∧ us.length ≤ ws.length + 1 ∧ Hd ms (n + 3) m' := by
  obtain ⟨us, m', h1, hu, hl', h4⟩ := bent_ev hm hn hw hl
  refine ⟨us, m', fun s μ k => ?_, hu, hl', h4⟩
  obtain ⟨i, r, rfl, _⟩ := hm
  obtain ⟨i', r', rfl, _⟩ := h4
  exact callF_h (ds := [.lst (ws.map D.str)]) h1 rfl
theorem at_last (m x : M) (μ : List M) : (m :: (μ ++ [x]))[μ.length + 1]? = some x := by
  rw [List.getElem?_cons_succ, List.getElem?_append_right (Nat.le_refl _), Nat.sub_self]
  rfl
theorem set_last (m x y : M) (μ : List M) : (m :: (μ ++ [x])).set (μ.length + 1) y = m :: (μ ++ [y]) := by
  rw [List.set_cons_succ, List.set_append_right _ _ (Nat.le_refl _), Nat.sub_self]
  rfl
theorem es1 {s : List (Option C1)} {m : M} {μ : List M} {xs : List D} : escF (.r (μ.length + 1)) ⟨s, m :: (μ ++ [.l xs]), 0⟩ = some (.lst xs, ⟨s, m :: (μ ++ [.z (.lst xs)]), 0⟩) := by
  rw [e_er, at_last, e_ml, set_last, if_pos (show Nat.ble 0 (μ.length + 1) = true from Nat.ble_eq_true_of_le (Nat.zero_le _))]
theorem es2 {s : List (Option C1)} {m : M} {μ : List M} {x : D} : escF (.r (μ.length + 1)) ⟨s, m :: (μ ++ [.z x]), 0⟩ = some (x, ⟨s, m :: (μ ++ [.z x]), 0⟩) := by
  rw [e_er, at_last, e_mz]
theorem rd1 {s : List (Option C1)} {m : M} {μ : List M} {xs : List D} : rdF (.r (μ.length + 1)) ⟨s, m :: (μ ++ [.l xs]), 0⟩ = some (.lst xs) := by
  rw [e_rr, at_last, e_fl]
theorem rd2 {s : List (Option C1)} {m : M} {μ : List M} {x : D} : rdF (.r (μ.length + 1)) ⟨s, m :: (μ ++ [.z x]), 0⟩ = some x := by
  rw [e_rr, at_last, e_fz]
def tA (rest : FS) : FS := (sSeq (sAsg 3 (fCX F_words 1 0 [.a 0] [] (cR (fVar 1) cN) cN)) (sSeq (sIf (tO (tN (tB (fCX F_shown_right 1 0 [.a 0] [] (cD (fVar 3) cN) cN))) (tN (tB (fCX F_read_right 1 0 [.a 0] [] (cD (fSM oJoin (fC (.str " ")) (rC (fVar 3) rN)) cN) cN)))) (sRet (fC (.bl false))) sN) rest))
theorem tA_ev {ms : List Int} {m : M} {n : Nat} {s0 i v3 v4 v5 : Option C1} {μ : List M} (hm : Hd ms n m) (hn : n ≤ 90000) : ∃ (ws : List Str) (m' : M), (∀ u ∈ ws, Wd1 u) ∧ ws.length ≤ 4 ∧ Hd ms (n + 6) m' ∧
    ∀ rest : FS, tA rest ⟨[s0, some (.r 0), i, v3, v4, v5], m :: μ, 0⟩ = rest ⟨[s0, some (.r 0), i, some (.r (μ.length + 1)), v4, v5], m' :: (μ ++ [.z (.lst (ws.map D.str))]), 0⟩ := by
  obtain ⟨a, b, t, r, m', ha, hb, hr, h1, h4⟩ := words_call hm hn
  refine ⟨wordsOf a b t r, m', fun u hu => (words_ok ha hb hr u hu).1, words_len a b t r, h4, fun rest => ?_⟩
  have c2 := fun ρ => sr_call (t := t) ha hb hr ρ
  have c3 := fun ρ => rr_words (by have := words_len a b t r; omega) (fun u hu => (words_ok (t := t) ha hb hr u hu).1) ρ
  have j1 := join_ok (t := t) ha hb hr
  have s1 : ∀ x : C1, sel [x] [] [] [.a 0] = [x] := fun _ => rfl
  generalize wordsOf a b t r = ws at h1 c2 c3 j1 ⊢
  unfold tA
  generalize ws.map D.str = xs at h1 c2 c3 j1 ⊢
  simp only [e_bo, e_bx, e_bn, e_to, e_tx, e_qn, e_qr, e_qx, e_os, e_c, e_v, e_vp, e_vr, e_ad, e_an, e_ar, e_set, e_add, e_put, e_op, e_a2, e_un, e_a1, e_rd, e_rn, e_rm, e_fl, e_fz, e_ed, e_en, e_em, e_mz, e_aN, e_aC, e_rN, e_rC, e_co, e_l0, e_l1, e_lc, e_cb, e_aL, e_cN, e_cD, e_cR, e_fr, e_fd, e_fr', e_fd', e_lst, e_tup, e_tb, e_ab, e_tA, e_tO, e_tN, e_fI, e_i2, e_ch, e_bk, e_and, e_or, e_not, e_sm, e_sk, e_oN, e_oS, e_iK, e_sl, e_aS, e_ll, e_rv, e_rk, e_sS, e_sI, e_sN, e_sD, e_sR, e_rO, e_rV, e_rVn, e_rVr, e_sA, e_sG, e_oF, e_gN, e_g0, e_g1, e_gT, e_sE, e_au, e_ii, e_ao, e_cX, e_cM, e_nk, e_c0, e_t0, e_er0, e_en0, e_ex0, o_add_i, o_int_b, o_int_i, o_lt_i, o_is_n, o_eq_s, o_eq_b, o_len_l, o_sub_i, o_gt_i, z0, z1, z2, z3, z4, o_ix_t0, o_ix_t1, o_ix_l0, o_ix_l1, List.getElem?_cons_zero, List.getElem?_cons_succ, List.set_cons_zero, List.set_cons_succ, List.nil_append, List.cons_append, List.length_map, List.length_cons, List.length_nil, Nat.zero_add, Nat.reduceAdd, if_true, if_false, Bool.false_eq_true, Bool.not_true, Bool.not_false, reduceIte, h1, c2, c3, j1, s1, es1, es2, rd1, rd2, beq_self_eq_true, Bool.and_self]
end K03

set_option maxHeartbeats 4000000
/-! one turn of the law: bent words -/
namespace K03
open PySem PySem.Spec L2 Sd
def tBt (rest : FS) : FS := (sSeq (sAsg 4 (fCX F_bent 2 0 [.a 0, .a 1] [] (cR (fVar 1) (cD (fVar 3) cN)) cN)) (sSeq (sIf (tO (tN (tB (fCX F_read_right 1 0 [.a 0] [] (cD (fSM oJoin (fC (.str " ")) (rC (fVar 4) rN)) cN) cN))) (tN (tB (fCX F_read_right 1 0 [.a 0] [] (cD (fSM oJoin (fC (.str " ")) (rC (fCX F_bent 2 0 [.a 0, .a 1] [] (cR (fVar 1) (cD (fVar 4) cN)) cN) rN)) cN) cN)))) (sRet (fC (.bl false))) sN) rest))
theorem tBt_ev {ms : List Int} {m : M} {n l : Nat} {s0 i v4 v5 : Option C1} {μ : List M} {ws : List Str} (hm : Hd ms n m) (hn : n ≤ 70000) (hw : ∀ u ∈ ws, Wd1 u) (hl : ws.length ≤ 4)
    (h3 : ∀ (s : List (Option C1)) (m : M), escF (.r l) ⟨s, m :: μ, 0⟩ = some (.lst (ws.map D.str), ⟨s, m :: μ, 0⟩)) : ∃ (us : List Str) (m' : M), Hd ms (n + 6) m' ∧
    ∀ rest : FS, tBt rest ⟨[s0, some (.r 0), i, some (.r l), v4, v5], m :: μ, 0⟩ = rest ⟨[s0, some (.r 0), i, some (.r l), some (.r (μ.length + 1)), v5], m' :: (μ ++ [.z (.lst (us.map D.str))]), 0⟩ := by
  obtain ⟨us, m1, b1, hu, lu, h4⟩ := bent_call hm (by omega) hw (by omega)
  obtain ⟨vs, m2, b2, hv, lv, h5⟩ := bent_call h4 (by omega) hu (by omega)
  refine ⟨us, m2, h5, fun rest => ?_⟩
  have c3 := fun ρ => rr_words (us := us) (by omega) hu ρ
  have c4 := fun ρ => rr_words (us := vs) (by omega) hv ρ
  have j1 := join_op (us := us) (by omega) hu
  have j2 := join_op (us := vs) (by omega) hv
  have s1 : ∀ x : C1, sel [x] [] [] [.a 0] = [x] := fun _ => rfl
  unfold tBt
  generalize ws.map D.str = xs at h3 b1 ⊢
  generalize us.map D.str = ys at b1 b2 j1 ⊢
  generalize vs.map D.str = zs at b2 j2
  simp only [e_bo, e_bx, e_bn, e_to, e_tx, e_qn, e_qr, e_qx, e_os, e_c, e_v, e_vp, e_vr, e_ad, e_an, e_ar, e_set, e_add, e_put, e_op, e_a2, e_un, e_a1, e_rd, e_rn, e_rm, e_fl, e_fz, e_ed, e_en, e_em, e_mz, e_aN, e_aC, e_rN, e_rC, e_co, e_l0, e_l1, e_lc, e_cb, e_aL, e_cN, e_cD, e_cR, e_fr, e_fd, e_fr', e_fd', e_lst, e_tup, e_tb, e_ab, e_tA, e_tO, e_tN, e_fI, e_i2, e_ch, e_bk, e_and, e_or, e_not, e_sm, e_sk, e_oN, e_oS, e_iK, e_sl, e_aS, e_ll, e_rv, e_rk, e_sS, e_sI, e_sN, e_sD, e_sR, e_rO, e_rV, e_rVn, e_rVr, e_sA, e_sG, e_oF, e_gN, e_g0, e_g1, e_gT, e_sE, e_au, e_ii, e_ao, e_cX, e_cM, e_nk, e_c0, e_t0, e_er0, e_en0, e_ex0, o_add_i, o_int_b, o_int_i, o_lt_i, o_is_n, o_eq_s, o_eq_b, o_len_l, o_sub_i, o_gt_i, z0, z1, z2, z3, z4, o_ix_t0, o_ix_t1, o_ix_l0, o_ix_l1, List.getElem?_cons_zero, List.getElem?_cons_succ, List.set_cons_zero, List.set_cons_succ, List.nil_append, List.cons_append, List.length_map, List.length_cons, List.length_nil, Nat.zero_add, Nat.reduceAdd, if_true, if_false, Bool.false_eq_true, Bool.not_true, Bool.not_false, reduceIte, h3, b1, b2, c3, c4, j1, j2, s1, sel2, es1, es2, rd1, rd2, beq_self_eq_true, Bool.and_self]
end K03

set_option maxHeartbeats 4000000
/-! one turn of the law: what is no text -/
namespace K03
open PySem PySem.Spec L2 Sd
theorem told_h {xs : List D} {lam : List M → OtD} {k : Nat} (h : lam [.l xs] = .ex (.exc "InvalidText" ["line", "word"] [.int 0, .int (k : Nat)]) [.l xs]) : F_told lam [.fn] [.l xs] = .ok (.d (Out.wrong k).d) [.l xs] := by
  show endD (f_told lam ⟨[some .fn, none, none, none], [.l xs], 1⟩) = _
  unfold f_told
  have ha : fAct lam ⟨[some .fn, some (.p .non), none, none], [.l xs], 1⟩ = .ex (.exc "InvalidText" ["line", "word"] [.int 0, .int (k : Nat)]) ⟨[some .fn, some (.p .non), none, none], [.l xs], 1⟩ := by
    show callR [0] _ (lam [.l xs]) = _
    rw [h]
    rfl
  have ht : ∀ B : FS, B ⟨[some .fn, some (.p .non), none, none], [.l xs], 1⟩ = .ex (.exc "InvalidText" ["line", "word"] [.int 0, .int (k : Nat)]) ⟨[some .fn, some (.p .non), none, none], [.l xs], 1⟩ → sTry cm_MeetError_NoStation_TooMany 2 1 B ⟨[some .fn, some (.p .non), none, none], [.l xs], 1⟩ = .nx ⟨[some .fn, some (.p (.exc "InvalidText" ["line", "word"] [.int 0, .int (k : Nat)])), none, none], [.l xs], 1⟩ := fun B h => by
    unfold sTry
    rw [h]
    rfl
  have hb : ∀ f : FS, (sSeq (sAsg 3 (fAct lam)) f) ⟨[some .fn, some (.p .non), none, none], [.l xs], 1⟩ = .ex (.exc "InvalidText" ["line", "word"] [.int 0, .int (k : Nat)]) ⟨[some .fn, some (.p .non), none, none], [.l xs], 1⟩ := fun f => by
    simp only [e_bo, e_bx, e_bn, e_to, e_tx, e_qn, e_qr, e_qx, e_os, e_c, e_v, e_vp, e_vr, e_ad, e_an, e_ar, e_set, e_add, e_put, e_op, e_a2, e_un, e_a1, e_rd, e_rn, e_rm, e_rr, e_fl, e_fz, e_ed, e_en, e_em, e_er, e_mz, e_ml, e_aN, e_aC, e_rN, e_rC, e_co, e_l0, e_l1, e_lc, e_cb, e_aL, e_cN, e_cD, e_cR, e_fr, e_fd, e_fr', e_fd', e_lst, e_tup, e_tb, e_ab, e_tA, e_tO, e_tN, e_fI, e_i2, e_ch, e_bk, e_and, e_or, e_not, e_sm, e_sk, e_oN, e_oS, e_iK, e_sl, e_aS, e_ll, e_rv, e_rk, e_sS, e_sI, e_sN, e_sD, e_sR, e_rO, e_rV, e_rVn, e_rVr, e_sA, e_sG, e_oF, e_gN, e_g0, e_g1, e_gT, e_sE, e_au, e_ii, e_ao, e_z, e_cX, e_cM, e_nk, e_c0, e_t0, e_er0, e_en0, e_ex0, o_add_i, o_int_b, o_int_i, o_lt_i, o_is_n, o_eq_s, o_eq_b, o_len_l, o_sub_i, o_gt_i, z0, z1, z2, z3, z4, o_ix_t0, o_ix_t1, o_ix_l0, o_ix_l1, List.getElem?_cons_zero, List.getElem?_cons_succ, List.set_cons_zero, List.set_cons_succ, List.nil_append, List.cons_append, List.length_map, List.length_cons, List.length_nil, Nat.zero_add, Nat.reduceAdd, if_true, if_false, Bool.false_eq_true, Bool.not_true, Bool.not_false, reduceIte, ha]
    all_goals rfl
  have x1 : oIs tb_InvalidText (.exc "InvalidText" ["line", "word"] [.int 0, .int (k : Nat)]) = some (.d (.bl true)) := rfl
  have x2 : oIs tb_MeetError (.exc "InvalidText" ["line", "word"] [.int 0, .int (k : Nat)]) = some (.d (.bl true)) := rfl
  have x3 : oIs tb_T_Clash_InvalidKind_InvalidPart_NoStation_TooMany (.exc "InvalidText" ["line", "word"] [.int 0, .int (k : Nat)]) = some (.d (.bl false)) := rfl
  have x4 : oFx excs "line" (.exc "InvalidText" ["line", "word"] [.int 0, .int (k : Nat)]) = some (.d (.int 0)) := rfl
  have x5 : oFx excs "word" (.exc "InvalidText" ["line", "word"] [.int 0, .int (k : Nat)]) = some (.d (.int (k : Nat))) := rfl
  have tk : List.take 1 [M.l xs] = [.l xs] := rfl
  have cl : closedB 1 [M.l xs] = true := rfl
  simp only [e_bo, e_bx, e_bn, e_to, e_tx, e_qn, e_qr, e_qx, e_os, e_c, e_v, e_vp, e_vr, e_ad, e_an, e_ar, e_set, e_add, e_put, e_op, e_a2, e_un, e_a1, e_rd, e_rn, e_rm, e_rr, e_fl, e_fz, e_ed, e_en, e_em, e_er, e_mz, e_ml, e_aN, e_aC, e_rN, e_rC, e_co, e_l0, e_l1, e_lc, e_cb, e_aL, e_cN, e_cD, e_cR, e_fr, e_fd, e_fr', e_fd', e_lst, e_tup, e_tb, e_ab, e_tA, e_tO, e_tN, e_fI, e_i2, e_ch, e_bk, e_and, e_or, e_not, e_sm, e_sk, e_oN, e_oS, e_iK, e_sl, e_aS, e_ll, e_rv, e_rk, e_sS, e_sI, e_sN, e_sD, e_sR, e_rO, e_rV, e_rVn, e_rVr, e_sA, e_sG, e_oF, e_gN, e_g0, e_g1, e_gT, e_sE, e_au, e_ii, e_ao, e_z, e_cX, e_cM, e_nk, e_c0, e_t0, e_er0, e_en0, e_ex0, o_add_i, o_int_b, o_int_i, o_lt_i, o_is_n, o_eq_s, o_eq_b, o_len_l, o_sub_i, o_gt_i, z0, z1, z2, z3, z4, o_ix_t0, o_ix_t1, o_ix_l0, o_ix_l1, List.getElem?_cons_zero, List.getElem?_cons_succ, List.set_cons_zero, List.set_cons_succ, List.nil_append, List.cons_append, List.length_map, List.length_cons, List.length_nil, Nat.zero_add, Nat.reduceAdd, if_true, if_false, Bool.false_eq_true, Bool.not_true, Bool.not_false, reduceIte, tk, cl, ht _ (hb _), x1, x2, x3, x4, x5, beq_self_eq_true]
  all_goals rfl
end K03

set_option maxHeartbeats 2000000
/-! a lambda of the law: the hand and what is frozen -/
namespace K03
open PySem PySem.Spec L2 Sd
theorem callL_h {F : (List M → OtD) → FD} {body : FE} {i d y x3 x4 : D} {l3 l4 : Nat} {xs : List D} {μ : List M} (h3 : (M.l xs :: μ)[l3]? = some (.z x3)) (h4 : (M.l xs :: μ)[l4]? = some (.z x4))
    (h : F (lamF body [none, some (.r 0), some (.p i), some (.p x3), some (.p x4), some (.p d)]) [.fn] [.l xs] = .ok (.d y) [.l xs]) :
    callL F body [] ⟨[none, some (.r 0), some (.p i), some (.r l3), some (.r l4), some (.p d)], .l xs :: μ, 0⟩ = .ok (.d y) ⟨[none, some (.r 0), some (.p i), some (.r l3), some (.r l4), some (.p d)], .l xs :: μ, 0⟩ := by
  have f3 : fz (.l xs :: μ) (.r l3) = .p x3 := by
    show (match (M.l xs :: μ)[l3]? with
      | some (.z d) => C1.p d
      | _ => .r l3) = _
    rw [h3]
  have f4 : fz (.l xs :: μ) (.r l4) = .p x4 := by
    show (match (M.l xs :: μ)[l4]? with
      | some (.z d) => C1.p d
      | _ => .r l4) = _
    rw [h4]
  have a3 : ∀ ls, addR (.l xs :: μ) ls (.r l3) = ls := fun ls => by
    unfold addR
    rw [f3]
  have a4 : ∀ ls, addR (.l xs :: μ) ls (.r l4) = ls := fun ls => by
    unfold addR
    rw [f4]
  have r3 : refIn (.l xs :: μ) [0] (.r l3) = true := by
    unfold refIn
    rw [f3]
  have r4 : refIn (.l xs :: μ) [0] (.r l4) = true := by
    unfold refIn
    rw [f4]
  have n3 : renC (.l xs :: μ) [0] (.r l3) = .p x3 := by
    unfold renC
    rw [f3]
  have n4 : renC (.l xs :: μ) [0] (.r l4) = .p x4 := by
    unfold renC
    rw [f4]
  have e1 : lend (.l xs :: μ) [.r 0, .p i, .r l3, .r l4, .p d] = [0] := by
    unfold lend
    show clo (.l xs :: μ) (μ.length + 1) 0 (addR (.l xs :: μ) (addR (.l xs :: μ) [0] (.r l3)) (.r l4)) = _
    rw [a3, a4]
    show clo (.l xs :: μ) μ.length 1 [0] = _
    cases μ <;> rfl
  have e2 : okL (.l xs :: μ) [.r 0, .p i, .r l3, .r l4, .p d] [0] = true := by
    unfold okL
    show (true && ((true && true) && (true && (true && (refIn (.l xs :: μ) [0] (.r l3) && (refIn (.l xs :: μ) [0] (.r l4) && (true && true))))))) = true
    rw [r3, r4]
    rfl
  have e3 : renS (.l xs :: μ) [0] [none, some (.r 0), some (.p i), some (.r l3), some (.r l4), some (.p d)] = [none, some (.r 0), some (.p i), some (.p x3), some (.p x4), some (.p d)] := by
    show [none, some (.r 0), some (.p i), some (renC (.l xs :: μ) [0] (.r l3)), some (renC (.l xs :: μ) [0] (.r l4)), some (.p d)] = _
    rw [n3, n4]
  unfold callL
  show (if okL (.l xs :: μ) [.r 0, .p i, .r l3, .r l4, .p d] (lend (.l xs :: μ) [.r 0, .p i, .r l3, .r l4, .p d]) = true then bkD (lend (.l xs :: μ) [.r 0, .p i, .r l3, .r l4, .p d]) _
    (F (lamF body (renS (.l xs :: μ) (lend (.l xs :: μ) [.r 0, .p i, .r l3, .r l4, .p d]) [none, some (.r 0), some (.p i), some (.r l3), some (.r l4), some (.p d)])) [.fn] (subM (.l xs :: μ) (lend (.l xs :: μ) [.r 0, .p i, .r l3, .r l4, .p d]))) else .no) = _
  rw [e1, e2, if_pos rfl, e3]
  show bkD [0] _ (F (lamF body [none, some (.r 0), some (.p i), some (.p x3), some (.p x4), some (.p d)]) [.fn] [.l xs]) = _
  rw [h]
  rfl
theorem lam_odd {i d x3 x4 : D} {xs : List D} (h : oIs tb_str d = some (.d (.bl false))) : lamF (fCM F_Kind_read 2 0 [.a 0] (cD (fVar 5) cN) cN) [none, some (.r 0), some (.p i), some (.p x3), some (.p x4), some (.p d)] [.l xs] = .ex (.exc "InvalidText" ["line", "word"] [.int 0, .int (0 : Nat)]) [.l xs] := by
  show endE (callC F_Kind_read [.p d] ⟨[none, some (.r 0), some (.p i), some (.p x3), some (.p x4), some (.p d)], [.l xs], 1⟩) = _
  have e : callC F_Kind_read [.p d] ⟨[none, some (.r 0), some (.p i), some (.p x3), some (.p x4), some (.p d)], [.l xs], 1⟩ = .ex (.exc "InvalidText" ["line", "word"] [.int 0, .int (0 : Nat)]) ⟨[none, some (.r 0), some (.p i), some (.p x3), some (.p x4), some (.p d)], [.l xs], 1⟩ := callC_x (ds := [d]) (odd_ev h)
  rw [e]
  rfl
theorem odd_turn {i d x3 x4 : D} {l3 l4 : Nat} {xs : List D} {μ : List M} (h3 : (M.l xs :: μ)[l3]? = some (.z x3)) (h4 : (M.l xs :: μ)[l4]? = some (.z x4)) (h : oIs tb_str d = some (.d (.bl false))) :
    fLam F_told (fCM F_Kind_read 2 0 [.a 0] (cD (fVar 5) cN) cN) cN ⟨[none, some (.r 0), some (.p i), some (.r l3), some (.r l4), some (.p d)], .l xs :: μ, 0⟩ = .ok (.d (.tup [.str "wrong", .int 0])) ⟨[none, some (.r 0), some (.p i), some (.r l3), some (.r l4), some (.p d)], .l xs :: μ, 0⟩ :=
  show callL F_told _ [] _ = _ from callL_h h3 h4 (told_h (lam_odd h))
end K03

set_option maxHeartbeats 4000000
/-! one turn of the law: what is no text -/
namespace K03
open PySem PySem.Spec L2 Sd
abbrev big : Int := 10 ^ 59
def oddL : List D := [.non, .bl true, .int 0, .lst [], .dct [] [], .tup [.str "one/any"], .lst [.str "one/any"], .int big]
def oddE : FE := (fLst (aC (fC .non) (aC (fC (.bl true)) (aC (fC (.int 0)) (aC (fLst aN) (aC fD0 (aC (fTup (aC (fC (.str "one/any")) aN)) (aC (fLst (aC (fC (.str "one/any")) aN)) (aC (fOp oPow (fC (.int 10)) (fC (.int 59))) aN)))))))))
theorem e_ad2 {ρ : En} {f : FE} {g : FA} {r : RV} {x : D} {xs : List D} (h : f ρ = .ok r ρ) (hr : escF r ρ = some (x, ρ)) (k : g ρ = .ok xs ρ) : aC f g ρ = .ok (x :: xs) ρ := by
  rw [e_aC, h]
  show ((opt (escF r ρ) ρ).bind _) = _
  rw [hr]
  show ((g ρ).bind _) = _
  rw [k]
  rfl
theorem oddE_ev {ρ : En} : oddE ρ = .ok (.n (.l oddL)) ρ :=
  e_lc' (e_ac e_c (e_ac e_c (e_ac e_c (e_ad2 (r := .n (.l [])) rfl rfl (e_ad2 (r := .n (.m [] [])) rfl rfl (e_ac (x := .tup [.str "one/any"]) rfl (e_ad2 (r := .n (.l [.str "one/any"])) rfl rfl (e_ac (x := .int big) rfl e_aN)))))))) rfl
theorem odd_pick {v : Int} (h0 : 0 ≤ v) (h1 : v < 8) : ∃ d, oIx (.lst oddL) (.int v) = some (.d d) ∧ oIs tb_str d = some (.d (.bl false)) := by
  have : v = 0 ∨ v = 1 ∨ v = 2 ∨ v = 3 ∨ v = 4 ∨ v = 5 ∨ v = 6 ∨ v = 7 := by omega
  rcases this with rfl | rfl | rfl | rfl | rfl | rfl | rfl | rfl <;> exact ⟨_, rfl, rfl⟩
theorem eq_wr : oEq not (.tup [.str "wrong", .int 0]) (.tup [.str "wrong", .int 0]) = some (.d (.bl false)) := by
  have s : SeqAt.shaped (.tuple [.str "wrong", .int 0]) = true := by decide +kernel
  have p : PyData.eqv (.tuple [.str "wrong", .int 0]) (.tuple [.str "wrong", .int 0]) = true := by decide +kernel
  show (match (if (SeqAt.shaped (.tuple [.str "wrong", .int 0]) && SeqAt.shaped (.tuple [.str "wrong", .int 0])) = true then some (PyData.eqv (.tuple [.str "wrong", .int 0]) (.tuple [.str "wrong", .int 0])) else none) with
    | some b => some (RV.d (.bl (not b)))
    | none => none) = _
  rw [s, p]
  rfl
def tC : FS := (sSeq (sAsg 5 (fOp oIx oddE (fCX F_take 2 0 [.a 0, .a 1] [] (cR (fVar 1) (cD (fC (.int 8)) cN)) cN))) (sIf (tB (fOp (oEq not) (fLam F_told (fCM F_Kind_read 2 0 [.a 0] (cD (fVar 5) cN) cN) cN) (fTup (aC (fC (.str "wrong")) (aC (fC (.int 0)) aN))))) (sRet (fC (.bl false))) sN))
theorem tC_ev {ms : List Int} {m : M} {n l3 l4 : Nat} {i x3 x4 : D} {v5 : Option C1} {μ : List M} (hm : Hd ms n m) (hn : n ≤ 90000)
    (h3 : ∀ m : M, (m :: μ)[l3]? = some (.z x3)) (h4 : ∀ m : M, (m :: μ)[l4]? = some (.z x4)) : ∃ (d : D) (m' : M), Hd ms (n + 1) m' ∧
    tC ⟨[none, some (.r 0), some (.p i), some (.r l3), some (.r l4), v5], m :: μ, 0⟩ = .nx ⟨[none, some (.r 0), some (.p i), some (.r l3), some (.r l4), some (.p d)], m' :: μ, 0⟩ := by
  obtain ⟨v, m', t1, v0, v1, h1⟩ := take_call (b := 8) hm (by decide) (by decide) (by omega)
  obtain ⟨d, od, os⟩ := odd_pick v0 v1
  refine ⟨d, m', h1, ?_⟩
  obtain ⟨j, r, rfl, _⟩ := h1
  obtain ⟨ys, ey⟩ : ∃ ys : List D, hand ms j r = .l ys := ⟨_, rfl⟩
  rw [ey] at t1 ⊢
  have L := odd_turn (i := i) (h3 (.l ys)) (h4 (.l ys)) os
  have z2 : szB 2 = true := rfl
  unfold tC
  simp only [e_bo, e_bx, e_bn, e_to, e_tx, e_qn, e_qr, e_qx, e_os, e_c, e_v, e_vp, e_vr, e_ad, e_an, e_ar, e_set, e_add, e_put, e_op, e_a2, e_un, e_a1, e_rd, e_rn, e_rm, e_rr, e_fl, e_fz, e_ed, e_en, e_em, e_er, e_mz, e_ml, e_aN, e_aC, e_rN, e_rC, e_co, e_l0, e_l1, e_lc, e_cb, e_aL, e_cN, e_cD, e_cR, e_fr, e_fd, e_fr', e_fd', e_lst, e_tup, e_tb, e_ab, e_tA, e_tO, e_tN, e_fI, e_i2, e_ch, e_bk, e_and, e_or, e_not, e_sm, e_sk, e_oN, e_oS, e_iK, e_sl, e_aS, e_ll, e_rv, e_rk, e_sS, e_sI, e_sN, e_sD, e_sR, e_rO, e_rV, e_rVn, e_rVr, e_sA, e_sG, e_oF, e_gN, e_g0, e_g1, e_gT, e_sE, e_au, e_ii, e_ao, e_z, e_cX, e_cM, e_nk, e_c0, e_t0, e_er0, e_en0, e_ex0, o_add_i, o_int_b, o_int_i, o_lt_i, o_is_n, o_eq_s, o_eq_b, o_len_l, o_sub_i, o_gt_i, z0, z1, z2, z3, z4, o_ix_t0, o_ix_t1, o_ix_l0, o_ix_l1, List.getElem?_cons_zero, List.getElem?_cons_succ, List.set_cons_zero, List.set_cons_succ, List.nil_append, List.cons_append, List.length_map, List.length_cons, List.length_nil, Nat.zero_add, Nat.reduceAdd, if_true, if_false, Bool.false_eq_true, Bool.not_true, Bool.not_false, reduceIte, oddE_ev, t1, od, L, eq_wr, sel2, z2, beq_self_eq_true, Bool.and_self]
end K03

set_option maxHeartbeats 4000000
/-! the loop of eight turns -/
namespace K03
open PySem PySem.Spec L2 Sd
theorem at_but (m x y : M) (μ : List M) : (m :: (μ ++ [x] ++ [y]))[μ.length + 1]? = some x := by
  rw [List.getElem?_cons_succ, List.getElem?_append_left (by rw [List.length_append]; exact Nat.lt_succ_self _), List.getElem?_append_right (Nat.le_refl _), Nat.sub_self]
  rfl
theorem turn_ev {ms : List Int} {m : M} {n : Nat} {i : D} {v3 v4 v5 : Option C1} {μ : List M} (hm : Hd ms n m) (hn : n ≤ 60000) : ∃ (w3 w4 w5 : Option C1) (m' : M) (μ' : List M), Hd ms (n + 13) m' ∧
    tA (tBt tC) ⟨[none, some (.r 0), some (.p i), v3, v4, v5], m :: μ, 0⟩ = .nx ⟨[none, some (.r 0), some (.p i), w3, w4, w5], m' :: μ', 0⟩ := by
  obtain ⟨ws, m1, hw, hl, h1, e1⟩ := tA_ev (s0 := none) (i := some (.p i)) (v3 := v3) (v4 := v4) (v5 := v5) (μ := μ) hm (by omega)
  obtain ⟨us, m2, h2, e2⟩ := tBt_ev (s0 := none) (i := some (.p i)) (v4 := v4) (v5 := v5) (l := μ.length + 1) (μ := μ ++ [.z (.lst (ws.map D.str))]) h1 (by omega) hw hl (fun s m => es2)
  obtain ⟨d, m3, h3, e3⟩ := tC_ev (i := i) (v5 := v5) (l3 := μ.length + 1) (l4 := (μ ++ [M.z (.lst (ws.map D.str))]).length + 1) (μ := μ ++ [.z (.lst (ws.map D.str))] ++ [.z (.lst (us.map D.str))]) h2 (by omega) (fun m => at_but m _ _ μ) (fun m => at_last m _ _)
  exact ⟨_, _, _, m3, _, h3.mono (by omega), (e1 _).trans ((e2 _).trans e3)⟩
theorem loop_ev {ms : List Int} : ∀ (is : List D) {n : Nat} {m : M} {v2 v3 v4 v5 : Option C1} {μ : List M}, Hd ms n m → n + 13 * is.length ≤ 60000 → ∃ (s' : List (Option C1)) (m' : M) (μ' : List M),
    sLoop (gN 2) (tA (tBt tC)) is ⟨[none, some (.r 0), v2, v3, v4, v5], m :: μ, 0⟩ = .nx ⟨s', m' :: μ', 0⟩
  | [], _, m, _, _, _, _, μ, _, _ => ⟨_, m, μ, rfl⟩
  | x :: is, n, m, v2, v3, v4, v5, μ, hm, hn => by
    have hn : n + 13 * (is.length + 1) ≤ 60000 := hn
    obtain ⟨w3, w4, w5, m1, μ1, h1, e1⟩ := turn_ev (i := x) (v3 := v3) (v4 := v4) (v5 := v5) (μ := μ) hm (by omega)
    obtain ⟨s', m', μ', e2⟩ := loop_ev is (v2 := some (.p x)) (v3 := w3) (v4 := w4) (v5 := w5) (μ := μ1) h1 (by omega)
    refine ⟨s', m', μ', ?_⟩
    show turn (sLoop (gN 2) (tA (tBt tC)) is) (tA (tBt tC) ⟨[none, some (.r 0), some (.p x), v3, v4, v5], m :: μ, 0⟩) = _
    rw [e1]
    exact e2
def tEnd : FS := (sSeq (sIf (tO (tN (tB (fCX F_read_right 1 0 [.a 0] [] (cD (fC (.str "one/any rests 3 turns")) cN) cN))) (tN (tB (fCX F_read_right 1 0 [.a 0] [] (cD (fC (.str "one/any turns rests 2 ")) cN) cN)))) (sRet (fC (.bl false))) sN) (sRet (fAnd (fCX F_read_right 1 0 [.a 0] [] (cD (fC (.str "")) cN) cN) (fCX F_read_right 1 0 [.a 0] [] (cD (fC (.str "one/any rests")) cN) cN))))
theorem tEnd_ev {s : List (Option C1)} {μ : List M} : ∃ μ', tEnd ⟨s, μ, 0⟩ = .rt (.d (.bl true)) μ' := by
  have s1 : ∀ x : C1, sel [x] [] [] [.a 0] = [x] := fun _ => rfl
  refine ⟨[], ?_⟩
  unfold tEnd
  simp only [e_bo, e_bx, e_bn, e_to, e_tx, e_qn, e_qr, e_qx, e_os, e_c, e_v, e_vp, e_vr, e_ad, e_an, e_ar, e_set, e_add, e_put, e_op, e_a2, e_un, e_a1, e_rd, e_rn, e_rm, e_rr, e_fl, e_fz, e_ed, e_en, e_em, e_er, e_mz, e_ml, e_aN, e_aC, e_rN, e_rC, e_co, e_l0, e_l1, e_lc, e_cb, e_aL, e_cN, e_cD, e_cR, e_fr, e_fd, e_fr', e_fd', e_lst, e_tup, e_tb, e_ab, e_tA, e_tO, e_tN, e_fI, e_i2, e_ch, e_bk, e_and, e_or, e_not, e_sm, e_sk, e_oN, e_oS, e_iK, e_sl, e_aS, e_ll, e_rv, e_rk, e_sS, e_sI, e_sN, e_sD, e_sR, e_rO, e_rV, e_rVn, e_rVr, e_sA, e_sG, e_oF, e_gN, e_g0, e_g1, e_gT, e_sE, e_au, e_ii, e_ao, e_z, e_cX, e_cM, e_nk, e_c0, e_t0, e_er0, e_en0, e_ex0, o_add_i, o_int_b, o_int_i, o_lt_i, o_is_n, o_eq_s, o_eq_b, o_len_l, o_sub_i, o_gt_i, z0, z1, z2, z3, z4, o_ix_t0, o_ix_t1, o_ix_l0, o_ix_l1, List.getElem?_cons_zero, List.getElem?_cons_succ, List.set_cons_zero, List.set_cons_succ, List.nil_append, List.cons_append, List.length_map, List.length_cons, List.length_nil, Nat.zero_add, Nat.reduceAdd, if_true, if_false, Bool.false_eq_true, Bool.not_true, Bool.not_false, reduceIte, s1, rr_call fix1, rr_call fix2, rr_call fix3, rr_call fix4, beq_self_eq_true, Bool.and_self]
  all_goals rfl
theorem law_is : f_law = sSeq (sFor (iRng rng1 (rC (fC (.int 8)) rN)) (gN 2) (tA (tBt tC))) tEnd := rfl
theorem plain : Plain := fun ms hms => by
  have h0 : Hd ms 0 (hand0 ms) := ⟨0, 0, rfl, by omega, by omega, by omega⟩
  obtain ⟨s', m', μ', e⟩ := loop_ev (intsFrom 0 8) (v2 := none) (v3 := none) (v4 := none) (v5 := none) (μ := []) h0 (by show 0 + 13 * 8 ≤ 60000; decide)
  obtain ⟨μ2, e2⟩ := tEnd_ev (s := s') (μ := m' :: μ')
  have key : f_law ⟨lawSt 6 1, [hand0 ms], 0⟩ = .rt (.d (.bl true)) μ2 := by
    rw [law_is]
    show (sLoop (gN 2) (tA (tBt tC)) (intsFrom 0 8) ⟨[none, some (.r 0), none, none, none, none], [hand0 ms], 0⟩).sq tEnd = _
    rw [e]
    exact e2
  unfold ws
  rw [key]
  rfl
end K03

set_option maxHeartbeats 0
/-! the head -/
namespace K03
open PySem PySem.Spec PyProof.Rows L2 LamX Sd Hdr PySem.ExZ
def x_InvalidKind : ExD := ⟨"InvalidKind", "ValueError", "ValueError.__init__", "ValueError.__new__", [.type "ValueError", .type "Exception", .type "BaseException", .type "object"], ["place"], "InvalidKind.__init__", inClass (top 2) 0⟩
def x_InvalidPart : ExD := ⟨"InvalidPart", "ValueError", "ValueError.__init__", "ValueError.__new__", [.type "ValueError", .type "Exception", .type "BaseException", .type "object"], ["index"], "InvalidPart.__init__", inClass (top 3) 0⟩
def x_Clash : ExD := ⟨"Clash", "ValueError", "ValueError.__init__", "ValueError.__new__", [.type "ValueError", .type "Exception", .type "BaseException", .type "object"], ["number"], "Clash.__init__", inClass (top 4) 0⟩
def x_InvalidText : ExD := ⟨"InvalidText", "ValueError", "ValueError.__init__", "ValueError.__new__", [.type "ValueError", .type "Exception", .type "BaseException", .type "object"], ["line", "word"], "InvalidText.__init__", inClass (top 5) 0⟩
def x_NoStation : ExD := ⟨"NoStation", "KeyError", "KeyError.__init__", "LookupError.__new__", [.type "KeyError", .type "LookupError", .type "Exception", .type "BaseException", .type "object"], ["name"], "NoStation.__init__", inClass (top 6) 0⟩
def x_TooMany : ExD := ⟨"TooMany", "OverflowError", "OverflowError.__init__", "OverflowError.__new__", [.type "OverflowError", .type "ArithmeticError", .type "Exception", .type "BaseException", .type "object"], ["limit"], "TooMany.__init__", inClass (top 7) 0⟩
def xs : List ExD := [x_InvalidKind, x_InvalidPart, x_Clash, x_InvalidText, x_NoStation, x_TooMany]
/-- where the defs stand -/
def faK (K : PySem.W.Frag) (q : Str) : Addr := if q = "Kind.__init__" then He.ma K (He.ga K "Kind") "__init__" else if q = "Kind.read" then He5.wf K (He.ga K "Kind") "classmethod" "read" else if q = "Kind.lends" then propF K (He.ga K "Kind") "lends" else if q = "Kind.lets" then propF K (He.ga K "Kind") "lets" else if q = "Kind.rests" then propF K (He.ga K "Kind") "rests" else if q = "Kind.turns" then propF K (He.ga K "Kind") "turns" else if q = "Kind.__eq__" then He.ma K (He.ga K "Kind") "__eq__" else if q = "Kind.__str__" then He.ma K (He.ga K "Kind") "__str__" else if q = "Kind.__repr__" then He.ma K (He.ga K "Kind") "__repr__" else He.ga K q
/-- where the records of classes stand -/
def paK (K : PySem.W.Frag) (q : Str) : Addr := if q = "Kind.lends" then He.ma K (He.ga K "Kind") "lends" else if q = "Kind.lets" then He.ma K (He.ga K "Kind") "lets" else if q = "Kind.turns" then He.ma K (He.ga K "Kind") "turns" else if q = "Kind.rests" then He.ma K (He.ga K "Kind") "rests" else if q = "Kind.read" then He.ma K (He.ga K "Kind") "read" else if q = "Kind.LENDS" then He.ma K (He.ga K "Kind") "LENDS" else if q = "Kind.LETS" then He.ma K (He.ga K "Kind") "LETS" else 0
theorem fa_Kind_init {K : PySem.W.Frag} : faK K "Kind.__init__" = He.ma K (He.ga K "Kind") "__init__" := by kernel_rfl
theorem fa_Kind_read {K : PySem.W.Frag} : faK K "Kind.read" = He5.wf K (He.ga K "Kind") "classmethod" "read" := by kernel_rfl
theorem fa_Kind_lends {K : PySem.W.Frag} : faK K "Kind.lends" = propF K (He.ga K "Kind") "lends" := by kernel_rfl
theorem fa_Kind_lets {K : PySem.W.Frag} : faK K "Kind.lets" = propF K (He.ga K "Kind") "lets" := by kernel_rfl
theorem fa_Kind_rests {K : PySem.W.Frag} : faK K "Kind.rests" = propF K (He.ga K "Kind") "rests" := by kernel_rfl
theorem fa_Kind_turns {K : PySem.W.Frag} : faK K "Kind.turns" = propF K (He.ga K "Kind") "turns" := by kernel_rfl
theorem fa_Kind_eq {K : PySem.W.Frag} : faK K "Kind.__eq__" = He.ma K (He.ga K "Kind") "__eq__" := by kernel_rfl
theorem fa_Kind_str {K : PySem.W.Frag} : faK K "Kind.__str__" = He.ma K (He.ga K "Kind") "__str__" := by kernel_rfl
theorem fa_Kind_repr {K : PySem.W.Frag} : faK K "Kind.__repr__" = He.ma K (He.ga K "Kind") "__repr__" := by kernel_rfl
theorem fa_is_number {K : PySem.W.Frag} : faK K "is_number" = He.ga K "is_number" := by kernel_rfl
theorem fa_is_one_of {K : PySem.W.Frag} : faK K "is_one_of" = He.ga K "is_one_of" := by kernel_rfl
theorem fa_number_in {K : PySem.W.Frag} : faK K "number_in" = He.ga K "number_in" := by kernel_rfl
theorem fa_parts_in {K : PySem.W.Frag} : faK K "parts_in" = He.ga K "parts_in" := by kernel_rfl
theorem fa_take {K : PySem.W.Frag} : faK K "_law_take" = He.ga K "_law_take" := by kernel_rfl
theorem fa_other {K : PySem.W.Frag} : faK K "_law_other" = He.ga K "_law_other" := by kernel_rfl
theorem fa_bent {K : PySem.W.Frag} : faK K "_law_bent" = He.ga K "_law_bent" := by kernel_rfl
theorem fa_is_rest {K : PySem.W.Frag} : faK K "_law_is_rest" = He.ga K "_law_is_rest" := by kernel_rfl
theorem fa_due {K : PySem.W.Frag} : faK K "_law_due" = He.ga K "_law_due" := by kernel_rfl
theorem fa_told {K : PySem.W.Frag} : faK K "_law_told" = He.ga K "_law_told" := by kernel_rfl
theorem fa_read_right {K : PySem.W.Frag} : faK K "_law_read_right" = He.ga K "_law_read_right" := by kernel_rfl
theorem fa_shown_right {K : PySem.W.Frag} : faK K "_law_shown_right" = He.ga K "_law_shown_right" := by kernel_rfl
theorem fa_words {K : PySem.W.Frag} : faK K "_law_words" = He.ga K "_law_words" := by kernel_rfl
theorem fa_law {K : PySem.W.Frag} : faK K "law" = He.ga K "law" := by kernel_rfl
theorem fa_begin {K : PySem.W.Frag} : faK K "_law_begin" = He.ga K "_law_begin" := by kernel_rfl
theorem pa_Kind_lends {K : PySem.W.Frag} : paK K "Kind.lends" = He.ma K (He.ga K "Kind") "lends" := by kernel_rfl
theorem pa_Kind_lets {K : PySem.W.Frag} : paK K "Kind.lets" = He.ma K (He.ga K "Kind") "lets" := by kernel_rfl
theorem pa_Kind_turns {K : PySem.W.Frag} : paK K "Kind.turns" = He.ma K (He.ga K "Kind") "turns" := by kernel_rfl
theorem pa_Kind_rests {K : PySem.W.Frag} : paK K "Kind.rests" = He.ma K (He.ga K "Kind") "rests" := by kernel_rfl
theorem pa_Kind_read {K : PySem.W.Frag} : paK K "Kind.read" = He.ma K (He.ga K "Kind") "read" := by kernel_rfl
theorem pa_Kind_LENDS {K : PySem.W.Frag} : paK K "Kind.LENDS" = He.ma K (He.ga K "Kind") "LENDS" := by kernel_rfl
theorem pa_Kind_LETS {K : PySem.W.Frag} : paK K "Kind.LETS" = He.ma K (He.ga K "Kind") "LETS" := by kernel_rfl
def d_is_number : He5.DefA := ⟨fun K => faK K "is_number", "is_number", "is_number", defArgs s_is_number, defBody s_is_number, defScope s_is_number, [], []⟩
def d_is_one_of : He5.DefA := ⟨fun K => faK K "is_one_of", "is_one_of", "is_one_of", defArgs s_is_one_of, defBody s_is_one_of, defScope s_is_one_of, [], []⟩
def d_Kind_init : He5.DefA := ⟨fun K => faK K "Kind.__init__", "__init__", "Kind.__init__", defArgs s_Kind_init, defBody s_Kind_init, defScope s_Kind_init, [], [("turns", .bl false), ("rests", .non)]⟩
def d_number_in : He5.DefA := ⟨fun K => faK K "number_in", "number_in", "number_in", defArgs s_number_in, defBody s_number_in, defScope s_number_in, [], []⟩
def d_parts_in : He5.DefA := ⟨fun K => faK K "parts_in", "parts_in", "parts_in", defArgs s_parts_in, defBody s_parts_in, defScope s_parts_in, [], []⟩
def d_Kind_read : He5.DefA := ⟨fun K => faK K "Kind.read", "read", "Kind.read", defArgs s_Kind_read, defBody s_Kind_read, defScope s_Kind_read, [], []⟩
def d_take : He5.DefA := ⟨fun K => faK K "_law_take", "_law_take", "_law_take", defArgs s_take, defBody s_take, defScope s_take, [], []⟩
def d_other : He5.DefA := ⟨fun K => faK K "_law_other", "_law_other", "_law_other", defArgs s_other, defBody s_other, defScope s_other, [], []⟩
def d_bent : He5.DefA := ⟨fun K => faK K "_law_bent", "_law_bent", "_law_bent", defArgs s_bent, defBody s_bent, defScope s_bent, [], []⟩
def d_is_rest : He5.DefA := ⟨fun K => faK K "_law_is_rest", "_law_is_rest", "_law_is_rest", defArgs s_is_rest, defBody s_is_rest, defScope s_is_rest, [], []⟩
def d_due : He5.DefA := ⟨fun K => faK K "_law_due", "_law_due", "_law_due", defArgs s_due, defBody s_due, defScope s_due, [], []⟩
def d_Kind_lends : He5.DefA := ⟨fun K => faK K "Kind.lends", "lends", "Kind.lends", defArgs s_Kind_lends, defBody s_Kind_lends, defScope s_Kind_lends, [], []⟩
def d_Kind_lets : He5.DefA := ⟨fun K => faK K "Kind.lets", "lets", "Kind.lets", defArgs s_Kind_lets, defBody s_Kind_lets, defScope s_Kind_lets, [], []⟩
def d_Kind_rests : He5.DefA := ⟨fun K => faK K "Kind.rests", "rests", "Kind.rests", defArgs s_Kind_rests, defBody s_Kind_rests, defScope s_Kind_rests, [], []⟩
def d_Kind_turns : He5.DefA := ⟨fun K => faK K "Kind.turns", "turns", "Kind.turns", defArgs s_Kind_turns, defBody s_Kind_turns, defScope s_Kind_turns, [], []⟩
def d_told : He5.DefA := ⟨fun K => faK K "_law_told", "_law_told", "_law_told", defArgs s_told, defBody s_told, defScope s_told, [], []⟩
def d_read_right : He5.DefA := ⟨fun K => faK K "_law_read_right", "_law_read_right", "_law_read_right", defArgs s_read_right, defBody s_read_right, defScope s_read_right, [], []⟩
def d_Kind_eq : He5.DefA := ⟨fun K => faK K "Kind.__eq__", "__eq__", "Kind.__eq__", defArgs s_Kind_eq, defBody s_Kind_eq, defScope s_Kind_eq, [], []⟩
def d_Kind_str : He5.DefA := ⟨fun K => faK K "Kind.__str__", "__str__", "Kind.__str__", defArgs s_Kind_str, defBody s_Kind_str, defScope s_Kind_str, [], []⟩
def d_Kind_repr : He5.DefA := ⟨fun K => faK K "Kind.__repr__", "__repr__", "Kind.__repr__", defArgs s_Kind_repr, defBody s_Kind_repr, defScope s_Kind_repr, [], []⟩
def d_shown_right : He5.DefA := ⟨fun K => faK K "_law_shown_right", "_law_shown_right", "_law_shown_right", defArgs s_shown_right, defBody s_shown_right, defScope s_shown_right, [], []⟩
def d_words : He5.DefA := ⟨fun K => faK K "_law_words", "_law_words", "_law_words", defArgs s_words, defBody s_words, defScope s_words, [], []⟩
def d_law : He5.DefA := ⟨fun K => faK K "law", "law", "law", defArgs s_law, defBody s_law, defScope s_law, [], []⟩
def d_begin : He5.DefA := ⟨fun K => faK K "_law_begin", "_law_begin", "_law_begin", defArgs s_begin, defBody s_begin, defScope s_begin, [], []⟩
def fn : List He5.DefA := [d_is_number, d_is_one_of, d_Kind_init, d_number_in, d_parts_in, d_Kind_read, d_take, d_other, d_bent, d_is_rest, d_due, d_Kind_lends, d_Kind_lets, d_Kind_rests, d_Kind_turns, d_told, d_read_right, d_Kind_eq, d_Kind_str, d_Kind_repr, d_shown_right, d_words, d_law, d_begin]
def fa : List He.Fa := [.cls "Kind", .free "abs", .free "all", .free "bool", .free "int", .free "isinstance", .free "len", .free "list", .free "range", .free "repr", .free "str", .int "LEAST_REST" 2, .int "MOST_REST" 1000000, .str "FIGURES" "0123456789", .glo "MeetError", .glo "InvalidKind", .glo "InvalidPart", .glo "Clash", .glo "InvalidText", .glo "NoStation", .glo "TooMany", .glo "Kind", .glo "is_number", .glo "is_one_of", .glo "number_in", .glo "parts_in", .glo "_law_take", .glo "_law_other", .glo "_law_bent", .glo "_law_is_rest", .glo "_law_due", .glo "_law_told", .glo "_law_read_right", .glo "_law_shown_right", .glo "_law_words", .glo "law", .glo "_law_begin", .mkr "Kind", .noat "Kind" "row", .free "super"]
def exL (K : PySem.W.Frag) : List Bool := [(K.lookup sysModules).isSome, raisB K "InvalidKind", raisB K "InvalidText", readB K (He.ga K "Kind"), ownB K (He.ga K "Kind") "__str__", ownB K (He.ga K "Kind") "__repr__", ownB K (He.ga K "Kind") "__eq__", He.eqO (PySem.W.findIn K (.ref (He.ga K "Kind")) "__format__") (some (some (.builtin "object.__format__"))), decide (PySem.W.mroIn K (He.ga K "Kind") (.type "object") = some true), eqB K ["Kind"] nf_Kind "Kind", He5.wrapB K (He.ga K "Kind") "classmethod" "classmethod.__get__" "read", PySem.W.fnIn K (He5.wf K (He.ga K "Kind") "classmethod" "read"), conA K (He.ga K "Kind") "LENDS", tupsB K (He.ma K (He.ga K "Kind") "LENDS") ["both", "far", "one"], conA K (He.ga K "Kind") "LETS", tupsB K (He.ma K (He.ga K "Kind") "LETS") ["both", "far", "any"], propB K (He.ga K "Kind") "lends", propB K (He.ga K "Kind") "lets", propB K (He.ga K "Kind") "turns", propB K (He.ga K "Kind") "rests", excB K excs, fxB K excs "line", fxB K excs "word", isB K ft_InvalidText ["Kind"] excs [.ref (He.ga K "InvalidText")], isB K ft_Kind ["Kind"] excs [.ref (He.ga K "Kind")], isB K ft_MeetError ["Kind"] excs [.ref (He.ga K "MeetError")], isB K ft_T_Clash_InvalidKind_InvalidPart_NoStation_TooMany ["Kind"] excs [.ref (He.ga K "Clash"), .ref (He.ga K "InvalidKind"), .ref (He.ga K "InvalidPart"), .ref (He.ga K "NoStation"), .ref (He.ga K "TooMany")], isB K ft_bool ["Kind"] excs [.type "bool"], isB K ft_int ["Kind"] excs [.type "int"], isB K ft_str ["Kind"] excs [.type "str"], exmB K excs (fun c => (["InvalidKind", "InvalidPart", "Clash", "InvalidText", "NoStation", "TooMany"] : List Str).contains c) [.ref (He.ga K "MeetError"), .ref (He.ga K "NoStation"), .ref (He.ga K "TooMany")], decide (tabA K (faK K "law") ≠ tabA K (faK K "_law_read_right")), clsB K (He.ga K "Kind"), clsAll K]
def tfs : List (PySem.W.Frag → Addr) := [fun K => faK K "law", fun K => faK K "_law_read_right"]
def ask : Ask := ⟨fa, fn, xs, tfs, fun K => (exL K).all id⟩
def names : List PySem.Str := (["MeetError", "InvalidKind", "InvalidPart", "Clash", "InvalidText", "NoStation", "TooMany", "is_number", "FIGURES", "number_in", "LEAST_REST", "MOST_REST", "LOOSE_LENDS", "LOOSE_LETS", "parts_in", "places_of", "kind_at", "looser_of", "stricter_of", "Kind", "is_one_of", "_law_begin", "_law_take", "_law_words", "_law_other", "_law_bent", "_law_is_rest", "_law_due", "_law_told", "_law_read_right"] : List PySem.Str) ++ (["_law_shown_right"] : List PySem.Str)
abbrev R : PySem.W.OpenRow := PySem.W.OpenLaw.row PySem.Challenge.rw_meetbehind_k03_kinds_as_texts
abbrev Pr : Program := PySem.Challenge.pw_meetbehind_k03_kinds_as_texts
abbrev hk : PySem.W.Hook := hook Pr 7 ask
theorem run (w : World) : HandSHeadRun.RunEq R (PySem.W.view R.prog [36]) hk (ob Pr 7 ask) 60000 names w :=
  PySem.W.byRow2 "special-get-raises" (P := fun w => HandSHeadRun.RunEq R (PySem.W.view R.prog [36]) hk (ob Pr 7 ask) 60000 names w) (fun w => by intro os; kernel_rfl) (fun w => by intro os; kernel_rfl) w
section
variable {w : World} {K : PySem.W.Frag} {mg : Str → Option Value} {base h : Heap}
theorem xc_InvalidKind (e : fnC K (He.ga K "InvalidKind") = x_InvalidKind.val) (h : x_InvalidKind.ok Pr K = true) (hs : mg "super" = none) : MkX Pr w K mg base (He.ga K "InvalidKind") false ["place"] :=
  (ExD.mk1 (d := x_InvalidKind) bf_ValueError rfl rfl rfl (fun _ _ _ _ => ⟨_, rfl⟩) ⟨rfl, rfl, rfl, by decide +kernel, by decide +kernel, rfl, rfl, rfl⟩ (by decide) (by decide) (fun _ _ _ _ _ _ _ _ _ => rfl) (fun _ _ _ _ _ _ _ _ _ => rfl) (by kernel_rfl) e h hs).1
theorem xc_InvalidText (e : fnC K (He.ga K "InvalidText") = x_InvalidText.val) (h : x_InvalidText.ok Pr K = true) (hs : mg "super" = none) : MkX Pr w K mg base (He.ga K "InvalidText") false ["line", "word"] :=
  (ExD.mk2 (d := x_InvalidText) bf_ValueError rfl rfl rfl (fun _ _ _ _ => ⟨_, rfl⟩) ⟨rfl, rfl, rfl, by decide +kernel, by decide +kernel, rfl, rfl, rfl⟩ (by decide) (by decide) (by decide) (by decide) (by decide) (fun _ _ _ _ _ _ _ _ _ _ => rfl) (fun _ _ _ _ _ _ _ _ _ _ => rfl) (by kernel_rfl) e h hs).1
/-- code objects and their tables -/
def csK (K : PySem.W.Frag) : List (Addr × Addr) := [(codeA K (faK K "law"), tabA K (faK K "law")), (codeA K (faK K "_law_read_right"), tabA K (faK K "_law_read_right"))]
theorem bx (X : K.In h) (G : h.Ns mainGlobals mg) (c : Says Pr ask h K) (TB : ∀ p ∈ csK K, TabB base mg p.1 p.2) : Bx Pr w K mg base (He.ga K) (faK K) (paK K) (fun q => tabA K (faK K q)) (fun q => codeA K (faK K q)) := by
  have fx : ∀ (i : Nat) {f : He.Fa}, fa[i]? = some f → f.ok K = true := fun i f e => c.a.fact i e
  have ei : ∀ (i : Nat) {b : Bool}, (exL K)[i]? = some b → b = true := fun i b e => exi c.parts.2.2 i e
  have vv : ∀ (i : Nat) {d : ExD}, xs[i]? = some d → fnC K (He.ga K d.c) = d.val ∧ d.ok Pr K = true := fun i d e => c.x i e
  have sup : mg "super" = none := He.free_ok X G (fx 39 rfl)
  have hi : ∀ c, (["Kind"] : List Str).contains c = true → InsC K (He.ga K c) := fun c hc => by
    obtain rfl : c = "Kind" := (by simpa using hc)
    exact insB_ok (He.cls_ok (x := "Kind") (fx 0 rfl)) (ei 32 rfl) (ei 33 rfl)
  have he : ∀ c, excs.contains c = true → ExcC K (He.ga K c) := excB_ok (ei 20 rfl) (ei 33 rfl)
  have h_n_abs : mg "abs" = none := He.free_ok X G (fx 1 rfl)
  have h_n_all : mg "all" = none := He.free_ok X G (fx 2 rfl)
  have h_n_bool : mg "bool" = none := He.free_ok X G (fx 3 rfl)
  have h_n_int : mg "int" = none := He.free_ok X G (fx 4 rfl)
  have h_n_isinstance : mg "isinstance" = none := He.free_ok X G (fx 5 rfl)
  have h_n_len : mg "len" = none := He.free_ok X G (fx 6 rfl)
  have h_n_list : mg "list" = none := He.free_ok X G (fx 7 rfl)
  have h_n_range : mg "range" = none := He.free_ok X G (fx 8 rfl)
  have h_n_repr : mg "repr" = none := He.free_ok X G (fx 9 rfl)
  have h_n_str : mg "str" = none := He.free_ok X G (fx 10 rfl)
  have h_i_LEAST_REST : ∃ t, mg "LEAST_REST" = some (.int 2 t) := He.int_ok X G (fx 11 rfl)
  have h_i_MOST_REST : ∃ t, mg "MOST_REST" = some (.int 1000000 t) := He.int_ok X G (fx 12 rfl)
  have h_s_FIGURES : ∃ t, mg "FIGURES" = some (.str "0123456789" t) := He.str_ok X G (fx 13 rfl)
  have h_g_MeetError : mg "MeetError" = some (.ref ((He.ga K) "MeetError")) := He.glo_ok X G (fx 14 rfl)
  have h_g_InvalidKind : mg "InvalidKind" = some (.ref ((He.ga K) "InvalidKind")) := He.glo_ok X G (fx 15 rfl)
  have h_g_InvalidPart : mg "InvalidPart" = some (.ref ((He.ga K) "InvalidPart")) := He.glo_ok X G (fx 16 rfl)
  have h_g_Clash : mg "Clash" = some (.ref ((He.ga K) "Clash")) := He.glo_ok X G (fx 17 rfl)
  have h_g_InvalidText : mg "InvalidText" = some (.ref ((He.ga K) "InvalidText")) := He.glo_ok X G (fx 18 rfl)
  have h_g_NoStation : mg "NoStation" = some (.ref ((He.ga K) "NoStation")) := He.glo_ok X G (fx 19 rfl)
  have h_g_TooMany : mg "TooMany" = some (.ref ((He.ga K) "TooMany")) := He.glo_ok X G (fx 20 rfl)
  have h_g_Kind : mg "Kind" = some (.ref ((He.ga K) "Kind")) := He.glo_ok X G (fx 21 rfl)
  have h_g_is_number : mg "is_number" = some (.ref ((faK K) "is_number")) := by rw [fa_is_number]; exact He.glo_ok X G (fx 22 rfl)
  have h_g_is_one_of : mg "is_one_of" = some (.ref ((faK K) "is_one_of")) := by rw [fa_is_one_of]; exact He.glo_ok X G (fx 23 rfl)
  have h_g_number_in : mg "number_in" = some (.ref ((faK K) "number_in")) := by rw [fa_number_in]; exact He.glo_ok X G (fx 24 rfl)
  have h_g_parts_in : mg "parts_in" = some (.ref ((faK K) "parts_in")) := by rw [fa_parts_in]; exact He.glo_ok X G (fx 25 rfl)
  have h_g__law_take : mg "_law_take" = some (.ref ((faK K) "_law_take")) := by rw [fa_take]; exact He.glo_ok X G (fx 26 rfl)
  have h_g__law_other : mg "_law_other" = some (.ref ((faK K) "_law_other")) := by rw [fa_other]; exact He.glo_ok X G (fx 27 rfl)
  have h_g__law_bent : mg "_law_bent" = some (.ref ((faK K) "_law_bent")) := by rw [fa_bent]; exact He.glo_ok X G (fx 28 rfl)
  have h_g__law_is_rest : mg "_law_is_rest" = some (.ref ((faK K) "_law_is_rest")) := by rw [fa_is_rest]; exact He.glo_ok X G (fx 29 rfl)
  have h_g__law_due : mg "_law_due" = some (.ref ((faK K) "_law_due")) := by rw [fa_due]; exact He.glo_ok X G (fx 30 rfl)
  have h_g__law_told : mg "_law_told" = some (.ref ((faK K) "_law_told")) := by rw [fa_told]; exact He.glo_ok X G (fx 31 rfl)
  have h_g__law_read_right : mg "_law_read_right" = some (.ref ((faK K) "_law_read_right")) := by rw [fa_read_right]; exact He.glo_ok X G (fx 32 rfl)
  have h_g__law_shown_right : mg "_law_shown_right" = some (.ref ((faK K) "_law_shown_right")) := by rw [fa_shown_right]; exact He.glo_ok X G (fx 33 rfl)
  have h_g__law_words : mg "_law_words" = some (.ref ((faK K) "_law_words")) := by rw [fa_words]; exact He.glo_ok X G (fx 34 rfl)
  have h_g_law : mg "law" = some (.ref ((faK K) "law")) := by rw [fa_law]; exact He.glo_ok X G (fx 35 rfl)
  have h_g__law_begin : mg "_law_begin" = some (.ref ((faK K) "_law_begin")) := by rw [fa_begin]; exact He.glo_ok X G (fx 36 rfl)
  have h_sys : ∃ o, K.lookup sysModules = some o := (Option.isSome_iff_exists.mp (ei 0 rfl))
  have h_x_InvalidKind : MkX Pr w K mg base ((He.ga K) "InvalidKind") false ["place"] := xc_InvalidKind (vv 0 rfl).1 (vv 0 rfl).2 sup
  have h_r_InvalidKind : ∀ {X : Cx}, X.K = K → Raises X (.ref ((He.ga K) "InvalidKind")) := raisB_ok (ei 1 rfl)
  have h_x_InvalidText : MkX Pr w K mg base ((He.ga K) "InvalidText") false ["line", "word"] := xc_InvalidText (vv 3 rfl).1 (vv 3 rfl).2 sup
  have h_r_InvalidText : ∀ {X : Cx}, X.K = K → Raises X (.ref ((He.ga K) "InvalidText")) := raisB_ok (ei 2 rfl)
  have h_cl_Kind : Cls K ((He.ga K) "Kind") := (He.cls_ok (x := "Kind") (fx 0 rfl))
  have h_mk_Kind : Mk K ((He.ga K) "Kind") ((faK K) "Kind.__init__") := by rw [fa_Kind_init]; exact He.mkr_ok (x := "Kind") (fx 37 rfl)
  have h_cr_Kind : ClX.CRead K ((He.ga K) "Kind") (.type "type") := readB_ok (ei 3 rfl)
  have h_ow_Kind_str : Own K ((He.ga K) "Kind") "__str__" ((faK K) "Kind.__str__") := by rw [fa_Kind_str]; exact ownB_ok (ei 4 rfl)
  have h_ow_Kind_repr : Own K ((He.ga K) "Kind") "__repr__" ((faK K) "Kind.__repr__") := by rw [fa_Kind_repr]; exact ownB_ok (ei 5 rfl)
  have h_ow_Kind_eq : Own K ((He.ga K) "Kind") "__eq__" ((faK K) "Kind.__eq__") := by rw [fa_Kind_eq]; exact ownB_ok (ei 6 rfl)
  have h_fm_Kind : PySem.W.findIn K (.ref ((He.ga K) "Kind")) "__format__" = some (some (.builtin "object.__format__")) := He.eqO_ok (ei 7 rfl)
  have h_ob_Kind : PySem.W.mroIn K ((He.ga K) "Kind") (.type "object") = some true := of_decide_eq_true (ei 8 rfl)
  have h_eo_Kind : EqOk K (He.ga K) "Kind" nf_Kind := eqB_ok (is := ["Kind"]) (ei 9 rfl) (fun _ => rfl) (fun _ => rfl) hi
  have h_cm_read : ClX.CMet K ((He.ga K) "Kind") (.type "type") "read" ((paK K) "Kind.read") ((faK K) "Kind.read") := by rw [pa_Kind_read, fa_Kind_read]; exact He5.cmet_of (ei 10 rfl) (ei 11 rfl)
  have h_cv_LENDS : ClX.CVal K ((He.ga K) "Kind") (.type "type") "LENDS" (.ref ((paK K) "Kind.LENDS")) (.ref ((paK K) "Kind.LENDS")) := by rw [pa_Kind_LENDS]; exact (conA_ok (ei 12 rfl)).2
  have h_co_LENDS : Con K ((He.ga K) "Kind") "LENDS" (.ref ((paK K) "Kind.LENDS")) (.ref ((paK K) "Kind.LENDS")) := by rw [pa_Kind_LENDS]; exact (conA_ok (ei 12 rfl)).1
  have h_at_LENDS : ∀ {T : Tab}, T.K = K → ∀ H, At T H (.ref ((paK K) "Kind.LENDS")) d_LENDS := by rw [pa_Kind_LENDS]; exact tups_at (xs := ["both", "far", "one"]) (ei 13 rfl)
  have h_cv_LETS : ClX.CVal K ((He.ga K) "Kind") (.type "type") "LETS" (.ref ((paK K) "Kind.LETS")) (.ref ((paK K) "Kind.LETS")) := by rw [pa_Kind_LETS]; exact (conA_ok (ei 14 rfl)).2
  have h_co_LETS : Con K ((He.ga K) "Kind") "LETS" (.ref ((paK K) "Kind.LETS")) (.ref ((paK K) "Kind.LETS")) := by rw [pa_Kind_LETS]; exact (conA_ok (ei 14 rfl)).1
  have h_at_LETS : ∀ {T : Tab}, T.K = K → ∀ H, At T H (.ref ((paK K) "Kind.LETS")) d_LETS := by rw [pa_Kind_LETS]; exact tups_at (xs := ["both", "far", "any"]) (ei 15 rfl)
  have h_p_lends : PropOf K ((He.ga K) "Kind") "lends" ((paK K) "Kind.lends") ((faK K) "Kind.lends") := by rw [pa_Kind_lends, fa_Kind_lends]; exact propB_ok (ei 16 rfl)
  have h_p_lets : PropOf K ((He.ga K) "Kind") "lets" ((paK K) "Kind.lets") ((faK K) "Kind.lets") := by rw [pa_Kind_lets, fa_Kind_lets]; exact propB_ok (ei 17 rfl)
  have h_p_turns : PropOf K ((He.ga K) "Kind") "turns" ((paK K) "Kind.turns") ((faK K) "Kind.turns") := by rw [pa_Kind_turns, fa_Kind_turns]; exact propB_ok (ei 18 rfl)
  have h_p_rests : PropOf K ((He.ga K) "Kind") "rests" ((paK K) "Kind.rests") ((faK K) "Kind.rests") := by rw [pa_Kind_rests, fa_Kind_rests]; exact propB_ok (ei 19 rfl)
  have h_na_row : ∀ c, (["Kind"] : List Str).contains c = true → Cls K (He.ga K c) ∧ NoAttr K (He.ga K c) "row" := fun c hc => by obtain rfl : c = "Kind" := (by simpa using hc); exact ⟨(He.cls_ok (x := "Kind") (fx 0 rfl)), He.noat_ok (x := "Kind") (f := "row") (fx 38 rfl)⟩
  have h_fx_line : ∀ c, excs.contains c = true → XfC K (He.ga K c) ∧ PySem.W.findIn K (.ref (He.ga K c)) "line" = some none := fxB_ok (ei 20 rfl) (ei 21 rfl)
  have h_fx_word : ∀ c, excs.contains c = true → XfC K (He.ga K c) ∧ PySem.W.findIn K (.ref (He.ga K c)) "word" = some none := fxB_ok (ei 20 rfl) (ei 22 rfl)
  have h_is_InvalidText : IsOk K (He.ga K) tb_InvalidText [.ref ((He.ga K) "InvalidText")] := isB_ok (f := ft_InvalidText) (is := ["Kind"]) (es := excs) (ei 23 rfl) hi he
  have h_is_Kind : IsOk K (He.ga K) tb_Kind [.ref ((He.ga K) "Kind")] := isB_ok (f := ft_Kind) (is := ["Kind"]) (es := excs) (ei 24 rfl) hi he
  have h_is_MeetError : IsOk K (He.ga K) tb_MeetError [.ref ((He.ga K) "MeetError")] := isB_ok (f := ft_MeetError) (is := ["Kind"]) (es := excs) (ei 25 rfl) hi he
  have h_is_T_Clash_InvalidKind_InvalidPart_NoStation_TooMany : IsOk K (He.ga K) tb_T_Clash_InvalidKind_InvalidPart_NoStation_TooMany [.ref ((He.ga K) "Clash"), .ref ((He.ga K) "InvalidKind"), .ref ((He.ga K) "InvalidPart"), .ref ((He.ga K) "NoStation"), .ref ((He.ga K) "TooMany")] := isB_ok (f := ft_T_Clash_InvalidKind_InvalidPart_NoStation_TooMany) (is := ["Kind"]) (es := excs) (ei 26 rfl) hi he
  have h_is_bool : IsOk K (He.ga K) tb_bool [.type "bool"] := isB_ok (f := ft_bool) (is := ["Kind"]) (es := excs) (ei 27 rfl) hi he
  have h_is_int : IsOk K (He.ga K) tb_int [.type "int"] := isB_ok (f := ft_int) (is := ["Kind"]) (es := excs) (ei 28 rfl) hi he
  have h_is_str : IsOk K (He.ga K) tb_str [.type "str"] := isB_ok (f := ft_str) (is := ["Kind"]) (es := excs) (ei 29 rfl) hi he
  have h_ct_MeetError_NoStation_TooMany : ∀ c v, cm_MeetError_NoStation_TooMany c = some v → PySem.W.exmAny K (.ref (He.ga K c)) [.ref ((He.ga K) "MeetError"), .ref ((He.ga K) "NoStation"), .ref ((He.ga K) "TooMany")] = some v := exmB_ok (f := fun c => (["InvalidKind", "InvalidPart", "Clash", "InvalidText", "NoStation", "TooMany"] : List Str).contains c) (ei 30 rfl)
  have h_F_is_number : ∃ fd, FunD K "is_number" "is_number" (defArgs s_is_number) (defBody s_is_number) (defScope s_is_number) [] [] ((faK K) "is_number") fd := by obtain ⟨fd, F⟩ := c.a.def_ 0 (d := d_is_number) rfl; exact ⟨fd, F⟩
  have h_F_is_one_of : ∃ fd, FunD K "is_one_of" "is_one_of" (defArgs s_is_one_of) (defBody s_is_one_of) (defScope s_is_one_of) [] [] ((faK K) "is_one_of") fd := by obtain ⟨fd, F⟩ := c.a.def_ 1 (d := d_is_one_of) rfl; exact ⟨fd, F⟩
  have h_F_Kind_init : ∃ fd, FunD K "__init__" "Kind.__init__" (defArgs s_Kind_init) (defBody s_Kind_init) (defScope s_Kind_init) [] [("turns", .bl false), ("rests", .non)] ((faK K) "Kind.__init__") fd := by obtain ⟨fd, F⟩ := c.a.def_ 2 (d := d_Kind_init) rfl; exact ⟨fd, F⟩
  have h_F_number_in : ∃ fd, FunD K "number_in" "number_in" (defArgs s_number_in) (defBody s_number_in) (defScope s_number_in) [] [] ((faK K) "number_in") fd := by obtain ⟨fd, F⟩ := c.a.def_ 3 (d := d_number_in) rfl; exact ⟨fd, F⟩
  have h_F_parts_in : ∃ fd, FunD K "parts_in" "parts_in" (defArgs s_parts_in) (defBody s_parts_in) (defScope s_parts_in) [] [] ((faK K) "parts_in") fd := by obtain ⟨fd, F⟩ := c.a.def_ 4 (d := d_parts_in) rfl; exact ⟨fd, F⟩
  have h_F_Kind_read : ∃ fd, FunD K "read" "Kind.read" (defArgs s_Kind_read) (defBody s_Kind_read) (defScope s_Kind_read) [] [] ((faK K) "Kind.read") fd := by obtain ⟨fd, F⟩ := c.a.def_ 5 (d := d_Kind_read) rfl; exact ⟨fd, F⟩
  have h_F_take : ∃ fd, FunD K "_law_take" "_law_take" (defArgs s_take) (defBody s_take) (defScope s_take) [] [] ((faK K) "_law_take") fd := by obtain ⟨fd, F⟩ := c.a.def_ 6 (d := d_take) rfl; exact ⟨fd, F⟩
  have h_F_other : ∃ fd, FunD K "_law_other" "_law_other" (defArgs s_other) (defBody s_other) (defScope s_other) [] [] ((faK K) "_law_other") fd := by obtain ⟨fd, F⟩ := c.a.def_ 7 (d := d_other) rfl; exact ⟨fd, F⟩
  have h_F_bent : ∃ fd, FunD K "_law_bent" "_law_bent" (defArgs s_bent) (defBody s_bent) (defScope s_bent) [] [] ((faK K) "_law_bent") fd := by obtain ⟨fd, F⟩ := c.a.def_ 8 (d := d_bent) rfl; exact ⟨fd, F⟩
  have h_F_is_rest : ∃ fd, FunD K "_law_is_rest" "_law_is_rest" (defArgs s_is_rest) (defBody s_is_rest) (defScope s_is_rest) [] [] ((faK K) "_law_is_rest") fd := by obtain ⟨fd, F⟩ := c.a.def_ 9 (d := d_is_rest) rfl; exact ⟨fd, F⟩
  have h_F_due : ∃ fd, FunD K "_law_due" "_law_due" (defArgs s_due) (defBody s_due) (defScope s_due) [] [] ((faK K) "_law_due") fd := by obtain ⟨fd, F⟩ := c.a.def_ 10 (d := d_due) rfl; exact ⟨fd, F⟩
  have h_F_Kind_lends : ∃ fd, FunD K "lends" "Kind.lends" (defArgs s_Kind_lends) (defBody s_Kind_lends) (defScope s_Kind_lends) [] [] ((faK K) "Kind.lends") fd := by obtain ⟨fd, F⟩ := c.a.def_ 11 (d := d_Kind_lends) rfl; exact ⟨fd, F⟩
  have h_F_Kind_lets : ∃ fd, FunD K "lets" "Kind.lets" (defArgs s_Kind_lets) (defBody s_Kind_lets) (defScope s_Kind_lets) [] [] ((faK K) "Kind.lets") fd := by obtain ⟨fd, F⟩ := c.a.def_ 12 (d := d_Kind_lets) rfl; exact ⟨fd, F⟩
  have h_F_Kind_rests : ∃ fd, FunD K "rests" "Kind.rests" (defArgs s_Kind_rests) (defBody s_Kind_rests) (defScope s_Kind_rests) [] [] ((faK K) "Kind.rests") fd := by obtain ⟨fd, F⟩ := c.a.def_ 13 (d := d_Kind_rests) rfl; exact ⟨fd, F⟩
  have h_F_Kind_turns : ∃ fd, FunD K "turns" "Kind.turns" (defArgs s_Kind_turns) (defBody s_Kind_turns) (defScope s_Kind_turns) [] [] ((faK K) "Kind.turns") fd := by obtain ⟨fd, F⟩ := c.a.def_ 14 (d := d_Kind_turns) rfl; exact ⟨fd, F⟩
  have h_F_told : ∃ fd, FunD K "_law_told" "_law_told" (defArgs s_told) (defBody s_told) (defScope s_told) [] [] ((faK K) "_law_told") fd := by obtain ⟨fd, F⟩ := c.a.def_ 15 (d := d_told) rfl; exact ⟨fd, F⟩
  have h_F_read_right : ∃ fd, FunD K "_law_read_right" "_law_read_right" (defArgs s_read_right) (defBody s_read_right) (defScope s_read_right) [] [] ((faK K) "_law_read_right") fd ∧ fd.code = .ref (codeA K (faK K "_law_read_right")) := by obtain ⟨fd, F⟩ := c.a.def_ 16 (d := d_read_right) rfl; exact ⟨fd, F, codeB_ok F (c.code (p := fun K => faK K "_law_read_right") 1 rfl)⟩
  have h_F_Kind_eq : ∃ fd, FunD K "__eq__" "Kind.__eq__" (defArgs s_Kind_eq) (defBody s_Kind_eq) (defScope s_Kind_eq) [] [] ((faK K) "Kind.__eq__") fd := by obtain ⟨fd, F⟩ := c.a.def_ 17 (d := d_Kind_eq) rfl; exact ⟨fd, F⟩
  have h_F_Kind_str : ∃ fd, FunD K "__str__" "Kind.__str__" (defArgs s_Kind_str) (defBody s_Kind_str) (defScope s_Kind_str) [] [] ((faK K) "Kind.__str__") fd := by obtain ⟨fd, F⟩ := c.a.def_ 18 (d := d_Kind_str) rfl; exact ⟨fd, F⟩
  have h_F_Kind_repr : ∃ fd, FunD K "__repr__" "Kind.__repr__" (defArgs s_Kind_repr) (defBody s_Kind_repr) (defScope s_Kind_repr) [] [] ((faK K) "Kind.__repr__") fd := by obtain ⟨fd, F⟩ := c.a.def_ 19 (d := d_Kind_repr) rfl; exact ⟨fd, F⟩
  have h_F_shown_right : ∃ fd, FunD K "_law_shown_right" "_law_shown_right" (defArgs s_shown_right) (defBody s_shown_right) (defScope s_shown_right) [] [] ((faK K) "_law_shown_right") fd := by obtain ⟨fd, F⟩ := c.a.def_ 20 (d := d_shown_right) rfl; exact ⟨fd, F⟩
  have h_F_words : ∃ fd, FunD K "_law_words" "_law_words" (defArgs s_words) (defBody s_words) (defScope s_words) [] [] ((faK K) "_law_words") fd := by obtain ⟨fd, F⟩ := c.a.def_ 21 (d := d_words) rfl; exact ⟨fd, F⟩
  have h_F_law : ∃ fd, FunD K "law" "law" (defArgs s_law) (defBody s_law) (defScope s_law) [] [] ((faK K) "law") fd ∧ fd.code = .ref (codeA K (faK K "law")) := by obtain ⟨fd, F⟩ := c.a.def_ 22 (d := d_law) rfl; exact ⟨fd, F, codeB_ok F (c.code (p := fun K => faK K "law") 0 rfl)⟩
  have h_F_begin : ∃ fd, FunD K "_law_begin" "_law_begin" (defArgs s_begin) (defBody s_begin) (defScope s_begin) [] [] ((faK K) "_law_begin") fd := by obtain ⟨fd, F⟩ := c.a.def_ 23 (d := d_begin) rfl; exact ⟨fd, F⟩
  have h_t_law : LamX.TabB base mg (codeA K (faK K "law")) (tabA K (faK K "law")) := TB (codeA K (faK K "law"), tabA K (faK K "law")) (List.mem_of_getElem? (i := 0) rfl)
  have h_t_read_right : LamX.TabB base mg (codeA K (faK K "_law_read_right")) (tabA K (faK K "_law_read_right")) := TB (codeA K (faK K "_law_read_right"), tabA K (faK K "_law_read_right")) (List.mem_of_getElem? (i := 1) rfl)
  have h_ne_law_read_right : tabA K (faK K "law") ≠ tabA K (faK K "_law_read_right") := of_decide_eq_true (ei 31 rfl)
  exact ⟨h_n_abs, h_n_all, h_n_bool, h_n_int, h_n_isinstance, h_n_len, h_n_list, h_n_range, h_n_repr, h_n_str, h_i_LEAST_REST, h_i_MOST_REST, h_s_FIGURES, h_g_MeetError, h_g_InvalidKind, h_g_InvalidPart, h_g_Clash, h_g_InvalidText, h_g_NoStation, h_g_TooMany, h_g_Kind, h_g_is_number, h_g_is_one_of, h_g_number_in, h_g_parts_in, h_g__law_take, h_g__law_other, h_g__law_bent, h_g__law_is_rest, h_g__law_due, h_g__law_told, h_g__law_read_right, h_g__law_shown_right, h_g__law_words, h_g_law, h_g__law_begin, h_sys, h_x_InvalidKind, h_r_InvalidKind, h_x_InvalidText, h_r_InvalidText, h_cl_Kind, h_mk_Kind, h_cr_Kind, h_ow_Kind_str, h_ow_Kind_repr, h_ow_Kind_eq, h_fm_Kind, h_ob_Kind, h_eo_Kind, h_cm_read, h_cv_LENDS, h_co_LENDS, h_at_LENDS, h_cv_LETS, h_co_LETS, h_at_LETS, h_p_lends, h_p_lets, h_p_turns, h_p_rests, h_na_row, h_fx_line, h_fx_word, h_is_InvalidText, h_is_Kind, h_is_MeetError, h_is_T_Clash_InvalidKind_InvalidPart_NoStation_TooMany, h_is_bool, h_is_int, h_is_str, h_ct_MeetError_NoStation_TooMany, h_F_is_number, h_F_is_one_of, h_F_Kind_init, h_F_number_in, h_F_parts_in, h_F_Kind_read, h_F_take, h_F_other, h_F_bent, h_F_is_rest, h_F_due, h_F_Kind_lends, h_F_Kind_lets, h_F_Kind_rests, h_F_Kind_turns, h_F_told, h_F_read_right, h_F_Kind_eq, h_F_Kind_str, h_F_Kind_repr, h_F_shown_right, h_F_words, h_F_law, h_F_begin, h_t_law, h_t_read_right, h_ne_law_read_right⟩
theorem law_glo (X : K.In h) (G : h.Ns mainGlobals mg) (c : Says Pr ask h K) : mg "law" = some (.ref (He.ga K "law")) := He.glo_ok X G (c.a.fact 35 rfl)
theorem law_def (c : Says Pr ask h K) : ∃ fd, FunD K "law" "law" (defArgs s_law) (defBody s_law) (defScope s_law) [] [] (faK K "law") fd ∧ fd.code = .ref (codeA K (faK K "law")) := by
  obtain ⟨fd, F⟩ := c.a.def_ 22 (d := d_law) rfl
  exact ⟨fd, F, codeB_ok F (c.code (p := fun K => faK K "law") 0 rfl)⟩
theorem cs_ok (X : K.In h) (c : Says Pr ask h K) : ∀ p ∈ csK K, h.get? p.2 = some { cls := .none, data := .fields #[] } ∧ K.lookup p.2 = none ∧ PySem.W.CodeHd h p.1 p.2 := fun p hp => by
  have e : csK K = tfs.map fun f => (codeA K (f K), tabA K (f K)) := rfl
  rw [e] at hp
  obtain ⟨f, hf, rfl⟩ := List.mem_map.mp hp
  obtain ⟨a, b, d⟩ := c.t f hf
  exact ⟨d, b, PySem.W.codeHd_of_K X a⟩
theorem tbx_ok {H : Hp} (hT : ∀ p ∈ csK K, H p.2 = some (.tbl #[])) : Tabs (tbx fun q => tabA K (faK K q)) H := fun p hp => by
  obtain ⟨q, hq, e⟩ : ∃ q ∈ csK K, p.1 = q.2 := by
    have e : (tbx fun q => tabA K (faK K q)).map (·.1) = (csK K).map (·.2) := rfl
    have hm : p.1 ∈ (csK K).map (·.2) := by rw [← e]; exact List.mem_map.mpr ⟨p, hp, rfl⟩
    obtain ⟨q, hq, z⟩ := List.mem_map.mp hm
    exact ⟨q, hq, z.symm⟩
  exact TabS.nil (by rw [e]; exact hT q hq)
end
end K03
open PySem PySem.W PySem.Calls PyProof.Rows
theorem PySem.Challenge.cw_meetbehind_k03_kinds_as_texts_holds : PySem.Challenge.rw_meetbehind_k03_kinds_as_texts.Holds := by
  w_on; o_law
  refine HandSHeadRun.head_any (r := OpenLaw.row PySem.Challenge.rw_meetbehind_k03_kinds_as_texts) (q := view (OpenLaw.row PySem.Challenge.rw_meetbehind_k03_kinds_as_texts).prog [36]) (H := K03.hk) (ob := Hdr.ob K03.Pr 7 K03.ask) (M := 60000) (loose := K03.names) (d := HandSHeadRun.topDef (OpenLaw.row PySem.Challenge.rw_meetbehind_k03_kinds_as_texts).prog 36) (kwd := []) Hdr.ob_eq
    (by kernel_rfl) (fun s => by kernel_rfl) K03.run (by kernel_rfl) (by kernel_rfl) (by kernel_rfl) (by rfl) (by first | assumption | decide +kernel) (by decide +kernel) ⟨rfl, rfl, rfl, rfl, rfl, by decide +kernel⟩ ?hw ?hc
  case hw => w_witness2
  case hc =>
    refine L2.walk_ofGT (l := PySem.Challenge.rw_meetbehind_k03_kinds_as_texts) (n := 63) (k := 27) (x := "_law_script") (CX := fun w => L2.CX K03.Pr w) rfl (by decide) (by kernel_rfl) ⟨rfl, by decide, by decide⟩ ?F ?N
    case N =>
      intro w H s e s' z
      obtain ⟨_, _, _, _, _, _, _, _, _, _, _, _, z⟩ := z
      exact z
    case F =>
      intro w mg fa h Y G hmg0
      obtain ⟨K, KX, c⟩ := Y
      have law_at : mg ("law" : PySem.Str) = some (.ref fa) := by
        have e : (HandSHeadRun.topDef (OpenLaw.row PySem.Challenge.rw_meetbehind_k03_kinds_as_texts).prog 36).name = ("law" : PySem.Str) := by kernel_rfl
        rw [← e]
        exact hmg0
      have el := law_at.symm.trans (K03.law_glo KX G c)
      cases el
      obtain ⟨fd, F, hc⟩ := K03.law_def c
      have b := F.bindsA (ps := ["_law_script"]) fun _ _ _ _ _ _ us hl => match us, hl with | [_], _ => rfl
      refine ⟨K, K03.csK K, fd, Sd.spTrue K (K03.tbx fun q => Hdr.tabA K (K03.faK K q)), KX, fun s v => b s [v] rfl, K03.cs_ok KX c, fun H a ns hl hT hS => ⟨a, ns, rfl, hS, K03.tbx_ok hT, fun _ => rfl⟩, fun base _ _ TB => ?_⟩
      have B : K03.Bx K03.Pr w K mg base (He.ga K) (K03.faK K) (K03.paK K) (fun q => Hdr.tabA K (K03.faK K q)) (fun q => Hdr.codeA K (K03.faK K q)) := K03.bx KX G c TB
      have z := K03.g_law K03.plain B F hc
      rw [K03.fa_law] at z
      exact z
