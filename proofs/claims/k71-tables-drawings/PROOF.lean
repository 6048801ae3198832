import PyProof.Rows.All
import Wide.All
import OpenK.AllK
import Wide.FinOn
import KE.KStateDown
import HandS.ForMost
import HandS.Exc
import HandS.ExcOwn
import HandS.TryOnly
import HandS.Wide
import HandS.Flow
import HandS.FStr
import HandS.IsInst
import HandS.Defaults
import HandS.Steps
import HandS.Head0
import HandS.Head1
import HandS.Head2
import HandS.HeadEnd
import HandS.HeadHook1
import HandS.HeadHook2
import HandS.Deep
import HandS.StrMore
import HandS.SetFor
import HandS.Codes
import HandS.Replace
import HandS.ExcCtx
import HandS.HotCalls
import HandS.RaiseFrom
import HandS.SuiteRaise
import HandS.ExcIs
import HandS.Iter
import HandS.Zip
import HandS.Base
import HandS.Call
import HandS.Ends
import HandS.More
import HandS.Words
import HandS.WordsExc
import PySem.Challenge.RW_limbtables_k71_tables_and_drawings_writt
set_option Elab.async false
set_option linter.all false
set_option maxRecDepth 100000
set_option maxHeartbeats 2000000
/-! Sim, part 0: abstract values, the store, what represents what. -/
namespace Z
open PySem PySem.Spec PyProof.Rows L2

/-- the program's exceptions, its classes -/
inductive Ec where
  | limb | ground | number | table | drawing | kind | standing | change | mirror | root | text | row | name
  deriving DecidableEq
def Ec.nm : Ec → Str
  | .limb => "LimbError" | .ground => "NoGround" | .number => "NoNumber" | .table => "NoTable" | .drawing => "NoDrawing" | .kind => "NoKind" | .standing => "NoStanding"
  | .change => "NoChange" | .mirror => "NoMirror" | .root => "NoRoot" | .text => "NoText" | .row => "NoRow" | .name => "NoName"
/-- c stands under d -/
def Ec.under (c d : Ec) : Bool := decide (c = d) || decide (d = .limb)
inductive Cn where
  | ground | drawing | standing | shape | desk
  deriving DecidableEq
def Cn.nm : Cn → Str
  | .ground => "Ground" | .drawing => "Drawing" | .standing => "Standing" | .shape => "Shape" | .desk => "Desk"
/-- the fields, in the order in which __init__ stores them -/
def Cn.fs : Cn → List Str
  | .ground => ["prime"] | .drawing => ["many", "arrows"] | .standing => ["ground", "drawing", "sizes", "tables"] | .shape => ["name", "sizes", "rings", "middles", "arms"]
  | .desk => ["ground", "drawing", "kept", "turned_ones"]
theorem Cn.nd (c : Cn) : c.fs.Nodup := by cases c <;> decide +kernel
theorem Cn.few (c : Cn) : c.fs.length ≤ 10 := by cases c <;> decide
inductive D where
  | non | bl (b : Bool) | int (i : Int) | str (s : List Nat) | ty (n : String) | ecl (e : Ec) | ccl (c : Cn)
  | lst (xs : List D) | tup (xs : List D) | ins (c : Cn) (vs : List D)
  | ob (n : Nat) | exc (e : Ec) | scr (xs : List D)
inductive M where
  | gone | lst (xs : List D) | ins (c : Cn) (vs : List D)
abbrev Sto := List M
inductive R (α : Type) where
  | ok (a : α) (μ : Sto) | ex (c : Ec) (μ : Sto) | fail
abbrev En := List (Option D)
/-- the ghost state: the part of the heap that stays, the addresses of the store's objects -/
structure G where
  I : Hp
  φ : List Addr
  F : Hp
structure G.le (g h : G) : Prop where
  i : ∀ a o, g.I a = some o → h.I a = some o
  p : ∀ (n : Nat) (a : Addr), g.φ[n]? = some a → h.φ[n]? = some a
  f : h.F = g.F
theorem G.le.refl (g : G) : g.le g := ⟨fun _ _ h => h, fun _ _ h => h, rfl⟩
theorem G.le.trans {a b c : G} (x : a.le b) (y : b.le c) : a.le c := ⟨fun p o h => y.i p o (x.i p o h), fun n p h => y.p n p (x.p n p h), y.f.trans x.f⟩
/-- as far as what is represented goes -/
structure G.li (g h : G) : Prop where
  i : ∀ a o, g.I a = some o → h.I a = some o
  p : ∀ (n : Nat) (a : Addr), g.φ[n]? = some a → h.φ[n]? = some a
theorem G.le.li {g h : G} (l : g.le h) : g.li h := ⟨l.i, l.p⟩
theorem G.li.refl (g : G) : g.li g := ⟨fun _ _ h => h, fun _ _ h => h⟩
theorem G.li.trans {a b c : G} (x : a.li b) (y : b.li c) : a.li c := ⟨fun p o h => y.i p o (x.i p o h), fun n p h => y.p n p (x.p n p h)⟩

/-- K and what is handled -/
structure Kx where
  K : PySem.W.Frag
  hot : Option (Addr × Ec)

mutual
def Rp (k : Kx) (g : G) : D → V → Prop
  | .non, v => v = .non
  | .bl b, v => v = .bl b
  | .int i, v => v = .int i
  | .str s, v => v = .str ⟨s.toArray⟩
  | .ty n, v => v = .ty n
  | .ecl n, v => v = .ref (He.ga k.K n.nm)
  | .ccl n, v => v = .ref (He.ga k.K n.nm)
  | .lst ds, v => ∃ a xs, v = .ref a ∧ Rd g.I a (.lst xs) ∧ Rps k g ds xs
  | .tup ds, v => ∃ a xs, v = .ref a ∧ SqT k.K g.I a xs ∧ Rps k g ds xs
  | .ins c ds, v => ∃ a dx xs, v = .ref a ∧ g.I a = some (.ins (He.ga k.K c.nm) dx (c.fs.zip xs)) ∧ c.fs.length = ds.length ∧ Rps k g ds xs
  | .ob n, v => ∃ a, v = .ref a ∧ g.φ[n]? = some a
  | .exc C, v => ∃ a, v = .ref a ∧ k.hot = some (a, C)
  | .scr ds, v => ∃ a xs, v = .ref a ∧ SqL k.K g.I a xs ∧ Rps k g ds xs
def Rps (k : Kx) (g : G) : List D → List V → Prop
  | [], xs => xs = []
  | d :: ds, xs => ∃ y ys, xs = y :: ys ∧ Rp k g d y ∧ Rps k g ds ys
end
section
variable {k : Kx} {g g' : G}
theorem rd_mono {H H' : Hp} {a : Addr} {u : HO} (e : ∀ a o, H a = some o → H' a = some o) (h : Rd H a u) : Rd H' a u := by
  rcases h with h | ⟨o, h⟩
  · exact .inl (e _ _ h)
  · exact .inr ⟨o, e _ _ h⟩
theorem sqL_mono {K : PySem.W.Frag} {H H' : Hp} {a : Addr} {xs : List V} (e : ∀ a o, H a = some o → H' a = some o) (h : SqL K H a xs) : SqL K H' a xs := by
  rcases h with (h | ⟨o, h⟩) | h
  · exact .inl (.inl (e _ _ h))
  · exact .inl (.inr ⟨o, e _ _ h⟩)
  · exact .inr h
theorem sqT_mono {K : PySem.W.Frag} {H H' : Hp} {a : Addr} {xs : List V} (e : ∀ a o, H a = some o → H' a = some o) (h : SqT K H a xs) : SqT K H' a xs := by
  rcases h with (h | ⟨o, h⟩) | h
  · exact .inl (.inl (e _ _ h))
  · exact .inl (.inr ⟨o, e _ _ h⟩)
  · exact .inr h
mutual
theorem Rp.monoL (l : g.li g') : ∀ {d : D} {v : V}, Rp k g d v → Rp k g' d v
  | .non, _, h => h
  | .bl _, _, h => h
  | .int _, _, h => h
  | .str _, _, h => h
  | .ty _, _, h => h
  | .ecl _, _, h => h
  | .ccl _, _, h => h
  | .lst ds, _, ⟨a, xs, e, s, r⟩ => ⟨a, xs, e, rd_mono l.i s, Rps.monoL l r⟩
  | .tup ds, _, ⟨a, xs, e, s, r⟩ => ⟨a, xs, e, sqT_mono l.i s, Rps.monoL l r⟩
  | .ins c ds, _, ⟨a, dx, xs, e, s, q, r⟩ => ⟨a, dx, xs, e, l.i _ _ s, q, Rps.monoL l r⟩
  | .ob n, _, ⟨a, e, p⟩ => ⟨a, e, l.p _ _ p⟩
  | .exc _, _, h => h
  | .scr ds, _, ⟨a, xs, e, s, r⟩ => ⟨a, xs, e, sqL_mono l.i s, Rps.monoL l r⟩
theorem Rps.monoL (l : g.li g') : ∀ {ds : List D} {xs : List V}, Rps k g ds xs → Rps k g' ds xs
  | [], _, h => h
  | d :: ds, _, ⟨y, ys, e, r, q⟩ => ⟨y, ys, e, Rp.monoL l r, Rps.monoL l q⟩
end
theorem Rp.mono (l : g.le g') {d : D} {v : V} (h : Rp k g d v) : Rp k g' d v := h.monoL l.li
theorem Rps.mono (l : g.le g') {ds : List D} {xs : List V} (h : Rps k g ds xs) : Rps k g' ds xs := h.monoL l.li
theorem Rps.length : ∀ {ds : List D} {xs : List V}, Rps k g ds xs → xs.length = ds.length
  | [], _, h => by have e : _ = [] := h; rw [e]; rfl
  | d :: ds, _, ⟨y, ys, e, _, q⟩ => by rw [e]; simp [Rps.length q]
theorem Rps.nil : Rps k g [] [] := rfl
theorem Rps.cons {d : D} {v : V} {ds : List D} {vs : List V} (r : Rp k g d v) (q : Rps k g ds vs) : Rps k g (d :: ds) (v :: vs) := ⟨v, vs, rfl, r, q⟩
theorem Rps.get : ∀ {ds : List D} {xs : List V} {i : Nat} {d : D}, Rps k g ds xs → ds[i]? = some d → ∃ v, xs[i]? = some v ∧ Rp k g d v
  | [], _, _, _, _, e => by simp at e
  | d :: ds, _, 0, _, ⟨y, ys, e, r, _⟩, h => by
    simp at h; subst h; exact ⟨y, by rw [e]; rfl, r⟩
  | d :: ds, _, i + 1, _, ⟨y, ys, e, _, q⟩, h => by
    obtain ⟨v, h1, h2⟩ := Rps.get (i := i) q (by simpa using h)
    exact ⟨v, by rw [e]; simpa using h1, h2⟩
theorem Rps.append : ∀ {ds es : List D} {xs ys : List V}, Rps k g ds xs → Rps k g es ys → Rps k g (ds ++ es) (xs ++ ys)
  | [], _, _, _, h, q => by rw [show _ = [] from h]; exact q
  | d :: ds, _, _, _, ⟨y, ys, e, r, q⟩, h => by
    rw [e]; exact ⟨y, _, rfl, r, Rps.append q h⟩
theorem Rps.set {d : D} {v : V} (r : Rp k g d v) : ∀ {ds : List D} {xs : List V} (i : Nat), Rps k g ds xs → Rps k g (ds.set i d) (xs.set i v)
  | [], _, _, h => by rw [show _ = [] from h]; rfl
  | e :: ds, _, 0, ⟨y, ys, z, _, q⟩ => by rw [z]; exact ⟨v, ys, rfl, r, q⟩
  | e :: ds, _, i + 1, ⟨y, ys, z, p, q⟩ => by rw [z]; exact ⟨y, _, rfl, p, Rps.set r i q⟩
theorem Rps.drop : ∀ {ds : List D} {xs : List V} (n : Nat), Rps k g ds xs → Rps k g (ds.drop n) (xs.drop n)
  | _, _, 0, h => h
  | [], _, n + 1, h => by rw [show _ = [] from h]; rfl
  | d :: ds, _, n + 1, ⟨y, ys, e, _, q⟩ => by rw [e]; exact Rps.drop n q
theorem Rps.take : ∀ {ds : List D} {xs : List V} (n : Nat), Rps k g ds xs → Rps k g (ds.take n) (xs.take n)
  | ds, xs, 0, h => by simp; rfl
  | [], _, n + 1, h => by rw [show _ = [] from h]; rfl
  | d :: ds, _, n + 1, ⟨y, ys, e, r, q⟩ => by rw [e]; exact ⟨y, _, rfl, r, Rps.take n q⟩
theorem Rps.ints {ns : List Int} : ∀ {xs : List V}, Rps k g (ns.map D.int) xs ↔ xs = ns.map V.int := by
  induction ns with
  | nil => intro xs; exact Iff.rfl
  | cons n ns ih =>
    intro xs
    constructor
    · rintro ⟨y, ys, e, r, q⟩
      rw [e, show y = _ from r, ih.mp q]; rfl
    · intro e
      exact ⟨_, _, e, rfl, ih.mpr rfl⟩

/-- what stands at a store's address -/
def MRep (k : Kx) (g : G) (H : Hp) (a : Addr) : M → Prop
  | .gone => True
  | .lst ds => ∃ xs, H a = some (.lst xs) ∧ Rps k g ds xs
  | .ins c ds => ∃ dx xs, H a = some (.ins (He.ga k.K c.nm) dx (c.fs.zip xs)) ∧ ds.length ≤ c.fs.length ∧ Rps k g ds xs
theorem MRep.monoL {H H' : Hp} {a : Addr} {m : M} (l : g.li g') (e : H' a = H a) (h : MRep k g H a m) : MRep k g' H' a m := by
  cases m with
  | gone => trivial
  | lst ds => obtain ⟨xs, h1, h2⟩ := h; exact ⟨xs, e.trans h1, h2.monoL l⟩
  | ins c ds => obtain ⟨dx, xs, h1, h2, h3⟩ := h; exact ⟨dx, xs, e.trans h1, h2, h3.monoL l⟩
theorem MRep.mono {H H' : Hp} {a : Addr} {m : M} (l : g.le g') (e : H' a = H a) (h : MRep k g H a m) : MRep k g' H' a m := h.monoL l.li e
theorem MRep.there {H : Hp} {a : Addr} {m : M} (h : MRep k g H a m) (n : m ≠ .gone) : ∃ o, H a = some o := by
  cases m with
  | gone => exact absurd rfl n
  | lst ds => obtain ⟨xs, h1, h2⟩ := h; exact ⟨_, h1⟩
  | ins c ds => obtain ⟨dx, xs, h1, h2, h3⟩ := h; exact ⟨_, h1⟩
/-- the heap holds the ghost's part and the store -/
structure Rs (k : Kx) (g : G) (μ : Sto) (H : Hp) : Prop where
  ex : ∀ a o, g.I a = some o → H a = some o
  len : g.φ.length = μ.length
  obj : ∀ (n : Nat) m a, μ[n]? = some m → g.φ[n]? = some a → MRep k g H a m
  fr : ∀ (n : Nat) m a, μ[n]? = some m → g.φ[n]? = some a → m ≠ .gone → g.I a = none
  nd : ∀ (i j : Nat) m m' a, μ[i]? = some m → μ[j]? = some m' → m ≠ .gone → m' ≠ .gone → g.φ[i]? = some a → g.φ[j]? = some a → i = j
  fx : ∀ a o, g.F a = some o → H a = some o
  fi : ∀ a o, g.F a = some o → g.I a = none
  fs : ∀ (n : Nat) m a, μ[n]? = some m → g.φ[n]? = some a → m ≠ .gone → g.F a = none
section
variable {μ : Sto} {H : Hp} {p : Addr} {o : HO}
/-- a new object that stays -/
def G.add (g : G) (p : Addr) (o : HO) : G := ⟨upd g.I p o, g.φ, g.F⟩
theorem G.le_add {g : G} {p : Addr} {o : HO} (h : g.I p = none) : g.le (g.add p o) := ⟨fun a u e => by
  show upd g.I p o a = some u
  rw [upd_ne (ne_of_none e h)]; exact e, fun _ _ h => h, rfl⟩
theorem Rs.freeI (r : Rs k g μ H) (h : H p = none) : g.I p = none := by
  cases e : g.I p with
  | none => rfl
  | some u => rw [r.ex p u e] at h; cases h
theorem Rs.ne (r : Rs k g μ H) (h : H p = none) {n : Nat} {m : M} {a : Addr} (h1 : μ[n]? = some m) (h2 : g.φ[n]? = some a) (h3 : m ≠ .gone) : a ≠ p := by
  obtain ⟨u, e⟩ := (r.obj n m a h1 h2).there h3
  exact ne_of_none e h
theorem Rs.add (r : Rs k g μ H) (h : H p = none) : Rs k (g.add p o) μ (upd H p o) where
  ex := fun a u e => by
    have e' : upd g.I p o a = some u := e
    by_cases hp : a = p
    · subst hp; rw [upd_same] at e' ⊢; exact e'
    · rw [upd_ne hp] at e' ⊢; exact r.ex a u e'
  len := r.len
  obj := fun n m a h1 h2 => by
    cases m with
    | gone => trivial
    | _ => exact (r.obj n _ a h1 h2).mono (G.le_add (r.freeI h)) (upd_ne (r.ne h h1 h2 (by intro z; cases z)))
  fr := fun n m a h1 h2 h3 => by
    show upd g.I p o a = none
    rw [upd_ne (r.ne h h1 h2 h3)]; exact r.fr n m a h1 h2 h3
  nd := r.nd
  fx := fun a u e => by
    rw [upd_ne (ne_of_none (r.fx a u e) h)]; exact r.fx a u e
  fi := fun a u e => by
    show upd g.I p o a = none
    rw [upd_ne (ne_of_none (r.fx a u e) h)]; exact r.fi a u e
  fs := r.fs
/-- a new object of the store -/
def G.push (g : G) (p : Addr) : G := ⟨g.I, g.φ ++ [p], g.F⟩
theorem G.le_push {g : G} {p : Addr} : g.le (g.push p) := ⟨fun _ _ h => h, fun n a h => by
  show (g.φ ++ [p])[n]? = some a
  rw [List.getElem?_append_left (List.getElem?_eq_some_iff.mp h).1]; exact h, rfl⟩
theorem getElem?_snoc {α : Type} {l : List α} {x y : α} {n : Nat} (h : (l ++ [x])[n]? = some y) : (n < l.length ∧ l[n]? = some y) ∨ (n = l.length ∧ y = x) := by
  by_cases hn : n < l.length
  · rw [List.getElem?_append_left hn] at h; exact .inl ⟨hn, h⟩
  · rw [List.getElem?_append_right (by omega)] at h
    have e : n - l.length = 0 := by
      by_cases z : n - l.length = 0
      · exact z
      · rw [List.getElem?_eq_none (by simp; omega)] at h; cases h
    rw [e] at h
    exact .inr ⟨by omega, by simpa using h.symm⟩
theorem Rs.push (r : Rs k g μ H) (h : H p = none) {m : M} (hm : MRep k (g.push p) (upd H p o) p m) : Rs k (g.push p) (μ ++ [m]) (upd H p o) where
  ex := fun a u e => by
    rw [upd_ne (ne_of_none (r.ex a u e) h)]; exact r.ex a u e
  len := by show (g.φ ++ [p]).length = _; simp [r.len]
  obj := fun n m' a h1 h2 => by
    rcases getElem?_snoc h1 with ⟨l1, h1⟩ | ⟨l1, h1⟩
    · rcases getElem?_snoc (l := g.φ) h2 with ⟨l2, h2⟩ | ⟨l2, h2⟩
      · cases m' with
        | gone => trivial
        | _ => exact (r.obj n _ a h1 h2).mono G.le_push (upd_ne (r.ne h h1 h2 (by intro z; cases z)))
      · rw [r.len] at l2; omega
    · rcases getElem?_snoc (l := g.φ) h2 with ⟨l2, h2⟩ | ⟨l2, h2⟩
      · rw [r.len] at l2; omega
      · rw [h1, h2]; exact hm
  fr := fun n m' a h1 h2 h3 => by
    rcases getElem?_snoc h1 with ⟨l1, h1⟩ | ⟨l1, h1⟩
    · rcases getElem?_snoc (l := g.φ) h2 with ⟨l2, h2⟩ | ⟨l2, h2⟩
      · exact r.fr n m' a h1 h2 h3
      · rw [r.len] at l2; omega
    · rcases getElem?_snoc (l := g.φ) h2 with ⟨l2, h2⟩ | ⟨l2, h2⟩
      · rw [r.len] at l2; omega
      · rw [h2]; exact r.freeI h
  nd := fun i j m1 m2 a h1 h2 n1 n2 p1 p2 => by
    rcases getElem?_snoc h1 with ⟨l1, h1⟩ | ⟨l1, h1⟩ <;> rcases getElem?_snoc h2 with ⟨l2, h2⟩ | ⟨l2, h2⟩ <;>
      rcases getElem?_snoc (l := g.φ) p1 with ⟨l3, p1⟩ | ⟨l3, p1⟩ <;> rcases getElem?_snoc (l := g.φ) p2 with ⟨l4, p2⟩ | ⟨l4, p2⟩ <;> have el := r.len <;> try omega
    · exact r.nd i j m1 m2 a h1 h2 n1 n2 p1 p2
    · exact absurd p2 (r.ne h h1 p1 n1)
    · exact absurd p1 (r.ne h h2 p2 n2)
  fx := fun a u e => by
    rw [upd_ne (ne_of_none (r.fx a u e) h)]; exact r.fx a u e
  fi := r.fi
  fs := fun n m' a h1 h2 h3 => by
    rcases getElem?_snoc h1 with ⟨l1, h1⟩ | ⟨l1, h1⟩
    · rcases getElem?_snoc (l := g.φ) h2 with ⟨l2, h2⟩ | ⟨l2, h2⟩
      · exact r.fs n m' a h1 h2 h3
      · rw [r.len] at l2; omega
    · rcases getElem?_snoc (l := g.φ) h2 with ⟨l2, h2⟩ | ⟨l2, h2⟩
      · rw [r.len] at l2; omega
      · rw [h2]
        cases e : g.F p with
        | none => exact e
        | some u => have z := r.fx p u e; rw [h] at z; cases z
/-- an object of the store is written -/
theorem Rs.write (r : Rs k g μ H) {n : Nat} {m m' : M} {a : Addr} (h1 : μ[n]? = some m) (h2 : g.φ[n]? = some a) (h3 : m ≠ .gone) (hm : MRep k g (upd H a o) a m') : Rs k g (μ.set n m') (upd H a o) where
  ex := fun b u e => by
    have z : b ≠ a := ne_of_none e (r.fr n m a h1 h2 h3)
    rw [upd_ne z]; exact r.ex b u e
  len := by rw [r.len]; simp
  obj := fun i mi b e1 e2 => by
    by_cases hi : i = n
    · subst hi
      rw [h2] at e2; cases e2
      rw [List.getElem?_set_self (List.getElem?_eq_some_iff.mp h1).1] at e1
      cases e1; exact hm
    · rw [List.getElem?_set_ne (Ne.symm hi)] at e1
      cases mi with
      | gone => trivial
      | _ =>
        refine (r.obj i _ b e1 e2).mono (G.le.refl g) (upd_ne fun z => hi ?_)
        exact r.nd i n _ m b e1 h1 (by intro z; cases z) h3 e2 (z ▸ h2)
  fr := fun i mi b e1 e2 e3 => by
    by_cases hi : i = n
    · subst hi
      rw [h2] at e2; cases e2
      exact r.fr i m a h1 h2 h3
    · rw [List.getElem?_set_ne (Ne.symm hi)] at e1
      exact r.fr i mi b e1 e2 e3
  nd := fun i j m1 m2 b e1 e2 n1 n2 p1 p2 => by
    have live : ∀ (i : Nat) mi, (μ.set n m')[i]? = some mi → mi ≠ .gone → ∃ mi', μ[i]? = some mi' ∧ mi' ≠ .gone := fun i mi e1 n1 => by
      by_cases hi : i = n
      · subst hi; exact ⟨m, h1, h3⟩
      · rw [List.getElem?_set_ne (Ne.symm hi)] at e1; exact ⟨mi, e1, n1⟩
    obtain ⟨m1', q1, l1⟩ := live i m1 e1 n1
    obtain ⟨m2', q2, l2⟩ := live j m2 e2 n2
    exact r.nd i j m1' m2' b q1 q2 l1 l2 p1 p2
  fx := fun b u e => by
    have z : b ≠ a := fun q => by rw [q, r.fs n m a h1 h2 h3] at e; cases e
    rw [upd_ne z]; exact r.fx b u e
  fi := r.fi
  fs := fun i mi b e1 e2 e3 => by
    by_cases hi : i = n
    · subst hi
      rw [h2] at e2; cases e2
      exact r.fs i m a h1 h2 h3
    · rw [List.getElem?_set_ne (Ne.symm hi)] at e1
      exact r.fs i mi b e1 e2 e3
/-- with a further object in the frame -/
def G.wf (g : G) (p : Addr) (o : HO) : G := ⟨g.I, g.φ, upd g.F p o⟩
theorem G.li_wf {g : G} {p : Addr} {o : HO} : g.li (g.wf p o) := ⟨fun _ _ h => h, fun _ _ h => h⟩
theorem Rs.wf (r : Rs k g μ H) (h : H p = none) : Rs k (g.wf p o) μ (upd H p o) where
  ex := fun a u e => by rw [upd_ne (ne_of_none (r.ex a u e) h)]; exact r.ex a u e
  len := r.len
  obj := fun n m a h1 h2 => by
    cases m with
    | gone => trivial
    | _ => exact (r.obj n _ a h1 h2).monoL G.li_wf (upd_ne (r.ne h h1 h2 (by intro z; cases z)))
  fr := r.fr
  nd := r.nd
  fx := fun a u e => by
    have e : upd g.F p o a = some u := e
    by_cases z : a = p
    · subst z; rw [upd_same] at e ⊢; exact e
    · rw [upd_ne z] at e ⊢; exact r.fx a u e
  fi := fun a u e => by
    have e : upd g.F p o a = some u := e
    by_cases z : a = p
    · subst z; exact r.freeI h
    · rw [upd_ne z] at e; exact r.fi a u e
  fs := fun n m a h1 h2 h3 => by
    show upd g.F p o a = none
    rw [upd_ne (r.ne h h1 h2 h3)]; exact r.fs n m a h1 h2 h3
/-- the frame's object changes -/
theorem Rs.rf {o' : HO} (r : Rs k g μ H) {F : Hp} (e : g.F = upd F p o) : Rs k ⟨g.I, g.φ, upd F p o'⟩ μ (upd H p o') where
  ex := fun a u e' => by
    have z : a ≠ p := fun q => by
      have q1 := r.fi p o (by rw [e, upd_same])
      rw [q, q1] at e'; cases e'
    rw [upd_ne z]; exact r.ex a u e'
  len := r.len
  obj := fun n m a h1 h2 => by
    cases m with
    | gone => trivial
    | _ =>
      have z : a ≠ p := fun q => by
        have q1 := r.fs n _ a h1 h2 (by intro z; cases z)
        rw [q, e, upd_same] at q1; cases q1
      exact MRep.monoL (g := g) (g' := ⟨g.I, g.φ, upd F p o'⟩) ⟨fun _ _ h => h, fun _ _ h => h⟩ (upd_ne z) (r.obj n _ a h1 h2)
  fr := r.fr
  nd := r.nd
  fx := fun a u e' => by
    have e' : upd F p o' a = some u := e'
    by_cases z : a = p
    · subst z; rw [upd_same] at e' ⊢; exact e'
    · rw [upd_ne z] at e' ⊢; exact r.fx a u (by rw [e, upd_ne z]; exact e')
  fi := fun a u e' => by
    have e' : upd F p o' a = some u := e'
    by_cases z : a = p
    · subst z; exact r.fi a o (by rw [e, upd_same])
    · rw [upd_ne z] at e'; exact r.fi a u (by rw [e, upd_ne z]; exact e')
  fs := fun n m a h1 h2 h3 => by
    show upd F p o' a = none
    have q1 := r.fs n m a h1 h2 h3
    rw [e] at q1
    by_cases z : a = p
    · subst z; rw [upd_same] at q1; cases q1
    · rw [upd_ne z] at q1 ⊢; exact q1
/-- the frame's object stays from now on -/
theorem Rs.unwf (r : Rs k g μ H) {F : Hp} (e : g.F = upd F p o) (hF : F p = none) : Rs k ⟨upd g.I p o, g.φ, F⟩ μ H where
  ex := fun a u e' => by
    have e' : upd g.I p o a = some u := e'
    by_cases z : a = p
    · subst z; rw [upd_same] at e'; cases e'; exact r.fx a _ (by rw [e, upd_same])
    · rw [upd_ne z] at e'; exact r.ex a u e'
  len := r.len
  obj := fun n m a h1 h2 => by
    cases m with
    | gone => trivial
    | _ =>
      exact MRep.monoL (g := g) (g' := ⟨upd g.I p o, g.φ, F⟩) ⟨fun b u h => by
        show upd g.I p o b = some u
        have q1 := r.fi p o (by rw [e, upd_same])
        have z : b ≠ p := fun q => by rw [q, q1] at h; cases h
        rw [upd_ne z]; exact h, fun _ _ h => h⟩ rfl (r.obj n _ a h1 h2)
  fr := fun n m a h1 h2 h3 => by
    show upd g.I p o a = none
    have z : a ≠ p := fun q => by
      have q1 := r.fs n m a h1 h2 h3
      rw [q, e, upd_same] at q1; cases q1
    rw [upd_ne z]; exact r.fr n m a h1 h2 h3
  nd := r.nd
  fx := fun a u e' => by
    have z : a ≠ p := fun q => by rw [q] at e'; have e' : F p = some u := e'; rw [hF] at e'; cases e'
    exact r.fx a u (by rw [e, upd_ne z]; exact e')
  fi := fun a u e' => by
    have e' : F a = some u := e'
    show upd g.I p o a = none
    have z : a ≠ p := fun q => by rw [q, hF] at e'; cases e'
    rw [upd_ne z]; exact r.fi a u (by rw [e, upd_ne z]; exact e')
  fs := fun n m a h1 h2 h3 => by
    show F a = none
    have q1 := r.fs n m a h1 h2 h3
    rw [e] at q1
    by_cases z : a = p
    · subst z; exact hF
    · rw [upd_ne z] at q1; exact q1
end
end
end Z

set_option Elab.async false
set_option linter.all false
set_option maxRecDepth 100000
set_option maxHeartbeats 2000000
/-! Sim, part 1: results, readings of expressions. -/
namespace Z
open PySem PySem.Spec PyProof.Rows L2
abbrev St := L2.St
abbrev AE := En → Sto → R D
abbrev AT := En → Sto → R Bool
abbrev AA := En → Sto → R (List D)
def R.bind {α β : Type} (r : R α) (f : α → Sto → R β) : R β := match r with
  | .ok a μ => f a μ
  | .ex c μ => .ex c μ
  | .fail => .fail
@[simp] theorem R.bind_ok {α β : Type} (a : α) (μ : Sto) (f : α → Sto → R β) : (R.ok a μ).bind f = f a μ := rfl
@[simp] theorem R.bind_ex {α β : Type} (c : Ec) (μ : Sto) (f : α → Sto → R β) : (R.ex c μ : R α).bind f = .ex c μ := rfl
@[simp] theorem R.bind_fail {α β : Type} (f : α → Sto → R β) : (R.fail : R α).bind f = .fail := rfl
/-- what is wanted of a result -/
def Post {α β : Type} (k : Kx) (g : G) (rel : G → α → β → Prop) (r : R α) (Q : β → Hp → Prop) (E : XK) : Prop := match r with
  | .ok d μ => ∀ v h H, g.le h → Rs k h μ H → rel h d v → Q v H
  | .ex c μ => ∀ h H, g.le h → Rs k h μ H → E (.ref (He.ga k.K c.nm)) none H
  | .fail => False
def relB : G → Bool → Bool → Prop := fun _ a b => a = b
section
variable {α β γ δ : Type} {k : Kx} {g g' : G} {rel : G → α → β → Prop} {rel2 : G → γ → δ → Prop} {r : R α} {E : XK}
theorem Post.mono (l : g.le g') {Q : β → Hp → Prop} (h : Post k g rel r Q E) : Post k g' rel r Q E := by
  cases r with
  | ok d μ => exact fun v h' H l' => h v h' H (l.trans l')
  | ex c μ => exact fun h' H l' => h h' H (l.trans l')
  | fail => exact h
theorem Post.bind {f : α → Sto → R γ} {Q : δ → Hp → Prop} {Q1 : β → Hp → Prop} (h : Post k g rel2 (r.bind f) Q E)
    (w : ∀ d μ v h H, g.le h → Rs k h μ H → rel h d v → Post k h rel2 (f d μ) Q E → Q1 v H) : Post k g rel r Q1 E := by
  cases r with
  | ok d μ => exact fun v h' H l rs rl => w d μ v h' H l rs rl (Post.mono l h)
  | ex c μ => exact h
  | fail => exact h
theorem Post.ret {d : α} {μ : Sto} {v : β} {H : Hp} {Q : β → Hp → Prop} (h : Post k g rel (.ok d μ) Q E) (rs : Rs k g μ H) (rl : rel g d v) : Q v H := h v g H (.refl g) rs rl
end

/-- the frame: what slots hold -/
def RpE (k : Kx) (g : G) : En → St → Prop
  | [], σ => σ = []
  | e :: es, σ => ∃ s ss, σ = s :: ss ∧ (∀ d, e = some d → ∃ v, s = some v ∧ Rp k g d v) ∧ RpE k g es ss
section
variable {k : Kx} {g g' : G}
theorem RpE.mono (l : g.le g') : ∀ {env : En} {σ : St}, RpE k g env σ → RpE k g' env σ
  | [], _, h => h
  | e :: es, _, ⟨s, ss, z, p, q⟩ => ⟨s, ss, z, fun d hd => let ⟨v, a, b⟩ := p d hd; ⟨v, a, b.mono l⟩, RpE.mono l q⟩
theorem RpE.get : ∀ {env : En} {σ : St} {i : Nat} {d : D}, RpE k g env σ → env[i]? = some (some d) → ∃ v, σ[i]? = some (some v) ∧ Rp k g d v
  | [], _, _, _, _, h => by simp at h
  | e :: es, _, 0, d, ⟨s, ss, z, p, q⟩, h => by
    simp at h
    obtain ⟨v, a, b⟩ := p d h
    exact ⟨v, by rw [z, a]; rfl, b⟩
  | e :: es, _, i + 1, d, ⟨s, ss, z, p, q⟩, h => by
    obtain ⟨v, a, b⟩ := RpE.get (i := i) q (by simpa using h)
    exact ⟨v, by rw [z]; simpa using a, b⟩
theorem RpE.set {d : D} {v : V} (r : Rp k g d v) : ∀ {env : En} {σ : St} (i : Nat), RpE k g env σ → RpE k g (env.set i (some d)) (σ.set i (some v))
  | [], _, _, h => by have e : _ = [] := h; rw [e]; rfl
  | e :: es, _, 0, ⟨s, ss, z, p, q⟩ => by
    rw [z]; exact ⟨some v, ss, rfl, fun d' hd => ⟨v, rfl, by cases hd; exact r⟩, q⟩
  | e :: es, _, i + 1, ⟨s, ss, z, p, q⟩ => by
    rw [z]; exact ⟨s, _, rfl, p, RpE.set r i q⟩
theorem RpE.wipe1 {σ : St} : ∀ {env : En} (i : Nat) (x : Option V), RpE k g env σ → RpE k g (env.set i none) (σ.set i x) := by
  intro env
  induction env generalizing σ with
  | nil => intro i x h; have e : σ = [] := h; rw [e]; rfl
  | cons e es ih =>
    intro i x ⟨s, ss, z, p, q⟩
    subst z
    cases i with
    | zero => exact ⟨x, ss, rfl, fun d hd => by simp at hd, q⟩
    | succ i => exact ⟨s, _, rfl, p, ih i x q⟩
theorem RpE.length : ∀ {env : En} {σ : St}, RpE k g env σ → σ.length = env.length
  | [], _, h => by have e : _ = [] := h; rw [e]; rfl
  | e :: es, _, ⟨s, ss, z, _, q⟩ => by rw [z]; simp [RpE.length q]
end

/-! ### readings -/
def SimE (k : Kx) (W : WX) (te : TE) (a : AE) : Prop := ∀ (σ : St) (env : En) (g : G) (μ : Sto) (H : Hp) (Q : VK), RpE k g env σ → Rs k g μ H → Post k g (Rp k) (a env μ) Q (fun c d H' => W c d σ H') → te σ H Q
def SimT (k : Kx) (W : WX) (t : TT) (a : AT) : Prop := ∀ (σ : St) (env : En) (g : G) (μ : Sto) (H : Hp) (Q : Bool → Hp → Prop), RpE k g env σ → Rs k g μ H → Post k g relB (a env μ) Q (fun c d H' => W c d σ H') → t σ H Q
def SimA (k : Kx) (W : WX) (t : TA) (a : AA) : Prop := ∀ (σ : St) (env : En) (g : G) (μ : Sto) (H : Hp) (Q : List V → Hp → Prop), RpE k g env σ → Rs k g μ H → Post k g (Rps k) (a env μ) Q (fun c d H' => W c d σ H') → t σ H Q
abbrev kx (X : Cx) (hot : Option (Addr × Ec)) : Kx := ⟨X.K, hot⟩
def EE (X : Cx) (hot : Option (Addr × Ec)) (W : WX) (e : Expr) (a : AE) : Prop := ∃ te, PE X e te ∧ SimE (kx X hot) W te a
def ET (X : Cx) (hot : Option (Addr × Ec)) (W : WX) (e : Expr) (a : AT) : Prop := ∃ te, PT X e te ∧ SimT (kx X hot) W te a
def ETw (X : Cx) (hot : Option (Addr × Ec)) (W : WX) (e : Expr) (a : AT) : Prop := ∃ te, PW X e te ∧ SimT (kx X hot) W te a
def EA (X : Cx) (hot : Option (Addr × Ec)) (W : WX) (es : List Expr) (a : AA) : Prop := ∃ te, PA X es te ∧ SimA (kx X hot) W te a
/-- operations on values -/
def OpS (k : Kx) (r : R2) (f : D → D → Sto → R D) : Prop := ∀ (d e : D) (x y : V) (g : G) (μ : Sto) (H : Hp) (Q : VK) (E : XK), Rp k g d x → Rp k g e y → Rs k g μ H → Post k g (Rp k) (f d e μ) Q E → r x y H Q
def UnS (k : Kx) (r : V → Hp → VK → Prop) (f : D → Sto → R D) : Prop := ∀ (d : D) (x : V) (g : G) (μ : Sto) (H : Hp) (Q : VK) (E : XK), Rp k g d x → Rs k g μ H → Post k g (Rp k) (f d μ) Q E → r x H Q
def CallS (k : Kx) (r : List V → Hp → VK → Prop) (f : List D → Sto → R D) : Prop := ∀ (ds : List D) (xs : List V) (g : G) (μ : Sto) (H : Hp) (Q : VK) (E : XK), Rps k g ds xs → Rs k g μ H → Post k g (Rp k) (f ds μ) Q E → r xs H Q
def R.orF {α : Type} (r s : R α) : R α := match r with
  | .fail => s
  | z => z
theorem OpS.or {k : Kx} {r r' : R2} {f f' : D → D → Sto → R D} (h : OpS k r f) (h' : OpS k r' f') :
    OpS k (fun x y H Q => r x y H Q ∨ r' x y H Q) (fun d e μ => (f d e μ).orF (f' d e μ)) := fun d e x y g μ H Q E rx ry rs p => by
  cases z : f d e μ with
  | ok a m => simp only [z] at p; exact .inl (h d e x y g μ H Q E rx ry rs (by rw [z]; exact p))
  | ex c m => simp only [z] at p; exact .inl (h d e x y g μ H Q E rx ry rs (by rw [z]; exact p))
  | fail => simp only [z] at p; exact .inr (h' d e x y g μ H Q E rx ry rs p)

/-! ### lists and tuples by abstract values -/
def D.rdL (μ : Sto) : D → Option (List D)
  | .lst xs => some xs
  | .ob n => match μ[n]? with
    | some (.lst xs) => some xs
    | _ => none
  | _ => none
def D.sqL (μ : Sto) : D → Option (List D)
  | .scr xs => some xs
  | d => d.rdL μ
section
variable {k : Kx} {g : G} {μ : Sto} {H : Hp} {d : D} {x : V} {ds : List D}
theorem rs_rd (rs : Rs k g μ H) {a : Addr} {o : HO} (h : Rd g.I a o) : Rd H a o := rd_mono rs.ex h
theorem rdL_ok (rs : Rs k g μ H) (r : Rp k g d x) (e : d.rdL μ = some ds) : ∃ a xs, x = .ref a ∧ Rd H a (.lst xs) ∧ Rps k g ds xs := by
  cases d with
  | lst ys =>
    cases e
    obtain ⟨a, xs, e, s, q⟩ := r
    exact ⟨a, xs, e, rs_rd rs s, q⟩
  | ob n =>
    obtain ⟨a, e1, e2⟩ := r
    have e' : (match μ[n]? with
      | some (.lst xs) => some xs
      | _ => none) = some ds := e
    clear e
    have e := e'
    cases z : μ[n]? with
    | none => rw [z] at e; cases e
    | some m =>
      rw [z] at e
      cases m with
      | lst ys =>
        cases e
        obtain ⟨xs, h1, h2⟩ := rs.obj n _ a z e2
        exact ⟨a, xs, e1, .inl h1, h2⟩
      | _ => cases e
  | _ => cases e
theorem sqL_ok (rs : Rs k g μ H) (r : Rp k g d x) (e : d.sqL μ = some ds) : ∃ a xs, x = .ref a ∧ SqL k.K H a xs ∧ Rps k g ds xs := by
  cases d with
  | scr ys =>
    cases e
    obtain ⟨a, xs, e, s, q⟩ := r
    exact ⟨a, xs, e, sqL_mono rs.ex s, q⟩
  | lst ys => obtain ⟨a, xs, e1, s, q⟩ := rdL_ok rs r e; exact ⟨a, xs, e1, .inl s, q⟩
  | ob n => obtain ⟨a, xs, e1, s, q⟩ := rdL_ok rs r (show D.rdL μ (.ob n) = some ds from e); exact ⟨a, xs, e1, .inl s, q⟩
  | _ => cases e
theorem tup_ok (rs : Rs k g μ H) (r : Rp k g (.tup ds) x) : ∃ a xs, x = .ref a ∧ SqT k.K H a xs ∧ Rps k g ds xs := by
  obtain ⟨a, xs, e, s, q⟩ := r
  exact ⟨a, xs, e, sqT_mono rs.ex s, q⟩
/-- a new tuple | list that stays -/
theorem Post.newT {xs : List V} {p : Addr} {Q : VK} {E : XK} (h : Post k g (Rp k) (.ok (.tup ds) μ) Q E) (rs : Rs k g μ H) (r : Rps k g ds xs) (hp : H p = none) : Q (.ref p) (upd H p (.tup xs)) :=
  h _ (g.add p (.tup xs)) _ (G.le_add (rs.freeI hp)) (rs.add hp) ⟨p, xs, rfl, .inl (.inl upd_same), r.mono (G.le_add (rs.freeI hp))⟩
theorem Post.newL {xs : List V} {p : Addr} {Q : VK} {E : XK} (h : Post k g (Rp k) (.ok (.lst ds) μ) Q E) (rs : Rs k g μ H) (r : Rps k g ds xs) (hp : H p = none) : Q (.ref p) (upd H p (.lst xs)) :=
  h _ (g.add p (.lst xs)) _ (G.le_add (rs.freeI hp)) (rs.add hp) ⟨p, xs, rfl, .inl upd_same, r.mono (G.le_add (rs.freeI hp))⟩
theorem Post.newM {xs : List V} {p : Addr} {Q : VK} {E : XK} (h : Post k g (Rp k) (.ok (.ob μ.length) (μ ++ [.lst ds])) Q E) (rs : Rs k g μ H) (r : Rps k g ds xs) (hp : H p = none) : Q (.ref p) (upd H p (.lst xs)) :=
  h _ (g.push p) _ G.le_push (rs.push hp ⟨xs, upd_same, r.mono G.le_push⟩) ⟨p, rfl, by
    show (g.φ ++ [p])[μ.length]? = some p
    rw [← rs.len]; simp⟩
end
def line : Nat := 16000000
theorem line_le {n : Nat} (h : n ≤ line) : n ≤ sizeLine := Nat.le_trans h (by rw [sizeLine_eq]; decide)
theorem line_lt {n : Nat} (h : n < line) : n < sizeLine := Nat.lt_of_lt_of_le h (by rw [sizeLine_eq]; decide)

/-! ### expressions -/
section
variable {X : Cx} {hot : Option (Addr × Ec)} {W : WX} {a b c e : Expr} {es : List Expr} {A B C : AE} {As : AA} {pos : Pos}
def aVar (i : Nat) : AE := fun env μ => match env[i]? with
  | some (some d) => .ok d μ
  | _ => .fail
def aC (d : D) : AE := fun _ μ => .ok d μ
theorem simE_var (k : Kx) (i : Nat) : SimE k W (tVar i) (aVar i) := fun σ env g μ H Q r rs p => by
  unfold aVar at p
  cases z : env[i]? with
  | none => rw [z] at p; exact p.elim
  | some o =>
    rw [z] at p
    cases o with
    | none => exact p.elim
    | some d =>
      obtain ⟨v, h1, h2⟩ := r.get z
      exact ⟨v, h1, p.ret rs h2⟩
theorem e_var (i : Nat) {x : Str} (hN : X.N[i]? = some x := by rfl) (hv : Vis X.env.scope x := by first | exact Or.inl rfl | exact Or.inr (Or.inl rfl) | exact Or.inr (Or.inr rfl)) (hd : (x == ("__debug__" : Str)) = false := by decide)
    (hcd : (x == ("__classdict__" : Str)) = false := by decide) : EE X hot W (.Name x pos) (aVar i) := ⟨_, pe_var hN hv hd hcd, simE_var _ i⟩
theorem simE_c {k : Kx} {d : D} {v : V} (h : ∀ g, Rp k g d v) : SimE k W (tC v) (aC d) := fun σ env g μ H Q r rs p => p.ret rs (h g)
theorem e_int {i : Int} {j : Nat} : EE X hot W (.Constant (.int i) j pos) (aC (.int i)) := ⟨_, pe_int, simE_c fun _ => rfl⟩
theorem e_bl {i : Bool} {j : Nat} : EE X hot W (.Constant (.bool i) j pos) (aC (.bl i)) := ⟨_, pe_bl, simE_c fun _ => rfl⟩
theorem e_non {j : Nat} : EE X hot W (.Constant .none j pos) (aC .non) := ⟨_, pe_non, simE_c fun _ => rfl⟩
theorem e_str {x : Str} {j : Nat} (cs : List Nat) (h : x = ⟨cs.toArray⟩ := by decide +kernel) : EE X hot W (.Constant (.str x) j pos) (aC (.str cs)) := ⟨_, pe_str, simE_c fun _ => congrArg V.str h⟩
/-- a module's name: an int, a text, an own class -/
theorem e_gint {x : Str} {i : Int} (hg : Gl X x := by rfl) (h : ∃ t, X.mg x = some (.int i t)) (hd : (x == ("__debug__" : Str)) = false := by decide) : EE X hot W (.Name x pos) (aC (.int i)) := by
  obtain ⟨t, h⟩ := h
  exact ⟨_, pe_glob hg h (v := .int i) ⟨t, rfl⟩ hd, simE_c fun _ => rfl⟩
theorem e_gstr {x z : Str} (cs : List Nat) (hg : Gl X x := by rfl) (h : ∃ t, X.mg x = some (.str z t)) (hz : z = ⟨cs.toArray⟩ := by decide +kernel) (hd : (x == ("__debug__" : Str)) = false := by decide) : EE X hot W (.Name x pos) (aC (.str cs)) := by
  obtain ⟨t, h⟩ := h
  exact ⟨_, pe_glob hg h (v := .str z) ⟨t, rfl⟩ hd, simE_c fun _ => congrArg V.str hz⟩
theorem e_gecl {x : Str} (c : Ec) (hx : x = c.nm := by rfl) (hg : Gl X x := by rfl) (h : X.mg x = some (.ref (He.ga X.K x))) (hd : (x == ("__debug__" : Str)) = false := by decide) : EE X hot W (.Name x pos) (aC (.ecl c)) :=
  ⟨_, pe_glob hg h (v := .ref (He.ga X.K x)) rfl hd, simE_c fun _ => by rw [hx]; exact rfl⟩
theorem e_gccl {x : Str} (c : Cn) (hx : x = c.nm := by rfl) (hg : Gl X x := by rfl) (h : X.mg x = some (.ref (He.ga X.K x))) (hd : (x == ("__debug__" : Str)) = false := by decide) : EE X hot W (.Name x pos) (aC (.ccl c)) :=
  ⟨_, pe_glob hg h (v := .ref (He.ga X.K x)) rfl hd, simE_c fun _ => by rw [hx]; exact rfl⟩
theorem e_ty {x : Str} {T : String} (hg : Gl X x := by rfl) (hm : X.mg x = none) (hv : bootBuiltins x = some (.type T) := by decide +kernel) (hn : x ≠ "__name__" := by decide) (hd : (x == ("__debug__" : Str)) = false := by decide) : EE X hot W (.Name x pos) (aC (.ty T)) :=
  ⟨_, pe_bltn hg hm hv (v := .ty T) rfl hn hd, simE_c fun _ => rfl⟩
/-- operators -/
def aOp (f : D → D → Sto → R D) (A B : AE) : AE := fun env μ => (A env μ).bind fun d μ1 => (B env μ1).bind fun e μ2 => f d e μ2
theorem simE_op {k : Kx} {r : R2} {f : D → D → Sto → R D} {ta tb : TE} (hr : OpS k r f) (ha : SimE k W ta A) (hb : SimE k W tb B) : SimE k W (tOp r ta tb) (aOp f A B) := fun σ env g μ H Q re rs p => by
  refine ha σ env g μ H _ re rs (p.bind fun d μ1 x g1 H1 l1 rs1 rx p1 => ?_)
  refine hb σ env g1 μ1 H1 _ (re.mono l1) rs1 (p1.bind fun e μ2 y g2 H2 l2 rs2 ry p2 => ?_)
  exact hr d e x y g2 μ2 H2 Q _ (rx.mono l2) ry rs2 p2
theorem e_op {op : Operator} {r : R2} {f : D → D → Sto → R D} (ho : OpR X (binaryOp op) r) (hr : OpS (kx X hot) r f) (ha : EE X hot W a A) (hb : EE X hot W b B) : EE X hot W (.BinOp a op b pos) (aOp f A B) := by
  obtain ⟨ta, pa, sa⟩ := ha
  obtain ⟨tb, pb, sb⟩ := hb
  exact ⟨_, pe_op ho pa pb, simE_op hr sa sb⟩
theorem e_cmp {op : CmpOp} {r : R2} {f : D → D → Sto → R D} (ho : OpR X (compareOp op) r) (hr : OpS (kx X hot) r f) (ha : EE X hot W a A) (hb : EE X hot W b B) (hm : behindInMarks op b = false := by first | exact nomark _ | rfl) : EE X hot W (.Compare a [op] [b] pos) (aOp f A B) := by
  obtain ⟨ta, pa, sa⟩ := ha
  obtain ⟨tb, pb, sb⟩ := hb
  exact ⟨_, pe_cmpR ho pa pb hm, simE_op hr sa sb⟩
/-- a value as a test -/
def aB (A : AE) : AT := fun env μ => (A env μ).bind fun d μ1 => match d with
  | .bl k => .ok k μ1
  | _ => .fail
theorem simT_b {k : Kx} {te : TE} (h : SimE k W te A) : SimT k W (tTest te) (aB A) := fun σ env g μ H Q re rs p => by
  refine h σ env g μ H _ re rs (p.bind fun d μ1 x g1 H1 l1 rs1 rx p1 => ?_)
  cases d with
  | bl k => exact ⟨k, rx, p1.ret rs1 rfl⟩
  | _ => exact p1.elim
theorem t_cmp {op : CmpOp} {r : R2} {f : D → D → Sto → R D} (ho : OpR X (compareOp op) r) (hr : OpS (kx X hot) r f) (ha : EE X hot W a A) (hb : EE X hot W b B) (hm : behindInMarks op b = false := by first | exact nomark _ | rfl) : ET X hot W (.Compare a [op] [b] pos) (aB (aOp f A B)) := by
  obtain ⟨ta, pa, sa⟩ := ha
  obtain ⟨tb, pb, sb⟩ := hb
  exact ⟨_, pt_cmpR ho pa pb hm, simT_b (simE_op hr sa sb)⟩
theorem t_val (h : EE X hot W e A) (he : ∀ whole, isTrue e X.env whole = (do let v ← whole; standAt e.pos; holding [v] (truthy v)) := by intro _; rfl) : ET X hot W e (aB A) := by
  obtain ⟨te, p, s⟩ := h
  exact ⟨_, pt_val p he, simT_b s⟩
/-- a < b < c -/
def aChain (f f' : D → D → Sto → R D) (A B C : AE) : AE := fun env μ => (A env μ).bind fun d μ1 => (B env μ1).bind fun e μ2 => (f d e μ2).bind fun z μ3 => match z with
  | .bl true => (C env μ3).bind fun w μ4 => f' e w μ4
  | .bl false => .ok (.bl false) μ3
  | _ => .fail
theorem simE_chain {k : Kx} {r r' : R2} {f f' : D → D → Sto → R D} {ta tb tc : TE} (hr : OpS k r f) (hr' : OpS k r' f') (ha : SimE k W ta A) (hb : SimE k W tb B) (hc : SimE k W tc C) : SimE k W (tChain r r' ta tb tc) (aChain f f' A B C) := fun σ env g μ H Q re rs p => by
  refine ha σ env g μ H _ re rs (p.bind fun d μ1 x g1 H1 l1 rs1 rx p1 => ?_)
  refine hb σ env g1 μ1 H1 _ (re.mono l1) rs1 (p1.bind fun e μ2 y g2 H2 l2 rs2 ry p2 => ?_)
  refine hr d e x y g2 μ2 H2 _ _ (rx.mono l2) ry rs2 (p2.bind fun z μ3 vz g3 H3 l3 rs3 rz p3 => ?_)
  cases z with
  | bl q =>
    cases q with
    | true =>
      refine ⟨true, rz, ?_⟩
      rw [if_pos rfl]
      refine hc σ env g3 μ3 H3 _ (re.mono ((l1.trans l2).trans l3)) rs3 (p3.bind fun w μ4 vw g4 H4 l4 rs4 rw4 p4 => ?_)
      exact hr' e w y vw g4 μ4 H4 Q _ (ry.mono (l3.trans l4)) rw4 rs4 p4
    | false =>
      refine ⟨false, rz, ?_⟩
      rw [if_neg Bool.false_ne_true]
      exact p3.ret rs3 rfl
  | _ => exact p3.elim
theorem e_chain {op op' : CmpOp} {r r' : R2} {f f' : D → D → Sto → R D} (ho : OpR X (compareOp op) r) (ho' : OpR X (compareOp op') r') (hr : OpS (kx X hot) r f) (hr' : OpS (kx X hot) r' f') (ha : EE X hot W a A) (hb : EE X hot W b B) (hc : EE X hot W c C)
    (hm : lastMarks [op, op'] [b, c] = false := by with_unfolding_all rfl) : EE X hot W (.Compare a [op, op'] [b, c] pos) (aChain f f' A B C) := by
  obtain ⟨ta, pa, sa⟩ := ha
  obtain ⟨tb, pb, sb⟩ := hb
  obtain ⟨tc, pc, sc⟩ := hc
  exact ⟨_, pe_chain ho ho' pa pb pc hm, simE_chain hr hr' sa sb sc⟩
theorem t_chain {op op' : CmpOp} {r r' : R2} {f f' : D → D → Sto → R D} (ho : OpR X (compareOp op) r) (ho' : OpR X (compareOp op') r') (hr : OpS (kx X hot) r f) (hr' : OpS (kx X hot) r' f') (ha : EE X hot W a A) (hb : EE X hot W b B) (hc : EE X hot W c C)
    (hm : lastMarks [op, op'] [b, c] = false := by with_unfolding_all rfl) : ET X hot W (.Compare a [op, op'] [b, c] pos) (aB (aChain f f' A B C)) := by
  obtain ⟨ta, pa, sa⟩ := ha
  obtain ⟨tb, pb, sb⟩ := hb
  obtain ⟨tc, pc, sc⟩ := hc
  exact ⟨_, pt_chain ho ho' pa pb pc hm, simT_b (simE_chain hr hr' sa sb sc)⟩
/-- and, or, not -/
def aAndT (A B : AT) : AT := fun env μ => (A env μ).bind fun k μ1 => if k = true then B env μ1 else .ok false μ1
def aOrT (A B : AT) : AT := fun env μ => (A env μ).bind fun k μ1 => if k = true then .ok true μ1 else B env μ1
def aNotT (A : AT) : AT := fun env μ => (A env μ).bind fun k μ1 => .ok (!k) μ1
variable {rest : List Expr} {P1 P2 : AT}
theorem tw_and1 (h : ET X hot W a P1) : ETw X hot W (.BoolOp .And [a] pos) P1 := let ⟨_, p, s⟩ := h; ⟨_, pw_and1 p, s⟩
theorem tw_or1 (h : ET X hot W a P1) : ETw X hot W (.BoolOp .Or [a] pos) P1 := let ⟨_, p, s⟩ := h; ⟨_, pw_or1 p, s⟩
theorem tw_and (h : ET X hot W a P1) (h2 : ETw X hot W (.BoolOp .And (b :: rest) pos) P2) : ETw X hot W (.BoolOp .And (a :: b :: rest) pos) (aAndT P1 P2) := by
  obtain ⟨ta, pa, sa⟩ := h
  obtain ⟨tb, pb, sb⟩ := h2
  refine ⟨_, pw_and pa pb, fun σ env g μ H Q re rs p => ?_⟩
  refine sa σ env g μ H _ re rs (p.bind fun k μ1 x g1 H1 l1 rs1 rx p1 => ?_)
  cases rx
  cases k with
  | true => exact sb σ env g1 μ1 H1 Q (re.mono l1) rs1 p1
  | false => exact Post.ret p1 rs1 rfl
theorem tw_or (h : ET X hot W a P1) (h2 : ETw X hot W (.BoolOp .Or (b :: rest) pos) P2) : ETw X hot W (.BoolOp .Or (a :: b :: rest) pos) (aOrT P1 P2) := by
  obtain ⟨ta, pa, sa⟩ := h
  obtain ⟨tb, pb, sb⟩ := h2
  refine ⟨_, pw_or pa pb, fun σ env g μ H Q re rs p => ?_⟩
  refine sa σ env g μ H _ re rs (p.bind fun k μ1 x g1 H1 l1 rs1 rx p1 => ?_)
  cases rx
  cases k with
  | true => exact Post.ret p1 rs1 rfl
  | false => exact sb σ env g1 μ1 H1 Q (re.mono l1) rs1 p1
theorem t_w (h : ETw X hot W e P1) : ET X hot W e P1 := let ⟨_, p, s⟩ := h; ⟨_, p.pt, s⟩
theorem t_not (h : ET X hot W a P1) : ET X hot W (.UnaryOp .Not a pos) (aNotT P1) := by
  obtain ⟨ta, pa, sa⟩ := h
  refine ⟨_, pt_not pa, fun σ env g μ H Q re rs p => ?_⟩
  refine sa σ env g μ H _ re rs (p.bind fun k μ1 x g1 H1 l1 rs1 rx p1 => ?_)
  cases rx
  exact Post.ret p1 rs1 rfl
def aAndV (A B : AE) : AE := fun env μ => (A env μ).bind fun d μ1 => match d with
  | .bl true => B env μ1
  | .bl false => .ok (.bl false) μ1
  | _ => .fail
def aOrV (A B : AE) : AE := fun env μ => (A env μ).bind fun d μ1 => match d with
  | .bl true => .ok (.bl true) μ1
  | .bl false => B env μ1
  | _ => .fail
def aNotV (A : AE) : AE := fun env μ => (A env μ).bind fun d μ1 => match d with
  | .bl k => .ok (.bl !k) μ1
  | _ => .fail
theorem e_one {op : BoolOp} (h : EE X hot W a A) : EE X hot W (.BoolOp op [a] pos) A := let ⟨_, p, s⟩ := h; ⟨_, pe_one p, s⟩
theorem e_and (h : EE X hot W a A) (h2 : EE X hot W (.BoolOp .And (b :: rest) pos) B) : EE X hot W (.BoolOp .And (a :: b :: rest) pos) (aAndV A B) := by
  obtain ⟨ta, pa, sa⟩ := h
  obtain ⟨tb, pb, sb⟩ := h2
  refine ⟨_, pe_and pa pb, fun σ env g μ H Q re rs p => ?_⟩
  refine sa σ env g μ H _ re rs (p.bind fun d μ1 x g1 H1 l1 rs1 rx p1 => ?_)
  cases d with
  | bl k =>
    refine ⟨k, rx, ?_⟩
    cases k with
    | true => exact sb σ env g1 μ1 H1 Q (re.mono l1) rs1 p1
    | false => exact Post.ret p1 rs1 rfl
  | _ => exact p1.elim
theorem e_or (h : EE X hot W a A) (h2 : EE X hot W (.BoolOp .Or (b :: rest) pos) B) : EE X hot W (.BoolOp .Or (a :: b :: rest) pos) (aOrV A B) := by
  obtain ⟨ta, pa, sa⟩ := h
  obtain ⟨tb, pb, sb⟩ := h2
  refine ⟨_, pe_or pa pb, fun σ env g μ H Q re rs p => ?_⟩
  refine sa σ env g μ H _ re rs (p.bind fun d μ1 x g1 H1 l1 rs1 rx p1 => ?_)
  cases d with
  | bl k =>
    refine ⟨k, rx, ?_⟩
    cases k with
    | true => exact Post.ret p1 rs1 rfl
    | false => exact sb σ env g1 μ1 H1 Q (re.mono l1) rs1 p1
  | _ => exact p1.elim
theorem e_not (h : EE X hot W a A) : EE X hot W (.UnaryOp .Not a pos) (aNotV A) := by
  obtain ⟨ta, pa, sa⟩ := h
  refine ⟨_, pe_not pa, fun σ env g μ H Q re rs p => ?_⟩
  refine sa σ env g μ H _ re rs (p.bind fun d μ1 x g1 H1 l1 rs1 rx p1 => ?_)
  cases d with
  | bl k => exact ⟨k, rx, Post.ret p1 rs1 rfl⟩
  | _ => exact p1.elim
def aIfE (P : AT) (A B : AE) : AE := fun env μ => (P env μ).bind fun k μ1 => if k = true then A env μ1 else B env μ1
theorem e_ifExp (h : ET X hot W c P1) (ha : EE X hot W a A) (hb : EE X hot W b B) : EE X hot W (.IfExp c a b pos) (aIfE P1 A B) := by
  obtain ⟨tc, pc, sc⟩ := h
  obtain ⟨ta, pa, sa⟩ := ha
  obtain ⟨tb, pb, sb⟩ := hb
  refine ⟨_, pe_ifExp pc pa pb, fun σ env g μ H Q re rs p => ?_⟩
  refine sc σ env g μ H _ re rs (p.bind fun k μ1 x g1 H1 l1 rs1 rx p1 => ?_)
  cases rx
  cases k with
  | true => exact sa σ env g1 μ1 H1 Q (re.mono l1) rs1 p1
  | false => exact sb σ env g1 μ1 H1 Q (re.mono l1) rs1 p1
/-- arguments, displays -/
def aNil : AA := fun _ μ => .ok [] μ
def aCons (A : AE) (As : AA) : AA := fun env μ => (A env μ).bind fun d μ1 => (As env μ1).bind fun ds μ2 => .ok (d :: ds) μ2
theorem a_nil : EA X hot W [] aNil := ⟨_, pa_nil, fun σ env g μ H Q re rs p => Post.ret p rs Rps.nil⟩
theorem a_cons (h : EE X hot W e A) (h2 : EA X hot W es As) (hs : starEach (e :: es) X.env = (false, eval e X.env) :: starEach es X.env := by rfl) : EA X hot W (e :: es) (aCons A As) := by
  obtain ⟨ta, pa, sa⟩ := h
  obtain ⟨tb, pb, sb⟩ := h2
  refine ⟨_, pa_cons pa pb hs, fun σ env g μ H Q re rs p => ?_⟩
  refine sa σ env g μ H _ re rs (p.bind fun d μ1 x g1 H1 l1 rs1 rx p1 => ?_)
  refine sb σ env g1 μ1 H1 _ (re.mono l1) rs1 (p1.bind fun ds μ2 xs g2 H2 l2 rs2 rxs p2 => ?_)
  exact p2.ret rs2 (Rps.cons (rx.mono l2) rxs)
def aTup (As : AA) : AE := fun env μ => (As env μ).bind fun ds μ1 => if ds.length ≤ line then .ok (.tup ds) μ1 else .fail
def aLst (As : AA) : AE := fun env μ => (As env μ).bind fun ds μ1 => if ds.length ≤ line then .ok (.lst ds) μ1 else .fail
/-- a list of the store -/
def aLstM (As : AA) : AE := fun env μ => (As env μ).bind fun ds μ1 => if ds.length ≤ line then .ok (.ob μ1.length) (μ1 ++ [.lst ds]) else .fail
theorem e_tup {x1 : Nat} (h : EA X hot W es As) : EE X hot W (.Tuple es x1 pos) (aTup As) := by
  obtain ⟨ta, pa, sa⟩ := h
  refine ⟨_, pe_tup pa, fun σ env g μ H Q re rs p => ?_⟩
  refine sa σ env g μ H _ re rs (p.bind fun ds μ1 xs g1 H1 l1 rs1 rx p1 => ?_)
  by_cases hl : ds.length ≤ line
  · rw [if_pos hl] at p1
    exact ⟨by rw [rx.length]; exact line_le hl, fun q hq => p1.newT rs1 rx hq⟩
  · rw [if_neg hl] at p1; exact p1.elim
theorem e_lst (h : EA X hot W es As) : EE X hot W (.List es pos) (aLst As) := by
  obtain ⟨ta, pa, sa⟩ := h
  refine ⟨_, pe_lst pa, fun σ env g μ H Q re rs p => ?_⟩
  refine sa σ env g μ H _ re rs (p.bind fun ds μ1 xs g1 H1 l1 rs1 rx p1 => ?_)
  by_cases hl : ds.length ≤ line
  · rw [if_pos hl] at p1
    exact ⟨by rw [rx.length]; exact line_le hl, fun q hq => p1.newL rs1 rx hq⟩
  · rw [if_neg hl] at p1; exact p1.elim
theorem e_lstM (h : EA X hot W es As) : EE X hot W (.List es pos) (aLstM As) := by
  obtain ⟨ta, pa, sa⟩ := h
  refine ⟨_, pe_lst pa, fun σ env g μ H Q re rs p => ?_⟩
  refine sa σ env g μ H _ re rs (p.bind fun ds μ1 xs g1 H1 l1 rs1 rx p1 => ?_)
  by_cases hl : ds.length ≤ line
  · rw [if_pos hl] at p1
    exact ⟨by rw [rx.length]; exact line_le hl, fun q hq => p1.newM rs1 rx hq⟩
  · rw [if_neg hl] at p1; exact p1.elim
end
end Z

set_option Elab.async false
set_option linter.all false
set_option maxRecDepth 100000
set_option maxHeartbeats 2000000
/-! Sim, part 2: statements, defs, calls. -/
namespace Z
open PySem PySem.Spec PyProof.Rows L2
inductive Fl where
  | nx (env : En) (μ : Sto) | rt (d : D) (μ : Sto) | bk (env : En) (μ : Sto) | ct (env : En) (μ : Sto) | ex (c : Ec) (env : En) (μ : Sto) | fail
abbrev ATS := En → Sto → Fl
def R.st {α : Type} (r : R α) (env : En) (f : α → Sto → Fl) : Fl := match r with
  | .ok a μ => f a μ
  | .ex c μ => .ex c env μ
  | .fail => .fail
@[simp] theorem R.st_ok {α : Type} (a : α) (μ : Sto) (env : En) (f : α → Sto → Fl) : (R.ok a μ).st env f = f a μ := rfl
@[simp] theorem R.st_ex {α : Type} (c : Ec) (μ : Sto) (env : En) (f : α → Sto → Fl) : (R.ex c μ : R α).st env f = .ex c env μ := rfl
@[simp] theorem R.st_fail {α : Type} (env : En) (f : α → Sto → Fl) : (R.fail : R α).st env f = .fail := rfl
def PostS (k : Kx) (g : G) (r : Fl) (T : Ends) (W : WX) : Prop := match r with
  | .nx env μ => ∀ σ h H, g.le h → RpE k h env σ → Rs k h μ H → T.nx σ H
  | .rt d μ => ∀ v h H, g.le h → Rs k h μ H → Rp k h d v → T.rt v H
  | .bk env μ => ∀ σ h H, g.le h → RpE k h env σ → Rs k h μ H → T.bk σ H
  | .ct env μ => ∀ σ h H, g.le h → RpE k h env σ → Rs k h μ H → T.ct σ H
  | .ex c env μ => ∀ σ h H, g.le h → RpE k h env σ → Rs k h μ H → W (.ref (He.ga k.K c.nm)) none σ H
  | .fail => False
section
variable {α β : Type} {k : Kx} {g g' : G} {rel : G → α → β → Prop} {r : R α} {W : WX} {T : Ends} {env : En} {σ : St}
theorem PostS.mono {r : Fl} (l : g.le g') (h : PostS k g r T W) : PostS k g' r T W := by
  cases r with
  | nx e μ => exact fun σ h' H l' => h σ h' H (l.trans l')
  | rt d μ => exact fun σ h' H l' => h σ h' H (l.trans l')
  | bk e μ => exact fun σ h' H l' => h σ h' H (l.trans l')
  | ct e μ => exact fun σ h' H l' => h σ h' H (l.trans l')
  | ex c e μ => exact fun σ h' H l' => h σ h' H (l.trans l')
  | fail => exact h
theorem PostS.bind {f : α → Sto → Fl} {Q1 : β → Hp → Prop} (h : PostS k g (r.st env f) T W) (re : RpE k g env σ)
    (w : ∀ d μ v h H, g.le h → Rs k h μ H → rel h d v → PostS k h (f d μ) T W → Q1 v H) : Post k g rel r Q1 (fun c d H => W c d σ H) := by
  cases r with
  | ok d μ => exact fun v h' H l rs rl => w d μ v h' H l rs rl (PostS.mono l h)
  | ex c μ => exact fun h' H l rs => h σ h' H l (re.mono l) rs
  | fail => exact h
end
def SimS (k : Kx) (W : WX) (ts : TS) (a : ATS) : Prop := ∀ (σ : St) (env : En) (g : G) (μ : Sto) (H : Hp) (T : Ends), RpE k g env σ → Rs k g μ H → PostS k g (a env μ) T W → ts T σ H
def ES (X : Cx) (hot : Option (Addr × Ec)) (W : WX) (st : Stmt) (a : ATS) : Prop := ∃ ts, PS X st ts ∧ SimS (kx X hot) W ts a
def ESs (X : Cx) (hot : Option (Addr × Ec)) (W : WX) (st : List Stmt) (a : ATS) : Prop := ∃ ts, PSs X st ts ∧ SimS (kx X hot) W ts a
/-- what a target does with a value -/
def SimG (k : Kx) (W : WX) (tg : TG) (a : D → ATS) : Prop := ∀ (d : D) (v : V) (σ : St) (env : En) (g : G) (μ : Sto) (H : Hp) (Q : St → Hp → Prop), Rp k g d v → RpE k g env σ → Rs k g μ H →
  (∀ T : Ends, T.nx = Q → PostS k g (a d env μ) T W → tg v σ H Q)
section
variable {X : Cx} {hot : Option (Addr × Ec)} {W : WX} {a b c e : Expr} {es : List Expr} {A B C : AE} {As : AA} {pos : Pos} {st : Stmt} {rest body orelse : List Stmt} {S S1 S2 : ATS} {P1 P2 : AT}
def aNext : ATS := fun env μ => .nx env μ
def aSeq (S1 S2 : ATS) : ATS := fun env μ => match S1 env μ with
  | .nx e m => S2 e m
  | z => z
theorem ss_nil : ESs X hot W [] aNext := ⟨_, pss_nil, fun σ env g μ H T re rs p => p σ g H (.refl g) re rs⟩
theorem PostS.seq {k : Kx} {g : G} {env : En} {μ : Sto} {T : Ends} {u : TS} (h2 : SimS k W u S2) (p : PostS k g (aSeq S1 S2 env μ) T W) : PostS k g (S1 env μ) { T with nx := u T } W := by
  unfold aSeq at p
  cases z : S1 env μ with
  | nx e m => rw [z] at p; exact fun σ h H l re rs => h2 σ e h m H T re rs (PostS.mono l p)
  | rt d m => rw [z] at p; exact p
  | bk e m => rw [z] at p; exact p
  | ct e m => rw [z] at p; exact p
  | ex c e m => rw [z] at p; exact p
  | fail => rw [z] at p; exact p
theorem ss_cons (h1 : ES X hot W st S1) (h2 : ESs X hot W rest S2) : ESs X hot W (st :: rest) (aSeq S1 S2) := by
  obtain ⟨t1, p1, s1⟩ := h1
  obtain ⟨t2, p2, s2⟩ := h2
  exact ⟨_, pss_cons p1 p2, fun σ env g μ H T re rs p => s1 σ env g μ H _ re rs (p.seq s2)⟩
theorem ss_one (h1 : ES X hot W st S1) : ESs X hot W [st] S1 := let ⟨t, p, s⟩ := h1; ⟨t, pss_one p, s⟩
/-- something of the ghost's own behind a statement -/
theorem s_pass : ES X hot W (.Pass pos) aNext := ⟨_, ps_pass, fun σ env g μ H T re rs p => p σ g H (.refl g) re rs⟩
def aBreak : ATS := fun env μ => .bk env μ
def aCont : ATS := fun env μ => .ct env μ
theorem s_break : ES X hot W (.Break pos) aBreak := ⟨_, ps_break, fun σ env g μ H T re rs p => p σ g H (.refl g) re rs⟩
theorem s_continue : ES X hot W (.Continue pos) aCont := ⟨_, ps_continue, fun σ env g μ H T re rs p => p σ g H (.refl g) re rs⟩
def aDrop (A : AE) : ATS := fun env μ => (A env μ).st env fun _ m => .nx env m
theorem s_expr (he : EE X hot W e A) (hs : swapsWith e none pos.line X.env = pure false := by rfl) : ES X hot W (.Expr e pos) (aDrop A) := by
  obtain ⟨te, pe, se⟩ := he
  exact ⟨_, ps_expr pe hs, fun σ env g μ H T re rs p => se σ env g μ H _ re rs (p.bind re fun d m v h H1 l rs1 rv p1 => p1 σ h H1 (.refl h) (re.mono l) rs1)⟩
def aRet (A : AE) : ATS := fun env μ => (A env μ).st env fun d m => .rt d m
theorem s_ret (he : EE X hot W e A) : ES X hot W (.Return (some e) pos) (aRet A) := by
  obtain ⟨te, pe, se⟩ := he
  exact ⟨_, ps_ret pe, fun σ env g μ H T re rs p => se σ env g μ H _ re rs (p.bind re fun d m v h H1 l rs1 rv p1 => p1 v h H1 (.refl h) rs1 rv)⟩
def aRetN : ATS := fun _ μ => .rt .non μ
theorem s_retN : ES X hot W (.Return none pos) aRetN := ⟨_, ps_retN, fun σ env g μ H T re rs p => p .non g H (.refl g) rs rfl⟩
def aIf (P : AT) (S1 S2 : ATS) : ATS := fun env μ => (P env μ).st env fun k m => if k = true then S1 env m else S2 env m
theorem s_if {sa sb : List Stmt} (hc : ET X hot W c P1) (ha : ESs X hot W sa S1) (hb : ESs X hot W sb S2) : ES X hot W (.If c sa sb pos) (aIf P1 S1 S2) := by
  obtain ⟨tc, pc, sc⟩ := hc
  obtain ⟨t1, p1, s1⟩ := ha
  obtain ⟨t2, p2, s2⟩ := hb
  refine ⟨_, ps_if pc p1 p2, fun σ env g μ H T re rs p => sc σ env g μ H _ re rs (p.bind re fun k m v h H1 l rs1 rv p1 => ?_)⟩
  cases rv
  cases k with
  | true => exact s1 σ env h m H1 T (re.mono l) rs1 p1
  | false => exact s2 σ env h m H1 T (re.mono l) rs1 p1
/-- stores -/
def aAsg (i : Nat) (A : AE) : ATS := fun env μ => (A env μ).st env fun d m => .nx (env.set i (some d)) m
theorem s_set {i : Nat} {x : Str} {pos' : Pos} (hN : X.N.Nodup) (he : EE X hot W e A) (hi : X.N[i]? = some x := by rfl) (hx : Loc X.env.scope x := by first | exact Or.inl rfl | exact Or.inr rfl) (hs : swapsWith e (some (.Name x pos')) pos.line X.env = pure false := by rfl)
    (hf : X.fn x = true ∨ X.env.scope.names.lookup x = some .local := by first | exact .inl rfl | exact .inr rfl) : ES X hot W (.Assign [.Name x pos'] e pos) (aAsg i A) := by
  obtain ⟨te, pe, se⟩ := he
  exact ⟨_, ps_set hN hi hx pe hs hf, fun σ env g μ H T re rs p => se σ env g μ H _ re rs (p.bind re fun d m v h H1 l rs1 rv p1 => p1 _ h H1 (.refl h) ((re.mono l).set rv i) rs1)⟩
def aPar (i j : Nat) (As : AA) : ATS := fun env μ => (As env μ).st env fun ds m => match ds with
  | [d, e] => .nx ((env.set i (some d)).set j (some e)) m
  | _ => .fail
theorem s_par {i j : Nat} {x y : Str} (hc : X.calm = true) (hN : X.N.Nodup) (ha : EA X hot W [a, b] As) (hi : X.N[i]? = some x := by rfl) (hj : X.N[j]? = some y := by rfl) (hij : i ≠ j := by decide)
    (h : ∀ ta, PA X [a, b] ta → PS X st (tPar i j ta)) : ES X hot W st (aPar i j As) := by
  obtain ⟨ta, pa, sa⟩ := ha
  refine ⟨_, h ta pa, fun σ env g μ H T re rs p => sa σ env g μ H _ re rs (p.bind re fun ds m vs h H1 l rs1 rv p1 => ?_)⟩
  cases ds with
  | nil => exact p1.elim
  | cons d ds =>
    cases ds with
    | nil => exact p1.elim
    | cons e ds =>
      cases ds with
      | cons _ _ => exact p1.elim
      | nil =>
        obtain ⟨v, vs1, e1, r1, w, vs2, e2, r2, e3⟩ := rv
        have e3 : vs2 = [] := e3
        subst e3 e2 e1
        exact ⟨v, w, rfl, p1 _ h H1 (.refl h) (((re.mono l).set r1 i).set r2 j) rs1⟩
def aAugI (i : Nat) (f : Int → Int → Int) (A : AE) : ATS := fun env μ => match env[i]? with
  | some (some (.int x)) => (A env μ).st env fun d m => match d with
    | .int y => .nx (env.set i (some (.int (f x y)))) m
    | _ => .fail
  | _ => .fail
theorem s_aug {i : Nat} {x : Str} {op : Operator} {f : Int → Int → Int} {pos' : Pos} (ho : PIp X op (ipI f)) (hN : X.N.Nodup) (he : EE X hot W e A) (hi : X.N[i]? = some x := by rfl) (hx : Loc X.env.scope x := by first | exact Or.inl rfl | exact Or.inr rfl)
    (hf : X.fn x = true ∨ X.env.scope.names.lookup x = some .local := by first | exact .inl rfl | exact .inr rfl) : ES X hot W (.AugAssign (.Name x pos') op e pos) (aAugI i f A) := by
  obtain ⟨te, pe, se⟩ := he
  refine ⟨_, ps_aug hN hi hx pe ho hf, fun σ env g μ H T re rs p => ?_⟩
  unfold aAugI at p
  cases z : env[i]? with
  | none => rw [z] at p; exact p.elim
  | some o =>
    rw [z] at p
    cases o with
    | none => exact p.elim
    | some dx =>
      cases dx with
      | int xi =>
        obtain ⟨v, h1, h2⟩ := re.get z
        have h2 : v = .int xi := h2
        subst h2
        refine ⟨_, h1, se σ env g μ H _ re rs (p.bind re fun d m v h H1 l rs1 rv p1 => ?_)⟩
        cases d with
        | int y => exact ⟨xi, y, rfl, rv, p1 _ h H1 (.refl h) ((re.mono l).set (show Rp _ h (.int _) (.int _) from rfl) i) rs1⟩
        | _ => exact p1.elim
      | _ => exact p.elim
/-- targets -/
def EG (X : Cx) (hot : Option (Addr × Ec)) (W : WX) (e : Expr) (a : D → ATS) : Prop := ∃ tg, PG X e tg ∧ SimG (kx X hot) W tg a
def EGs (X : Cx) (hot : Option (Addr × Ec)) (W : WX) (es : List Expr) (a : List D → ATS) : Prop := ∃ tg, PGs X es tg ∧ ∀ (ds : List D) (vs : List V) (σ : St) (env : En) (g : G) (μ : Sto) (H : Hp) (Q : St → Hp → Prop), Rps (kx X hot) g ds vs → RpE (kx X hot) g env σ → Rs (kx X hot) g μ H →
  (∀ T : Ends, T.nx = Q → PostS (kx X hot) g (a ds env μ) T W → tg vs σ H Q)
def gNm (i : Nat) : D → ATS := fun d env μ => .nx (env.set i (some d)) μ
theorem g_name {i : Nat} {x : Str} (hN : X.N.Nodup) (hi : X.N[i]? = some x := by rfl) (hx : Loc X.env.scope x := by first | exact Or.inl rfl | exact Or.inr rfl) (hf : X.fn x = true ∨ X.env.scope.names.lookup x = some .local := by first | exact .inl rfl | exact .inr rfl) :
    EG X hot W (.Name x pos) (gNm i) := ⟨_, pg_name hN hi hx hf, fun d v σ env g μ H Q rv re rs T eT p => by subst eT; exact p _ g H (.refl g) (re.set rv i) rs⟩
def gsNil : List D → ATS := fun ds env μ => match ds with
  | [] => .nx env μ
  | _ => .fail
def gsCons (a : D → ATS) (b : List D → ATS) : List D → ATS := fun ds env μ => match ds with
  | d :: r => aSeq (a d) (b r) env μ
  | _ => .fail
theorem gs_nil : EGs X hot W [] gsNil := ⟨_, pgs_nil, fun ds vs σ env g μ H Q rv re rs T eT p => by
  subst eT
  cases ds with
  | nil => exact ⟨rv, p σ g H (.refl g) re rs⟩
  | cons _ _ => exact p.elim⟩
theorem gs_cons {g1 : D → ATS} {g2 : List D → ATS} (h1 : EG X hot W e g1) (h2 : EGs X hot W es g2) (hs : (assignEach (e :: es) X.env).map (fun x => x.snd) = assign e X.env :: (assignEach es X.env).map (fun x => x.snd) := by rfl) : EGs X hot W (e :: es) (gsCons g1 g2) := by
  obtain ⟨t1, p1, s1⟩ := h1
  obtain ⟨t2, p2, s2⟩ := h2
  refine ⟨_, pgs_cons p1 p2 hs, fun ds vs σ env g μ H Q rv re rs T eT p => ?_⟩
  subst eT
  cases ds with
  | nil => exact p.elim
  | cons d r =>
    obtain ⟨v, vr, e1, r1, r2⟩ := rv
    refine ⟨v, vr, e1, ?_⟩
    refine s1 d v σ env g μ H _ r1 re rs { T with nx := fun σ' H' => t2 vr σ' H' T.nx } rfl ?_
    have q : PostS (kx X hot) g (aSeq (g1 d) (g2 r) env μ) T W := p
    unfold aSeq at q
    cases z : g1 d env μ with
    | nx e m => rw [z] at q; exact fun σ' h' H' l re' rs' => s2 r vr σ' e h' m H' _ (r2.mono l) re' rs' T rfl (PostS.mono l q)
    | rt d m => rw [z] at q; exact q
    | bk e m => rw [z] at q; exact q
    | ct e m => rw [z] at q; exact q
    | ex c e m => rw [z] at q; exact q
    | fail => rw [z] at q; exact q
def gTp (n : Nat) (a : List D → ATS) : D → ATS := fun d env μ => match d with
  | .tup ds => if ds.length = n then a ds env μ else .fail
  | _ => .fail
theorem g_tup {k n : Nat} {ga : List D → ATS} (hc : X.calm = true) (h : EGs X hot W es ga) (w : ∀ t, PGs X es t → PG X e (gTup X.K n t)) : EG X hot W e (gTp n ga) := by
  obtain ⟨t, p, s⟩ := h
  refine ⟨_, w t p, fun d v σ env g μ H Q rv re rs T eT p => ?_⟩
  cases d with
  | tup ds =>
    have p : PostS (kx X hot) g (if ds.length = n then ga ds env μ else .fail) T W := p
    by_cases hl : ds.length = n
    · rw [if_pos hl] at p
      obtain ⟨a, xs, e1, sq, q⟩ := tup_ok rs rv
      exact ⟨a, xs, e1, sq, q.length.trans hl, s ds xs σ env g μ H Q q re rs T eT p⟩
    · rw [if_neg hl] at p; exact p.elim
  | _ => exact p.elim
def aAsgG (A : AE) (ga : D → ATS) : ATS := fun env μ => (A env μ).st env fun d m => ga d env m
theorem s_asg {tg : Expr} {ga : D → ATS} (he : EE X hot W e A) (hg : EG X hot W tg ga) (hs : swapsWithSole [tg] e pos.line X.env = pure false := by rfl) (hw : swappedStores [tg] e X.env = pure none := by rfl) (h1 : (assignEach [tg] X.env).map (fun x => x.snd) = [assign tg X.env] := by rfl) : ES X hot W (.Assign [tg] e pos) (aAsgG A ga) := by
  obtain ⟨te, pe, se⟩ := he
  obtain ⟨t, p, s⟩ := hg
  exact ⟨_, ps_asg pe p hs hw h1, fun σ env g μ H T re rs q => se σ env g μ H _ re rs (q.bind re fun d m v h H1 l rs1 rv q1 => s d v σ env h m H1 T.nx rv (re.mono l) rs1 T rfl q1)⟩
/-- d[i] = v, d a list of the store -/
def gIx (A B : AE) : D → ATS := fun v env μ => (A env μ).st env fun o m1 => (B env m1).st env fun i m2 => match o, i with
  | .ob n, .int z => (match m2[n]? with
    | some (.lst xs) => (match ixN xs.length z with
      | some j => .nx env (m2.set n (.lst (xs.set j v)))
      | none => .fail)
    | _ => .fail)
  | _, _ => .fail
theorem g_ix (ha : EE X hot W a A) (hb : EE X hot W b B) (w : ∀ ta tb, PE X a ta → PE X b tb → PG X e (gSub ta tb rSetL)) : EG X hot W e (gIx A B) := by
  obtain ⟨ta, pa, sa⟩ := ha
  obtain ⟨tb, pb, sb⟩ := hb
  refine ⟨_, w ta tb pa pb, fun d v σ env g μ H Q rv re rs T eT p => ?_⟩
  subst eT
  refine sa σ env g μ H _ re rs (PostS.bind p re fun o m1 vo h1 H1 l1 rs1 ro p1 => ?_)
  refine sb σ env h1 m1 H1 _ (re.mono l1) rs1 (PostS.bind p1 (re.mono l1) fun i m2 vi h2 H2 l2 rs2 ri p2 => ?_)
  cases o with
  | ob n =>
    cases i with
    | int z =>
      have p2 : PostS (kx X hot) h2 (match m2[n]? with
        | some (.lst xs) => (match ixN xs.length z with
          | some j => .nx env (m2.set n (.lst (xs.set j d)))
          | none => .fail)
        | _ => .fail) T W := p2
      cases z1 : m2[n]? with
      | none => rw [z1] at p2; exact p2.elim
      | some m =>
        rw [z1] at p2
        cases m with
        | lst xs =>
          have p2 : PostS (kx X hot) h2 (match ixN xs.length z with
            | some j => .nx env (m2.set n (.lst (xs.set j d)))
            | none => .fail) T W := p2
          cases z2 : ixN xs.length z with
          | none => rw [z2] at p2; exact p2.elim
          | some j =>
            rw [z2] at p2
            obtain ⟨ad, e1, e2⟩ := ro.mono l2
            obtain ⟨ys, q1, q2⟩ := rs2.obj n _ ad z1 e2
            refine ⟨ad, ys, z, j, e1, ri, q1, by rw [q2.length]; exact z2, ?_⟩
            refine p2 σ h2 _ (.refl h2) (re.mono (l1.trans l2)) (rs2.write z1 e2 (by intro q; cases q) ⟨_, upd_same, q2.set (rv.mono (l1.trans l2)) j⟩)
        | _ => exact p2.elim
    | _ => exact p2.elim
  | _ => cases i <;> exact p2.elim
end
end Z

set_option Elab.async false
set_option linter.all false
set_option maxRecDepth 100000
set_option maxHeartbeats 2000000
/-! Sim, part 3: loops, comprehensions. -/
namespace Z
open PySem PySem.Spec PyProof.Rows L2
/-- the iterator yields these items, whatever the heap becomes meanwhile -/
def Walks (k : Kx) (J : It) (g : G) (items : List D) : Prop := ∀ (i : Nat) (h : G) (μ : Sto) (H : Hp), g.li h → Rs k h μ H →
  (items.length ≤ i → J.stop i H) ∧ ∀ d, items[i]? = some d → J.go i H ∧ ∀ x H', J.yld i H x H' → ∃ h', h.le h' ∧ Rs k h' μ H' ∧ Rp k h' d x
def relI (k : Kx) : G → List D → It → Prop := fun h items J => Walks k J h items
theorem Walks.mono {k : Kx} {J : It} {g g' : G} {items : List D} (l : g.li g') (w : Walks k J g items) : Walks k J g' items := fun i h μ H l' => w i h μ H (l.trans l')
def SimI (k : Kx) (W : WX) (wi : TI) (a : AA) : Prop := ∀ (σ : St) (env : En) (g : G) (μ : Sto) (H : Hp) (Rk : It → Hp → Prop), RpE k g env σ → Rs k g μ H → Post k g (relI k) (a env μ) Rk (fun c d H' => W c d σ H') → wi σ H Rk
def EI (X : Cx) (hot : Option (Addr × Ec)) (W : WX) (tg iter : Expr) (a : AA) : Prop := ∃ wi, PI X tg iter wi ∧ SimI (kx X hot) W wi a
/-- lists and tuples that stay -/
def D.seqI : D → Option (List D)
  | .lst xs => some xs
  | .scr xs => some xs
  | _ => none
section
variable {X : Cx} {hot : Option (Addr × Ec)} {W : WX} {a b c e tg iter : Expr} {es : List Expr} {A B C : AE} {As : AA} {pos : Pos} {st : Stmt} {rest body orelse : List Stmt} {S S1 S2 : ATS} {P1 P2 : AT}
def aItL (A : AE) : AA := fun env μ => (A env μ).bind fun d m => match d.seqI with
  | some xs => .ok xs m
  | none => .fail
def aItT (A : AE) : AA := fun env μ => (A env μ).bind fun d m => match d with
  | .tup xs => .ok xs m
  | _ => .fail
theorem walks_list {k : Kx} {g : G} {ad : Addr} {xs : List V} {ds : List D} (s : SqL k.K g.I ad xs) (r : Rps k g ds xs) (inj : ∀ (H : Hp) ys zs, SqL k.K H ad ys → SqL k.K H ad zs → ys = zs) : Walks k (Itl k.K ad) g ds := fun i h μ H l rs => by
  have sH : SqL k.K H ad xs := sqL_mono (fun a o e => rs.ex a o (l.i a o e)) s
  refine ⟨fun hi => ⟨xs, sH, by rw [r.length]; exact hi⟩, fun d hd => ?_⟩
  obtain ⟨v, h1, h2⟩ := r.get hd
  refine ⟨⟨xs, v, sH, h1⟩, fun x H' y => ?_⟩
  obtain ⟨e, y⟩ := y
  subst e
  have z := y xs sH
  rw [h1] at z
  cases z
  exact ⟨h, .refl h, rs, h2.monoL l⟩
theorem sqI_ok {k : Kx} {g : G} {d : D} {x : V} {ds : List D} (r : Rp k g d x) (e : d.seqI = some ds) : ∃ ad xs, x = .ref ad ∧ SqL k.K g.I ad xs ∧ Rps k g ds xs := by
  cases d with
  | lst ys => cases e; obtain ⟨a, xs, e, s, q⟩ := r; exact ⟨a, xs, e, .inl s, q⟩
  | scr ys => cases e; exact r
  | _ => cases e
theorem i_list (h : EE X hot W iter A) : EI X hot W tg iter (aItL A) := by
  obtain ⟨te, p, s⟩ := h
  refine ⟨_, pi_list p, fun σ env g μ H Rk re rs q => s σ env g μ H _ re rs (q.bind fun d m x h H1 l rs1 rv q1 => ?_)⟩
  cases z : d.seqI with
  | none => rw [z] at q1; exact q1.elim
  | some ds =>
    rw [z] at q1
    obtain ⟨ad, xs, e1, sq, r⟩ := sqI_ok rv z
    refine ⟨ad, e1, ⟨xs, sqL_mono rs1.ex sq⟩, q1 _ h H1 (.refl h) rs1 ?_⟩
    -- two readings of one list agree where a heap is held; the iterator asks all
    intro i h2 μ2 H2 l2 rs2
    have sH : SqL X.K H2 ad xs := sqL_mono (fun a o e => rs2.ex a o (l2.i a o e)) sq
    refine ⟨fun hi => ⟨xs, sH, by rw [r.length]; exact hi⟩, fun d' hd => ?_⟩
    obtain ⟨v, h3, h4⟩ := r.get hd
    refine ⟨⟨xs, v, sH, h3⟩, fun x' H' y => ?_⟩
    obtain ⟨e2, y⟩ := y
    subst e2
    have w := y xs sH
    rw [h3] at w
    cases w
    exact ⟨h2, .refl h2, rs2, h4.monoL l2⟩
theorem i_tup (h : EE X hot W iter A) : EI X hot W tg iter (aItT A) := by
  obtain ⟨te, p, s⟩ := h
  refine ⟨_, pi_tup p, fun σ env g μ H Rk re rs q => s σ env g μ H _ re rs (q.bind fun d m x h H1 l rs1 rv q1 => ?_)⟩
  cases d with
  | tup ds =>
    obtain ⟨ad, xs, e1, sq, r⟩ := rv
    refine ⟨ad, e1, ⟨xs, sqT_mono rs1.ex sq⟩, q1 _ h H1 (.refl h) rs1 ?_⟩
    intro i h2 μ2 H2 l2 rs2
    have sH : SqT X.K H2 ad xs := sqT_mono (fun a o e => rs2.ex a o (l2.i a o e)) sq
    refine ⟨fun hi => ⟨xs, sH, by rw [r.length]; exact hi⟩, fun d' hd => ?_⟩
    obtain ⟨v, h3, h4⟩ := r.get hd
    refine ⟨⟨xs, v, sH, h3⟩, fun x' H' y => ?_⟩
    obtain ⟨e2, y⟩ := y
    subst e2
    have w := y xs sH
    rw [h3] at w
    cases w
    exact ⟨h2, .refl h2, rs2, h4.monoL l2⟩
  | _ => exact q1.elim
def big : Int := 4611686018427387904
def rangeD (lo : Int) : Nat → List D
  | 0 => []
  | n + 1 => .int lo :: rangeD (lo + 1) n
theorem rangeD_len : ∀ (n : Nat) (lo : Int), (rangeD lo n).length = n
  | 0, _ => rfl
  | n + 1, lo => by show (rangeD (lo + 1) n).length + 1 = n + 1; rw [rangeD_len]
theorem rangeD_get : ∀ (n : Nat) (lo : Int) (i : Nat) (d : D), (rangeD lo n)[i]? = some d → i < n ∧ d = .int (lo + i)
  | 0, _, i, d, h => by simp [rangeD] at h
  | n + 1, lo, 0, d, h => by
    simp [rangeD] at h
    exact ⟨by omega, by rw [← h]; simp⟩
  | n + 1, lo, i + 1, d, h => by
    have h : (rangeD (lo + 1) n)[i]? = some d := by simpa [rangeD] using h
    obtain ⟨h1, h2⟩ := rangeD_get n (lo + 1) i d h
    refine ⟨by omega, ?_⟩
    rw [h2]
    congr 1
    omega
theorem walks_range {k : Kx} {g : G} {lo : Int} {n : Nat} : Walks k (Itr lo n) g (rangeD lo n) := fun i h μ H l rs => by
  refine ⟨fun hi => by rw [rangeD_len] at hi; exact hi, fun d hd => ?_⟩
  obtain ⟨h1, h2⟩ := rangeD_get n lo i d hd
  refine ⟨h1, fun x H' y => ?_⟩
  obtain ⟨e, y⟩ := y
  subst e y
  exact ⟨h, .refl h, rs, by rw [h2]; exact rfl⟩
def int1 : List D → Option Int
  | .int j :: r => (match r with
    | [] => some j
    | _ => none)
  | _ => none
def int2 : List D → Option (Int × Int)
  | .int i :: r => (int1 r).map fun j => (i, j)
  | _ => none
theorem int1_ok {ds : List D} {j : Int} (h : int1 ds = some j) : ds = [.int j] := by
  cases ds with
  | nil => cases h
  | cons d r =>
    cases d with
    | int i =>
      cases r with
      | nil => cases h; rfl
      | cons _ _ => cases h
    | _ => cases h
theorem int2_ok {ds : List D} {p : Int × Int} (h : int2 ds = some p) : ds = [.int p.1, .int p.2] := by
  cases ds with
  | nil => cases h
  | cons d r =>
    cases d with
    | int i =>
      obtain ⟨j, h1, h2⟩ := Option.map_eq_some_iff.mp (show (int1 r).map (fun j => (i, j)) = some p from h)
      rw [int1_ok h1, ← h2]
    | _ => cases h
def aItR1 (As : AA) : AA := fun env μ => (As env μ).bind fun ds m => match int1 ds with
  | some j => if -big ≤ j ∧ j < big then .ok (rangeD 0 j.toNat) m else .fail
  | none => .fail
def aItR2 (As : AA) : AA := fun env μ => (As env μ).bind fun ds m => match int2 ds with
  | some p => if -big ≤ p.1 ∧ p.1 < big ∧ -big ≤ p.2 ∧ p.2 < big then .ok (rangeD p.1 (p.2 - p.1).toNat) m else .fail
  | none => .fail
theorem one_of {k : Kx} {g : G} {i : Int} {vs : List V} (h : Rps k g [.int i] vs) : vs = [.int i] := by
  obtain ⟨v, vr, e1, r1, r2⟩ := h
  rw [e1, show v = _ from r1, show vr = [] from r2]
theorem two_of {k : Kx} {g : G} {i j : Int} {vs : List V} (h : Rps k g [.int i, .int j] vs) : vs = [.int i, .int j] := by
  obtain ⟨v, vr, e1, r1, r2⟩ := h
  rw [e1, show v = _ from r1, one_of r2]
theorem big_eq : big = 2 ^ 62 := by decide
theorem i_range1 {p : Pos} (hm : X.mg "range" = none) (h : EA X hot W [a] As) (hg : Gl X "range" := by rfl) (hs : starEach [a] X.env = [(false, eval a X.env)] := by rfl) : EI X hot W tg (.Call (.Name "range" p) [a] [] pos) (aItR1 As) := by
  obtain ⟨te, p, s⟩ := h
  refine ⟨_, pi_range1 hg hm p hs, fun σ env g μ H Rk re rs q => s σ env g μ H _ re rs (q.bind fun ds m vs h H1 l rs1 rv q1 => ?_)⟩
  cases z : int1 ds with
  | none => rw [z] at q1; exact q1.elim
  | some j =>
    rw [z] at q1
    have q1 : Post (kx X hot) h (relI (kx X hot)) (if -big ≤ j ∧ j < big then R.ok (rangeD 0 j.toNat) m else R.fail) Rk _ := q1
    by_cases hb : -big ≤ j ∧ j < big
    · rw [if_pos hb] at q1
      rw [big_eq] at hb
      exact ⟨j, one_of (int1_ok z ▸ rv), hb.1, hb.2, q1 _ h H1 (.refl h) rs1 walks_range⟩
    · rw [if_neg hb] at q1; exact q1.elim
theorem i_range2 {p : Pos} (hm : X.mg "range" = none) (h : EA X hot W [a, b] As) (hg : Gl X "range" := by rfl) (hs : starEach [a, b] X.env = [(false, eval a X.env), (false, eval b X.env)] := by rfl) (hs2 : starEach [b] X.env = [(false, eval b X.env)] := by rfl) :
    EI X hot W tg (.Call (.Name "range" p) [a, b] [] pos) (aItR2 As) := by
  obtain ⟨te, p, s⟩ := h
  refine ⟨_, pi_range2 hg hm p hs hs2, fun σ env g μ H Rk re rs q => s σ env g μ H _ re rs (q.bind fun ds m vs h H1 l rs1 rv q1 => ?_)⟩
  cases z : int2 ds with
  | none => rw [z] at q1; exact q1.elim
  | some ij =>
    obtain ⟨i, j⟩ := ij
    rw [z] at q1
    have q1 : Post (kx X hot) h (relI (kx X hot)) (if -big ≤ i ∧ i < big ∧ -big ≤ j ∧ j < big then R.ok (rangeD i (j - i).toNat) m else R.fail) Rk _ := q1
    by_cases hb : -big ≤ i ∧ i < big ∧ -big ≤ j ∧ j < big
    · rw [if_pos hb] at q1
      rw [big_eq] at hb
      exact ⟨i, j, two_of (int2_ok z ▸ rv), hb, q1 _ h H1 (.refl h) rs1 walks_range⟩
    · rw [if_neg hb] at q1; exact q1.elim

/-! ### for -/
def loopA (ga : D → ATS) (S : ATS) : List D → ATS
  | [], env, μ => .nx env μ
  | d :: ds, env, μ => match ga d env μ with
    | .nx e1 m1 => (match S e1 m1 with
      | .nx e2 m2 => loopA ga S ds e2 m2
      | .ct e2 m2 => loopA ga S ds e2 m2
      | .bk e2 m2 => .nx e2 m2
      | z => z)
    | .ex c e m => .ex c e m
    | _ => .fail
def aFor (I : AA) (ga : D → ATS) (S : ATS) : ATS := fun env μ => (I env μ).st env fun ds m => loopA ga S ds env m
theorem drop_get {α : Type} {l : List α} {i : Nat} {x : α} (h : l[i]? = some x) : l.drop i = x :: l.drop (i + 1) := by
  obtain ⟨h1, h2⟩ := List.getElem?_eq_some_iff.mp h
  rw [← h2]
  exact List.drop_eq_getElem_cons h1
theorem s_for {I : AA} {ga : D → ATS} (hp : PassesOwn (model X.prog X.w) X.A X.env X.xe) (hc : X.calm = true) (hi : EI X hot W tg iter I) (hg : EG X hot W tg ga) (hb : ESs X hot W body S) (hs : ∀ x, foldedSetIterable iter X.env x = pure x := by intro _; rfl) :
    ES X hot W (.For tg iter body [] pos) (aFor I ga S) := by
  obtain ⟨wi, pi, si⟩ := hi
  obtain ⟨tg', pg, sg⟩ := hg
  obtain ⟨tb, pb, sb⟩ := hb
  refine ⟨_, ps_for hp hc pi pg pb hs, fun σ env g μ H T re rs p => ?_⟩
  refine si σ env g μ H _ re rs (PostS.bind p re fun ds m J h H1 l rs1 w p1 => ?_)
  refine ⟨fun i n σ' H' => i ≤ ds.length ∧ n = ds.length - i ∧ ∃ e' h' m', h.le h' ∧ RpE (kx X hot) h' e' σ' ∧ Rs (kx X hot) h' m' H' ∧ PostS (kx X hot) h' (loopA ga S (ds.drop i) e' m') T W, ⟨ds.length, Nat.zero_le _, by simp, env, h, m, .refl h, re.mono l, rs1, p1⟩, ?_⟩
  rintro i n σ' H' ⟨hi, rfl, e', h', m', l', re', rs', p'⟩
  obtain ⟨w1, w2⟩ := w i h' m' H' l'.li rs'
  by_cases hlt : i < ds.length
  · obtain ⟨d, hd⟩ : ∃ d, ds[i]? = some d := ⟨ds[i], by simp [hlt]⟩
    obtain ⟨go, yl⟩ := w2 d hd
    rw [drop_get hd] at p'
    refine .inr ⟨go, fun σ2 H2 => ∃ e2 h2 m2, h.le h2 ∧ RpE (kx X hot) h2 e2 σ2 ∧ Rs (kx X hot) h2 m2 H2 ∧ PostS (kx X hot) h2 (loopA ga S (ds.drop (i + 1)) e2 m2) T W, fun σ2 H2 q => ?_, fun x H2 y => ?_⟩
    · exact ⟨ds.length - (i + 1), by omega, by omega, rfl, q⟩
    · obtain ⟨h2, l2, rs2, rx⟩ := yl x H2 y
      have p2 : PostS (kx X hot) h2 (match ga d e' m' with
        | .nx e1 m1 => (match S e1 m1 with
          | .nx e2 m2 => loopA ga S (ds.drop (i + 1)) e2 m2
          | .ct e2 m2 => loopA ga S (ds.drop (i + 1)) e2 m2
          | .bk e2 m2 => .nx e2 m2
          | z => z)
        | .ex c e m => .ex c e m
        | _ => .fail) T W := PostS.mono l2 p'
      have body : ∀ (e1 : En) (m1 : Sto), PostS (kx X hot) h2 (match S e1 m1 with
          | .nx e2 m2 => loopA ga S (ds.drop (i + 1)) e2 m2
          | .ct e2 m2 => loopA ga S (ds.drop (i + 1)) e2 m2
          | .bk e2 m2 => .nx e2 m2
          | z => z) T W → ∀ (σ3 : St) (h3 : G) (H3 : Hp), h2.le h3 → RpE (kx X hot) h3 e1 σ3 → Rs (kx X hot) h3 m1 H3 → tb { T with nx := fun σ2 H2 => ∃ e2 h2 m2, h.le h2 ∧ RpE (kx X hot) h2 e2 σ2 ∧ Rs (kx X hot) h2 m2 H2 ∧ PostS (kx X hot) h2 (loopA ga S (ds.drop (i + 1)) e2 m2) T W, ct := fun σ2 H2 => ∃ e2 h2 m2, h.le h2 ∧ RpE (kx X hot) h2 e2 σ2 ∧ Rs (kx X hot) h2 m2 H2 ∧ PostS (kx X hot) h2 (loopA ga S (ds.drop (i + 1)) e2 m2) T W, bk := T.nx } σ3 H3 := fun e1 m1 p3 σ3 h3 H3 l3 re3 rs3 => by
        refine sb σ3 e1 h3 m1 H3 _ re3 rs3 ?_
        cases z2 : S e1 m1 with
        | nx e2 m2 => rw [z2] at p3; exact fun σ4 h4 H4 l4 re4 rs4 => ⟨e2, h4, m2, ((l'.trans l2).trans l3).trans l4, re4, rs4, PostS.mono (l3.trans l4) p3⟩
        | ct e2 m2 => rw [z2] at p3; exact fun σ4 h4 H4 l4 re4 rs4 => ⟨e2, h4, m2, ((l'.trans l2).trans l3).trans l4, re4, rs4, PostS.mono (l3.trans l4) p3⟩
        | bk e2 m2 => rw [z2] at p3; exact fun σ4 h4 H4 l4 re4 rs4 => p3 σ4 h4 H4 (l3.trans l4) re4 rs4
        | rt d m2 => rw [z2] at p3; exact PostS.mono (r := .rt d m2) l3 p3
        | ex c e2 m2 => rw [z2] at p3; exact PostS.mono (r := .ex c e2 m2) l3 p3
        | fail => rw [z2] at p3; exact p3
      refine sg d x σ' e' h2 m' H2 _ rx (re'.mono l2) rs2 { T with nx := _ } rfl ?_
      cases z1 : ga d e' m' with
      | nx e1 m1 => rw [z1] at p2; exact fun σ3 h3 H3 l3 re3 rs3 => body e1 m1 p2 σ3 h3 H3 l3 re3 rs3
      | ex c e1 m1 => rw [z1] at p2; exact p2
      | rt _ _ => rw [z1] at p2; exact p2.elim
      | bk _ _ => rw [z1] at p2; exact p2.elim
      | ct _ _ => rw [z1] at p2; exact p2.elim
      | fail => rw [z1] at p2; exact p2.elim
  · have e1 : i = ds.length := by omega
    subst e1
    rw [List.drop_length] at p'
    exact .inl ⟨w1 (Nat.le_refl _), p' σ' h' H' (.refl h') re' rs'⟩
/-! ### while -/
def loopW (P : AT) (S : ATS) : Nat → ATS
  | 0, _, _ => .fail
  | n + 1, env, μ => match P env μ with
    | .ok true m => (match S env m with
      | .nx e2 m2 => loopW P S n e2 m2
      | .ct e2 m2 => loopW P S n e2 m2
      | .bk e2 m2 => .nx e2 m2
      | z => z)
    | .ok false m => .nx env m
    | .ex c m => .ex c env m
    | .fail => .fail
def aWhile (n : En → Sto → Nat) (P : AT) (S : ATS) : ATS := fun env μ => loopW P S (n env μ) env μ
theorem s_while (n : En → Sto → Nat) (hp : PassesOwn (model X.prog X.w) X.A X.env X.xe) (hc : ET X hot W c P1) (hb : ESs X hot W body S) : ES X hot W (.While c body [] pos) (aWhile n P1 S) := by
  obtain ⟨tc, pc, sc⟩ := hc
  obtain ⟨tb, pb, sb⟩ := hb
  refine ⟨_, ps_while hp pc pb, fun σ env g μ H T re rs p => ?_⟩
  refine ⟨fun m σ' H' => ∃ e' h' m', RpE (kx X hot) h' e' σ' ∧ Rs (kx X hot) h' m' H' ∧ PostS (kx X hot) h' (loopW P1 S m e' m') T W, ⟨n env μ, env, g, μ, re, rs, p⟩, ?_⟩
  rintro m σ' H' ⟨e', h', m', re', rs', p'⟩
  cases m with
  | zero => exact p'.elim
  | succ m =>
    have p2 : PostS (kx X hot) h' (match P1 e' m' with
      | .ok true m1 => (match S e' m1 with
        | .nx e2 m2 => loopW P1 S m e2 m2
        | .ct e2 m2 => loopW P1 S m e2 m2
        | .bk e2 m2 => .nx e2 m2
        | z => z)
      | .ok false m1 => .nx e' m1
      | .ex c m1 => .ex c e' m1
      | .fail => .fail) T W := p'
    refine sc σ' e' h' m' H' _ re' rs' ?_
    cases z : P1 e' m' with
    | ok k m1 =>
      rw [z] at p2
      intro v h1 H1 l1 rs1 rv
      cases rv
      cases k with
      | true =>
        have p2 : PostS (kx X hot) h' (match S e' m1 with
          | .nx e2 m2 => loopW P1 S m e2 m2
          | .ct e2 m2 => loopW P1 S m e2 m2
          | .bk e2 m2 => .nx e2 m2
          | z => z) T W := p2
        refine ⟨fun σ2 H2 => ∃ e2 h2 m2, RpE (kx X hot) h2 e2 σ2 ∧ Rs (kx X hot) h2 m2 H2 ∧ PostS (kx X hot) h2 (loopW P1 S m e2 m2) T W, fun σ2 H2 q => ⟨m, by omega, q⟩, ?_⟩
        refine sb σ' e' h1 m1 H1 _ (re'.mono l1) rs1 ?_
        cases z2 : S e' m1 with
        | nx e2 m2 => rw [z2] at p2; exact fun σ4 h4 H4 l4 re4 rs4 => ⟨e2, h4, m2, re4, rs4, PostS.mono (l1.trans l4) p2⟩
        | ct e2 m2 => rw [z2] at p2; exact fun σ4 h4 H4 l4 re4 rs4 => ⟨e2, h4, m2, re4, rs4, PostS.mono (l1.trans l4) p2⟩
        | bk e2 m2 => rw [z2] at p2; exact fun σ4 h4 H4 l4 re4 rs4 => p2 σ4 h4 H4 (l1.trans l4) re4 rs4
        | rt d m2 => rw [z2] at p2; exact PostS.mono (r := .rt d m2) l1 p2
        | ex c e2 m2 => rw [z2] at p2; exact PostS.mono (r := .ex c e2 m2) l1 p2
        | fail => rw [z2] at p2; exact p2
      | false => exact p2 σ' h1 H1 l1 (re'.mono l1) rs1
    | ex c m1 =>
      rw [z] at p2
      exact fun h1 H1 l1 rs1 => p2 σ' h1 H1 l1 (re'.mono l1) rs1
    | fail => rw [z] at p2; exact p2

/-! ### the readings that the abstract ones are themselves -/
def absE (k : Kx) (W : WX) (A : AE) : TE := fun σ H Q => ∃ env g μ, RpE k g env σ ∧ Rs k g μ H ∧ Post k g (Rp k) (A env μ) Q (fun c d H' => W c d σ H')
def absT (k : Kx) (W : WX) (A : AT) : TT := fun σ H Q => ∃ env g μ, RpE k g env σ ∧ Rs k g μ H ∧ Post k g relB (A env μ) Q (fun c d H' => W c d σ H')
def absG (k : Kx) (W : WX) (ga : D → ATS) : TG := fun v σ H Q => ∃ d env g μ, ∃ T : Ends, Rp k g d v ∧ RpE k g env σ ∧ Rs k g μ H ∧ T.nx = Q ∧ PostS k g (ga d env μ) T W
def absS (k : Kx) (W : WX) (S : ATS) : TS := fun T σ H => ∃ env g μ, RpE k g env σ ∧ Rs k g μ H ∧ PostS k g (S env μ) T W
theorem EE.can (h : EE X hot W e A) : PE X e (absE (kx X hot) W A) := by
  obtain ⟨te, p, s⟩ := h
  exact ⟨fun pins st σ H Q I ⟨env, g, μ, re, rs, q⟩ => p.run pins st σ H Q I (s σ env g μ H Q re rs q)⟩
theorem ET.can (h : ET X hot W e P1) : PT X e (absT (kx X hot) W P1) := by
  obtain ⟨te, p, s⟩ := h
  exact ⟨fun pins st σ H Q I ⟨env, g, μ, re, rs, q⟩ => p.run pins st σ H Q I (s σ env g μ H Q re rs q)⟩
theorem EG.can {ga : D → ATS} (h : EG X hot W e ga) : PG X e (absG (kx X hot) W ga) := by
  obtain ⟨te, p, s⟩ := h
  exact ⟨fun pins st σ H v u Q I r ⟨d, env, g, μ, T, rv, re, rs, eT, q⟩ => p.run pins st σ H v u Q I r (s d v σ env g μ H Q rv re rs T eT q)⟩
theorem ESs.can (h : ESs X hot W body S) : PSs X body (absS (kx X hot) W S) := by
  obtain ⟨te, p, s⟩ := h
  exact ⟨fun pins st σ H T I ⟨env, g, μ, re, rs, q⟩ => p.run pins st σ H T I (s σ env g μ H T re rs q)⟩

/-! ### list comprehensions -/
def W0 : WX := fun _ _ _ _ => False
def wipeE (env : En) : List Nat → En
  | [] => env
  | v :: vs => (wipeE env vs).set v none
theorem RpE.wipe {k : Kx} {g : G} {env : En} {σ : St} (r : RpE k g env σ) : ∀ vs : List Nat, RpE k g (wipeE env vs) (wipe σ vs)
  | [] => r
  | v :: vs => (r.wipe vs).wipe1 v none
theorem wipe_at (σ : St) (i : Nat) : ∀ vs : List Nat, (wipe σ vs)[i]? = if i ∈ vs ∧ i < σ.length then some none else σ[i]?
  | [] => by simp [L2.wipe]
  | v :: vs => by
    have ih := wipe_at σ i vs
    show ((wipe σ vs).set v none)[i]? = _
    by_cases hv : v = i
    · subst hv
      by_cases hl : v < σ.length
      · rw [List.getElem?_set_self (by rw [wipe_length]; exact hl), if_pos ⟨List.mem_cons_self .., hl⟩]
      · rw [List.getElem?_eq_none (by rw [List.length_set, wipe_length]; omega), if_neg (fun z => hl z.2), List.getElem?_eq_none (by omega)]
    · rw [List.getElem?_set_ne hv, ih]
      by_cases hm : i ∈ vs ∧ i < σ.length
      · rw [if_pos hm, if_pos ⟨List.mem_cons_of_mem _ hm.1, hm.2⟩]
      · rw [if_neg hm, if_neg (fun z => hm ⟨by
          rcases List.mem_cons.mp z.1 with e | e
          · exact absurd e.symm hv
          · exact e, z.2⟩)]
theorem wipe_set {σ : St} {vs : List Nat} {j : Nat} {x : Option V} (h : j ∈ vs) : wipe (σ.set j x) vs = wipe σ vs := by
  apply List.ext_getElem?
  intro i
  rw [wipe_at, wipe_at, List.length_set]
  by_cases hi : i ∈ vs ∧ i < σ.length
  · rw [if_pos hi, if_pos hi]
  · rw [if_neg hi, if_neg hi]
    by_cases hj : j = i
    · subst hj
      have : σ.length ≤ j := by
        by_cases hl : j < σ.length
        · exact absurd ⟨h, hl⟩ hi
        · omega
      rw [List.getElem?_eq_none (by simpa using this), List.getElem?_eq_none this]
    · rw [List.getElem?_set_ne hj]
theorem wipe_wipe {σ : St} {vs : List Nat} : wipe (wipe σ vs) vs = wipe σ vs := by
  apply List.ext_getElem?
  intro i
  rw [wipe_at, wipe_length, wipe_at]
  by_cases hi : i ∈ vs ∧ i < σ.length
  · rw [if_pos hi, if_pos hi]
  · rw [if_neg hi]
/-- a comprehension's target: it stores own slots alone -/
def SimGc (k : Kx) (vs : List Nat) (tg : TG) (a : D → ATS) : Prop := ∀ (d : D) (v : V) (σ : St) (env : En) (g : G) (μ : Sto) (H : Hp) (Q : St → Hp → Prop), Rp k g d v → RpE k g env σ → Rs k g μ H →
  (match a d env μ with
    | .nx e m => ∀ σ2 h H2, g.le h → RpE k h e σ2 → Rs k h m H2 → wipe σ2 vs = wipe σ vs → Q σ2 H2
    | _ => False) → tg v σ H Q
def EGc (X : Cx) (hot : Option (Addr × Ec)) (vs : List Nat) (e : Expr) (a : D → ATS) : Prop := ∃ tg, PG X e tg ∧ SimGc (kx X hot) vs tg a
theorem gc_name {i : Nat} {x : Str} {vs : List Nat} (hN : X.N.Nodup) (hm : i ∈ vs := by decide) (hi : X.N[i]? = some x := by rfl) (hx : Loc X.env.scope x := by first | exact Or.inl rfl | exact Or.inr rfl) (hf : X.fn x = true ∨ X.env.scope.names.lookup x = some .local := by first | exact .inl rfl | exact .inr rfl) :
    EGc X hot vs (.Name x pos) (gNm i) := ⟨_, pg_name hN hi hx hf, fun d v σ env g μ H Q rv re rs p => p _ g H (.refl g) (re.set rv i) rs (wipe_set hm)⟩
def absGc (k : Kx) (vs : List Nat) (ga : D → ATS) : TG := fun v σ H Q => ∃ d env g μ, Rp k g d v ∧ RpE k g env σ ∧ Rs k g μ H ∧ (match ga d env μ with
    | .nx e m => ∀ σ2 h H2, g.le h → RpE k h e σ2 → Rs k h m H2 → wipe σ2 vs = wipe σ vs → Q σ2 H2
    | _ => False)
theorem EGc.can {vs : List Nat} {ga : D → ATS} (h : EGc X hot vs e ga) : PG X e (absGc (kx X hot) vs ga) := by
  obtain ⟨te, p, s⟩ := h
  exact ⟨fun pins st σ H v u Q I r ⟨d, env, g, μ, rv, re, rs, q⟩ => p.run pins st σ H v u Q I r (s d v σ env g μ H Q rv re rs q)⟩
def R.noex {α : Type} (r : R α) : R α := match r with
  | .ex _ _ => .fail
  | z => z
@[simp] theorem R.noex_ok {α : Type} (a : α) (μ : Sto) : (R.ok a μ).noex = .ok a μ := rfl
@[simp] theorem R.noex_ex {α : Type} (c : Ec) (μ : Sto) : (R.ex c μ : R α).noex = .fail := rfl
@[simp] theorem R.noex_fail {α : Type} : (R.fail : R α).noex = .fail := rfl
def lcA (ga : D → ATS) (P : AT) (A : AE) (env : En) : List D → Sto → R (List D)
  | [], μ => .ok [] μ
  | d :: ds, μ => match ga d env μ with
    | .nx e1 m1 => (P e1 m1).noex.bind fun b m2 => if b = true then (A e1 m2).noex.bind fun y m3 => (lcA ga P A env ds m3).bind fun ys m4 => .ok (y :: ys) m4 else lcA ga P A env ds m2
    | _ => .fail
def aLc (I : AA) (ga : D → ATS) (P : AT) (A : AE) (vs : List Nat) : AE := fun env μ => (I env μ).bind fun ds m => if ds.length < line then (lcA ga P A (wipeE env vs) ds m).bind fun ys m2 => .ok (.lst ys) m2 else .fail
def aYes : AT := fun _ μ => .ok true μ
def ETs (X : Cx) (hot : Option (Addr × Ec)) (W : WX) (ifs : List Expr) (a : AT) : Prop := ∃ te, PTs X ifs te ∧ SimT (kx X hot) W te a
theorem ts_nil : ETs X hot W [] aYes := ⟨_, pts_nil, fun σ env g μ H Q re rs p => Post.ret p rs rfl⟩
theorem ts_one (h : ET X hot W c P1) : ETs X hot W [c] P1 := let ⟨_, p, s⟩ := h; ⟨_, pts_one p, s⟩
theorem ETs.can {ifs : List Expr} (h : ETs X hot W ifs P1) : PTs X ifs (absT (kx X hot) W P1) := by
  obtain ⟨te, p, s⟩ := h
  exact ⟨fun pins st σ H Q I ⟨env, g, μ, re, rs, q⟩ => p.run pins st σ H Q I (s σ env g μ H Q re rs q)⟩
theorem RpE.monoL {k : Kx} {g g' : G} (l : g.li g') : ∀ {env : En} {σ : St}, RpE k g env σ → RpE k g' env σ
  | [], _, h => h
  | e :: es, _, ⟨s, ss, z, p, q⟩ => ⟨s, ss, z, fun d hd => let ⟨v, a, b⟩ := p d hd; ⟨v, a, b.monoL l⟩, RpE.monoL l q⟩
/-- the state of a turn -/
structure LcI (k : Kx) (W : WX) (ga : D → ATS) (P : AT) (A : AE) (vs : List Nat) (env : En) (σ : St) (Q : VK) (h : G) (L : Addr) (rest : List D) (i : Nat) (H : Hp) : Prop where
  ex : ∃ acc xs h' m', h.li h' ∧ h'.F = upd h.F L (.lst xs) ∧ Rps k h' acc xs ∧ acc.length ≤ i ∧ RpE k h' (wipeE env vs) (wipe σ vs) ∧ Rs k h' m' H ∧ Post k h (Rp k) ((lcA ga P A (wipeE env vs) rest m').bind fun ys m2 => .ok (.lst (acc ++ ys)) m2) Q (fun c d H' => W c d σ H')
theorem simE_lc {k : Kx} {wi : TI} {I : AA} {ga : D → ATS} {P : AT} {vs : List Nat} (si : SimI k W wi I) : SimE k W (tLc wi (absGc k vs ga) (absT k W0 P) (absE k W0 A) vs) (aLc I ga P A vs) := fun σ env g μ H Q re rs p => by
  refine si σ env g μ H _ re rs (p.bind fun ds m J h H1 l rs1 w p1 => fun L hL => ?_)
  by_cases hlen : ds.length < line
  · rw [if_pos hlen] at p1
    have reW : RpE k (h.wf L (.lst [])) (wipeE env vs) (wipe σ vs) := ((re.mono l).wipe vs).monoL G.li_wf
    have hF : h.F L = none := by
      cases e : h.F L with
      | none => rfl
      | some u => have z := rs1.fx L u e; rw [hL] at z; cases z
    refine ⟨fun i n H' => i ≤ ds.length ∧ n = ds.length - i ∧ LcI k W ga P A vs env σ Q h L (ds.drop i) i H', ⟨ds.length, Nat.zero_le _, by simp, [], [], h.wf L (.lst []), m, G.li_wf, rfl, rfl, Nat.zero_le _, reW, rs1.wf hL, p1⟩, ?_⟩
    rintro i n H' ⟨hi, rfl, acc, xs, h', m', l', eF, ra, la, re', rs', p'⟩
    obtain ⟨w1, w2⟩ := w i h' m' H' l' rs'
    by_cases hlt : i < ds.length
    · obtain ⟨d, hd⟩ : ∃ d, ds[i]? = some d := ⟨ds[i], by simp [hlt]⟩
      obtain ⟨go, yl⟩ := w2 d hd
      rw [drop_get hd] at p'
      refine .inr ⟨go, LcI k W ga P A vs env σ Q h L (ds.drop (i + 1)) (i + 1), fun H2 q => ⟨ds.length - (i + 1), by omega, by omega, rfl, q⟩, fun x H2 y => ?_⟩
      obtain ⟨h2, l2, rs2, rx⟩ := yl x H2 y
      have p2 : Post k h (Rp k) ((match ga d (wipeE env vs) m' with
        | .nx e1 m1 => (P e1 m1).noex.bind fun b m2 => if b = true then (A e1 m2).noex.bind fun y m3 => (lcA ga P A (wipeE env vs) (ds.drop (i + 1)) m3).bind fun ys m4 => .ok (y :: ys) m4 else lcA ga P A (wipeE env vs) (ds.drop (i + 1)) m2
        | _ => .fail : R (List D)).bind fun ys m2 => .ok (.lst (acc ++ ys)) m2) Q (fun c d H' => W c d σ H') := p'
      refine ⟨d, wipeE env vs, h2, m', rx, re'.mono l2, rs2, ?_⟩
      cases z1 : ga d (wipeE env vs) m' with
      | nx e1 m1 =>
        rw [z1] at p2
        intro σ3 h3 H3 l3 re3 rs3 wp
        refine ⟨wp.trans wipe_wipe, ?_⟩
        refine ⟨e1, h3, m1, re3, rs3, ?_⟩
        have p3 : Post k h (Rp k) (((P e1 m1).noex.bind fun b m2 => if b = true then (A e1 m2).noex.bind fun y m3 => (lcA ga P A (wipeE env vs) (ds.drop (i + 1)) m3).bind fun ys m4 => .ok (y :: ys) m4 else lcA ga P A (wipeE env vs) (ds.drop (i + 1)) m2 : R (List D)).bind fun ys m2 => .ok (.lst (acc ++ ys)) m2) Q (fun c d H' => W c d σ H') := p2
        cases z2 : P e1 m1 with
        | ok b m2 =>
          rw [z2] at p3
          intro b' h4 H4 l4 rs4 rb
          cases rb
          cases b with
          | true =>
            rw [if_pos rfl]
            refine ⟨e1, h4, m2, re3.mono l4, rs4, ?_⟩
            have p4 : Post k h (Rp k) (((A e1 m2).noex.bind fun y m3 => (lcA ga P A (wipeE env vs) (ds.drop (i + 1)) m3).bind fun ys m4 => .ok (y :: ys) m4 : R (List D)).bind fun ys m2 => .ok (.lst (acc ++ ys)) m2) Q (fun c d H' => W c d σ H') := p3
            cases z3 : A e1 m2 with
            | ok y m3 =>
              rw [z3] at p4
              intro v h5 H5 l5 rs5 rv
              have lt := (l2.trans l3).trans (l4.trans l5)
              have eF5 : h5.F = upd h.F L (.lst xs) := lt.f.trans eF
              refine ⟨xs, rs5.fx L _ (by rw [eF5, upd_same]), ?_, ?_⟩
              · rw [ra.length]; exact line_lt (by omega)
              · refine ⟨acc ++ [y], xs ++ [v], ⟨h5.I, h5.φ, upd h.F L (.lst (xs ++ [v]))⟩, m3, ?_, rfl, ?_, ?_, ?_, ?_, ?_⟩
                · exact ⟨fun a o e => lt.i a o (l'.i a o e), fun n a e => lt.p n a (l'.p n a e)⟩
                · exact Rps.monoL (g := h5) (g' := ⟨h5.I, h5.φ, upd h.F L (.lst (xs ++ [v]))⟩) ⟨fun _ _ e => e, fun _ _ e => e⟩ ((ra.mono lt).append (Rps.cons rv Rps.nil))
                · rw [List.length_append, List.length_singleton]; omega
                · exact RpE.monoL (g := h5) (g' := ⟨h5.I, h5.φ, upd h.F L (.lst (xs ++ [v]))⟩) ⟨fun _ _ e => e, fun _ _ e => e⟩ (re'.mono lt)
                · exact rs5.rf eF5
                · have p5 : Post k h (Rp k) (((lcA ga P A (wipeE env vs) (ds.drop (i + 1)) m3).bind fun ys m4 => .ok (y :: ys) m4 : R (List D)).bind fun ys m2 => .ok (.lst (acc ++ ys)) m2) Q (fun c d H' => W c d σ H') := p4
                  cases z4 : lcA ga P A (wipeE env vs) (ds.drop (i + 1)) m3 with
                  | ok ys m4 =>
                    rw [z4] at p5
                    show Post k h (Rp k) (.ok (.lst ((acc ++ [y]) ++ ys)) m4) Q _
                    rw [List.append_assoc]
                    exact p5
                  | ex c m4 => rw [z4] at p5; exact p5
                  | fail => rw [z4] at p5; exact p5
            | ex c m3 => rw [z3] at p4; exact p4.elim
            | fail => rw [z3] at p4; exact p4
          | false =>
            rw [if_neg Bool.false_ne_true]
            have lt := (l2.trans l3).trans l4
            have eF4 : h4.F = upd h.F L (.lst xs) := lt.f.trans eF
            exact ⟨acc, xs, h4, m2, l'.trans lt.li, eF4, ra.mono lt, by omega, re'.mono lt, rs4, p3⟩
        | ex c m2 => rw [z2] at p3; exact p3.elim
        | fail => rw [z2] at p3; exact p3
      | ex c e1 m1 => rw [z1] at p2; exact p2.elim
      | rt _ _ => rw [z1] at p2; exact p2.elim
      | bk _ _ => rw [z1] at p2; exact p2.elim
      | ct _ _ => rw [z1] at p2; exact p2.elim
      | fail => rw [z1] at p2; exact p2.elim
    · have e1 : i = ds.length := by omega
      subst e1
      rw [List.drop_length] at p'
      refine .inl ⟨w1 (Nat.le_refl _), ?_⟩
      have q := rs'.unwf eF hF
      have p' : Post k h (Rp k) (.ok (.lst (acc ++ [])) m') Q (fun c d H' => W c d σ H') := p'
      rw [List.append_nil] at p'
      have li : h'.li ⟨upd h'.I L (.lst xs), h'.φ, h.F⟩ := ⟨fun a o e => by
        show upd h'.I L (.lst xs) a = some o
        have q1 := rs'.fi L (.lst xs) (by rw [eF, upd_same])
        have z : a ≠ L := fun q => by rw [q, q1] at e; cases e
        rw [upd_ne z]; exact e, fun _ _ e => e⟩
      exact p' (.ref L) ⟨upd h'.I L (.lst xs), h'.φ, h.F⟩ H' ⟨fun a o e => li.i a o (l'.i a o e), fun n a e => l'.p n a e, rfl⟩ q ⟨L, xs, rfl, .inl upd_same, ra.monoL li⟩
  · rw [if_neg hlen] at p1; exact p1.elim
/-- the comprehension as a value; y = [..] -/
theorem e_lc {I : AA} {ga : D → ATS} {P : AT} {elt : Expr} {ifs : List Expr} {scope : Scope} {own : List (Str × Nat)} (hc : X.calm = true) (hN : X.N.Nodup) (hi : EI X hot W tg iter I) (ok : BlkOk X.N X.env.scope scope own)
    (hg : ∀ (s : Shared) (H : Hp) (C : Addr) (cl : List (Str × Addr)) (fp : List Addr), EGc (X.blk s H scope (compEnvC scope cl C X.env) fp) hot (own.map (·.2)) tg ga)
    (ht : ∀ (s : Shared) (H : Hp) (C : Addr) (cl : List (Str × Addr)) (fp : List Addr), ETs (X.blk s H scope (compEnvC scope cl C X.env) fp) hot W0 ifs P)
    (he : ∀ (s : Shared) (H : Hp) (C : Addr) (cl : List (Str × Addr)) (fp : List Addr), EE (X.blk s H scope (compEnvC scope cl C X.env) fp) hot W0 elt A) (hs : ∀ x, foldedSetIterable iter X.env x = pure x := by intro _; rfl) :
    EE X hot W (.ListComp elt [⟨tg, iter, ifs, 0⟩] scope pos) (aLc I ga P A (own.map (·.2))) := by
  obtain ⟨wi, pi, si⟩ := hi
  exact ⟨_, pe_lc (te := absE (kx X hot) W0 A) (tt := absT (kx X hot) W0 P) (g := absGc (kx X hot) (own.map (·.2)) ga) hc hN pi ok (fun s H C cl fp => (hg s H C cl fp).can) (fun s H C cl fp => (ht s H C cl fp).can) (fun s H C cl fp => (he s H C cl fp).can) hs, simE_lc si⟩
theorem s_setLc {i : Nat} {y : Str} {py spos : Pos} {I : AA} {ga : D → ATS} {P : AT} {elt : Expr} {ifs : List Expr} {scope : Scope} {own : List (Str × Nat)} (hc : X.calm = true) (hN : X.N.Nodup)
    (hi : EI X hot W tg iter I) (ok : BlkOk X.N X.env.scope scope own) (hsw : swapsWith (.ListComp elt [⟨tg, iter, ifs, 0⟩] scope pos) (some (.Name y py)) spos.line X.env = pure true)
    (hg : ∀ (s : Shared) (H : Hp) (C : Addr) (cl : List (Str × Addr)) (fp : List Addr), EGc (X.blk s H scope (compEnvC scope cl C X.env) fp) hot (own.map (·.2)) tg ga)
    (ht : ∀ (s : Shared) (H : Hp) (C : Addr) (cl : List (Str × Addr)) (fp : List Addr), ETs (X.blk s H scope (compEnvC scope cl C X.env) fp) hot W0 ifs P)
    (he : ∀ (s : Shared) (H : Hp) (C : Addr) (cl : List (Str × Addr)) (fp : List Addr), EE (X.blk s H scope (compEnvC scope cl C X.env) fp) hot W0 elt A)
    (hy : X.N[i]? = some y := by rfl) (hyl : X.env.scope.names.lookup y = some .local := by rfl) (hs : ∀ x, foldedSetIterable iter X.env x = pure x := by intro _; rfl) :
    ES X hot W (.Assign [.Name y py] (.ListComp elt [⟨tg, iter, ifs, 0⟩] scope pos) spos) (aAsg i (aLc I ga P A (own.map (·.2)))) := by
  obtain ⟨wi, pi, si⟩ := hi
  refine ⟨_, ps_setLc (te := absE (kx X hot) W0 A) (tt := absT (kx X hot) W0 P) (g := absGc (kx X hot) (own.map (·.2)) ga) hc hN hy hyl hsw pi ok (fun s H C cl fp => (hg s H C cl fp).can) (fun s H C cl fp => (ht s H C cl fp).can) (fun s H C cl fp => (he s H C cl fp).can) hs, ?_⟩
  exact fun σ env g μ H T re rs p => simE_lc (A := A) (P := P) (ga := ga) si σ env g μ H _ re rs (p.bind re fun d m v h H1 l rs1 rv p1 => p1 _ h H1 (.refl h) ((re.mono l).set rv i) rs1)
end
end Z

set_option Elab.async false
set_option linter.all false
set_option maxRecDepth 100000
set_option maxHeartbeats 2000000
/-! Sim, part 4: operators, built-ins, methods. -/
namespace Z
open PySem PySem.Spec PyProof.Rows L2
section
variable {k : Kx}
def dI (f : Int → Int → D) : D → D → Sto → R D := fun d e μ => match d, e with
  | .int i, .int j => .ok (f i j) μ
  | _, _ => .fail
def dIc (c : Int → Int → Bool) (f : Int → Int → D) : D → D → Sto → R D := fun d e μ => match d, e with
  | .int i, .int j => if c i j = true then .ok (f i j) μ else .fail
  | _, _ => .fail
theorem ops_I {g : Int → Int → V} {f : Int → Int → D} (h : ∀ i j G, Rp k G (f i j) (g i j)) : OpS k (rI0 g) (dI f) := fun d e x y G μ H Q E rx ry rs p => by
  cases d with
  | int i =>
    cases e with
    | int j => exact ⟨i, j, rx, ry, p.ret rs (h i j G)⟩
    | _ => exact p.elim
  | _ => exact p.elim
theorem ops_Ic {C : Int → Int → Prop} {c : Int → Int → Bool} {g : Int → Int → V} {f : Int → Int → D} (hc : ∀ i j, c i j = true → C i j) (h : ∀ i j G, Rp k G (f i j) (g i j)) : OpS k (rI C g) (dIc c f) := fun d e x y G μ H Q E rx ry rs p => by
  cases d with
  | int i =>
    cases e with
    | int j =>
      have p : Post k G (Rp k) (if c i j = true then R.ok (f i j) μ else R.fail) Q E := p
      by_cases z : c i j = true
      · rw [if_pos z] at p
        exact ⟨i, j, rx, ry, hc i j z, p.ret rs (h i j G)⟩
      · rw [if_neg z] at p; exact p.elim
    | _ => exact p.elim
  | _ => exact p.elim
/-- ints -/
def dSub := dI fun i j => .int (i - j)
def cMul (i j : Int) : Bool := decide (i.natAbs.log2 + j.natAbs.log2 < 1000000)
def cDiv (_ j : Int) : Bool := decide (0 < j) && decide (j.natAbs.log2 < 9000)
def cMod (_ j : Int) : Bool := decide (0 < j)
def cPow (i j : Int) : Bool := decide (0 ≤ j) && (decide (j ≤ 1000000) && decide (i.natAbs < 18446744073709551616))
def dFdiv := dIc cDiv fun i j => .int (i / j)
def dMod := dIc cMod fun i j => .int (i % j)
def dPow := dIc cPow fun i j => .int (i ^ j.toNat)
theorem os_sub : OpS k (rI0 fun i j => .int (i - j)) dSub := ops_I fun _ _ _ => rfl
theorem os_fdiv : OpS k (rI CDivW fun i j => .int (i / j)) dFdiv := ops_Ic (fun i j h => by
  obtain ⟨a, b⟩ := Bool.and_eq_true_iff.mp (show (decide (0 < j) && decide (j.natAbs.log2 < 9000)) = true from h)
  exact ⟨of_decide_eq_true a, of_decide_eq_true b⟩) fun _ _ _ => rfl
theorem os_mod : OpS k (rI (fun _ j => 0 < j) fun i j => .int (i % j)) dMod := ops_Ic (fun i j h => of_decide_eq_true h) fun _ _ _ => rfl
theorem os_pow : OpS k (rI CPow fun i j => .int (i ^ j.toNat)) dPow := ops_Ic (fun i j h => by
  obtain ⟨a, b⟩ := Bool.and_eq_true_iff.mp (show (decide (0 ≤ j) && (decide (j ≤ 1000000) && decide (i.natAbs < 18446744073709551616))) = true from h)
  obtain ⟨b, c⟩ := Bool.and_eq_true_iff.mp b
  exact ⟨of_decide_eq_true a, of_decide_eq_true b, of_decide_eq_true c⟩) fun _ _ _ => rfl
/-- texts as lists of signs -/
abbrev S (l : List Nat) : Str := ⟨l.toArray⟩
theorem S_len (a : List Nat) : (S a).length = a.length := by simp [S, Str.length]
theorem S_cat (a b : List Nat) : S a ++ S b = S (a ++ b) := TL.ext_tl (TL.tl_append (S a) (S b))
theorem S_tl (a : List Nat) : TL.tl (S a) = a := rfl
/-- + -/
def dAddI := dI fun i j => .int (i + j)
def dAddS : D → D → Sto → R D := fun d e μ => match d, e with
  | .str a, .str b => if a.length + b.length ≤ line then .ok (.str (a ++ b)) μ else .fail
  | _, _ => .fail
def dCat : D → D → Sto → R D := fun d e μ => match d.rdL μ with
  | some xs => (match e.rdL μ with
    | some ys => if xs.length + ys.length ≤ line then .ok (.lst (xs ++ ys)) μ else .fail
    | none => .fail)
  | none => .fail
def dAdd : D → D → Sto → R D := fun d e μ => (dAddI d e μ).orF ((dAddS d e μ).orF (dCat d e μ))
def rAddS : R2 := fun x y H Q => ∃ i j, x = .str i ∧ y = .str j ∧ i.length + j.length ≤ sizeLine ∧ Q (.str (i ++ j)) H
theorem os_addS : OpS k rAddS dAddS := fun d e x y G μ H Q E rx ry rs p => by
  cases d with
  | str a =>
    cases e with
    | str b =>
      have p : Post k G (Rp k) (if a.length + b.length ≤ line then R.ok (.str (a ++ b)) μ else R.fail) Q E := p
      by_cases z : a.length + b.length ≤ line
      · rw [if_pos z] at p
        exact ⟨S a, S b, rx, ry, by rw [S_len, S_len]; exact line_le z, p.ret rs (show _ = _ by rw [S_cat])⟩
      · rw [if_neg z] at p; exact p.elim
    | _ => exact p.elim
  | _ => exact p.elim
def rCatR : R2 := fun x y H Q => ∃ l b xs zs, x = .ref l ∧ y = .ref b ∧ Rd H l (.lst xs) ∧ Rd H b (.lst zs) ∧ xs.length + zs.length ≤ sizeLine ∧ ∀ p, H p = none → Q (.ref p) (upd H p (.lst (xs ++ zs)))
theorem op_catR {X : Cx} : OpR X (binaryOp .Add) rCatR := by
  intro pins s σ H x y v u Q I rx ry h
  obtain ⟨l, b, xs, zs, rfl, rfl, hH, hB, hz, q⟩ := h
  cases rx
  cases ry
  obtain ⟨z, its, n, r, e⟩ := hH.ok I.hok
  obtain ⟨z2, its2, n2, r2, e2⟩ := hB.ok I.hok
  have hl := r.length
  have hl2 := r2.length
  refine PySem.P.add_list e e2 ?_ (by rw [List.size_toArray, List.size_toArray]; omega)
  have ea : its.toArray ++ its2.toArray = (its ++ its2).toArray := by simp
  rw [ea]
  exact ⟨.ref _, _, I.lnew (t' := s.toks) (r.append r2) (by rw [List.length_append]; omega), rfl, q _ I.fresh⟩
theorem os_cat : OpS k rCatR dCat := fun d e x y G μ H Q E rx ry rs p => by
  unfold dCat at p
  cases z1 : d.rdL μ with
  | none => rw [z1] at p; exact p.elim
  | some xs =>
    rw [z1] at p
    have p : Post k G (Rp k) (match e.rdL μ with
      | some ys => if xs.length + ys.length ≤ line then R.ok (.lst (xs ++ ys)) μ else R.fail
      | none => R.fail) Q E := p
    cases z2 : e.rdL μ with
    | none => rw [z2] at p; exact p.elim
    | some ys =>
      rw [z2] at p
      have p : Post k G (Rp k) (if xs.length + ys.length ≤ line then R.ok (.lst (xs ++ ys)) μ else R.fail) Q E := p
      by_cases z : xs.length + ys.length ≤ line
      · rw [if_pos z] at p
        obtain ⟨a, us, e1, s1, r1⟩ := rdL_ok rs rx z1
        obtain ⟨b, vs, e2, s2, r2⟩ := rdL_ok rs ry z2
        exact ⟨a, b, us, vs, e1, e2, s1, s2, by rw [r1.length, r2.length]; exact line_le z, fun q hq => p.newL rs (r1.append r2) hq⟩
      · rw [if_neg z] at p; exact p.elim
theorem op_addAny {X : Cx} : OpR X (binaryOp .Add) (fun x y H Q => rI0 (fun i j => .int (i + j)) x y H Q ∨ (rAddS x y H Q ∨ rCatR x y H Q)) := op_add.or (OpR.or (r := rAddS) op_add_str op_catR)
theorem os_add : OpS k (fun x y H Q => rI0 (fun i j => .int (i + j)) x y H Q ∨ (rAddS x y H Q ∨ rCatR x y H Q)) dAdd := OpS.or (ops_I fun _ _ _ => rfl) (OpS.or os_addS os_cat)
/-- * -/
def dMulI := dIc cMul fun i j => .int (i * j)
theorem os_mulI : OpS k (rI CMulW fun i j => .int (i * j)) dMulI := ops_Ic (fun i j h => (show i.natAbs.log2 + j.natAbs.log2 < 1000000 from of_decide_eq_true h)) fun _ _ _ => rfl
theorem rep_foldl (a : Array Nat) : ∀ (n : Nat) (acc : Array Nat), ((List.replicate n a).foldl (· ++ ·) acc) = (acc.toList ++ (List.replicate n a.toList).flatten).toArray
  | 0, acc => by simp
  | n + 1, acc => by
    rw [List.replicate_succ, List.foldl_cons, rep_foldl a n, List.replicate_succ, List.flatten_cons]
    simp
def rRepS : R2 := fun x y H Q => ∃ (z : List Nat) (n : Int), x = .str (S z) ∧ y = .int n ∧ 1 < n ∧ n < 1000 ∧ z.length < 1000 ∧ 0 < z.length ∧ Q (.str (S (List.replicate n.toNat z).flatten)) H
theorem rep_len {z : List Nat} {n : Nat} : ((List.replicate n z).flatten).length = n * z.length := by
  induction n with
  | zero => simp
  | succ n ih => rw [List.replicate_succ, List.flatten_cons, List.length_append, ih, Nat.succ_mul]; omega
theorem op_repS {X : Cx} : OpR X (binaryOp .Mult) rRepS := by
  intro pins s σ H x y v u Q I rx ry h
  obtain ⟨z, n, rfl, rfl, h1, h2, h3, h4, q⟩ := h
  obtain ⟨t, rfl⟩ := rx
  obtain ⟨t', rfl⟩ := ry
  have hz : (S z).length = z.length := S_len z
  have e1 : ¬ n < 1 := by omega
  have e2 : (n == 1 || (S z).length == 0) = false := by
    rw [Bool.or_eq_false_iff]
    exact ⟨beq_eq_false_iff_ne.mpr (by omega), beq_eq_false_iff_ne.mpr (by omega)⟩
  have e3 : z.length * n.toNat ≤ 1000000 := by
    have : n.toNat ≤ 1000 := by omega
    calc z.length * n.toNat ≤ 1000 * 1000 := Nat.mul_le_mul (by omega) this
      _ = 1000000 := rfl
  have tl : Builtin.Str.tooLong ((S z).length * n.toNat) = false := by
    unfold Builtin.Str.tooLong
    exact decide_eq_false (by rw [sizeLine_eq, hz]; omega)
  refine PySem.P.mul_str (by rw [Bool.or_eq_false_iff]; exact ⟨decide_eq_false (by omega), decide_eq_false (by omega)⟩) (fun _ _ => ?_) (fun _ _ => tl) ?_
  · have : (1000 : Int) ≤ (2 ^ 63 - 1) / n := by
      rw [Int.le_ediv_iff_mul_le (by omega)]
      omega
    rw [hz]
    omega
  · rw [if_neg e1, e2, if_neg Bool.false_ne_true]
    have e4 : (⟨(List.replicate n.toNat (S z).cps).foldl (· ++ ·) #[]⟩ : Str) = S (List.replicate n.toNat z).flatten := by
      rw [rep_foldl]
      rfl
    rw [e4]
    refine ⟨?_, ⟨.str _, H, I.tok _, ⟨_, rfl⟩, q⟩⟩
    rw [S_len, rep_len, sizeLine_eq, Nat.mul_comm]
    omega
def dRepS : D → D → Sto → R D := fun d e μ => match d, e with
  | .str z, .int n => if 1 < n ∧ n < 1000 ∧ z.length < 1000 ∧ 0 < z.length then .ok (.str (List.replicate n.toNat z).flatten) μ else .fail
  | _, _ => .fail
theorem os_repS : OpS k rRepS dRepS := fun d e x y G μ H Q E rx ry rs p => by
  cases d with
  | str z =>
    cases e with
    | int n =>
      have p : Post k G (Rp k) (if 1 < n ∧ n < 1000 ∧ z.length < 1000 ∧ 0 < z.length then R.ok (.str (List.replicate n.toNat z).flatten) μ else R.fail) Q E := p
      by_cases h : 1 < n ∧ n < 1000 ∧ z.length < 1000 ∧ 0 < z.length
      · rw [if_pos h] at p
        exact ⟨z, n, rx, ry, h.1, h.2.1, h.2.2.1, h.2.2.2, p.ret rs rfl⟩
      · rw [if_neg h] at p; exact p.elim
    | _ => exact p.elim
  | _ => exact p.elim
/-- [d] * n -/
def rRepR : R2 := fun x y H Q => ∃ l n xs, x = .ref l ∧ y = .int n ∧ H l = some (.lst xs) ∧ -(2 ^ 63) ≤ n ∧ n < 2 ^ 63 ∧ xs.length * n.toNat ≤ sizeLine ∧
  ∀ p, H p = none → Q (.ref p) (upd H p (.lst (List.replicate n.toNat xs).flatten))
def dMul : D → D → Sto → R D := fun d e μ => (dMulI d e μ).orF (dRepS d e μ)
theorem op_mulAny {X : Cx} : OpR X (binaryOp .Mult) (fun x y H Q => rI CMulW (fun i j => .int (i * j)) x y H Q ∨ rRepS x y H Q) := op_mulW.or op_repS
theorem os_mul : OpS k (fun x y H Q => rI CMulW (fun i j => .int (i * j)) x y H Q ∨ rRepS x y H Q) dMul := OpS.or os_mulI os_repS
/-- orders of ints -/
def dLt := dI fun i j => .bl (decide (i < j))
def dLe := dI fun i j => .bl (decide (i ≤ j))
def dGt := dI fun i j => .bl (decide (j < i))
def dGe := dI fun i j => .bl (decide (j ≤ i))
theorem os_lt : OpS k (rI0 fun i j => .bl (decide (i < j))) dLt := ops_I fun _ _ _ => rfl
theorem os_le : OpS k (rI0 fun i j => .bl (decide (i ≤ j))) dLe := ops_I fun _ _ _ => rfl
theorem os_gt : OpS k (rI0 fun i j => .bl (decide (j < i))) dGt := ops_I fun _ _ _ => rfl
theorem os_ge : OpS k (rI0 fun i j => .bl (decide (j ≤ i))) dGe := ops_I fun _ _ _ => rfl
/-- is None -/
def D.isNon : D → Bool
  | .non => true
  | _ => false
theorem isNon_ok {G : G} {d : D} {x : V} (r : Rp k G d x) : decide (x = .non) = d.isNon := by
  cases d with
  | non => rw [show x = _ from r]; rfl
  | bl b => rw [show x = _ from r]; rfl
  | int b => rw [show x = _ from r]; rfl
  | str b => rw [show x = _ from r]; rfl
  | ty b => rw [show x = _ from r]; rfl
  | ecl b => rw [show x = _ from r]; rfl
  | ccl b => rw [show x = _ from r]; rfl
  | lst b => obtain ⟨a, xs, e, _⟩ := r; rw [e]; rfl
  | tup b => obtain ⟨a, xs, e, _⟩ := r; rw [e]; rfl
  | ins c b => obtain ⟨a, dx, xs, e, _⟩ := r; rw [e]; rfl
  | ob b => obtain ⟨a, e, _⟩ := r; rw [e]; rfl
  | exc b => obtain ⟨a, e, _⟩ := r; rw [e]; rfl
  | scr b => obtain ⟨a, xs, e, _⟩ := r; rw [e]; rfl
def dIsN : D → D → Sto → R D := fun d e μ => match e with
  | .non => .ok (.bl d.isNon) μ
  | _ => .fail
def dNotN : D → D → Sto → R D := fun d e μ => match e with
  | .non => .ok (.bl (!d.isNon)) μ
  | _ => .fail
def rIsN : R2 := fun x y H Q => y = .non ∧ Q (.bl (decide (x = .non))) H
def rNotN : R2 := fun x y H Q => y = .non ∧ Q (.bl (!decide (x = .non))) H
theorem op_isN1 {X : Cx} : OpR X (compareOp .Is) rIsN := op_isN
theorem op_notN1 {X : Cx} : OpR X (compareOp .IsNot) rNotN := op_notN
theorem os_isN : OpS k rIsN dIsN := fun d e x y G μ H Q E rx ry rs p => by
  cases e with
  | non => exact ⟨ry, p.ret rs (congrArg V.bl (isNon_ok rx))⟩
  | _ => exact p.elim
theorem os_notN : OpS k rNotN dNotN := fun d e x y G μ H Q E rx ry rs p => by
  cases e with
  | non => exact ⟨ry, p.ret rs (congrArg (fun b => V.bl (!b)) (isNon_ok rx))⟩
  | _ => exact p.elim
/-! == : of texts, and of data at any depth -/
mutual
def D.py : D → Option PyData
  | .non => some .none
  | .bl b => some (.bool b)
  | .int i => some (.int i)
  | .lst xs => (D.pys xs).map .list
  | .tup xs => (D.pys xs).map .tuple
  | .str s => some (.str (S s))
  | _ => none
def D.pys : List D → Option (List PyData)
  | [] => some []
  | d :: ds => (D.py d).bind fun p => (D.pys ds).map fun ps => p :: ps
end
mutual
theorem py_ok {G : G} {H : Hp} (e : ∀ a o, G.I a = some o → H a = some o) : ∀ {d : D} {p : PyData} {x : V}, Rp k G d x → d.py = some p → Dp k.K H x p
  | .non, p, x, r, h => by rw [show x = _ from r]; simp only [D.py, Option.some.injEq] at h; rw [← h]; exact .non
  | .bl b, p, x, r, h => by rw [show x = _ from r]; simp only [D.py, Option.some.injEq] at h; rw [← h]; exact .bl b
  | .int b, p, x, r, h => by rw [show x = _ from r]; simp only [D.py, Option.some.injEq] at h; rw [← h]; exact .int b
  | .str b, p, x, r, h => by rw [show x = _ from r]; simp only [D.py, Option.some.injEq] at h; rw [← h]; exact .str _
  | .lst ds, p, x, ⟨a, xs, e1, s, q⟩, h => by
    rw [e1]
    simp only [D.py, Option.map_eq_some_iff] at h
    obtain ⟨ps, h1, h2⟩ := h
    rw [← h2]
    exact .lst (.inl (rd_mono e s)) (pys_ok e q h1)
  | .tup ds, p, x, ⟨a, xs, e1, s, q⟩, h => by
    rw [e1]
    simp only [D.py, Option.map_eq_some_iff] at h
    obtain ⟨ps, h1, h2⟩ := h
    rw [← h2]
    exact .tup (sqT_mono e s) (pys_ok e q h1)
  | .ty _, _, _, _, h => by simp only [D.py] at h; cases h
  | .ecl _, _, _, _, h => by simp only [D.py] at h; cases h
  | .ccl _, _, _, _, h => by simp only [D.py] at h; cases h
  | .ins _ _, _, _, _, h => by simp only [D.py] at h; cases h
  | .ob _, _, _, _, h => by simp only [D.py] at h; cases h
  | .exc _, _, _, _, h => by simp only [D.py] at h; cases h
  | .scr _, _, _, _, h => by simp only [D.py] at h; cases h
theorem pys_ok {G : G} {H : Hp} (e : ∀ a o, G.I a = some o → H a = some o) : ∀ {ds : List D} {ps : List PyData} {xs : List V}, Rps k G ds xs → D.pys ds = some ps → DpAll k.K H xs ps
  | [], ps, xs, r, h => by
    have r : xs = [] := r
    simp only [D.pys, Option.some.injEq] at h
    rw [r, ← h]; exact .nil
  | d :: ds, ps, xs, ⟨y, ys, e1, r, q⟩, h => by
    simp only [D.pys] at h
    obtain ⟨p, h1, h2⟩ := Option.bind_eq_some_iff.mp h
    obtain ⟨ps', h3, h4⟩ := Option.map_eq_some_iff.mp h2
    rw [e1, ← h4]
    exact .cons (py_ok e r h1) (pys_ok e q h3)
end
/-- a list of the store as it stands -/
def D.now (μ : Sto) : D → D
  | .ob n => match μ[n]? with
    | some (.lst xs) => .lst xs
    | _ => .ob n
  | d => d
theorem now_py {G : G} {μ : Sto} {H : Hp} {d : D} {x : V} {p : PyData} (rs : Rs k G μ H) (r : Rp k G d x) (h : (d.now μ).py = some p) : Dp k.K H x p := by
  cases d with
  | ob n =>
    obtain ⟨a, e1, e2⟩ := r
    unfold D.now at h
    cases z : μ[n]? with
    | none => simp only [z] at h; simp only [D.py] at h; cases h
    | some m =>
      simp only [z] at h
      cases m with
      | lst xs =>
        obtain ⟨ys, h1, h2⟩ := rs.obj n _ a z e2
        simp only [D.py, Option.map_eq_some_iff] at h
        obtain ⟨ps, h3, h4⟩ := h
        rw [e1, ← h4]
        exact .lst (.inl (.inl h1)) (pys_ok rs.ex h2 h3)
      | _ => simp only [D.py] at h; cases h
  | _ => exact py_ok rs.ex r h
def dEqD (f : Bool → Bool) : D → D → Sto → R D := fun d e μ => match (d.now μ).py with
  | some p => (match (e.now μ).py with
    | some q => if (SeqAt.shaped p && SeqAt.shaped q) = true then .ok (.bl (f (PyData.eqv p q))) μ else .fail
    | none => .fail)
  | none => .fail
def dEqS (f : Bool → Bool) : D → D → Sto → R D := fun d e μ => match d, e with
  | .str a, .str b => .ok (.bl (f (decide (a = b)))) μ
  | _, _ => .fail
def dEq : D → D → Sto → R D := fun d e μ => (dEqS id d e μ).orF (dEqD id d e μ)
def dNe : D → D → Sto → R D := fun d e μ => (dEqS not d e μ).orF (dEqD not d e μ)
theorem S_inj {a b : List Nat} : (S a = S b) ↔ a = b := ⟨fun h => congrArg (fun x : Str => x.cps.toList) h, fun h => by rw [h]⟩
theorem os_eqS : OpS k rEq (dEqS id) := fun d e x y G μ H Q E rx ry rs p => by
  cases d with
  | str a =>
    cases e with
    | str b =>
      rw [show x = _ from rx, show y = _ from ry]
      refine ⟨rfl, Post.ret p rs (congrArg V.bl ?_)⟩
      show decide (V.str (S a) = V.str (S b)) = decide (a = b)
      by_cases z : a = b
      · rw [z]; simp
      · rw [decide_eq_false z, decide_eq_false]; intro q; exact z (S_inj.mp (V.str.inj q))
    | _ => exact p.elim
  | _ => exact p.elim
theorem os_neS : OpS k rNe (dEqS not) := fun d e x y G μ H Q E rx ry rs p => by
  cases d with
  | str a =>
    cases e with
    | str b =>
      rw [show x = _ from rx, show y = _ from ry]
      refine ⟨rfl, Post.ret p rs (congrArg V.bl ?_)⟩
      show (!decide (V.str (S a) = V.str (S b))) = !decide (a = b)
      by_cases z : a = b
      · rw [z]; simp
      · rw [decide_eq_false z, decide_eq_false]; intro q; exact z (S_inj.mp (V.str.inj q))
    | _ => exact p.elim
  | _ => exact p.elim
theorem os_eqD_aux {f : Bool → Bool} {r : R2} (hr : ∀ x y H Q p q, Dp k.K H x p → Dp k.K H y q → SeqAt.shaped p = true → SeqAt.shaped q = true → Q (.bl (f (PyData.eqv p q))) H → r x y H Q) : OpS k r (dEqD f) := fun d e x y G μ H Q E rx ry rs p => by
  unfold dEqD at p
  cases z1 : (d.now μ).py with
  | none => rw [z1] at p; exact p.elim
  | some a =>
    rw [z1] at p
    have p : Post k G (Rp k) (match (e.now μ).py with
      | some q => if (SeqAt.shaped a && SeqAt.shaped q) = true then R.ok (.bl (f (PyData.eqv a q))) μ else R.fail
      | none => R.fail) Q E := p
    cases z2 : (e.now μ).py with
    | none => rw [z2] at p; exact p.elim
    | some b =>
      rw [z2] at p
      have p : Post k G (Rp k) (if (SeqAt.shaped a && SeqAt.shaped b) = true then R.ok (.bl (f (PyData.eqv a b))) μ else R.fail) Q E := p
      by_cases h : (SeqAt.shaped a && SeqAt.shaped b) = true
      · rw [if_pos h] at p
        obtain ⟨h1, h2⟩ := Bool.and_eq_true_iff.mp h
        exact hr x y H Q a b (now_py rs rx z1) (now_py rs ry z2) h1 h2 (p.ret rs rfl)
      · rw [if_neg h] at p; exact p.elim
theorem op_eqAny {X : Cx} (hu : X.A.units + 64 < cLine) : OpR X (compareOp .Eq) (fun x y H Q => rEq x y H Q ∨ rEqD X.K x y H Q) := op_eq.or (op_eqD hu)
theorem op_neAny {X : Cx} (hu : X.A.units + 64 < cLine) : OpR X (compareOp .NotEq) (fun x y H Q => rNe x y H Q ∨ rNeD X.K x y H Q) := op_ne.or (op_neD hu)
theorem os_eq : OpS k (fun x y H Q => rEq x y H Q ∨ rEqD k.K x y H Q) dEq := OpS.or os_eqS (os_eqD_aux fun x y H Q p q h1 h2 h3 h4 h => ⟨p, q, h1, h2, h3, h4, h⟩)
theorem os_ne : OpS k (fun x y H Q => rNe x y H Q ∨ rNeD k.K x y H Q) dNe := OpS.or os_neS (os_eqD_aux fun x y H Q p q h1 h2 h3 h4 h => ⟨p, q, h1, h2, h3, h4, h⟩)
/-- in, not in -/
def dInS (f : Bool → Bool) : D → D → Sto → R D := fun d e μ => match d, e with
  | .str [c], .str b => .ok (.bl (f (decide (c ∈ b)))) μ
  | _, _ => .fail
def dInD (f : Bool → Bool) : D → D → Sto → R D := fun d e μ => match (d.now μ).py with
  | some p => (match (e.now μ).py with
    | some (.list qs) => if (SeqAt.shaped p && SeqAt.shaped (.list qs)) = true then .ok (.bl (f (qs.any fun z => PyData.eqv z p))) μ else .fail
    | _ => .fail)
  | none => .fail
def dIn : D → D → Sto → R D := fun d e μ => (dInS id d e μ).orF (dInD id d e μ)
def dNotIn : D → D → Sto → R D := fun d e μ => (dInS not d e μ).orF (dInD not d e μ)
def rInS : R2 := fun x y H Q => ∃ (c : Nat) (z : Str), x = .str ⟨#[c]⟩ ∧ y = .str z ∧ Q (.bl (decide (c ∈ z.cps.toList))) H
def rNotInS : R2 := fun x y H Q => ∃ (c : Nat) (z : Str), x = .str ⟨#[c]⟩ ∧ y = .str z ∧ Q (.bl (!decide (c ∈ z.cps.toList))) H
theorem os_inS_aux {f : Bool → Bool} {r : R2} (hr : ∀ (c : Nat) (b : List Nat) H Q, Q (.bl (f (decide (c ∈ b)))) H → r (.str (S [c])) (.str (S b)) H Q) : OpS k r (dInS f) := fun d e x y G μ H Q E rx ry rs p => by
  cases d with
  | str a =>
    cases e with
    | str b =>
      cases a with
      | nil => exact p.elim
      | cons c a =>
        cases a with
        | cons _ _ => exact p.elim
        | nil =>
          rw [show x = _ from rx, show y = _ from ry]
          exact hr c b H Q (Post.ret p rs rfl)
    | _ =>
      cases a with
      | nil => exact p.elim
      | cons c a => cases a <;> exact p.elim
  | _ => exact p.elim
theorem os_inD_aux {f : Bool → Bool} {r : R2} (hr : ∀ x y H Q p qs, Dp k.K H x p → Dp k.K H y (.list qs) → SeqAt.shaped p = true → SeqAt.shaped (.list qs) = true → Q (.bl (f (qs.any fun z => PyData.eqv z p))) H → r x y H Q) : OpS k r (dInD f) := fun d e x y G μ H Q E rx ry rs p => by
  unfold dInD at p
  cases z1 : (d.now μ).py with
  | none => rw [z1] at p; exact p.elim
  | some a =>
    rw [z1] at p
    have p : Post k G (Rp k) (match (e.now μ).py with
      | some (.list qs) => if (SeqAt.shaped a && SeqAt.shaped (.list qs)) = true then R.ok (.bl (f (qs.any fun z => PyData.eqv z a))) μ else R.fail
      | _ => R.fail) Q E := p
    cases z2 : (e.now μ).py with
    | none => rw [z2] at p; exact p.elim
    | some b =>
      rw [z2] at p
      cases b with
      | list qs =>
        have p : Post k G (Rp k) (if (SeqAt.shaped a && SeqAt.shaped (.list qs)) = true then R.ok (.bl (f (qs.any fun z => PyData.eqv z a))) μ else R.fail) Q E := p
        by_cases h : (SeqAt.shaped a && SeqAt.shaped (.list qs)) = true
        · rw [if_pos h] at p
          obtain ⟨h1, h2⟩ := Bool.and_eq_true_iff.mp h
          exact hr x y H Q a qs (now_py rs rx z1) (now_py rs ry z2) h1 h2 (p.ret rs rfl)
        · rw [if_neg h] at p; exact p.elim
      | _ => exact p.elim
theorem op_inAny {X : Cx} (hu : X.A.units + 65 < cLine) : OpR X (compareOp .In) (fun x y H Q => rInS x y H Q ∨ rInD X.K x y H Q) := OpR.or (r := rInS) op_in_sign (op_inD hu)
theorem op_notInAny {X : Cx} (hu : X.A.units + 65 < cLine) : OpR X (compareOp .NotIn) (fun x y H Q => rNotInS x y H Q ∨ rNotInD X.K x y H Q) := OpR.or (r := rNotInS) op_notIn_sign (op_notInD hu)
theorem os_in : OpS k (fun x y H Q => rInS x y H Q ∨ rInD k.K x y H Q) dIn := OpS.or (os_inS_aux fun c b H Q h => ⟨c, S b, rfl, rfl, h⟩) (os_inD_aux fun x y H Q p q h1 h2 h3 h4 h => ⟨p, q, h1, h2, h3, h4, h⟩)
theorem os_notIn : OpS k (fun x y H Q => rNotInS x y H Q ∨ rNotInD k.K x y H Q) dNotIn := OpS.or (os_inS_aux fun c b H Q h => ⟨c, S b, rfl, rfl, h⟩) (os_inD_aux fun x y H Q p q h1 h2 h3 h4 h => ⟨p, q, h1, h2, h3, h4, h⟩)
end
end Z

set_option Elab.async false
set_option linter.all false
set_option maxRecDepth 100000
set_option maxHeartbeats 2000000
/-! Sim, part 5: subscripts, slices, built-ins, methods. -/
namespace Z
open PySem PySem.Spec PyProof.Rows L2
section
variable {k : Kx}
/-! ### d[i] -/
def atD (xs : List D) (i : Int) : Option D := (ixN xs.length i).bind fun j => xs[j]?
theorem atD_ok {g : G} {xs : List D} {vs : List V} {i : Int} {d : D} (r : Rps k g xs vs) (h : atD xs i = some d) : ∃ v, atI vs i = some v ∧ Rp k g d v := by
  unfold atD at h
  unfold atI
  rw [r.length]
  obtain ⟨j, h1, h2⟩ := Option.bind_eq_some_iff.mp h
  obtain ⟨v, h3, h4⟩ := r.get h2
  exact ⟨v, by rw [h1]; exact h3, h4⟩
def dIx : D → D → Sto → R D := fun d e μ => match e with
  | .int i => (match d with
    | .tup xs => (match atD xs i with
      | some x => .ok x μ
      | none => .fail)
    | .str s => if s.length ≤ line then (match atI s i with
      | some c => .ok (.str [c]) μ
      | none => .fail) else .fail
    | _ => (match d.sqL μ with
      | some xs => (match atD xs i with
        | some x => .ok x μ
        | none => .fail)
      | none => .fail))
  | _ => .fail
theorem os_ix : OpS k (rIx k.K) dIx := fun d e x y g μ H Q E rx ry rs p => by
  cases e with
  | int i =>
    rw [show y = _ from ry]
    have lcase : ∀ (o : Option (List D)), o = d.sqL μ → Post k g (Rp k) (match o with
      | some xs => (match atD xs i with
        | some x => R.ok x μ
        | none => R.fail)
      | none => R.fail) Q E → rIx k.K x (.int i) H Q := fun o eo p => by
      cases o with
      | none => exact p.elim
      | some xs =>
        have p : Post k g (Rp k) (match atD xs i with
          | some x => R.ok x μ
          | none => R.fail) Q E := p
        cases z : atD xs i with
        | none => rw [z] at p; exact p.elim
        | some d' =>
          rw [z] at p
          obtain ⟨a, vs, e1, s, r⟩ := sqL_ok rs rx eo.symm
          obtain ⟨v, h1, h2⟩ := atD_ok r z
          exact .inl ⟨a, vs, i, v, e1, rfl, s, h1, p.ret rs h2⟩
    cases d with
    | tup xs =>
      have p : Post k g (Rp k) (match atD xs i with
        | some x => R.ok x μ
        | none => R.fail) Q E := p
      cases z : atD xs i with
      | none => rw [z] at p; exact p.elim
      | some d' =>
        rw [z] at p
        obtain ⟨a, vs, e1, s, r⟩ := tup_ok rs rx
        obtain ⟨v, h1, h2⟩ := atD_ok r z
        exact .inr (.inl ⟨a, vs, i, v, e1, rfl, s, h1, p.ret rs h2⟩)
    | str s =>
      have p : Post k g (Rp k) (if s.length ≤ line then (match atI s i with
        | some c => R.ok (.str [c]) μ
        | none => R.fail) else R.fail) Q E := p
      by_cases hl : s.length ≤ line
      · rw [if_pos hl] at p
        cases z : atI s i with
        | none => rw [z] at p; exact p.elim
        | some c =>
          rw [z] at p
          exact .inr (.inr ⟨S s, i, c, rx, rfl, by rw [S_len]; exact line_le hl, z, p.ret rs rfl⟩)
      · rw [if_neg hl] at p; exact p.elim
    | _ => exact lcase _ rfl p
  | _ => exact p.elim
end
section
variable {X : Cx} {hot : Option (Addr × Ec)} {W : WX} {a b c e o : Expr} {es : List Expr} {A B C : AE} {As : AA} {pos : Pos}
theorem e_ix (ha : EE X hot W a A) (hb : EE X hot W b B) (hs : PlainIx b := by intro _ _; rfl) : EE X hot W (.Subscript a b pos) (aOp dIx A B) := by
  obtain ⟨ta, pa, sa⟩ := ha
  obtain ⟨tb, pb, sb⟩ := hb
  exact ⟨_, pe_ix ix_seq pa pb hs, simE_op os_ix sa sb⟩
def aUn (f : D → Sto → R D) (A : AE) : AE := fun env μ => (A env μ).bind fun d m => f d m
theorem e_un {op : UnaryOp} {r : V → Hp → VK → Prop} {f : D → Sto → R D} (ho : UnR X (unaryOp op) r) (hr : UnS (kx X hot) r f) (ha : EE X hot W a A) : EE X hot W (.UnaryOp op a pos) (aUn f A) := by
  obtain ⟨ta, pa, sa⟩ := ha
  exact ⟨_, pe_un ho pa, fun σ env g μ H Q re rs p => sa σ env g μ H _ re rs (p.bind fun d m v h H1 l rs1 rv p1 => hr d v h m H1 Q _ rv rs1 p1)⟩
def dNeg : D → Sto → R D := fun d μ => match d with
  | .int i => .ok (.int (-i)) μ
  | _ => .fail
theorem us_neg {k : Kx} : UnS k (rU fun i => .int (-i)) dNeg := fun d x g μ H Q E rx rs p => by
  cases d with
  | int i => exact ⟨i, rx, p.ret rs rfl⟩
  | _ => exact p.elim
/-! ### slices -/
abbrev AO := En → Sto → R (Option Int)
def EO (X : Cx) (hot : Option (Addr × Ec)) (W : WX) (e : Option Expr) (a : AO) : Prop := ∃ t, PO X e t ∧ ∀ (σ : St) (env : En) (g : G) (μ : Sto) (H : Hp) (Q : Option Int → Hp → Prop), RpE (kx X hot) g env σ → Rs (kx X hot) g μ H → Post (kx X hot) g (fun _ a b => a = b) (a env μ) Q (fun c d H' => W c d σ H') → t σ H Q
def aNoPart : AO := fun _ μ => .ok none μ
def aPart (A : AE) : AO := fun env μ => (A env μ).bind fun d m => match d with
  | .int i => .ok (some i) m
  | _ => .fail
theorem o_none : EO X hot W none aNoPart := ⟨_, po_none, fun σ env g μ H Q re rs p => Post.ret p rs rfl⟩
theorem o_some (h : EE X hot W e A) : EO X hot W (some e) (aPart A) := by
  obtain ⟨t, p, s⟩ := h
  refine ⟨_, po_some p, fun σ env g μ H Q re rs q => s σ env g μ H _ re rs (q.bind fun d m v h H1 l rs1 rv q1 => ?_)⟩
  cases d with
  | int i => exact ⟨i, rv, Post.ret q1 rs1 rfl⟩
  | _ => exact q1.elim
def cutL {α : Type} (xs : List α) (lo hi : Option Int) : List α := (xs.drop (HT.sIx xs.length 0 lo)).take (HT.sIx xs.length xs.length hi - HT.sIx xs.length 0 lo)
def dSl (d : D) (lo hi : Option Int) : Sto → R D := fun μ => match d with
  | .str s => if s.length ≤ line then .ok (.str (cutL s lo hi)) μ else .fail
  | _ => (match d.sqL μ with
    | some xs => .ok (.lst (cutL xs lo hi)) μ
    | none => .fail)
def aSl (A : AE) (L U : AO) : AE := fun env μ => (A env μ).bind fun d m1 => (L env m1).bind fun l m2 => (U env m2).bind fun u m3 => dSl d l u m3
theorem Rps.cut {k : Kx} {g : G} {xs : List D} {vs : List V} (r : Rps k g xs vs) (lo hi : Option Int) : Rps k g (cutL xs lo hi) (cutV vs lo hi) := by
  unfold cutL cutV
  rw [r.length]
  exact (r.drop _).take _
theorem e_slice {lo hi : Option Expr} {L U : AO} {p2 : Pos} (ha : EE X hot W a A) (hl : EO X hot W lo L) (hu : EO X hot W hi U) : EE X hot W (.Subscript a (.Slice lo hi none p2) pos) (aSl A L U) := by
  obtain ⟨ta, pa, sa⟩ := ha
  obtain ⟨tl, pl, sl⟩ := hl
  obtain ⟨tu, pu, su⟩ := hu
  refine ⟨_, pe_slice (SlR.or sl_list sl_str) pa pl pu, fun σ env g μ H Q re rs p => ?_⟩
  refine sa σ env g μ H _ re rs (p.bind fun d m1 x g1 H1 l1 rs1 rx p1 => ?_)
  refine sl σ env g1 m1 H1 _ (re.mono l1) rs1 (p1.bind fun lv m2 lv' g2 H2 l2 rs2 e2 p2 => ?_)
  subst e2
  refine su σ env g2 m2 H2 _ (re.mono (l1.trans l2)) rs2 (p2.bind fun uv m3 uv' g3 H3 l3 rs3 e3 p3 => ?_)
  subst e3
  have rx3 := rx.mono (l2.trans l3)
  have lcase : ∀ (o : Option (List D)), o = d.sqL m3 → Post (kx X hot) g3 (Rp (kx X hot)) (match o with
      | some xs => R.ok (.lst (cutL xs lv uv)) m3
      | none => R.fail) Q (fun c d H' => W c d σ H') → rSlL X.K x lv uv H3 Q := fun o eo p => by
    cases o with
    | none => exact p.elim
    | some xs =>
      obtain ⟨ad, vs, e1, s, r⟩ := sqL_ok rs3 rx3 eo.symm
      exact ⟨ad, vs, e1, s, fun q hq => p.newL rs3 (r.cut lv uv) hq⟩
  cases d with
  | str s =>
    have p3 : Post (kx X hot) g3 (Rp (kx X hot)) (if s.length ≤ line then R.ok (.str (cutL s lv uv)) m3 else R.fail) Q (fun c d H' => W c d σ H') := p3
    by_cases hz : s.length ≤ line
    · rw [if_pos hz] at p3
      refine .inr ⟨S s, rx3, by rw [S_len]; exact line_le hz, p3.ret rs3 ?_⟩
      show V.str (cutS (S s) lv uv) = V.str (S (cutL s lv uv))
      unfold cutS cutL
      rw [S_len]
    · rw [if_neg hz] at p3; exact p3.elim
  | _ => exact .inl (lcase _ rfl p3)
/-! ### built-in functions, by values -/
def aCB (f : List D → Sto → R D) (As : AA) : AE := fun env μ => (As env μ).bind fun ds m => f ds m
theorem e_callB {x : Str} {id : String} {r : List V → Hp → VK → Prop} {f : List D → Sto → R D} {p : Pos} (hc : CallR X (.builtin id) r) (hr : CallS (kx X hot) r f) (hm : X.mg x = none) (ha : EA X hot W (e :: es) As) (hg : Gl X x := by rfl) (hv : bootBuiltins x = some (.builtin id) := by decide +kernel)
    (hn : x ≠ "__name__" := by decide) (hdb : (x == ("__debug__" : Str)) = false := by decide) (he : starEach (e :: es) X.env = (false, eval e X.env) :: starEach es X.env := by rfl) (hpl : (backTo pos (starEach es X.env)).any (·.1) = false := by rfl) : EE X hot W (.Call (.Name x p) (e :: es) [] pos) (aCB f As) := by
  obtain ⟨t, pt, st⟩ := ha
  exact ⟨_, pe_callB hc hg hm hv pt hn hdb he hpl, fun σ env g μ H Q re rs q => st σ env g μ H _ re rs (q.bind fun ds m vs h H1 l rs1 rv q1 => hr ds vs h m H1 Q _ rv rs1 q1)⟩
theorem e_callTy {x : Str} {T : String} {r : List V → Hp → VK → Prop} {f : List D → Sto → R D} {p : Pos} (hc : CallR X (.type T) r) (hr : CallS (kx X hot) r f) (hm : X.mg x = none) (ha : EA X hot W (e :: es) As) (hg : Gl X x := by rfl) (hv : bootBuiltins x = some (.type T) := by decide +kernel)
    (hn : x ≠ "__name__" := by decide) (hdb : (x == ("__debug__" : Str)) = false := by decide) (he : starEach (e :: es) X.env = (false, eval e X.env) :: starEach es X.env := by rfl) (hpl : (backTo pos (starEach es X.env)).any (·.1) = false := by rfl) : EE X hot W (.Call (.Name x p) (e :: es) [] pos) (aCB f As) := by
  obtain ⟨t, pt, st⟩ := ha
  exact ⟨_, pe_callTy hc hg hm hv pt hn hdb he hpl, fun σ env g μ H Q re rs q => st σ env g μ H _ re rs (q.bind fun ds m vs h H1 l rs1 rv q1 => hr ds vs h m H1 Q _ rv rs1 q1)⟩
theorem rps1 {k : Kx} {g : G} {d : D} {vs : List V} (h : Rps k g [d] vs) : ∃ v, vs = [v] ∧ Rp k g d v := by
  obtain ⟨v, vr, e1, r1, r2⟩ := h
  exact ⟨v, by rw [e1, show vr = [] from r2], r1⟩
theorem rps2 {k : Kx} {g : G} {d e : D} {vs : List V} (h : Rps k g [d, e] vs) : ∃ v w, vs = [v, w] ∧ Rp k g d v ∧ Rp k g e w := by
  obtain ⟨v, vr, e1, r1, r2⟩ := h
  obtain ⟨w, e2, r3⟩ := rps1 r2
  exact ⟨v, w, by rw [e1, e2], r1, r3⟩
def one1 (f : D → Sto → R D) : List D → Sto → R D := fun ds μ => match ds with
  | d :: r => (match r with
    | [] => f d μ
    | _ => .fail)
  | _ => .fail
def two2 (f : D → D → Sto → R D) : List D → Sto → R D := fun ds μ => match ds with
  | d :: r => one1 (f d) r μ
  | _ => .fail
theorem cs_one {k : Kx} {r : List V → Hp → VK → Prop} {f : D → Sto → R D} (h : ∀ (d : D) (x : V) (g : G) (μ : Sto) (H : Hp) (Q : VK) (E : XK), Rp k g d x → Rs k g μ H → Post k g (Rp k) (f d μ) Q E → r [x] H Q) : CallS k r (one1 f) := fun ds xs g μ H Q E rx rs p => by
  cases ds with
  | nil => exact p.elim
  | cons d ds =>
    cases ds with
    | cons _ _ => exact p.elim
    | nil =>
      obtain ⟨v, e1, rv⟩ := rps1 rx
      rw [e1]
      exact h d v g μ H Q E rv rs p
theorem cs_two {k : Kx} {r : List V → Hp → VK → Prop} {f : D → D → Sto → R D} (h : ∀ (d e : D) (x y : V) (g : G) (μ : Sto) (H : Hp) (Q : VK) (E : XK), Rp k g d x → Rp k g e y → Rs k g μ H → Post k g (Rp k) (f d e μ) Q E → r [x, y] H Q) : CallS k r (two2 f) := fun ds xs g μ H Q E rx rs p => by
  cases ds with
  | nil => exact p.elim
  | cons d ds =>
    cases ds with
    | nil => exact p.elim
    | cons e ds =>
      cases ds with
      | cons _ _ => exact p.elim
      | nil =>
        obtain ⟨v, w, e1, rv, rw'⟩ := rps2 rx
        rw [e1]
        exact h d e v w g μ H Q E rv rw' rs p
/-- len -/
def dLen : D → Sto → R D := fun d μ => match d with
  | .str s => if s.length ≤ line then .ok (.int s.length) μ else .fail
  | .tup xs => .ok (.int xs.length) μ
  | _ => (match d.sqL μ with
    | some xs => .ok (.int xs.length) μ
    | none => .fail)
theorem cs_len {k : Kx} : CallS k (fun xs H Q => ∃ x n, xs = [x] ∧ LenV k.K x H n ∧ Q (.int n) H) (one1 dLen) := cs_one fun d x g μ H Q E rx rs p => by
  have lcase : ∀ (o : Option (List D)), o = d.sqL μ → Post k g (Rp k) (match o with
      | some xs => R.ok (.int xs.length) μ
      | none => R.fail) Q E → ∃ y n, [x] = [y] ∧ LenV k.K y H n ∧ Q (.int n) H := fun o eo p => by
    cases o with
    | none => exact p.elim
    | some xs =>
      obtain ⟨ad, vs, e1, s, r⟩ := sqL_ok rs rx eo.symm
      refine ⟨x, vs.length, rfl, ?_, p.ret rs (by rw [r.length]; exact rfl)⟩
      rw [e1]
      exact .inl ⟨vs, s, rfl⟩
  cases d with
  | str s =>
    have p : Post k g (Rp k) (if s.length ≤ line then R.ok (.int s.length) μ else R.fail) Q E := p
    by_cases hl : s.length ≤ line
    · rw [if_pos hl] at p
      rw [show x = _ from rx]
      exact ⟨_, s.length, rfl, ⟨by rw [S_len]; exact line_le hl, (S_len s).symm⟩, p.ret rs rfl⟩
    · rw [if_neg hl] at p; exact p.elim
  | tup xs =>
    obtain ⟨ad, vs, e1, s, r⟩ := tup_ok rs rx
    refine ⟨x, vs.length, rfl, ?_, Post.ret p rs (by rw [r.length]; exact rfl)⟩
    rw [e1]
    exact .inr ⟨vs, s, rfl⟩
  | _ => exact lcase _ rfl p
/-- abs, max, min of ints -/
def dAbs : D → Sto → R D := fun d μ => match d with
  | .int i => .ok (.int (if i < 0 then -i else i)) μ
  | _ => .fail
theorem cs_abs {k : Kx} : CallS k (fun xs H Q => ∃ i, xs = [.int i] ∧ Q (.int (if i < 0 then -i else i)) H) (one1 dAbs) := cs_one fun d x g μ H Q E rx rs p => by
  cases d with
  | int i => exact ⟨i, by rw [show x = _ from rx], Post.ret p rs rfl⟩
  | _ => exact p.elim
def dMax2 : D → D → Sto → R D := dI fun i j => .int (if j > i then j else i)
def dMin2 : D → D → Sto → R D := dI fun i j => .int (if j < i then j else i)
theorem cs_I2 {k : Kx} {f : Int → Int → Int} : CallS k (fun xs H Q => ∃ i j, xs = [.int i, .int j] ∧ Q (.int (f i j)) H) (two2 (dI fun i j => .int (f i j))) := cs_two fun d e x y g μ H Q E rx ry rs p => by
  cases d with
  | int i =>
    cases e with
    | int j => exact ⟨i, j, by rw [show x = _ from rx, show y = _ from ry], Post.ret p rs rfl⟩
    | _ => exact p.elim
  | _ => exact p.elim
/-- str of an int -/
def intS (i : Int) : List Nat := if i < 0 then 45 :: TL.numL i.natAbs else TL.numL i.natAbs
theorem intS_ok (i : Int) : (Str.ofString (toString i)) = S (intS i) := by
  refine TL.ext_tl ?_
  show TL.tl (Str.ofString (toString i)) = intS i
  unfold intS
  by_cases h : i < 0
  · rw [if_pos h]
    obtain ⟨n, rfl⟩ : ∃ n : Nat, i = Int.negSucc n := ⟨i.natAbs - 1, by omega⟩
    show TL.tl (Str.ofString ("-" ++ Nat.repr (n + 1))) = _
    rw [TL.tl_ofString, String.toList_append]
    show ("-".toList ++ (Nat.repr (n + 1)).toList).map Char.toNat = _
    rw [List.map_append]
    have e1 := TL.tl_num (n + 1)
    rw [TL.tl_ofString] at e1
    have e2 : (toString ((n + 1 : Nat) : Int)) = Nat.repr (n + 1) := rfl
    rw [e2] at e1
    rw [e1]
    rfl
  · rw [if_neg h]
    obtain ⟨n, rfl⟩ : ∃ n : Nat, i = (n : Int) := ⟨i.natAbs, by omega⟩
    exact TL.tl_num n
def dStr : D → Sto → R D := fun d μ => match d with
  | .int i => if i.natAbs.log2 < 1920 then .ok (.str (intS i)) μ else .fail
  | _ => .fail
theorem cs_str {k : Kx} : CallS k (fun xs H Q => ∃ i, xs = [.int i] ∧ i.natAbs.log2 < 1920 ∧ Q (.str (toString i)) H) (one1 dStr) := cs_one fun d x g μ H Q E rx rs p => by
  cases d with
  | int i =>
    have p : Post k g (Rp k) (if i.natAbs.log2 < 1920 then R.ok (.str (intS i)) μ else R.fail) Q E := p
    by_cases h : i.natAbs.log2 < 1920
    · rw [if_pos h] at p
      exact ⟨i, by rw [show x = _ from rx], h, p.ret rs (congrArg V.str (intS_ok i))⟩
    · rw [if_neg h] at p; exact p.elim
  | _ => exact p.elim
/-- int of an int, a truth, a text -/
def dInt : D → Sto → R D := fun d μ => match d with
  | .int i => .ok (.int i) μ
  | .bl b => .ok (.int (if b then 1 else 0)) μ
  | .str s => (match PySem.intText? (S s) with
    | some n => if s.length ≤ 640 then .ok (.int n) μ else .fail
    | none => .fail)
  | _ => .fail
theorem cs_int {k : Kx} : CallS k (fun xs H Q => ((∃ i, xs = [.int i] ∧ Q (.int i) H) ∨ ∃ k, xs = [.bl k] ∧ Q (.int (if k then 1 else 0)) H) ∨ ∃ a n, xs = [.str a] ∧ PySem.intText? a = some n ∧ a.length ≤ 640 ∧ Q (.int n) H) (one1 dInt) := cs_one fun d x g μ H Q E rx rs p => by
  cases d with
  | int i => exact .inl (.inl ⟨i, by rw [show x = _ from rx], Post.ret p rs rfl⟩)
  | bl b => exact .inl (.inr ⟨b, by rw [show x = _ from rx], Post.ret p rs rfl⟩)
  | str s =>
    have p : Post k g (Rp k) (match PySem.intText? (S s) with
      | some n => if s.length ≤ 640 then R.ok (.int n) μ else R.fail
      | none => R.fail) Q E := p
    cases z : PySem.intText? (S s) with
    | none => rw [z] at p; exact p.elim
    | some n =>
      rw [z] at p
      have p : Post k g (Rp k) (if s.length ≤ 640 then R.ok (.int n) μ else R.fail) Q E := p
      by_cases h : s.length ≤ 640
      · rw [if_pos h] at p
        exact .inr ⟨S s, n, by rw [show x = _ from rx], z, by rw [S_len]; exact h, p.ret rs rfl⟩
      · rw [if_neg h] at p; exact p.elim
  | _ => exact p.elim
theorem call_intAny : CallR X (.type "int") (fun xs H Q => ((∃ i, xs = [.int i] ∧ Q (.int i) H) ∨ ∃ k, xs = [.bl k] ∧ Q (.int (if k then 1 else 0)) H) ∨ ∃ a n, xs = [.str a] ∧ PySem.intText? a = some n ∧ a.length ≤ 640 ∧ Q (.int n) H) := CallR.or call_int1 call_int_str
/-- all, any of a list of truths -/
def bls : List D → Option (List Bool)
  | [] => some []
  | d :: r => match d with
    | .bl b => (bls r).map fun bs => b :: bs
    | _ => none
theorem bls_ok {k : Kx} {g : G} : ∀ {ds : List D} {bs : List Bool} {vs : List V}, bls ds = some bs → Rps k g ds vs → vs = bs.map V.bl
  | [], bs, vs, h, r => by cases h; exact r
  | d :: ds, bs, vs, h, r => by
    obtain ⟨v, vr, e1, r1, r2⟩ := r
    cases d with
    | bl b =>
      obtain ⟨bs', h1, h2⟩ := Option.map_eq_some_iff.mp (show (bls ds).map (fun bs => b :: bs) = some bs from h)
      rw [e1, ← h2, bls_ok h1 r2, show v = _ from r1]
      rfl
    | _ => cases h
def dAllQ (f : List Bool → Bool) : D → Sto → R D := fun d μ => match d.sqL μ with
  | some xs => (match bls xs with
    | some bs => .ok (.bl (f bs)) μ
    | none => .fail)
  | none => .fail
theorem cs_allQ {k : Kx} {f : List Bool → Bool} : CallS k (fun vs H Q => ∃ (a : Addr) (bs : List Bool), vs = [V.ref a] ∧ SqL k.K H a (bs.map V.bl) ∧ Q (.bl (f bs)) H) (one1 (dAllQ f)) := cs_one fun d x g μ H Q E rx rs p => by
  unfold dAllQ at p
  cases z : d.sqL μ with
  | none => rw [z] at p; exact p.elim
  | some xs =>
    rw [z] at p
    have p : Post k g (Rp k) (match bls xs with
      | some bs => R.ok (.bl (f bs)) μ
      | none => R.fail) Q E := p
    cases z2 : bls xs with
    | none => rw [z2] at p; exact p.elim
    | some bs =>
      rw [z2] at p
      obtain ⟨ad, vs, e1, s, r⟩ := sqL_ok rs rx z
      rw [bls_ok z2 r] at s
      exact ⟨ad, bs, by rw [e1], s, p.ret rs rfl⟩
end
end Z

set_option Elab.async false
set_option linter.all false
set_option maxRecDepth 100000
set_option maxHeartbeats 2000000
/-! Sim, part 6: methods of built-in types, isinstance, f-strings. -/
namespace Z
open PySem PySem.Spec PyProof.Rows L2
section
variable {k : Kx}
/-- isinstance of what is data, by a built-in type -/
def D.tyN (μ : Sto) : D → Option String
  | .non => some "NoneType"
  | .bl _ => some "bool"
  | .int _ => some "int"
  | .str _ => some "str"
  | .lst _ => some "list"
  | .tup _ => some "tuple"
  | .ob n => match μ[n]? with
    | some (.lst _) => some "list"
    | _ => none
  | _ => none
def isB (a T : String) : Bool := a == T || (a == "bool" && T == "int")
def tyOk (T : String) : Bool := T == "int" || (T == "bool" || (T == "str" || (T == "list" || T == "tuple")))
theorem kit_isB {K : PySem.W.Frag} {a T : String} (ha : a = "NoneType" ∨ a = "bool" ∨ a = "int" ∨ a = "str" ∨ a = "list" ∨ a = "tuple") (hT : tyOk T = true) : PySem.W.kitOne K (.type a) (.type T) = some (isB a T) := by
  have hT : T = "int" ∨ T = "bool" ∨ T = "str" ∨ T = "list" ∨ T = "tuple" := by
    unfold tyOk at hT
    simp only [Bool.or_eq_true, beq_iff_eq] at hT
    exact hT
  rcases ha with rfl | rfl | rfl | rfl | rfl | rfl <;> rcases hT with rfl | rfl | rfl | rfl | rfl <;> exact kit_ty (by decide +kernel)
theorem tyN_ok {g : G} {μ : Sto} {H : Hp} {d : D} {x : V} {a : String} (rs : Rs k g μ H) (r : Rp k g d x) (h : d.tyN μ = some a) : TyX k.K H x (.type a) ∧ (a = "NoneType" ∨ a = "bool" ∨ a = "int" ∨ a = "str" ∨ a = "list" ∨ a = "tuple") := by
  have tupc : ∀ {b : Addr} {ys : List V}, SqT k.K H b ys → TyX k.K H (.ref b) (.type "tuple") := fun {b ys} s => by
    rcases s with (s | ⟨o, s⟩) | ⟨o, its, n, e, c, _⟩
    · exact .base (.tup s)
    · exact .fTuple s
    · exact .kTuple e c
  have lstc : ∀ {b : Addr} {ys : List V}, Rd H b (.lst ys) → TyX k.K H (.ref b) (.type "list") := fun {b ys} s => by
    rcases s with s | ⟨o, s⟩
    · exact .base (.lst s)
    · exact .base (.frz s)
  cases d with
  | non => cases h; rw [show x = _ from r]; exact ⟨.base .non, .inl rfl⟩
  | bl b => cases h; rw [show x = _ from r]; exact ⟨.base (.bl b), .inr (.inl rfl)⟩
  | int b => cases h; rw [show x = _ from r]; exact ⟨.base (.int b), .inr (.inr (.inl rfl))⟩
  | str b => cases h; rw [show x = _ from r]; exact ⟨.base (.str _), .inr (.inr (.inr (.inl rfl)))⟩
  | lst ds => cases h; obtain ⟨b, ys, e, s, _⟩ := r; rw [e]; exact ⟨lstc (rs_rd rs s), .inr (.inr (.inr (.inr (.inl rfl))))⟩
  | tup ds => cases h; obtain ⟨b, ys, e, s, _⟩ := tup_ok rs r; rw [e]; exact ⟨tupc s, .inr (.inr (.inr (.inr (.inr rfl))))⟩
  | ob n =>
    obtain ⟨b, e1, e2⟩ := r
    have h : (match μ[n]? with
      | some (.lst _) => some "list"
      | _ => none) = some a := h
    cases z : μ[n]? with
    | none => rw [z] at h; cases h
    | some m =>
      rw [z] at h
      cases m with
      | lst ys => cases h; obtain ⟨us, h1, _⟩ := rs.obj n _ b z e2; rw [e1]; exact ⟨.base (.lst h1), .inr (.inr (.inr (.inr (.inl rfl))))⟩
      | _ => cases h
  | _ => cases h
def dIsi : D → D → Sto → R D := fun d e μ => match e with
  | .ty T => (match d.tyN μ with
    | some a => if tyOk T = true then .ok (.bl (isB a T)) μ else .fail
    | none => .fail)
  | _ => .fail
theorem cs_isi : CallS k (rIsi k.K) (two2 dIsi) := cs_two fun d e x y g μ H Q E rx ry rs p => by
  cases e with
  | ty T =>
    have p : Post k g (Rp k) (match d.tyN μ with
      | some a => if tyOk T = true then R.ok (.bl (isB a T)) μ else R.fail
      | none => R.fail) Q E := p
    cases z : d.tyN μ with
    | none => rw [z] at p; exact p.elim
    | some a =>
      rw [z] at p
      have p : Post k g (Rp k) (if tyOk T = true then R.ok (.bl (isB a T)) μ else R.fail) Q E := p
      by_cases hT : tyOk T = true
      · rw [if_pos hT] at p
        obtain ⟨t1, t2⟩ := tyN_ok rs rx z
        rw [show y = _ from ry]
        exact ⟨x, _, _, _, _, rfl, .ty T, t1, kit_isB t2 hT, p.ret rs rfl⟩
      · rw [if_neg hT] at p; exact p.elim
  | _ => exact p.elim
end
section
variable {X : Cx} {hot : Option (Addr × Ec)} {W : WX} {a b c e o : Expr} {es : List Expr} {A B C : AE} {As : AA} {pos apos : Pos} {name : Str} {T id : String}
/-! ### methods of built-in types -/
def MtS (k : Kx) (T : String) (r : V → List V → Hp → VK → Prop) (f : D → List D → Sto → R D) : Prop := ∀ (d : D) (ds : List D) (x : V) (xs : List V) (g : G) (μ : Sto) (H : Hp) (Q : VK) (E : XK), Rp k g d x → Rps k g ds xs → Rs k g μ H → Post k g (Rp k) (f d ds μ) Q E → r x xs H Q
def D.isT (μ : Sto) (T : String) : D → Bool
  | .str _ => T == "str"
  | d => T == "list" && (d.sqL μ).isSome
theorem isT_ok {k : Kx} {g : G} {μ : Sto} {H : Hp} {d : D} {x : V} (rs : Rs k g μ H) (r : Rp k g d x) (h : d.isT μ T = true) : tyV k.K T x H := by
  have lcase : (T == "list" && (d.sqL μ).isSome) = true → tyV k.K T x H := fun h => by
    obtain ⟨h1, h2⟩ := Bool.and_eq_true_iff.mp h
    obtain ⟨xs, z⟩ := Option.isSome_iff_exists.mp h2
    obtain ⟨ad, vs, e1, s, _⟩ := sqL_ok rs r z
    rw [e1]
    exact .inl ⟨beq_iff_eq.mp h1, vs, s⟩
  cases d with
  | str s => rw [show x = _ from r]; exact beq_iff_eq.mp h
  | _ => exact lcase h
def aBM (T : String) (f : D → List D → Sto → R D) (A : AE) (As : AA) : AE := fun env μ => (A env μ).bind fun d m => if d.isT m T = true then (As env m).bind fun ds m2 => f d ds m2 else .fail
theorem e_bm {r : V → List V → Hp → VK → Prop} {f : D → List D → Sto → R D} (pa : PlainAttrs T) (slot : Slot T name id) (hty : typeOf (.builtin id) = pure (.type "method_descriptor")) (hm : MtR X id r) (hr : MtS (kx X hot) T r f) (ho : EE X hot W o A) (ha : EA X hot W (e :: es) As)
    (hbase : attributeBase o name X.env (eval o X.env) = eval o X.env := by rfl)
    (hfew : ((backTo pos (starEach (e :: es) X.env)).all (fun x => !x.1) && (backToKw pos (keywordEach [] X.env)).all (fun x => x.1.isSome)
      && decide ((e :: es).length + ([] : List Keyword).length + (if ([] : List Keyword).isEmpty then 0 else 1) < 30)) = true := by rfl)
    (hline : (apos.endLine == pos.line) = true := by rfl) (hs : starEach (e :: es) X.env = (false, eval e X.env) :: starEach es X.env := by rfl) (hplain : (backTo pos (starEach es X.env)).any (·.1) = false := by rfl) :
    EE X hot W (.Call (.Attribute o name apos) (e :: es) [] pos) (aBM T f A As) := by
  obtain ⟨to, po, so⟩ := ho
  obtain ⟨ta, pa', sa⟩ := ha
  refine ⟨_, pe_bm pa slot hty hm po pa' hbase hfew hline hs hplain, fun σ env g μ H Q re rs p => ?_⟩
  refine so σ env g μ H _ re rs (p.bind fun d m x h H1 l rs1 rx p1 => ?_)
  by_cases ht : d.isT m T = true
  · rw [if_pos ht] at p1
    refine ⟨isT_ok rs1 rx ht, sa σ env h m H1 _ (re.mono l) rs1 (p1.bind fun ds m2 vs h2 H2 l2 rs2 rv p2 => ?_)⟩
    exact hr d ds x vs h2 m2 H2 Q _ (rx.mono l2) rv rs2 p2
  · rw [if_neg ht] at p1; exact p1.elim
theorem mt_one {k : Kx} {r : V → List V → Hp → VK → Prop} {f : D → D → Sto → R D} (h : ∀ (d e : D) (x y : V) (g : G) (μ : Sto) (H : Hp) (Q : VK) (E : XK), Rp k g d x → Rp k g e y → Rs k g μ H → Post k g (Rp k) (f d e μ) Q E → r x [y] H Q) : MtS k T r (fun d ds μ => one1 (f d) ds μ) := fun d ds x xs g μ H Q E rx rxs rs p => by
  cases ds with
  | nil => exact p.elim
  | cons e ds =>
    cases ds with
    | cons _ _ => exact p.elim
    | nil =>
      obtain ⟨v, e1, rv⟩ := rps1 rxs
      rw [e1]
      exact h d e x v g μ H Q E rx rv rs p
/-- xs.append(d) -/
def dAppend : D → D → Sto → R D := fun d e μ => match d with
  | .ob n => (match μ[n]? with
    | some (.lst xs) => if xs.length < line then .ok .non (μ.set n (.lst (xs ++ [e]))) else .fail
    | _ => .fail)
  | _ => .fail
theorem ms_append {k : Kx} : MtS k "list" rAppend (fun d ds μ => one1 (dAppend d) ds μ) := mt_one fun d e x y g μ H Q E rx ry rs p => by
  cases d with
  | ob n =>
    have p : Post k g (Rp k) (match μ[n]? with
      | some (.lst xs) => if xs.length < line then R.ok .non (μ.set n (.lst (xs ++ [e]))) else R.fail
      | _ => R.fail) Q E := p
    obtain ⟨ad, e1, e2⟩ := rx
    cases z : μ[n]? with
    | none => rw [z] at p; exact p.elim
    | some m =>
      rw [z] at p
      cases m with
      | lst xs =>
        have p : Post k g (Rp k) (if xs.length < line then R.ok .non (μ.set n (.lst (xs ++ [e]))) else R.fail) Q E := p
        by_cases hl : xs.length < line
        · rw [if_pos hl] at p
          obtain ⟨vs, h1, h2⟩ := rs.obj n _ ad z e2
          refine ⟨ad, vs, y, e1, rfl, h1, by rw [h2.length]; exact line_lt hl, ?_⟩
          exact p .non g _ (.refl g) (rs.write z e2 (by intro q; cases q) ⟨_, upd_same, h2.append (Rps.cons ry Rps.nil)⟩) rfl
        · rw [if_neg hl] at p; exact p.elim
      | _ => exact p.elim
  | _ => exact p.elim
theorem e_append (ho : EE X hot W o A) (ha : EA X hot W [e] As)
    (hbase : attributeBase o "append" X.env (eval o X.env) = eval o X.env := by rfl)
    (hfew : ((backTo pos (starEach [e] X.env)).all (fun x => !x.1) && (backToKw pos (keywordEach [] X.env)).all (fun x => x.1.isSome)
      && decide (([e] : List Expr).length + ([] : List Keyword).length + (if ([] : List Keyword).isEmpty then 0 else 1) < 30)) = true := by rfl)
    (hline : (apos.endLine == pos.line) = true := by rfl) (hs : starEach [e] X.env = (false, eval e X.env) :: starEach [] X.env := by rfl) (hplain : (backTo pos (starEach [] X.env)).any (·.1) = false := by rfl) :
    EE X hot W (.Call (.Attribute o "append" apos) [e] [] pos) (aBM "list" (fun d ds μ => one1 (dAppend d) ds μ) A As) :=
  e_bm PySem.F.plainAttrs_list PySem.F.slot_list_append PySem.F.type_list_append mt_append ms_append ho ha hbase hfew hline hs hplain
/-- texts -/
def dSS (f : List Nat → List Nat → D) : D → D → Sto → R D := fun d e μ => match d, e with
  | .str a, .str b => .ok (f a b) μ
  | _, _ => .fail
theorem os_SS {k : Kx} {r : V → List V → Hp → VK → Prop} {c : List Nat → List Nat → Bool} {f : List Nat → List Nat → D} (h : ∀ (a b : List Nat) (g : G) (μ : Sto) (H : Hp) (Q : VK) (E : XK), c a b = true → Rs k g μ H → Post k g (Rp k) (.ok (f a b) μ) Q E → r (.str (S a)) [.str (S b)] H Q) :
    MtS k T r (fun d ds μ => one1 (fun e μ => match d, e with
      | .str a, .str b => if c a b = true then .ok (f a b) μ else .fail
      | _, _ => .fail) ds μ) := mt_one (f := fun d e μ => match d, e with
      | .str a, .str b => if c a b = true then .ok (f a b) μ else .fail
      | _, _ => .fail) fun d e x y g μ H Q E rx ry rs p => by
  cases d with
  | str a =>
    cases e with
    | str b =>
      have p : Post k g (Rp k) (if c a b = true then R.ok (f a b) μ else R.fail) Q E := p
      by_cases z : c a b = true
      · rw [if_pos z] at p
        rw [show x = _ from rx, show y = _ from ry]
        exact h a b g μ H Q E z rs p
      · rw [if_neg z] at p; exact p.elim
    | _ => exact p.elim
  | _ => exact p.elim
/-- a condition on two texts, an answer -/
def mSS (c : List Nat → List Nat → Bool) (f : List Nat → List Nat → D) : D → List D → Sto → R D := fun d ds μ => one1 (fun e μ => match d, e with
  | .str a, .str b => if c a b = true then .ok (f a b) μ else .fail
  | _, _ => .fail) ds μ
def cNe (_ b : List Nat) : Bool := !b.isEmpty
theorem starts_ok (a b : List Nat) (hb : b ≠ []) : Txt.startswith (S a) (S b) = TL.pre b a := by
  have h := TL.at_iff (x := S a) (y := S b) hb 0
  rw [List.drop_zero] at h
  have e : Txt.startswith (S a) (S b) = true ↔ TL.pre b a = true := by
    refine Iff.trans ?_ h
    unfold Txt.startswith PySem.StrLaws.At
    rw [Bool.and_eq_true_iff, decide_eq_true_eq]
  exact Bool.eq_iff_iff.mpr e
theorem cNe_ok {a b : List Nat} (h : cNe a b = true) : b ≠ [] := by
  intro e; subst e; cases h
theorem ms_starts {k : Kx} : MtS k "str" (fun x xs H Q => ∃ a b, x = .str a ∧ xs = [.str b] ∧ Q (.bl (Txt.startswith a b)) H) (mSS cNe fun a b => .bl (TL.pre b a)) := os_SS fun a b g μ H Q E c rs p =>
  ⟨S a, S b, rfl, rfl, p.ret rs (show _ = _ by rw [starts_ok a b (cNe_ok c)])⟩
/-- text.partition(sep) -/
def parD (a b : List Nat) : D := match TL.par b [] a with
  | some (p, q) => .tup [.str p, .str b, .str q]
  | none => .tup [.str a, .str [], .str []]
def cPar (a b : List Nat) : Bool := !b.isEmpty && decide (a.length ≤ line)
theorem par_ok (a b : List Nat) (hb : b ≠ []) : Txt.partition (S a) (S b) = (match TL.par b [] a with | some (p, q) => (S p, S b, S q) | none => (S a, S [], S [])) := TL.partition_par (S a) (S b) hb
theorem len0 {b : List Nat} (h : b ≠ []) : ((S b).length == 0) = false := by
  rw [S_len]
  cases b with
  | nil => exact absurd rfl h
  | cons _ _ => rfl
theorem ms_partition {k : Kx} : MtS k "str" (fun x xs H Q => ∃ a b, x = .str a ∧ xs = [.str b] ∧ (b.length == 0) = false ∧ a.length ≤ sizeLine ∧
    ∀ p, H p = none → Q (.ref p) (upd H p (.tup [.str (Txt.partition a b).1, .str (Txt.partition a b).2.1, .str (Txt.partition a b).2.2]))) (mSS cPar parD) := os_SS fun a b g μ H Q E c rs p => by
  obtain ⟨c1, c2⟩ := Bool.and_eq_true_iff.mp c
  have hb : b ≠ [] := cNe_ok (a := a) c1
  refine ⟨S a, S b, rfl, rfl, len0 hb, by rw [S_len]; exact line_le (of_decide_eq_true c2), fun q hq => ?_⟩
  rw [par_ok a b hb]
  unfold parD at p
  cases z : TL.par b [] a with
  | some pq =>
    obtain ⟨u, v⟩ := pq
    rw [z] at p
    exact p.newT rs (Rps.cons rfl (Rps.cons rfl (Rps.cons rfl Rps.nil))) hq
  | none =>
    rw [z] at p
    exact p.newT rs (Rps.cons rfl (Rps.cons rfl (Rps.cons rfl Rps.nil))) hq
/-- text.split(sep) -/
def splD (a b : List Nat) : D := .lst ((TL.spl b 0 [] a).map D.str)
def cSpl (a b : List Nat) : Bool := !b.isEmpty && (decide (a.length + 2 ≤ line) && b.all (· < 256))
theorem strs_rp {k : Kx} {g : G} : ∀ ls : List (List Nat), Rps k g (ls.map D.str) ((ls.map S).map V.str)
  | [] => Rps.nil
  | l :: ls => Rps.cons rfl (strs_rp ls)
theorem ms_split {k : Kx} : MtS k "str" (fun x xs H Q => ∃ a b, x = .str a ∧ xs = [.str b] ∧ (b.length == 0) = false ∧ a.length + 2 ≤ sizeLine ∧ rNewStrs (Txt.split a b) H Q) (mSS cSpl splD) := os_SS fun a b g μ H Q E c rs p => by
  obtain ⟨c1, c2⟩ := Bool.and_eq_true_iff.mp c
  obtain ⟨c2, c3⟩ := Bool.and_eq_true_iff.mp c2
  have hb : b ≠ [] := cNe_ok (a := a) c1
  refine ⟨S a, S b, rfl, rfl, len0 hb, by rw [S_len]; exact line_le (of_decide_eq_true c2), fun q hq => ?_⟩
  rw [SX.split_S hb c3]
  exact p.newL rs (strs_rp _) hq
/-- sep.join(texts) -/
def strsD : List D → Option (List (List Nat))
  | [] => some []
  | d :: r => match d with
    | .str s => (strsD r).map fun l => s :: l
    | _ => none
theorem strsD_ok {k : Kx} {g : G} : ∀ {ds : List D} {ls : List (List Nat)} {vs : List V}, strsD ds = some ls → Rps k g ds vs → vs = (ls.map S).map V.str
  | [], ls, vs, h, r => by cases h; exact r
  | d :: ds, ls, vs, h, r => by
    obtain ⟨v, vr, e1, r1, r2⟩ := r
    cases d with
    | str s =>
      obtain ⟨l, h1, h2⟩ := Option.map_eq_some_iff.mp (show (strsD ds).map (fun l => s :: l) = some ls from h)
      rw [e1, ← h2, strsD_ok h1 r2, show v = _ from r1]
      rfl
    | _ => cases h
def dJoin : D → D → Sto → R D := fun d e μ => match d with
  | .str a => (match e.sqL μ with
    | some xs => (match strsD xs with
      | some ls => if (ls.map (·.length)).sum + ls.length * a.length ≤ line then .ok (.str (TL.joinL a ls)) μ else .fail
      | none => .fail)
    | none => .fail)
  | _ => .fail
theorem ms_join {k : Kx} : MtS k "str" (fun x xs H Q => ∃ a p, ∃ ys : List Str, x = .str a ∧ xs = [.ref p] ∧ (SqL k.K H p (ys.map V.str) ∨ SqT k.K H p (ys.map V.str)) ∧
    (ys.map (·.length)).sum + ys.length * a.length ≤ 16777216 ∧ Q (.str (Txt.join a ys)) H) (fun d ds μ => one1 (dJoin d) ds μ) := mt_one fun d e x y g μ H Q E rx ry rs p => by
  cases d with
  | str a =>
    have p : Post k g (Rp k) (match e.sqL μ with
      | some xs => (match strsD xs with
        | some ls => if (ls.map (·.length)).sum + ls.length * a.length ≤ line then R.ok (.str (TL.joinL a ls)) μ else R.fail
        | none => R.fail)
      | none => R.fail) Q E := p
    cases z : e.sqL μ with
    | none => rw [z] at p; exact p.elim
    | some xs =>
      rw [z] at p
      have p : Post k g (Rp k) (match strsD xs with
        | some ls => if (ls.map (·.length)).sum + ls.length * a.length ≤ line then R.ok (.str (TL.joinL a ls)) μ else R.fail
        | none => R.fail) Q E := p
      cases z2 : strsD xs with
      | none => rw [z2] at p; exact p.elim
      | some ls =>
        rw [z2] at p
        have p : Post k g (Rp k) (if (ls.map (·.length)).sum + ls.length * a.length ≤ line then R.ok (.str (TL.joinL a ls)) μ else R.fail) Q E := p
        by_cases hl : (ls.map (·.length)).sum + ls.length * a.length ≤ line
        · rw [if_pos hl] at p
          obtain ⟨ad, vs, e1, s, r⟩ := sqL_ok rs ry z
          rw [strsD_ok z2 r] at s
          refine ⟨S a, ad, ls.map S, rx, by rw [e1], .inl s, ?_, p.ret rs (show _ = _ by rw [SX.join_S])⟩
          rw [SX.lens, S_len, List.length_map]
          have : line ≤ 16777216 := by decide
          omega
        · rw [if_neg hl] at p; exact p.elim
  | _ => exact p.elim
/-- "0123456789".index(sign) -/
def digs : List Nat := [48, 49, 50, 51, 52, 53, 54, 55, 56, 57]
def oneDig (b : List Nat) : Bool := match b with
  | c :: r => (match r with
    | [] => decide (48 ≤ c) && decide (c ≤ 57)
    | _ => false)
  | _ => false
def cDig (a b : List Nat) : Bool := decide (a = digs) && oneDig b
def sixD (_ b : List Nat) : D := match b with
  | c :: _ => .int ((c : Int) - 48)
  | _ => .non
theorem ms_sindex {k : Kx} : MtS k "str" (fun x xs H Q => ∃ a b i rest, x = .str a ∧ xs = [.str b] ∧ Builtin.Str.occurrences a b 0 a.length 1 = i :: rest ∧ Q (.int (i : Nat)) H) (mSS cDig sixD) := os_SS fun a b g μ H Q E c rs p => by
  obtain ⟨c1, c2⟩ := Bool.and_eq_true_iff.mp c
  have e1 := of_decide_eq_true c1
  subst e1
  cases b with
  | nil => cases c2
  | cons ch b =>
    cases b with
    | cons _ _ => cases c2
    | nil =>
      obtain ⟨c3, c4⟩ := Bool.and_eq_true_iff.mp (show (decide (48 ≤ ch) && decide (ch ≤ 57)) = true from c2)
      have h1 := of_decide_eq_true c3
      have h2 := of_decide_eq_true c4
      have key : ∃ i rest, Builtin.Str.occurrences (S digs) (S [ch]) 0 (S digs).length 1 = i :: rest ∧ ((i : Nat) : Int) = (ch : Int) - 48 := by
        have hc : ch = 48 ∨ ch = 49 ∨ ch = 50 ∨ ch = 51 ∨ ch = 52 ∨ ch = 53 ∨ ch = 54 ∨ ch = 55 ∨ ch = 56 ∨ ch = 57 := by omega
        rcases hc with rfl | rfl | rfl | rfl | rfl | rfl | rfl | rfl | rfl | rfl
        · exact ⟨0, [], by decide +kernel, by decide⟩
        · exact ⟨1, [], by decide +kernel, by decide⟩
        · exact ⟨2, [], by decide +kernel, by decide⟩
        · exact ⟨3, [], by decide +kernel, by decide⟩
        · exact ⟨4, [], by decide +kernel, by decide⟩
        · exact ⟨5, [], by decide +kernel, by decide⟩
        · exact ⟨6, [], by decide +kernel, by decide⟩
        · exact ⟨7, [], by decide +kernel, by decide⟩
        · exact ⟨8, [], by decide +kernel, by decide⟩
        · exact ⟨9, [], by decide +kernel, by decide⟩
      obtain ⟨i, rest, h3, h4⟩ := key
      exact ⟨S digs, S [ch], i, rest, rfl, rfl, h3, p.ret rs (show V.int _ = V.int _ by rw [h4])⟩
/-- xs.count(True) of truths -/
def rCntV (K : PySem.W.Frag) : V → List V → Hp → VK → Prop := fun x xs H Q => ∃ (p : Addr) (ys : List V) (y : V), x = .ref p ∧ xs = [y] ∧ SqL K H p ys ∧ flatV y = true ∧ ys.all flatV = true ∧ Q (.int (ys.countP (fun z => eqV z y) : Nat)) H
theorem count_eqU {x : V} : ∀ {xs : List V} {us : List Value}, Vals xs us → xs.all flatV = true → us.countP (eqU x) = xs.countP fun y => eqV y x
  | _, _, .nil, _ => rfl
  | y :: ys, u :: us, .cons r t, h => by
    rw [List.all_cons, Bool.and_eq_true_iff] at h
    rw [List.countP_cons, List.countP_cons, count_eqU t h.2, eqU_of r h.1]
theorem mt_vcount : MtR X "list.count" (rCntV X.K) := by
  intro pins s σ H x xs v us Q I rx rxs h
  obtain ⟨p, ys, y, rfl, rfl, hs, fy, fys, q⟩ := h
  cases rx
  obtain ⟨u, rfl, ru⟩ := rxs.one
  obtain ⟨its, rv, ⟨⟨cls, dd, data, sl⟩, n, ho, hc, hdn, hd⟩, hlen⟩ := I.list hs
  simp only at hc hd
  subst hc hd
  refine call_meets PySem.F.slot_list_count ⟨_, ho, rfl⟩ PySem.F.entry_list_count (PySem.F.args_list_count_2 _ _)
    (SeqAt.list_countAt p its.toArray n dd sl u (eqU y)) ⟨ho, fun z hz => mem_eqAt ru fy rv fys z (by simpa using hz), ?_⟩
  have ec : its.toArray.toList.countP (eqU y) = ys.countP fun z => eqV z y := by
    rw [show its.toArray.toList = its by simp]
    exact count_eqU rv fys
  refine ⟨.int (ys.countP (fun z => eqV z y) : Nat), H, I.tok _, ⟨s.toks, ?_⟩, q⟩
  show Value.int ((its.toArray.toList.countP (eqU y) : Nat) : Int) s.toks = Value.int _ s.toks
  rw [ec]
def dCountB : D → D → Sto → R D := fun d e μ => match e with
  | .bl b => (match d.sqL μ with
    | some xs => (match bls xs with
      | some bs => .ok (.int (bs.count b)) μ
      | none => .fail)
    | none => .fail)
  | _ => .fail
theorem ms_count {k : Kx} : MtS k "list" (rCntV k.K) (fun d ds μ => one1 (dCountB d) ds μ) := mt_one fun d e x y g μ H Q E rx ry rs p => by
  cases e with
  | bl b =>
    have p : Post k g (Rp k) (match d.sqL μ with
      | some xs => (match bls xs with
        | some bs => R.ok (.int (bs.count b)) μ
        | none => R.fail)
      | none => R.fail) Q E := p
    cases z : d.sqL μ with
    | none => rw [z] at p; exact p.elim
    | some xs =>
      rw [z] at p
      have p : Post k g (Rp k) (match bls xs with
        | some bs => R.ok (.int (bs.count b)) μ
        | none => R.fail) Q E := p
      cases z2 : bls xs with
      | none => rw [z2] at p; exact p.elim
      | some bs =>
        rw [z2] at p
        obtain ⟨ad, vs, e1, s, r⟩ := sqL_ok rs rx z
        rw [bls_ok z2 r] at s
        refine ⟨ad, bs.map V.bl, .bl b, e1, by rw [show y = _ from ry], s, rfl, ?_, p.ret rs ?_⟩
        · rw [List.all_map]; exact List.all_eq_true.mpr fun _ _ => rfl
        · show V.int _ = V.int _
          rw [List.countP_map]
          congr 2
  | _ => exact p.elim
/-! ### f-strings -/
def dFmt : D → Sto → R D := fun d μ => match d with
  | .int i => if i.natAbs.log2 < 1920 then .ok (.str (intS i)) μ else .fail
  | .str s => if s.length ≤ line then .ok (.str s) μ else .fail
  | _ => .fail
theorem e_fmt (h : EE X hot W e A) : EE X hot W (.FormattedValue e (-1) none pos) (aUn dFmt A) := by
  obtain ⟨te, pe, se⟩ := h
  refine ⟨_, pe_fmt pe, fun σ env g μ H Q re rs p => se σ env g μ H _ re rs (p.bind fun d m v h H1 l rs1 rv p1 => ?_)⟩
  cases d with
  | int i =>
    have p1 : Post (kx X hot) h (Rp (kx X hot)) (if i.natAbs.log2 < 1920 then R.ok (.str (intS i)) m else R.fail) Q (fun c d H' => W c d σ H') := p1
    by_cases hi : i.natAbs.log2 < 1920
    · rw [if_pos hi] at p1
      exact .inr ⟨i, rv, hi, p1.ret rs1 (congrArg V.str (intS_ok i))⟩
    · rw [if_neg hi] at p1; exact p1.elim
  | str s =>
    have p1 : Post (kx X hot) h (Rp (kx X hot)) (if s.length ≤ line then R.ok (.str s) m else R.fail) Q (fun c d H' => W c d σ H') := p1
    by_cases hi : s.length ≤ line
    · rw [if_pos hi] at p1
      exact .inl ⟨S s, rv, by rw [S_len]; exact line_le hi, p1.ret rs1 rfl⟩
    · rw [if_neg hi] at p1; exact p1.elim
  | _ => exact p1.elim
def aJs : List AE → List Nat → AE
  | [], acc => fun _ μ => .ok (.str acc) μ
  | A :: As, acc => fun env μ => (A env μ).bind fun d m => match d with
    | .str s => if (acc ++ s).length ≤ line then aJs As (acc ++ s) env m else .fail
    | _ => .fail
inductive EJ (X : Cx) (hot : Option (Addr × Ec)) (W : WX) : List Expr → List AE → Prop where
  | nil : EJ X hot W [] []
  | cons {e : Expr} {A : AE} {es : List Expr} {As : List AE} (h : EE X hot W e A) (r : EJ X hot W es As) : EJ X hot W (e :: es) (A :: As)
theorem js_ok {es : List Expr} {As : List AE} (h : EJ X hot W es As) : ∃ ts, PJ X es ts ∧ ∀ (acc : List Nat) (σ : St) (env : En) (g : G) (μ : Sto) (H : Hp) (Q : VK), RpE (kx X hot) g env σ → Rs (kx X hot) g μ H → Post (kx X hot) g (Rp (kx X hot)) (aJs As acc env μ) Q (fun c d H' => W c d σ H') →
    tJs ts (S acc) σ H fun out H1 => Q (.str out) H1 := by
  induction h with
  | nil => exact ⟨[], .nil, fun acc σ env g μ H Q re rs p => Post.ret p rs rfl⟩
  | @cons e A es As h r ih =>
    obtain ⟨te, pe, se⟩ := h
    obtain ⟨ts, pj, sj⟩ := ih
    refine ⟨te :: ts, .cons pe pj, fun acc σ env g μ H Q re rs p => ?_⟩
    refine se σ env g μ H _ re rs (p.bind fun d m v h H1 l rs1 rv p1 => ?_)
    cases d with
    | str s =>
      have p1 : Post (kx X hot) h (Rp (kx X hot)) (if (acc ++ s).length ≤ line then aJs As (acc ++ s) env m else R.fail) Q (fun c d H' => W c d σ H') := p1
      by_cases hl : (acc ++ s).length ≤ line
      · rw [if_pos hl] at p1
        refine ⟨S s, rv, ?_, ?_⟩
        · rw [S_cat, S_len]; exact line_le hl
        · rw [S_cat]; exact sj (acc ++ s) σ env h m H1 Q (re.mono l) rs1 p1
      · rw [if_neg hl] at p1; exact p1.elim
    | _ => exact p1.elim
theorem e_joined {v1 v2 : Expr} {rest : List Expr} {As : List AE} (h : EJ X hot W (v1 :: v2 :: rest) As) : EE X hot W (.JoinedStr (v1 :: v2 :: rest) pos) (aJs As []) := by
  obtain ⟨ts, pj, sj⟩ := js_ok h
  exact ⟨_, pe_joined pj, fun σ env g μ H Q re rs p => sj [] σ env g μ H Q re rs p⟩
end
end Z

set_option Elab.async false
set_option linter.all false
set_option maxRecDepth 100000
set_option maxHeartbeats 2000000
/-! Sim, part 7: defs, calls, fields, classes, raise, try. -/
namespace Z
open PySem PySem.Spec PyProof.Rows L2
/-! ### a def's promise -/
abbrev AF := List D → Sto → R D
def spA (K : PySem.W.Frag) (n : Nat) (a : AF) : Sp := fun vs H Q E => ∃ ds g μ, ds.length = n ∧ Rps ⟨K, none⟩ g ds vs ∧ Rs ⟨K, none⟩ g μ H ∧ Post ⟨K, none⟩ g (Rp ⟨K, none⟩) (a ds μ) Q E
def startA (loc : Nat) (ds : List D) : En := ds.map some ++ List.replicate loc none
def Fl.res (r : Fl) : R D := match r with
  | .rt d μ => .ok d μ
  | .nx _ μ => .ok .non μ
  | .ex c _ μ => .ex c μ
  | _ => .fail
def aDef (loc : Nat) (S : ATS) : AF := fun ds μ => (S (startA loc ds) μ).res
theorem rpE_start {k : Kx} {g : G} : ∀ {ds : List D} {vs : List V} (loc : Nat), Rps k g ds vs → RpE k g (startA loc ds) (vs.map some ++ List.replicate loc none)
  | [], vs, loc, h => by
    rw [show vs = [] from h]
    show RpE k g (List.replicate loc none) (List.replicate loc none)
    induction loc with
    | zero => rfl
    | succ n ih => rw [List.replicate_succ]; exact ⟨none, _, by rw [List.replicate_succ], fun d hd => (by cases hd), ih⟩
  | d :: ds, vs, loc, ⟨v, vr, e1, r1, r2⟩ => by
    rw [e1]
    exact ⟨some v, vr.map some ++ List.replicate loc none, rfl, fun d' hd => ⟨v, rfl, by cases hd; exact r1⟩, rpE_start loc r2⟩
section
variable {P : Program} {w : World} {K : PySem.W.Frag} {mg : Str → Option Value} {base : Heap} {x qual : Str} {params : Arguments} {body : List Stmt} {scope : Scope} {dvs : List V} {f : Addr} {fd : FuncData}
abbrev WE0 (E : XK) : WX := fun c d _ H => E c d H
theorem def_okC {N ps : List Str} {j : Nat} {S : ATS} (F : FunD K x qual params body scope dvs [] f fd) (Sc : FnScope N ps scope)
    (hbody : ∀ (cdv : Value) (A : Around) (outer : List Env) (s : Shared) (H : Hp) (E : XK), Room j (A.deeper (envOfC qual scope s.heap.objs.size f cdv)) →
      L2.Takes (cxOf (L2.CX P w) P w K mg base N qual scope f cdv A outer s H E) (WE0 E) → ESs (cxOf (L2.CX P w) P w K mg base N qual scope f cdv A outer s H E) none (WE0 E) body S) :
    FnOk P w K mg base (L2.CX P w) (j + 1) f fd ps (spA K ps.length (aDef (N.length - ps.length) S)) := by
  refine F.ok Sc (fun vs H Q E h => ?_) (fun cdv A outer s H vs Q E hr h => ?_)
  · obtain ⟨ds, g, μ, hl, r, _⟩ := h
    rw [r.length, hl]
  · obtain ⟨ds, g, μ, hl, r, rs, p⟩ := h
    obtain ⟨t, pt, st⟩ := hbody cdv A outer s H E hr (L2.takes_of rfl rfl rfl rfl)
    refine ⟨t, pt, ?_⟩
    have re := rpE_start (N.length - ps.length) r
    have e : L2.start N vs = vs.map some ++ List.replicate (N.length - ps.length) none := by
      unfold L2.start
      rw [r.length, hl]
    rw [e]
    refine st _ _ g μ H _ re rs ?_
    have p : Post ⟨K, none⟩ g (Rp ⟨K, none⟩) (S (startA (N.length - ps.length) ds) μ).res Q E := p
    cases z : S (startA (N.length - ps.length) ds) μ with
    | rt d m => rw [z] at p; exact fun v h H' l rs' rv => p v h H' l rs' rv
    | nx e m => rw [z] at p; exact fun σ h H' l re' rs' => p .non h H' l rs' rfl
    | ex c e m => rw [z] at p; exact fun σ h H' l re' rs' => p h H' l rs'
    | bk _ _ => rw [z] at p; exact p.elim
    | ct _ _ => rw [z] at p; exact p.elim
    | fail => rw [z] at p; exact p.elim
theorem def_okN {N ps : List Str} {j : Nat} {S : ATS} (F : FunD K x qual params body scope dvs [] f fd) (Sc : FnScope N ps scope)
    (hbody : ∀ (cdv : Value) (A : Around) (outer : List Env) (s : Shared) (H : Hp) (E : XK), Room j (A.deeper (envOfC qual scope s.heap.objs.size f cdv)) →
      L2N.Takes (cxOf (L2N.CX P w) P w K mg base N qual scope f cdv A outer s H E) (WE0 E) → ESs (cxOf (L2N.CX P w) P w K mg base N qual scope f cdv A outer s H E) none (WE0 E) body S) :
    FnOk P w K mg base (L2N.CX P w) (j + 1) f fd ps (spA K ps.length (aDef (N.length - ps.length) S)) := by
  refine F.ok Sc (fun vs H Q E h => ?_) (fun cdv A outer s H vs Q E hr h => ?_)
  · obtain ⟨ds, g, μ, hl, r, _⟩ := h
    rw [r.length, hl]
  · obtain ⟨ds, g, μ, hl, r, rs, p⟩ := h
    obtain ⟨t, pt, st⟩ := hbody cdv A outer s H E hr (L2N.takes_of rfl rfl rfl rfl)
    refine ⟨t, pt, ?_⟩
    have re := rpE_start (N.length - ps.length) r
    have e : L2.start N vs = vs.map some ++ List.replicate (N.length - ps.length) none := by
      unfold L2.start
      rw [r.length, hl]
    rw [e]
    refine st _ _ g μ H _ re rs ?_
    have p : Post ⟨K, none⟩ g (Rp ⟨K, none⟩) (S (startA (N.length - ps.length) ds) μ).res Q E := p
    cases z : S (startA (N.length - ps.length) ds) μ with
    | rt d m => rw [z] at p; exact fun v h H' l rs' rv => p v h H' l rs' rv
    | nx e m => rw [z] at p; exact fun σ h H' l re' rs' => p .non h H' l rs' rfl
    | ex c e m => rw [z] at p; exact fun σ h H' l re' rs' => p h H' l rs'
    | bk _ _ => rw [z] at p; exact p.elim
    | ct _ _ => rw [z] at p; exact p.elim
    | fail => rw [z] at p; exact p.elim
/-! the store of a def's own objects goes: what is left names none -/
mutual
def D.imm : D → Bool
  | .lst xs => D.imms xs
  | .tup xs => D.imms xs
  | .ins _ xs => D.imms xs
  | .scr xs => D.imms xs
  | .ob _ => false
  | _ => true
def D.imms : List D → Bool
  | [] => true
  | d :: ds => D.imm d && D.imms ds
end
def M.imm : M → Bool
  | .gone => true
  | .lst xs => D.imms xs
  | .ins _ xs => D.imms xs
end
section
variable {k : Kx}
mutual
theorem imm_rp {g g' : G} (e : ∀ a o, g.I a = some o → g'.I a = some o) : ∀ {d : D} {v : V}, d.imm = true → Rp k g d v → Rp k g' d v
  | .non, _, _, h => h
  | .bl _, _, _, h => h
  | .int _, _, _, h => h
  | .str _, _, _, h => h
  | .ty _, _, _, h => h
  | .ecl _, _, _, h => h
  | .ccl _, _, _, h => h
  | .lst ds, _, i, ⟨a, xs, e1, s, r⟩ => ⟨a, xs, e1, rd_mono e s, imms_rp e (by simpa [D.imm] using i) r⟩
  | .tup ds, _, i, ⟨a, xs, e1, s, r⟩ => ⟨a, xs, e1, sqT_mono e s, imms_rp e (by simpa [D.imm] using i) r⟩
  | .ins c ds, _, i, ⟨a, dx, xs, e1, s, q, r⟩ => ⟨a, dx, xs, e1, e _ _ s, q, imms_rp e (by simpa [D.imm] using i) r⟩
  | .scr ds, _, i, ⟨a, xs, e1, s, r⟩ => ⟨a, xs, e1, sqL_mono e s, imms_rp e (by simpa [D.imm] using i) r⟩
  | .ob _, _, i, _ => by simp [D.imm] at i
  | .exc _, _, _, h => h
theorem imms_rp {g g' : G} (e : ∀ a o, g.I a = some o → g'.I a = some o) : ∀ {ds : List D} {vs : List V}, D.imms ds = true → Rps k g ds vs → Rps k g' ds vs
  | [], _, _, h => h
  | d :: ds, _, i, ⟨y, ys, e1, r, q⟩ => by
    simp only [D.imms, Bool.and_eq_true] at i
    exact ⟨y, ys, e1, imm_rp e i.1 r, imms_rp e i.2 q⟩
end
theorem imm_m {g g' : G} {H : Hp} {a : Addr} {m : M} (e : ∀ a o, g.I a = some o → g'.I a = some o) (i : m.imm = true) (h : MRep k g H a m) : MRep k g' H a m := by
  cases m with
  | gone => trivial
  | lst ds => obtain ⟨xs, h1, h2⟩ := h; exact ⟨xs, h1, imms_rp e i h2⟩
  | ins c ds => obtain ⟨dx, xs, h1, h2, h3⟩ := h; exact ⟨dx, xs, h1, h2, imms_rp e i h3⟩
theorem Rs.trunc {g : G} {μ : Sto} {H : Hp} (r : Rs k g μ H) (n : Nat) (i : (μ.take n).all M.imm = true) : Rs k ⟨g.I, g.φ.take n, g.F⟩ (μ.take n) H where
  ex := r.ex
  len := by show (g.φ.take n).length = _; rw [List.length_take, List.length_take, r.len]
  obj := fun j m a h1 h2 => by
    have q := List.all_eq_true.mp i m (List.mem_of_getElem? h1)
    have hj : j < n := by
      have := (List.getElem?_eq_some_iff.mp h1).1
      rw [List.length_take] at this
      omega
    rw [List.getElem?_take_of_lt hj] at h1
    have h2 : (g.φ.take n)[j]? = some a := h2
    rw [List.getElem?_take_of_lt hj] at h2
    exact imm_m (g := g) (fun _ _ z => z) q (r.obj j m a h1 h2)
  fr := fun j m a h1 h2 h3 => by
    have hj : j < n := by
      have := (List.getElem?_eq_some_iff.mp h1).1
      rw [List.length_take] at this
      omega
    rw [List.getElem?_take_of_lt hj] at h1
    have h2 : (g.φ.take n)[j]? = some a := h2
    rw [List.getElem?_take_of_lt hj] at h2
    exact r.fr j m a h1 h2 h3
  nd := fun j1 j2 m1 m2 a h1 h2 n1 n2 p1 p2 => by
    have hj1 : j1 < n := by
      have := (List.getElem?_eq_some_iff.mp h1).1
      rw [List.length_take] at this
      omega
    have hj2 : j2 < n := by
      have := (List.getElem?_eq_some_iff.mp h2).1
      rw [List.length_take] at this
      omega
    have p1 : (g.φ.take n)[j1]? = some a := p1
    have p2 : (g.φ.take n)[j2]? = some a := p2
    rw [List.getElem?_take_of_lt hj1] at h1 p1
    rw [List.getElem?_take_of_lt hj2] at h2 p2
    exact r.nd j1 j2 m1 m2 a h1 h2 n1 n2 p1 p2
  fx := r.fx
  fi := r.fi
  fs := fun j m a h1 h2 h3 => by
    have hj : j < n := by
      have := (List.getElem?_eq_some_iff.mp h1).1
      rw [List.length_take] at this
      omega
    rw [List.getElem?_take_of_lt hj] at h1
    have h2 : (g.φ.take n)[j]? = some a := h2
    rw [List.getElem?_take_of_lt hj] at h2
    exact r.fs j m a h1 h2 h3
end
/-- the def's own objects go -/
def R.cut (n : Nat) (r : R D) : R D := match r with
  | .ok d μ => if (d.imm && (μ.take n).all M.imm) = true then .ok d (μ.take n) else .fail
  | .ex c μ => if (μ.take n).all M.imm = true then .ex c (μ.take n) else .fail
  | .fail => .fail
def aCut (a : AF) : AF := fun ds μ => (a ds μ).cut μ.length
theorem Post.cut {k : Kx} {g : G} {μ : Sto} {H : Hp} {r : R D} {Q : VK} {E : XK} (rs : Rs k g μ H) (p : Post k g (Rp k) (r.cut μ.length) Q E) : Post k g (Rp k) r Q E := by
  have le : ∀ {h : G}, g.le h → g.le ⟨h.I, h.φ.take μ.length, h.F⟩ := fun {h} l => ⟨l.i, fun n a e => by
    show (h.φ.take μ.length)[n]? = some a
    have hn : n < μ.length := by rw [← rs.len]; exact (List.getElem?_eq_some_iff.mp e).1
    rw [List.getElem?_take_of_lt hn]; exact l.p n a e, l.f⟩
  cases r with
  | ok d m =>
    have p : Post k g (Rp k) (if (d.imm && (m.take μ.length).all M.imm) = true then R.ok d (m.take μ.length) else R.fail) Q E := p
    by_cases h : (d.imm && (m.take μ.length).all M.imm) = true
    · rw [if_pos h] at p
      obtain ⟨h1, h2⟩ := Bool.and_eq_true_iff.mp h
      exact fun v h' H' l rs' rv => p v _ H' (le l) (rs'.trunc _ h2) (imm_rp (g := h') (g' := ⟨h'.I, h'.φ.take μ.length, h'.F⟩) (fun _ _ z => z) h1 rv)
    · rw [if_neg h] at p; exact p.elim
  | ex c m =>
    have p : Post k g (Rp k) (if (m.take μ.length).all M.imm = true then R.ex c (m.take μ.length) else R.fail) Q E := p
    by_cases h : (m.take μ.length).all M.imm = true
    · rw [if_pos h] at p
      exact fun h' H' l rs' => p _ H' (le l) (rs'.trunc _ h)
    · rw [if_neg h] at p; exact p.elim
  | fail => exact p
theorem spA_imp {K : PySem.W.Frag} {n : Nat} {a b : AF} (h : ∀ ds μ g H Q E, Rs ⟨K, none⟩ g μ H → Post ⟨K, none⟩ g (Rp ⟨K, none⟩) (b ds μ) Q E → Post ⟨K, none⟩ g (Rp ⟨K, none⟩) (a ds μ) Q E) : ∀ vs H Q E, spA K n b vs H Q E → spA K n a vs H Q E :=
  fun vs H Q E ⟨ds, g, μ, hl, r, rs, p⟩ => ⟨ds, g, μ, hl, r, rs, h ds μ g H Q E rs p⟩
theorem FnOk.cut {P : Program} {w : World} {K : PySem.W.Frag} {mg : Str → Option Value} {base : Heap} {CX : CXT} {j n : Nat} {f : Addr} {fd : FuncData} {ps : List Str} {a : AF} (F : FnOk P w K mg base CX j f fd ps (spA K n a)) : FnOk P w K mg base CX j f fd ps (spA K n (aCut a)) :=
  F.imp (spA_imp fun ds μ g H Q E rs p => Post.cut rs p)

/-! ### calls -/
/-- a callable def: address, promise, how its arguments bind (dd: the defaults that fill up) -/
structure Cal (P : Program) (w : World) (K : PySem.W.Frag) (mg : Str → Option Value) (base : Heap) (CX : CXT) (j : Nat) (f : Addr) (n : Nat) (dd : List D) (a : AF) : Prop where
  ex : ∃ (fd : FuncData) (ps : List Str) (dvs : List V) (ds : List Value), FnOk P w K mg base CX j f fd ps (spA K n a) ∧ Binds K fd ps ds ∧ Vals dvs ds ∧ ∀ g, Rps ⟨K, none⟩ g dd dvs
  kp : PySem.W.keepIn K (.ref f) = true
section
variable {X : Cx} {CX : CXT} {W : WX} {pins : List (Addr × Obj)} {σ : St} {H : Hp} {s : Shared} {k : Nat} {f C : Addr} {fd : FuncData} {ps : List Str} {sp : Sp} {Q : VK} {E : XK} {us ds : List Value} {vs dvs : List V}
theorem run_fnG (F : FnOk X.prog X.w X.K X.mg X.base CX k f fd ps sp) (hr : Room k X.A) (hb : Binds X.K fd ps ds) (hd : Vals dvs ds) (hx : PassesAt CX X σ E)
    (I : Inv X pins σ H s) (r : Vals vs us) (h : sp (vs ++ dvs) H Q E) : wpAny (model X.prog X.w) X.A (call (.ref f) us) (EP X pins σ Q) X.xe s := by
  have r2 : Vals (vs ++ dvs) (us ++ ds) := r.append hd
  have hl : (us ++ ds).length = ps.length := by rw [← r2.length]; exact F.len _ _ _ _ h
  refine wpAny_call (codeAny_mono (F.run X.A X.stack s H ⟨us, []⟩ (us ++ ds) (vs ++ dvs) Q E hr I.env0 (hb s us I.kIn hl) r2 h) fun r s' hq => ?_)
  cases r with
  | error e => exact hx pins H s e s' I hq
  | ok fl =>
    cases fl with
    | ret u => exact I.after hq
    | next => exact False.elim hq
    | brk => exact False.elim hq
    | cont => exact False.elim hq
theorem run_makeG (M : Mk X.K C f) (F : FnOk X.prog X.w X.K X.mg X.base CX k f fd ps sp) (hr : Room (k + 1) X.A) (hb : Binds X.K fd ps ds) (hd : Vals dvs ds)
    (hx : PassesAt CX X σ E) (I : Inv X pins σ H s) (r : Vals vs us)
    (h : ∀ x dx, H x = none → H dx = none → dx ≠ x → sp (.ref x :: (vs ++ dvs)) (upd (upd H dx (.own x)) x (.ins C dx [])) (fun v H2 => v = .non ∧ Q (.ref x) H2) E) :
    wpAny (model X.prog X.w) X.A (call (.ref C) us) (EP X pins σ Q) X.xe s := by
  have hq := h (s.heap.objs.size + 1) s.heap.objs.size (I.hok.fresh (Nat.le_succ _)) (I.hok.fresh (Nat.le_refl _)) (Nat.ne_of_lt (Nat.lt_succ_self _))
  have I2 := Inv.made (C := C) I
  have r2 : Vals (V.ref (s.heap.objs.size + 1) :: (vs ++ dvs)) (Value.ref (s.heap.objs.size + 1) :: (us ++ ds)) := .cons rfl (r.append hd)
  have hl : (Value.ref (s.heap.objs.size + 1) :: us ++ ds).length = ps.length := by
    have e := r2.length
    rw [F.len _ _ _ _ hq] at e
    exact e.symm
  refine wpAny_call (make_map (f := f) I.kIn M.makes M.init (beq_iff_eq.mp M.fn) (codeAny_mono (F.run _ X.stack _ _ ⟨Value.ref (s.heap.objs.size + 1) :: us, []⟩ (Value.ref (s.heap.objs.size + 1) :: (us ++ ds)) _ _ E (hr.make C us [])
    (I2.env0.make C us []) (hb _ (Value.ref (s.heap.objs.size + 1) :: us) I2.kIn hl) r2 hq) fun r s' hq' => ?_))
  cases r with
  | error e => exact hx pins _ _ e s' I2 hq'
  | ok fl =>
    cases fl with
    | ret u =>
      obtain ⟨v, H', I3, rv, ev, q3⟩ := I2.after hq'
      subst ev
      exact ⟨rv, ⟨V.ref (s.heap.objs.size + 1), H', I3, rfl, q3⟩⟩
    | next => exact False.elim hq'
    | brk => exact False.elim hq'
    | cont => exact False.elim hq'
end
section
variable {X : Cx} {W : WX} {a b c e o : Expr} {es : List Expr} {A B C : AE} {As : AA} {pos apos p : Pos} {x m : Str}
def aCall (af : AF) (dd : List D) (As : AA) : AE := fun env μ => (As env μ).bind fun ds m => af (ds ++ dd) m
def LenI (As : AA) (n : Nat) : Prop := ∀ env μ, match As env μ with | .ok ds _ => ds.length = n | _ => True
def LenD (As : AA) (dd : List D) (n : Nat) : Prop := ∀ env μ, match As env μ with | .ok ds _ => (ds ++ dd).length = n | _ => True
/-- the reading of a call -/
def tCallG (K : PySem.W.Frag) (n : Nat) (a : AF) (dvs : List V) (W : WX) (t : TA) : TE := fun σ H Q => t σ H fun vs H1 => spA K n a (vs ++ dvs) H1 Q (WE W σ)
theorem simE_call {K : PySem.W.Frag} {n : Nat} {af : AF} {dd : List D} {dvs : List V} {t : TA} (st : SimA ⟨K, none⟩ W t As) (hd : ∀ g, Rps ⟨K, none⟩ g dd dvs) (hn : LenD As dd n) :
    SimE ⟨K, none⟩ W (tCallG K n af dvs W t) (aCall af dd As) := fun σ env g μ H Q re rs q => by
  refine st σ env g μ H _ re rs ?_
  have hn := hn env μ
  unfold aCall at q
  cases z : As env μ with
  | ok ds m =>
    rw [z] at q hn
    intro vs h H1 l rs1 rv
    exact ⟨ds ++ dd, h, m, hn, rv.append (hd h), rs1, Post.mono l q⟩
  | ex c m => rw [z] at q; exact q
  | fail => rw [z] at q; exact q
/-- how many an argument list tells -/
theorem li_nil : LenI aNil 0 := fun _ _ => rfl
theorem li_cons {n : Nat} (h : LenI As n) : LenI (aCons A As) (n + 1) := fun env μ => by
  unfold aCons
  cases A env μ with
  | ok d m =>
    have h2 := h env m
    show match (As env m).bind fun ds μ2 => R.ok (d :: ds) μ2 with | .ok ds _ => ds.length = n + 1 | _ => True
    cases z : As env m with
    | ok ds m2 => rw [z] at h2; show (d :: ds).length = n + 1; rw [List.length_cons, show ds.length = n from h2]
    | ex c m2 => trivial
    | fail => trivial
  | ex c m => trivial
  | fail => trivial
theorem li_dd {n k m : Nat} {dd : List D} (h : LenI As n) (hd : dd.length = k) (e : n + k = m) : LenD As dd m := fun env μ => by
  have h2 := h env μ
  cases z : As env μ with
  | ok ds m' => rw [z] at h2; show (ds ++ dd).length = m; rw [List.length_append, hd, show ds.length = n from h2, e]
  | ex c m' => trivial
  | fail => trivial
theorem e_call {CX : CXT} {j j' n : Nat} {f : Addr} {dd : List D} {af : AF} (F : Cal X.prog X.w X.K X.mg X.base CX j f n dd af) (hr : Room j' X.A) (hm : X.mg x = some (.ref f)) (tk : ∀ σ, PassesAt CX X σ (WE W σ)) (ha : EA X none W (e :: es) As)
    (hn : LenD As dd n) (hj : j ≤ j' := by decide) (hg : Gl X x := by rfl) (hdb : (x == ("__debug__" : Str)) = false := by decide)
    (he : starEach (e :: es) X.env = (false, eval e X.env) :: starEach es X.env := by rfl) (hpl : (backTo pos (starEach es X.env)).any (·.1) = false := by rfl) : EE X none W (.Call (.Name x p) (e :: es) [] pos) (aCall af dd As) := by
  obtain ⟨fd, ps, dvs, ds, FO, hb, hv, hd⟩ := F.ex
  obtain ⟨t, pt, st⟩ := ha
  refine ⟨tCallG X.K n af dvs W t, ⟨fun pins s σ H Q I h => ?_⟩, simE_call st hd hn⟩
  refine wpAny_Call_Name_kw (ld_glob I hg hm ?_ hdb)
  refine PySem.W.callWith_K (h₀ := X.base) I.ok.mod.kin F.kp (thn (pt.run pos pins s σ H _ I h) fun us s1 ⟨vs, H1, I1, r, q⟩ => ⟨I1.kIn, ?_⟩) he hpl
  exact run_fnG FO (hr.mono hj) hb hv (tk σ) I1 r q
theorem e_call0 {CX : CXT} {j j' n : Nat} {f : Addr} {dd : List D} {af : AF} (F : Cal X.prog X.w X.K X.mg X.base CX j f n dd af) (hr : Room j' X.A) (hm : X.mg x = some (.ref f)) (tk : ∀ σ, PassesAt CX X σ (WE W σ)) (hn : dd.length = n) (hj : j ≤ j' := by decide) (hg : Gl X x := by rfl) (hdb : (x == ("__debug__" : Str)) = false := by decide) :
    EE X none W (.Call (.Name x p) [] [] pos) (aCall af dd aNil) := by
  obtain ⟨fd, ps, dvs, ds, FO, hb, hv, hd⟩ := F.ex
  refine ⟨tCallG X.K n af dvs W tNil, ⟨fun pins s σ H Q I h => ?_⟩, simE_call (As := aNil) (fun σ env g μ H Q re rs p => Post.ret p rs Rps.nil) hd fun _ _ => hn⟩
  refine wpAny_Call_Name_kw (ld_glob I hg hm ?_ hdb)
  exact PySem.W.callWith_K0 I.kIn F.kp (run_fnG (us := []) (vs := []) FO (hr.mono hj) hb hv (tk σ) I .nil h)

/-! ### fields -/
theorem lookup_zip {β : Type} : ∀ {fs : List Str} {xs : List β} {j : Nat} {f : Str} {v : β}, fs.Nodup → fs[j]? = some f → xs[j]? = some v → (fs.zip xs).lookup f = some v
  | [], _, _, _, _, _, h, _ => by simp at h
  | _ :: _, [], _, _, _, _, _, h => by simp at h
  | f0 :: fs, x0 :: xs, 0, f, v, nd, h1, h2 => by
    simp at h1 h2; subst h1 h2
    rw [List.zip_cons_cons, List.lookup_cons, beq_self_eq_true]
  | f0 :: fs, x0 :: xs, j + 1, f, v, nd, h1, h2 => by
    have h1 : fs[j]? = some f := by simpa using h1
    have h2 : xs[j]? = some v := by simpa using h2
    have ne : ¬ f = f0 := fun e => (List.nodup_cons.mp nd).1 (e ▸ List.mem_of_getElem? h1)
    rw [List.zip_cons_cons, List.lookup_cons, beq_eq_false_iff_ne.mpr ne]
    exact lookup_zip (List.nodup_cons.mp nd).2 h1 h2
theorem lookup_zip_none {β : Type} : ∀ {fs : List Str} {xs : List β} {f : Str}, f ∉ fs → (fs.zip xs).lookup f = none
  | [], _, _, _ => by simp
  | _ :: _, [], _, _ => by simp
  | f0 :: fs, x0 :: xs, f, h => by
    have ne : ¬ f = f0 := fun e => h (e ▸ List.mem_cons_self ..)
    rw [List.zip_cons_cons, List.lookup_cons, beq_eq_false_iff_ne.mpr ne]
    exact lookup_zip_none fun z => h (List.mem_cons_of_mem _ z)
def dFld (c : Cn) (j : Nat) : D → Sto → R D := fun d μ => match d with
  | .ins c' vs => if c' = c then (match vs[j]? with
    | some v => .ok v μ
    | none => .fail) else .fail
  | .ob n => (match μ[n]? with
    | some (.ins c' vs) => if c' = c then (match vs[j]? with
      | some v => .ok v μ
      | none => .fail) else .fail
    | _ => .fail)
  | _ => .fail
variable {hot : Option (Addr × Ec)}
theorem us_fld {K : PySem.W.Frag} {c : Cn} {j : Nat} {f : Str} (hf : c.fs[j]? = some f) (cl : Cls K (He.ga K c.nm)) (na : NoAttr K (He.ga K c.nm) f) :
    UnS ⟨K, hot⟩ (fun x H1 Q => ∃ a C dx fs v, x = .ref a ∧ H1 a = some (.ins C dx fs) ∧ Cls K C ∧ NoAttr K C f ∧ fs.lookup f = some v ∧ Q v H1) (dFld c j) := fun d x g μ H Q E rx rs p => by
  cases d with
  | ins c' vs =>
    have p : Post ⟨K, hot⟩ g (Rp ⟨K, hot⟩) (if c' = c then (match vs[j]? with
      | some v => R.ok v μ
      | none => R.fail) else R.fail) Q E := p
    by_cases hc : c' = c
    · rw [if_pos hc] at p
      rename_i p0
      clear p0
      subst hc
      obtain ⟨ad, dx, xs, e1, s, hl, r⟩ := rx
      cases z : vs[j]? with
      | none => rw [z] at p; exact p.elim
      | some v =>
        rw [z] at p
        obtain ⟨u, h1, h2⟩ := r.get z
        exact ⟨ad, _, dx, _, u, e1, rs.ex _ _ s, cl, na, lookup_zip c'.nd hf h1, p.ret rs h2⟩
    · rw [if_neg hc] at p; exact p.elim
  | ob n =>
    have p : Post ⟨K, hot⟩ g (Rp ⟨K, hot⟩) (match μ[n]? with
      | some (.ins c' vs) => if c' = c then (match vs[j]? with
        | some v => R.ok v μ
        | none => R.fail) else R.fail
      | _ => R.fail) Q E := p
    obtain ⟨ad, e1, e2⟩ := rx
    cases z1 : μ[n]? with
    | none => rw [z1] at p; exact p.elim
    | some mm =>
      rw [z1] at p
      cases mm with
      | ins c' vs =>
        have p : Post ⟨K, hot⟩ g (Rp ⟨K, hot⟩) (if c' = c then (match vs[j]? with
          | some v => R.ok v μ
          | none => R.fail) else R.fail) Q E := p
        by_cases hc : c' = c
        · rw [if_pos hc] at p
          rename_i p0 p1
          clear p0 p1
          subst hc
          obtain ⟨dx, xs, s, hl, r⟩ := rs.obj n _ ad z1 e2
          cases z : vs[j]? with
          | none => rw [z] at p; exact p.elim
          | some v =>
            rw [z] at p
            obtain ⟨u, h1, h2⟩ := r.get z
            exact ⟨ad, _, dx, _, u, e1, s, cl, na, lookup_zip c'.nd hf h1, p.ret rs h2⟩
        · rw [if_neg hc] at p; exact p.elim
      | _ => exact p.elim
  | _ => exact p.elim
theorem e_fld {f : Str} (c : Cn) (j : Nat) (he : EE X hot W e A) (cl : Cls X.K (He.ga X.K c.nm)) (na : NoAttr X.K (He.ga X.K c.nm) f) (hf : c.fs[j]? = some f := by rfl) (hb : attributeBase e f X.env (eval e X.env) = eval e X.env := by rfl) : EE X hot W (.Attribute e f pos) (aUn (dFld c j) A) := by
  obtain ⟨te, pe, se⟩ := he
  exact ⟨_, pe_fld pe hb, fun σ env g μ H Q re rs p => se σ env g μ H _ re rs (p.bind fun d m v h H1 l rs1 rv p1 => us_fld hf cl na d v h m H1 Q _ rv rs1 p1)⟩
/-- o.f = e, the next field of an object that is being made -/
theorem putF_zip : ∀ {fs : List Str} {xs : List V} {f : Str} {v : V}, fs.Nodup → fs[xs.length]? = some f → putF f v (fs.zip xs) = fs.zip (xs ++ [v])
  | [], _, _, _, _, h => by simp at h
  | f0 :: fs, [], f, v, nd, h => by
    simp at h; subst h
    simp [putF]
  | f0 :: fs, x0 :: xs, f, v, nd, h => by
    have h : fs[xs.length]? = some f := by simpa using h
    have ne : ¬ f0 = f := fun e => (List.nodup_cons.mp nd).1 (e.symm ▸ List.mem_of_getElem? h)
    show (if f0 = f then (f0, v) :: fs.zip xs else (f0, x0) :: putF f v (fs.zip xs)) = (f0, x0) :: fs.zip (xs ++ [v])
    rw [if_neg ne, putF_zip (List.nodup_cons.mp nd).2 h]
def aSetF (c : Cn) (j : Nat) (O A : AE) : ATS := fun env μ => (A env μ).st env fun v m1 => (O env m1).st env fun o m2 => match o with
  | .ob n => (match m2[n]? with
    | some (.ins c' vs) => if c' = c ∧ vs.length = j then .nx env (m2.set n (.ins c (vs ++ [v]))) else .fail
    | _ => .fail)
  | _ => .fail
theorem s_fld {f : Str} {O : AE} {pos' : Pos} (c : Cn) (j : Nat) (ho : EE X hot W o O) (he : EE X hot W e A) (cl : Cls X.K (He.ga X.K c.nm)) (na : NoAttr X.K (He.ga X.K c.nm) f) (hf : c.fs[j]? = some f := by rfl)
    (hs : swapsWith e (some (.Attribute o f pos')) pos.line X.env = pure false := by rfl) : ES X hot W (.Assign [.Attribute o f pos'] e pos) (aSetF c j O A) := by
  obtain ⟨to, po, so⟩ := ho
  obtain ⟨te, pe, se⟩ := he
  refine ⟨_, ps_fld po pe hs, fun σ env g μ H T re rs p => ?_⟩
  refine se σ env g μ H _ re rs (PostS.bind p re fun v m1 u h1 H1 l1 rs1 rv p1 => ?_)
  refine so σ env h1 m1 H1 _ (re.mono l1) rs1 (PostS.bind p1 (re.mono l1) fun od m2 ov h2 H2 l2 rs2 ro p2 => ?_)
  cases od with
  | ob n =>
    have p2 : PostS (kx X hot) h2 (match m2[n]? with
      | some (.ins c' vs) => if c' = c ∧ vs.length = j then .nx env (m2.set n (.ins c (vs ++ [v]))) else .fail
      | _ => .fail) T W := p2
    obtain ⟨ad, e1, e2⟩ := ro
    cases z1 : m2[n]? with
    | none => rw [z1] at p2; exact p2.elim
    | some mm =>
      rw [z1] at p2
      cases mm with
      | ins c' vs =>
        have p2 : PostS (kx X hot) h2 (if c' = c ∧ vs.length = j then .nx env (m2.set n (.ins c (vs ++ [v]))) else .fail) T W := p2
        by_cases hc : c' = c ∧ vs.length = j
        · rw [if_pos hc] at p2
          obtain ⟨hc, hj⟩ := hc
          subst hc
          obtain ⟨dx, xs, s, hl, r⟩ := rs2.obj n _ ad z1 e2
          have hjl : j < c'.fs.length := (List.getElem?_eq_some_iff.mp hf).1
          have ez : putF f u (c'.fs.zip xs) = c'.fs.zip (xs ++ [u]) := putF_zip c'.nd (by rw [r.length, hj]; exact hf)
          refine ⟨ad, _, dx, _, e1, s, cl, na, ?_, ?_⟩
          · have q1 := c'.few
            rw [List.length_zip, r.length]
            omega
          · rw [ez]
            refine p2 σ h2 _ (.refl h2) (re.mono (l1.trans l2)) (rs2.write z1 e2 (by intro q; cases q) ⟨dx, _, upd_same, ?_, r.append (Rps.cons (rv.mono l2) Rps.nil)⟩)
            rw [List.length_append, List.length_singleton]
            omega
        · rw [if_neg hc] at p2; exact p2.elim
      | _ => exact p2.elim
  | _ => exact p2.elim

/-! ### methods -/
/-- an instance of the class c -/
def D.isC (c : Cn) (μ : Sto) : D → Bool
  | .ins c' _ => decide (c' = c)
  | .ob n => match μ[n]? with
    | some (.ins c' _) => decide (c' = c)
    | _ => false
  | _ => false
theorem isC_ok {k : Kx} {g : G} {μ : Sto} {H : Hp} {d : D} {v : V} {c : Cn} (rs : Rs k g μ H) (r : Rp k g d v) (h : d.isC c μ = true) : ∃ ad dx xs, v = .ref ad ∧ H ad = some (.ins (He.ga k.K c.nm) dx (c.fs.zip xs)) := by
  cases d with
  | ins c' vs =>
    have h := of_decide_eq_true h
    subst h
    obtain ⟨ad, dx, xs, e1, s, _⟩ := r
    exact ⟨ad, dx, xs, e1, rs.ex _ _ s⟩
  | ob n =>
    obtain ⟨ad, e1, e2⟩ := r
    have h : (match μ[n]? with
      | some (.ins c' _) => decide (c' = c)
      | _ => false) = true := h
    cases z : μ[n]? with
    | none => rw [z] at h; cases h
    | some m =>
      rw [z] at h
      cases m with
      | ins c' vs =>
        have h := of_decide_eq_true h
        subst h
        obtain ⟨dx, xs, s, _⟩ := rs.obj n _ ad z e2
        exact ⟨ad, dx, xs, e1, s⟩
      | _ => cases h
  | _ => cases h
def aMeth (c : Cn) (af : AF) (dd : List D) (O : AE) (As : AA) : AE := fun env μ => (O env μ).bind fun o m => if o.isC c m = true then (As env m).bind fun ds m2 => af (o :: (ds ++ dd)) m2 else .fail
end
end Z

set_option Elab.async false
set_option linter.all false
set_option maxRecDepth 100000
set_option maxHeartbeats 2000000
/-! Sim, part 8: methods, instances made, raise, try, what the ghost does. -/
namespace Z
open PySem PySem.Spec PyProof.Rows L2
section
variable {X : Cx} {W : WX} {a b c e o : Expr} {es : List Expr} {A B C O : AE} {As : AA} {pos apos p : Pos} {x m : Str} {hot : Option (Addr × Ec)}
theorem spA_of {K : PySem.W.Frag} {n : Nat} {af : AF} {ds : List D} {vs : List V} {g : G} {μ : Sto} {H : Hp} {Q : VK} {E : XK} (hn : ds.length = n) (r : Rps ⟨K, none⟩ g ds vs) (rs : Rs ⟨K, none⟩ g μ H) (p : Post ⟨K, none⟩ g (Rp ⟨K, none⟩) (af ds μ) Q E) : spA K n af vs H Q E := ⟨ds, g, μ, hn, r, rs, p⟩
def tMethG (K : PySem.W.Frag) (c : Cn) (m : Str) (n : Nat) (af : AF) (dvs : List V) (W : WX) (to : TE) (t : TA) : TE := fun σ H Q => to σ H fun x H1 => ∃ ad dx fs, x = .ref ad ∧ H1 ad = some (.ins (He.ga K c.nm) dx fs) ∧ fs.lookup m = none ∧
  t σ H1 fun vs H2 => spA K n af (x :: (vs ++ dvs)) H2 Q (WE W σ)
theorem simE_meth {K : PySem.W.Frag} {n : Nat} {c : Cn} {af : AF} {dd : List D} {dvs : List V} {to : TE} {t : TA} (so : SimE ⟨K, none⟩ W to O) (st : SimA ⟨K, none⟩ W t As) (hfs : m ∉ c.fs) (hd : ∀ g, Rps ⟨K, none⟩ g dd dvs)
    (hn : LenD As dd n) : SimE ⟨K, none⟩ W (tMethG K c m (n + 1) af dvs W to t) (aMeth c af dd O As) := fun σ env g μ H Q re rs q => by
  refine so σ env g μ H _ re rs (q.bind fun od m1 v h H1 l rs1 rv p1 => ?_)
  by_cases hc : od.isC c m1 = true
  · rw [if_pos hc] at p1
    obtain ⟨ad, dx, xs, e1, s⟩ := isC_ok rs1 rv hc
    refine ⟨ad, dx, _, e1, s, lookup_zip_none hfs, ?_⟩
    refine st σ env h m1 H1 _ (re.mono l) rs1 ?_
    have hn := hn env m1
    cases z : As env m1 with
    | ok ds m2 =>
      rw [z] at p1 hn
      exact fun vs h2 H2 l2 rs2 rvs => spA_of (by show (od :: (ds ++ dd)).length = n + 1; rw [List.length_cons, show (ds ++ dd).length = n from hn]) (Rps.cons (rv.mono l2) (rvs.append (hd h2))) rs2 (Post.mono l2 p1)
    | ex c m2 => rw [z] at p1; exact p1
    | fail => rw [z] at p1; exact p1
  · rw [if_neg hc] at p1; exact p1.elim
theorem e_meth {CX : CXT} {pl : Sem Bool} {j j' n : Nat} {f : Addr} {dd : List D} {af : AF} (c : Cn) (ho : EE X none W o O) (cl : Cls X.K (He.ga X.K c.nm)) (hmt : Meth X.K (He.ga X.K c.nm) m f) (F : Cal X.prog X.w X.K X.mg X.base CX j f (n + 1) dd af) (hr : Room j' X.A)
    (tk : ∀ σ, PassesAt CX X σ (WE W σ)) (ha : EA X none W (e :: es) As) (hn : LenD As dd n) (hj : j ≤ j' := by decide) (hfs : m ∉ c.fs := by decide +kernel)
    (hst : starEach (e :: es) X.env = (false, eval e X.env) :: starEach es X.env := by rfl) (hpl : (backTo pos (starEach es X.env)).any (·.1) = false := by rfl)
    (ht : eval (.Call (.Attribute o m apos) (e :: es) [] pos) X.env = (do
      let ov ← eval o X.env
      standAt apos.atName
      let (f, first) ← holding [ov] (getMethod ov m pl)
      callWith pos f first (backTo pos (starEach (e :: es) X.env)) (backToKw pos (keywordEach [] X.env))) := by rfl) :
    EE X none W (.Call (.Attribute o m apos) (e :: es) [] pos) (aMeth c af dd O As) := by
  obtain ⟨fd, ps, dvs, ds, FO, hb, hv, hd⟩ := F.ex
  obtain ⟨to, po, so⟩ := ho
  obtain ⟨t, pt, st⟩ := ha
  refine ⟨tMethG X.K c m (n + 1) af dvs W to t, ⟨fun pins s σ H Q I h => ?_⟩, simE_meth so st hfs hd hn⟩
  refine PySem.W.methodCall_KW (pl := pl) (thn (po.run pins s σ H _ I h) fun u s1 ⟨x, H1, I1, rx, ad, dx, fs, ex, ea, l, q⟩ => ?_) ht
  subst ex
  obtain rfl : u = Value.ref ad := rx
  refine getmeth_ok I1 ea cl hmt l ?_
  refine PySem.W.callWith_K (first := [.ref ad]) (h₀ := X.base) I.ok.mod.kin hmt.kp (thn (pt.run pos pins s1 σ H1 _ I1 q) fun us s2 ⟨vs, H2, I2, r, q2⟩ => ⟨I2.kIn, ?_⟩) hst hpl
  exact run_fnG (us := .ref ad :: us) (vs := .ref ad :: vs) FO (hr.mono hj) hb hv (tk σ) I2 (.cons rfl r) q2
theorem e_meth0 {CX : CXT} {pl : Sem Bool} {j j' n : Nat} {f : Addr} {dd : List D} {af : AF} (c : Cn) (ho : EE X none W o O) (cl : Cls X.K (He.ga X.K c.nm)) (hmt : Meth X.K (He.ga X.K c.nm) m f) (F : Cal X.prog X.w X.K X.mg X.base CX j f (n + 1) dd af) (hr : Room j' X.A)
    (tk : ∀ σ, PassesAt CX X σ (WE W σ)) (hn : dd.length = n) (hj : j ≤ j' := by decide) (hfs : m ∉ c.fs := by decide +kernel)
    (ht : eval (.Call (.Attribute o m apos) [] [] pos) X.env = (do
      let ov ← eval o X.env
      standAt apos.atName
      let (f, first) ← holding [ov] (getMethod ov m pl)
      callWith pos f first (backTo pos (starEach [] X.env)) (backToKw pos (keywordEach [] X.env))) := by rfl) :
    EE X none W (.Call (.Attribute o m apos) [] [] pos) (aMeth c af dd O aNil) := by
  obtain ⟨fd, ps, dvs, ds, FO, hb, hv, hd⟩ := F.ex
  obtain ⟨to, po, so⟩ := ho
  refine ⟨tMethG X.K c m (n + 1) af dvs W to tNil, ⟨fun pins s σ H Q I h => ?_⟩, simE_meth (As := aNil) so (fun σ env g μ H Q re rs p => Post.ret p rs Rps.nil) hfs hd fun _ _ => hn⟩
  refine PySem.W.methodCall_KW (pl := pl) (thn (po.run pins s σ H _ I h) fun u s1 ⟨x, H1, I1, rx, ad, dx, fs, ex, ea, l, q⟩ => ?_) ht
  subst ex
  obtain rfl : u = Value.ref ad := rx
  refine getmeth_ok I1 ea cl hmt l ?_
  exact PySem.W.callWith_K0 (first := [.ref ad]) I1.kIn hmt.kp (run_fnG (us := [.ref ad]) (vs := [.ref ad]) FO (hr.mono hj) hb hv (tk σ) I1 (.cons rfl .nil) q)

/-! ### an object of the store stays from now on -/
theorem Rs.freeze {k : Kx} {g : G} {μ : Sto} {H : Hp} {n : Nat} {mm : M} {ad : Addr} {ho : HO} (r : Rs k g μ H) (h1 : μ[n]? = some mm) (h2 : g.φ[n]? = some ad) (h3 : mm ≠ .gone) (hH : H ad = some ho) : Rs k ⟨upd g.I ad ho, g.φ, g.F⟩ (μ.set n .gone) H where
  ex := fun q u e => by
    have e : upd g.I ad ho q = some u := e
    by_cases z : q = ad
    · subst z; rw [upd_same] at e; cases e; exact hH
    · rw [upd_ne z] at e; exact r.ex q u e
  len := by show g.φ.length = _; rw [r.len]; simp
  obj := fun i m q e1 e2 => by
    by_cases hi : i = n
    · subst hi
      rw [List.getElem?_set_self (List.getElem?_eq_some_iff.mp h1).1] at e1
      cases e1; trivial
    · rw [List.getElem?_set_ne (Ne.symm hi)] at e1
      refine MRep.monoL (g := g) ⟨fun b u e => ?_, fun _ _ e => e⟩ rfl (r.obj i m q e1 e2)
      show upd g.I ad ho b = some u
      have z : b ≠ ad := fun y => by rw [y, r.fr n mm ad h1 h2 h3] at e; cases e
      rw [upd_ne z]; exact e
  fr := fun i m q e1 e2 e3 => by
    by_cases hi : i = n
    · subst hi
      rw [List.getElem?_set_self (List.getElem?_eq_some_iff.mp h1).1] at e1
      cases e1; exact absurd rfl e3
    · rw [List.getElem?_set_ne (Ne.symm hi)] at e1
      show upd g.I ad ho q = none
      have z : q ≠ ad := fun y => by subst y; exact hi (r.nd i n m mm _ e1 h1 e3 h3 e2 h2)
      rw [upd_ne z]; exact r.fr i m q e1 e2 e3
  nd := fun i j m1 m2 q e1 e2 n1 n2 p1 p2 => by
    have live : ∀ (i : Nat) mi, (μ.set n .gone)[i]? = some mi → mi ≠ .gone → μ[i]? = some mi := fun i mi e1 n1 => by
      by_cases hi : i = n
      · subst hi
        rw [List.getElem?_set_self (List.getElem?_eq_some_iff.mp h1).1] at e1
        cases e1; exact absurd rfl n1
      · rw [List.getElem?_set_ne (Ne.symm hi)] at e1; exact e1
    exact r.nd i j m1 m2 q (live i m1 e1 n1) (live j m2 e2 n2) n1 n2 p1 p2
  fx := r.fx
  fi := fun q u e => by
    show upd g.I ad ho q = none
    have z : q ≠ ad := fun y => by subst y; rw [r.fs n mm _ h1 h2 h3] at e; cases e
    rw [upd_ne z]; exact r.fi q u e
  fs := fun i m q e1 e2 e3 => by
    by_cases hi : i = n
    · subst hi
      rw [List.getElem?_set_self (List.getElem?_eq_some_iff.mp h1).1] at e1
      cases e1; exact absurd rfl e3
    · rw [List.getElem?_set_ne (Ne.symm hi)] at e1
      exact r.fs i m q e1 e2 e3
theorem Rs.le_freeze {k : Kx} {g : G} {μ : Sto} {H : Hp} {n : Nat} {mm : M} {ad : Addr} {ho : HO} (r : Rs k g μ H) (h1 : μ[n]? = some mm) (h2 : g.φ[n]? = some ad) (h3 : mm ≠ .gone) : g.le ⟨upd g.I ad ho, g.φ, g.F⟩ := ⟨fun b u e => by
  show upd g.I ad ho b = some u
  have z : b ≠ ad := fun y => by rw [y, r.fr n mm ad h1 h2 h3] at e; cases e
  rw [upd_ne z]; exact e, fun _ _ e => e, rfl⟩
/-- the name's list, as one that stays -/
def aVarF (i : Nat) : AE := fun env μ => match env[i]? with
  | some (some (.ob n)) => (match μ[n]? with
    | some (.lst ds) => .ok (.lst ds) (μ.set n .gone)
    | _ => .fail)
  | _ => .fail
theorem e_varF (i : Nat) {x : Str} (hN : X.N[i]? = some x := by rfl) (hv : Vis X.env.scope x := by first | exact Or.inl rfl | exact Or.inr (Or.inl rfl) | exact Or.inr (Or.inr rfl)) (hd : (x == ("__debug__" : Str)) = false := by decide)
    (hcd : (x == ("__classdict__" : Str)) = false := by decide) : EE X hot W (.Name x pos) (aVarF i) := ⟨_, pe_var hN hv hd hcd, fun σ env g μ H Q re rs p => by
  unfold aVarF at p
  cases z : env[i]? with
  | none => rw [z] at p; exact p.elim
  | some od =>
    rw [z] at p
    cases od with
    | none => exact p.elim
    | some d =>
      cases d with
      | ob n =>
        have p : Post (kx X hot) g (Rp (kx X hot)) (match μ[n]? with
          | some (.lst ds) => R.ok (.lst ds) (μ.set n .gone)
          | _ => R.fail) Q (fun c d H' => W c d σ H') := p
        obtain ⟨v, h1, ad, e1, e2⟩ := re.get z
        cases z2 : μ[n]? with
        | none => rw [z2] at p; exact p.elim
        | some mm =>
          rw [z2] at p
          cases mm with
          | lst ds =>
            obtain ⟨ys, h3, h4⟩ := rs.obj n _ ad z2 e2
            have ne : M.lst ds ≠ .gone := by intro q; cases q
            refine ⟨v, h1, ?_⟩
            rw [e1]
            exact p (.ref ad) _ H (rs.le_freeze z2 e2 ne) (rs.freeze z2 e2 ne h3) ⟨ad, ys, rfl, .inl upd_same, h4.mono (rs.le_freeze z2 e2 ne)⟩
          | _ => exact p.elim
      | _ => exact p.elim⟩

/-! ### an instance is made -/
def makeOk (c : Cn) (n : Nat) (m2 : Sto) : R D := match m2[n]? with
  | some (.ins c' vs) => if (decide (c' = c) && (decide (vs.length = c.fs.length) && (D.imms vs && (m2.take n).all M.imm))) = true then .ok (.ins c vs) (m2.take n) else .fail
  | _ => .fail
def makeR (c : Cn) (n : Nat) (r : R D) : R D := match r with
  | .ok d m2 => (match d with
    | .non => makeOk c n m2
    | _ => .fail)
  | .ex e m2 => if (m2.take n).all M.imm = true then .ex e (m2.take n) else .fail
  | .fail => .fail
def aMake (c : Cn) (af : AF) (dd : List D) (As : AA) : AE := fun env μ => (As env μ).bind fun ds m => makeR c m.length (af (.ob m.length :: (ds ++ dd)) (m ++ [.ins c []]))
theorem Rs.extra {k : Kx} {g : G} {μ : Sto} {H : Hp} {q : Addr} {o : HO} (r : Rs k g μ H) (h : H q = none) : Rs k g μ (upd H q o) where
  ex := fun a u e => by rw [upd_ne (ne_of_none (r.ex a u e) h)]; exact r.ex a u e
  len := r.len
  obj := fun n m a h1 h2 => by
    cases m with
    | gone => trivial
    | _ => exact (r.obj n _ a h1 h2).monoL (.refl g) (upd_ne (r.ne h h1 h2 (by intro z; cases z)))
  fr := r.fr
  nd := r.nd
  fx := fun a u e => by rw [upd_ne (ne_of_none (r.fx a u e) h)]; exact r.fx a u e
  fi := r.fi
  fs := r.fs
def tMakeG (K : PySem.W.Frag) (c : Cn) (n : Nat) (af : AF) (dvs : List V) (W : WX) (t : TA) : TE := fun σ H Q => t σ H fun vs H1 => ∀ x dx, H1 x = none → H1 dx = none → dx ≠ x →
  spA K n af (.ref x :: (vs ++ dvs)) (upd (upd H1 dx (.own x)) x (.ins (He.ga K c.nm) dx [])) (fun v H2 => v = .non ∧ Q (.ref x) H2) (WE W σ)
theorem simE_make {K : PySem.W.Frag} {n : Nat} {c : Cn} {af : AF} {dd : List D} {dvs : List V} {t : TA} (st : SimA ⟨K, none⟩ W t As) (hd : ∀ g, Rps ⟨K, none⟩ g dd dvs)
    (hn : LenD As dd n) : SimE ⟨K, none⟩ W (tMakeG K c (n + 1) af dvs W t) (aMake c af dd As) := fun σ env g μ H Q re rs q => by
  refine st σ env g μ H _ re rs ?_
  have hn := hn env μ
  unfold aMake at q
  cases z : As env μ with
  | ok ds m =>
    rw [z] at q hn
    have q : Post ⟨K, none⟩ g (Rp ⟨K, none⟩) (makeR c m.length (af (.ob m.length :: (ds ++ dd)) (m ++ [.ins c []]))) Q (fun c d H' => W c d σ H') := q
    intro vs h H1 l rs1 rvs x dx hx hdx hne
    have hx2 : upd H1 dx (.own x) x = none := by rw [upd_ne (Ne.symm hne)]; exact hx
    have rs2 : Rs ⟨K, none⟩ (h.push x) (m ++ [.ins c []]) (upd (upd H1 dx (.own x)) x (.ins (He.ga K c.nm) dx [])) := (rs1.extra hdx).push hx2 ⟨dx, [], by rw [upd_same]; simp, Nat.zero_le _, rfl⟩
    have hlen : h.φ.length = m.length := rs1.len
    have phi : (h.push x).φ[m.length]? = some x := by
      show (h.φ ++ [x])[m.length]? = some x
      rw [← hlen]; simp
    refine spA_of (g := h.push x) (μ := m ++ [.ins c []]) (by show (D.ob m.length :: (ds ++ dd)).length = n + 1; rw [List.length_cons, show (ds ++ dd).length = n from hn]) (Rps.cons (show Rp ⟨K, none⟩ (h.push x) (.ob m.length) (.ref x) from ⟨x, rfl, phi⟩) ((rvs.append (hd h)).mono G.le_push)) rs2 ?_
    have q2 := Post.mono l q
    have le : ∀ {h' : G}, (h.push x).le h' → h.le ⟨h'.I, h'.φ.take m.length, h'.F⟩ := fun {h'} l' => ⟨fun a o e => l'.i a o e, fun i a e => by
      show (h'.φ.take m.length)[i]? = some a
      have hi : i < m.length := by rw [← hlen]; exact (List.getElem?_eq_some_iff.mp e).1
      rw [List.getElem?_take_of_lt hi]
      exact l'.p i a ((G.le_push (g := h) (p := x)).p i a e), l'.f⟩
    cases z2 : af (.ob m.length :: (ds ++ dd)) (m ++ [.ins c []]) with
    | ok d m2 =>
      rw [z2] at q2
      cases d with
      | non =>
        have q2 : Post ⟨K, none⟩ h (Rp ⟨K, none⟩) (match m2[m.length]? with
          | some (.ins c' vs) => if (decide (c' = c) && (decide (vs.length = c.fs.length) && (D.imms vs && (m2.take m.length).all M.imm))) = true then R.ok (.ins c vs) (m2.take m.length) else R.fail
          | _ => R.fail) Q (fun c d H' => W c d σ H') := q2
        cases z3 : m2[m.length]? with
        | none => rw [z3] at q2; exact q2.elim
        | some mm =>
          rw [z3] at q2
          cases mm with
          | ins c' us =>
            have q2 : Post ⟨K, none⟩ h (Rp ⟨K, none⟩) (if (decide (c' = c) && (decide (us.length = c.fs.length) && (D.imms us && (m2.take m.length).all M.imm))) = true then R.ok (.ins c us) (m2.take m.length) else R.fail) Q (fun c d H' => W c d σ H') := q2
            by_cases hcond : (decide (c' = c) && (decide (us.length = c.fs.length) && (D.imms us && (m2.take m.length).all M.imm))) = true
            · rw [if_pos hcond] at q2
              obtain ⟨c1, c2⟩ := Bool.and_eq_true_iff.mp hcond
              obtain ⟨c2, c3⟩ := Bool.and_eq_true_iff.mp c2
              obtain ⟨c3, c4⟩ := Bool.and_eq_true_iff.mp c3
              have ec := of_decide_eq_true c1
              have el := of_decide_eq_true c2
              intro v h3 H3 l3 rs3 rv
              refine ⟨rv, ?_⟩
              have e2 : h3.φ[m.length]? = some x := l3.p _ _ phi
              obtain ⟨dx', xs, s3, hle, r3⟩ := rs3.obj m.length _ x z3 e2
              have ne : M.ins c' us ≠ .gone := by intro y; cases y
              have rsF := rs3.freeze z3 e2 ne s3
              have tk : (m2.set m.length .gone).take m.length = m2.take m.length := by
                rw [List.take_set]
                exact List.set_eq_of_length_le (by simp; omega)
              have rsT := rsF.trunc m.length (by rw [tk]; exact c4)
              rw [tk] at rsT
              refine q2 (.ref x) _ H3 ?_ rsT ?_
              · exact (le l3).trans ⟨(rs3.le_freeze z3 e2 ne).i, fun _ _ e => e, rfl⟩
              · subst ec
                exact ⟨x, dx', xs, rfl, upd_same, el.symm, imms_rp (g := h3) (g' := ⟨upd h3.I x (.ins (He.ga K c'.nm) dx' (c'.fs.zip xs)), h3.φ.take m.length, h3.F⟩) (fun a o e => (rs3.le_freeze z3 e2 ne).i a o e) c3 r3⟩
            · rw [if_neg hcond] at q2; exact q2.elim
          | _ => exact q2.elim
      | _ => exact q2.elim
    | ex e m2 =>
      rw [z2] at q2
      have q2 : Post ⟨K, none⟩ h (Rp ⟨K, none⟩) (if (m2.take m.length).all M.imm = true then R.ex e (m2.take m.length) else R.fail) Q (fun c d H' => W c d σ H') := q2
      by_cases hcond : (m2.take m.length).all M.imm = true
      · rw [if_pos hcond] at q2
        exact fun h3 H3 l3 rs3 => q2 _ H3 (le l3) (rs3.trunc _ hcond)
      · rw [if_neg hcond] at q2; exact q2.elim
    | fail => rw [z2] at q2; exact q2
  | ex e m => rw [z] at q; exact q
  | fail => rw [z] at q; exact q
theorem e_make {CX : CXT} {j j' n : Nat} {f : Addr} {dd : List D} {af : AF} (c : Cn) (M : Mk X.K (He.ga X.K c.nm) f) (F : Cal X.prog X.w X.K X.mg X.base CX j f (n + 1) dd af) (hr : Room j' X.A) (hm : X.mg x = some (.ref (He.ga X.K c.nm))) (tk : ∀ σ, PassesAt CX X σ (WE W σ)) (ha : EA X none W (e :: es) As)
    (hn : LenD As dd n) (hj : j + 1 ≤ j' := by decide) (hg : Gl X x := by rfl) (hdb : (x == ("__debug__" : Str)) = false := by decide)
    (he : starEach (e :: es) X.env = (false, eval e X.env) :: starEach es X.env := by rfl) (hpl : (backTo pos (starEach es X.env)).any (·.1) = false := by rfl) : EE X none W (.Call (.Name x p) (e :: es) [] pos) (aMake c af dd As) := by
  obtain ⟨fd, ps, dvs, ds, FO, hb, hv, hd⟩ := F.ex
  obtain ⟨t, pt, st⟩ := ha
  refine ⟨tMakeG X.K c (n + 1) af dvs W t, ⟨fun pins s σ H Q I h => ?_⟩, simE_make st hd hn⟩
  refine wpAny_Call_Name_kw (ld_glob I hg hm ?_ hdb)
  refine PySem.W.callWith_K (h₀ := X.base) I.ok.mod.kin M.kp (thn (pt.run pos pins s σ H _ I h) fun us s1 ⟨vs, H1, I1, r, q⟩ => ⟨I1.kIn, ?_⟩) he hpl
  exact run_makeG M FO (hr.mono hj) hb hv (tk σ) I1 r q
end
end Z

set_option Elab.async false
set_option linter.all false
set_option maxRecDepth 100000
set_option maxHeartbeats 2000000
/-! Sim, part 9: raise, try, what runs while an exception is handled. -/
namespace Z
open PySem PySem.Spec PyProof.Rows L2 L2H
/-- what the written part tells of an exception's class -/
structure XcK (K : PySem.W.Frag) (mg : Str → Option Value) (c : Ec) : Prop where
  g : mg c.nm = some (.ref (He.ga K c.nm))
  x : PySem.W.excIn K (He.ga K c.nm) He.veBase "ValueError.__new__" = true
  k : PySem.W.keepIn K (.ref (He.ga K c.nm)) = true
  s : PySem.W.subIn K (.ref (He.ga K c.nm)) (.type "BaseException") = some true
  t : PySem.W.typeIn K (.ref (He.ga K c.nm)) = some (.type "type")
section
variable {X : Cx} {W : WX} {a b c e o : Expr} {es : List Expr} {A B C O : AE} {As : AA} {pos apos p : Pos} {x m : Str} {hot : Option (Addr × Ec)} {body suite : List Stmt} {S S1 S2 : ATS}
theorem excBase_ve : ExcBaseFacts "ValueError" "ValueError.__new__" "ValueError.__init__" He.veBase := PySem.F.excBase_ValueError
theorem pmk5_own {C : Addr} {bmB : List Value} {B newId initId : String} {x m : Str} {j : Nat} {p p2 pos : Pos} (F : ExcBaseFacts B newId initId bmB) (q : PySem.W.excIn X.K C bmB newId = true) (gC : X.mg x = some (.ref C)) (kC : PySem.W.keepIn X.K (.ref C) = true) (r : Raises X (.ref C)) (hg : Gl X x)
    (hdb : (x == ("__debug__" : Str)) = false := by decide) : PMk5 X (.Call (.Name x p) [.Constant (.str m) j p2] [] pos) (fun _ H Q => Q (.ref C) none H) := by
  intro pins s σ H Q I h
  refine wpAny_Call_Name_kw (ld_glob I hg gC ?_ hdb)
  have ha : PA X [.Constant (.str m) j p2] (tCons (tC (.str m)) tNil) := pa_cons pe_str pa_nil
  refine PySem.W.callWith_K (h₀ := X.base) I.ok.mod.kin kC (thn (ha.run pos pins s σ H (fun vs H1 => vs = [V.str m] ∧ H = H1) I ⟨rfl, rfl⟩) fun us s1 hh => ?_)
  obtain ⟨vs, H1, I1, r1, ev, eH⟩ := hh
  subst ev
  rw [← eH] at I1
  refine ⟨I1.kIn, ?_⟩
  cases r1 with
  | cons ru rn =>
    rename_i u us'
    cases rn
    show wpAny _ _ (call (.ref C) [u]) _ _ _
    obtain ⟨bm, N, nm, qn, bs, hdct, sn, sub, ab, col, dd, k0, k1, k2, k3, k5, mN, hC, hN, hni, T⟩ := exc_obj I1.kIn q
    refine wpAny_call_exc_subT F T hC hN hni (fun h' e hm => ?_) (by show 1 ≤ sizeLine; rw [sizeLine_eq]; omega)
    exact mk_of5 I1 hm r h (I1.hok.gone hm.new)
def aRaise (c : Ec) : ATS := fun env μ => .ex c env μ
theorem s_raise {j : Nat} {p2 pos2 : Pos} (c : Ec) (T : XcK X.K X.mg c) (hc : X.calm = true) (tk : L2N.Takes X W) (hx : x = c.nm := by rfl) (hg : Gl X x := by rfl) (hdb : (x == ("__debug__" : Str)) = false := by decide) :
    ES X hot W (.Raise (some (.Call (.Name x p) [.Constant (.str m) j p2] [] pos)) none pos2) (aRaise c) := by
  subst hx
  exact ⟨_, L2N.ps_raise hc tk (pmk5_own excBase_ve T.x T.g T.k (raises_own T.s T.t) hg hdb).pmk, fun σ env g μ H T re rs p => p σ g H (.refl g) re rs⟩
/-- calls of defs that let out exceptions of either sort -/
theorem sky_imp {B : Heap} {l : List Env} {a L : Addr} {Z Z' : Obj → Prop} {h : Heap} (z : ∀ o, Z o → Z' o) (x : Sky B l a Z L h) : Sky B l a Z' L h := by
  rcases x with ⟨h1, h2, h3, oe, vs, h4, h5, h6⟩ | fl | ⟨h1, h2, h3, h4⟩
  · exact .inl ⟨h1, h2, h3, oe, vs, h4, z _ h5, h6⟩
  · exact .inr (.inl (flyingZ_imp z fl))
  · exact .inr (.inr ⟨h1, h2, h3, tracedZ_imp z h4⟩)
theorem takesN (tk : L2.Takes X W) : L2N.Takes X W := fun u s' ⟨a, B, sI, pins, σ, H, cls, d, e, I, nb, up, sky, na, os, ag, w⟩ =>
  tk u s' ⟨a, B, sI, pins, σ, H, cls, d, e, I, nb, up, sky_imp (fun _ => L2N.Zn.zc) sky, na, os, ag, w⟩
theorem passN (tk : L2N.Takes X W) (σ : St) : PassesAt (L2N.CX X.prog X.w) X σ (WE W σ) := fun _ _ _ e s' I c => tk e s' (L2N.XE.of_call I (fun _ _ _ h => h) c)
theorem passC (tk : L2.Takes X W) (σ : St) : PassesAt (L2.CX X.prog X.w) X σ (WE W σ) := passAt tk σ
/-- try: body / except c1: raise c2(..) from None -/
def aTryR (es : List Ec) (c1 c2 : Ec) (S : ATS) : ATS := fun env μ => match S env μ with
  | .ex e env' μ' => if e ∈ es then (if e.under c1 = true then .ex c2 env' μ' else .ex e env' μ') else .fail
  | z => z
theorem s_tryR {j j2 : Nat} {x1 x2 : Str} {np p2 pos2 pos3 pos4 cpos : Pos} (es : List Ec) (c1 c2 : Ec) (T2 : XcK X.K X.mg c2) (hx : ∀ e ∈ es, PySem.W.exmOne X.K (.ref (He.ga X.K e.nm)) (.ref (He.ga X.K c1.nm)) = some (e.under c1)) (g1 : X.mg c1.nm = some (.ref (He.ga X.K c1.nm)))
    (hpa : ∀ hd : Option Value, PassesOwnAt (model X.prog X.w) (X.A.mark hd) X.A X.env X.xe) (tk : L2.Takes X W)
    (hb : ∀ (W' : WX) (pn : List (Addr × Obj)) (xe : Value → Shared → Prop), L2N.Takes (X.tr pn xe) W' → PassesOwn (model X.prog X.w) X.A X.env xe → ESs (X.tr pn xe) none W' body S)
    (hs : X.stack = X.env :: X.outer := by rfl) (hf : X.env.frame = some X.env.locals := by rfl) (e1 : x1 = c1.nm := by rfl) (e2 : x2 = c2.nm := by rfl) (hg1 : Gl X x1 := by rfl) (hg2 : Gl X x2 := by rfl) (hdb1 : (x1 == ("__debug__" : Str)) = false := by decide) (hdb2 : (x2 == ("__debug__" : Str)) = false := by decide) :
    ES X none W (.Try body [.ExceptHandler (some (.Name x1 np)) none [.Raise (some (.Call (.Name x2 p) [.Constant (.str m) j p2] [] pos)) (some (.Constant .none j2 cpos)) pos2] pos3] [] [] pos4) (aTryR es c1 c2 S) := by
  subst e1 e2
  refine ⟨_, L2H.ps_try_onlyX (c := .ref (He.ga X.K c1.nm)) (tb := fun W' => absS (kx X none) W' S) (ts := fun _ _ _ _ σ H => W (.ref (He.ga X.K c2.nm)) none σ H) (Wout := W) hs hf ⟨hg1, hdb1, .inl g1⟩ hpa tk
    (fun W' pn xe t1 t2 po => (hb W' pn xe t1 po).can) (fun a oe cls d pn hz hfd t2 hot => ?_), fun σ env g μ H T re rs q => ?_⟩
  · have P := pmk5_own (X := suiteX X a ((a, oe) :: pn)) (x := c2.nm) (m := m) (j := j) (p := p) (p2 := p2) (pos := pos) excBase_ve T2.x T2.g T2.k (raises_own T2.s T2.t) hg2 hdb2
    exact pss_one (ps_raiseHN hot t2 P)
  · refine ⟨env, g, μ, re, rs, ?_⟩
    unfold aTryR at q
    cases z : S env μ with
    | ex e env' μ' =>
      rw [z] at q
      have q : PostS (kx X none) g (if e ∈ es then (if e.under c1 = true then .ex c2 env' μ' else .ex e env' μ') else .fail) T W := q
      by_cases he : e ∈ es
      · rw [if_pos he] at q
        intro σ' h H' l re' rs'
        refine ⟨e.under c1, hx e he, fun hu a na => ?_, fun hu => ?_⟩
        · rw [if_pos hu] at q
          exact q σ' h H' l re' rs'
        · rw [hu, if_neg Bool.false_ne_true] at q
          exact q σ' h H' l re' rs'
      · rw [if_neg he] at q; exact q.elim
    | nx e m => rw [z] at q; exact q
    | rt d m => rw [z] at q; exact q
    | bk e m => rw [z] at q; exact q
    | ct e m => rw [z] at q; exact q
    | fail => rw [z] at q; exact q

/-! ### values in an except suite -/
mutual
theorem rp_hot {K : PySem.W.Frag} {g : G} {ho : Option (Addr × Ec)} : ∀ {d : D} {v : V}, Rp ⟨K, none⟩ g d v → Rp ⟨K, ho⟩ g d v
  | .non, _, h => h
  | .bl _, _, h => h
  | .int _, _, h => h
  | .str _, _, h => h
  | .ty _, _, h => h
  | .ecl _, _, h => h
  | .ccl _, _, h => h
  | .lst ds, _, ⟨a, xs, e, s, r⟩ => ⟨a, xs, e, s, rps_hot r⟩
  | .tup ds, _, ⟨a, xs, e, s, r⟩ => ⟨a, xs, e, s, rps_hot r⟩
  | .ins c ds, _, ⟨a, dx, xs, e, s, q, r⟩ => ⟨a, dx, xs, e, s, q, rps_hot r⟩
  | .ob n, _, h => h
  | .exc _, _, ⟨a, e, q⟩ => by cases q
  | .scr ds, _, ⟨a, xs, e, s, r⟩ => ⟨a, xs, e, s, rps_hot r⟩
theorem rps_hot {K : PySem.W.Frag} {g : G} {ho : Option (Addr × Ec)} : ∀ {ds : List D} {vs : List V}, Rps ⟨K, none⟩ g ds vs → Rps ⟨K, ho⟩ g ds vs
  | [], _, h => h
  | d :: ds, _, ⟨y, ys, e, r, q⟩ => ⟨y, ys, e, rp_hot r, rps_hot q⟩
end
mutual
def D.cool : D → Bool
  | .lst xs => D.cools xs
  | .tup xs => D.cools xs
  | .ins _ xs => D.cools xs
  | .scr xs => D.cools xs
  | .exc _ => false
  | _ => true
def D.cools : List D → Bool
  | [] => true
  | d :: ds => D.cool d && D.cools ds
end
mutual
theorem rp_cool {K : PySem.W.Frag} {g : G} {ho : Option (Addr × Ec)} : ∀ {d : D} {v : V}, d.cool = true → Rp ⟨K, ho⟩ g d v → Rp ⟨K, none⟩ g d v
  | .non, _, _, h => h
  | .bl _, _, _, h => h
  | .int _, _, _, h => h
  | .str _, _, _, h => h
  | .ty _, _, _, h => h
  | .ecl _, _, _, h => h
  | .ccl _, _, _, h => h
  | .lst ds, _, i, ⟨a, xs, e, s, r⟩ => ⟨a, xs, e, s, rps_cool (by simpa [D.cool] using i) r⟩
  | .tup ds, _, i, ⟨a, xs, e, s, r⟩ => ⟨a, xs, e, s, rps_cool (by simpa [D.cool] using i) r⟩
  | .ins c ds, _, i, ⟨a, dx, xs, e, s, q, r⟩ => ⟨a, dx, xs, e, s, q, rps_cool (by simpa [D.cool] using i) r⟩
  | .ob n, _, _, h => h
  | .exc _, _, i, _ => by simp [D.cool] at i
  | .scr ds, _, i, ⟨a, xs, e, s, r⟩ => ⟨a, xs, e, s, rps_cool (by simpa [D.cool] using i) r⟩
theorem rps_cool {K : PySem.W.Frag} {g : G} {ho : Option (Addr × Ec)} : ∀ {ds : List D} {vs : List V}, D.cools ds = true → Rps ⟨K, ho⟩ g ds vs → Rps ⟨K, none⟩ g ds vs
  | [], _, _, h => h
  | d :: ds, _, i, ⟨y, ys, e, r, q⟩ => by
    simp only [D.cools, Bool.and_eq_true] at i
    exact ⟨y, ys, e, rp_cool i.1 r, rps_cool i.2 q⟩
end
def M.cool : M → Bool
  | .gone => true
  | .lst xs => D.cools xs
  | .ins _ xs => D.cools xs
theorem mrep_hot {K : PySem.W.Frag} {g : G} {ho : Option (Addr × Ec)} {H : Hp} {a : Addr} {m : M} (h : MRep ⟨K, none⟩ g H a m) : MRep ⟨K, ho⟩ g H a m := by
  cases m with
  | gone => trivial
  | lst ds => obtain ⟨xs, h1, h2⟩ := h; exact ⟨xs, h1, rps_hot h2⟩
  | ins c ds => obtain ⟨dx, xs, h1, h2, h3⟩ := h; exact ⟨dx, xs, h1, h2, rps_hot h3⟩
theorem mrep_cool {K : PySem.W.Frag} {g : G} {ho : Option (Addr × Ec)} {H : Hp} {a : Addr} {m : M} (c : m.cool = true) (h : MRep ⟨K, ho⟩ g H a m) : MRep ⟨K, none⟩ g H a m := by
  cases m with
  | gone => trivial
  | lst ds => obtain ⟨xs, h1, h2⟩ := h; exact ⟨xs, h1, rps_cool c h2⟩
  | ins c' ds => obtain ⟨dx, xs, h1, h2, h3⟩ := h; exact ⟨dx, xs, h1, h2, rps_cool c h3⟩
theorem rs_hot {K : PySem.W.Frag} {g : G} {ho : Option (Addr × Ec)} {μ : Sto} {H : Hp} (r : Rs ⟨K, none⟩ g μ H) : Rs ⟨K, ho⟩ g μ H :=
  ⟨r.ex, r.len, fun n m a h1 h2 => mrep_hot (r.obj n m a h1 h2), r.fr, r.nd, r.fx, r.fi, r.fs⟩
theorem rs_cool {K : PySem.W.Frag} {g : G} {ho : Option (Addr × Ec)} {μ : Sto} {H : Hp} (c : μ.all M.cool = true) (r : Rs ⟨K, ho⟩ g μ H) : Rs ⟨K, none⟩ g μ H :=
  ⟨r.ex, r.len, fun n m a h1 h2 => mrep_cool (List.all_eq_true.mp c m (List.mem_of_getElem? h1)) (r.obj n m a h1 h2), r.fr, r.nd, r.fx, r.fi, r.fs⟩
theorem re_hot {K : PySem.W.Frag} {g : G} {ho : Option (Addr × Ec)} : ∀ {env : En} {σ : St}, RpE ⟨K, none⟩ g env σ → RpE ⟨K, ho⟩ g env σ
  | [], _, h => h
  | e :: es, _, ⟨s, ss, z, p, q⟩ => ⟨s, ss, z, fun d hd => let ⟨v, a, b⟩ := p d hd; ⟨v, a, rp_hot b⟩, re_hot q⟩
/-- a wish behind an except suite that returns -/
def Fl.cool (r : Fl) : Fl := match r with
  | .rt d μ => if (d.cool && μ.all M.cool) = true then .rt d μ else .fail
  | _ => .fail
/-- try: body / except c1 as n: suite (which returns) -/
def aTryA (es : List Ec) (c1 : Ec) (i : Nat) (S S2 : ATS) : ATS := fun env μ => match S env μ with
  | .ex e env' μ' => if e ∈ es then (if e.under c1 = true then (S2 (env'.set i (some (.exc e))) μ').cool else .ex e env' μ') else .fail
  | z => z
theorem s_tryA {n x1 : Str} {i : Nat} {b0 : Stmt} {np pos3 pos4 : Pos} (es : List Ec) (c1 : Ec) (hx : ∀ e ∈ es, PySem.W.exmOne X.K (.ref (He.ga X.K e.nm)) (.ref (He.ga X.K c1.nm)) = some (e.under c1)) (g1 : X.mg c1.nm = some (.ref (He.ga X.K c1.nm))) (hN : X.N.Nodup) (tk : L2.Takes X W)
    (hb : ∀ (W' : WX) (pn : List (Addr × Obj)) (xe : Value → Shared → Prop), L2.Takes (X.tr pn xe) W' → PassesOwn (model X.prog X.w) X.A X.env xe → ESs (X.tr pn xe) none W' body S)
    (hsu : ∀ (e : Ec) (a : Addr) (oe : Obj) (pn : List (Addr × Obj)), e ∈ es → Zc (.ref (He.ga X.K e.nm)) none oe → (∃ vs, oe.data = .fields vs) → ESs (X.suite a ((a, oe) :: pn)) (some (a, e)) W0 (b0 :: suite) S2)
    (hi : X.N[i]? = some n := by rfl) (hln : X.env.kindOf n = some .local := by rfl) (hs : X.stack = X.env :: X.outer := by rfl) (hf : X.env.frame = some X.env.locals := by rfl) (e1 : x1 = c1.nm := by rfl) (hg1 : Gl X x1 := by rfl) (hdb1 : (x1 == ("__debug__" : Str)) = false := by decide) :
    ES X none W (.Try body [.ExceptHandler (some (.Name x1 np)) (some n) (b0 :: suite) pos3] [] [] pos4) (aTryA es c1 i S S2) := by
  subst e1
  -- the suite's reading: some exception of the program is handled
  refine ⟨_, L2.ps_try_as (i := i) (c := .ref (He.ga X.K c1.nm)) (tb := fun W' => absS (kx X none) W' S)
    (ts := fun a cls d T σ H => ∃ e env g μ, e ∈ es ∧ cls = .ref (He.ga X.K e.nm) ∧ d = none ∧ RpE ⟨X.K, some (a, e)⟩ g env σ ∧ Rs ⟨X.K, some (a, e)⟩ g μ H ∧ PostS ⟨X.K, some (a, e)⟩ g (S2 env μ) T W0) (Wout := W) hs hf hN hi hln ⟨hg1, hdb1, .inl g1⟩ tk
    (fun W' pn xe t1 po => (hb W' pn xe t1 po).can) (fun a oe cls d pn hz hfd => ?_), fun σ env g μ H T re rs q => ?_⟩
  · refine ⟨fun pins s σ H T I ⟨e, env, g, μ, he, ec, ed, re, rs, q⟩ => ?_⟩
    subst ec ed
    obtain ⟨t, pt, st⟩ := hsu e a oe pn he hz hfd
    exact pt.run pins s σ H T I (st σ env g μ H T re rs q)
  · refine ⟨env, g, μ, re, rs, ?_⟩
    unfold aTryA at q
    cases z : S env μ with
    | ex e env' μ' =>
      rw [z] at q
      have q : PostS (kx X none) g (if e ∈ es then (if e.under c1 = true then (S2 (env'.set i (some (.exc e))) μ').cool else .ex e env' μ') else .fail) T W := q
      by_cases he : e ∈ es
      · rw [if_pos he] at q
        intro σ' h H' l re' rs'
        refine ⟨e.under c1, hx e he, fun hu a na => ?_, fun hu => ?_⟩
        · rw [if_pos hu] at q
          refine ⟨e, env'.set i (some (.exc e)), h, μ', he, rfl, rfl, (re_hot re').set (show Rp ⟨X.K, some (a, e)⟩ h (.exc e) (.ref a) from ⟨a, rfl, rfl⟩) i, rs_hot rs', ?_⟩
          cases z2 : S2 (env'.set i (some (.exc e))) μ' with
          | rt d m =>
            rw [z2] at q
            have q : PostS (kx X none) g (if (d.cool && m.all M.cool) = true then .rt d m else .fail) T W := q
            by_cases hc : (d.cool && m.all M.cool) = true
            · rw [if_pos hc] at q
              obtain ⟨c1, c2⟩ := Bool.and_eq_true_iff.mp hc
              exact fun v h2 H2 l2 rs2 rv => q v h2 H2 (l.trans l2) (rs_cool c2 rs2) (rp_cool c1 rv)
            · rw [if_neg hc] at q; exact q.elim
          | nx _ _ => rw [z2] at q; exact q.elim
          | bk _ _ => rw [z2] at q; exact q.elim
          | ct _ _ => rw [z2] at q; exact q.elim
          | ex _ _ _ => rw [z2] at q; exact q.elim
          | fail => rw [z2] at q; exact q.elim
        · rw [hu, if_neg Bool.false_ne_true] at q
          exact q σ' h H' l re' rs'
      · rw [if_neg he] at q; exact q.elim
    | nx e m => rw [z] at q; exact q
    | rt d m => rw [z] at q; exact q
    | bk e m => rw [z] at q; exact q
    | ct e m => rw [z] at q; exact q
    | fail => rw [z] at q; exact q

/-! ### isinstance of the handled exception -/
/-- the exception that is handled stands in the context -/
structure HotX1 (X : Cx) (a : Addr) (e : Ec) : Prop where
  ex : ∃ oe, (a, oe) ∈ X.pn ∧ Zc (.ref (He.ga X.K e.nm)) none oe ∧ ∃ vs, oe.data = .fields vs
  hd : X.A.handled = some (.ref a)
theorem hotX1_suite {a : Addr} {e : Ec} {oe : Obj} {pn : List (Addr × Obj)} (hz : Zc (.ref (He.ga X.K e.nm)) none oe) (hf : ∃ vs, oe.data = .fields vs) : HotX1 (X.suite a ((a, oe) :: pn)) a e := ⟨⟨oe, List.mem_cons_self .., hz, hf⟩, rfl⟩
def tEc (K : PySem.W.Frag) : D → Option Value
  | .ecl c => some (.ref (He.ga K c.nm))
  | .ty T => some (.type T)
  | _ => none
/-- what an exception is an instance of -/
def isE1 (cs : List Ec) (x : Ec) (e : D) (μ : Sto) : R D := match e with
  | .ecl c => if c ∈ cs then .ok (.bl (x.under c)) μ else .fail
  | .ty T => if T = "ValueError" then .ok (.bl true) μ else .fail
  | _ => .fail
def dIsE (es cs : List Ec) : D → D → Sto → R D := fun d e μ => match d with
  | .exc x => if x ∈ es then isE1 cs x e μ else .fail
  | _ => .fail
structure IsK (K : PySem.W.Frag) (es cs : List Ec) : Prop where
  c : ∀ x ∈ es, ExcC K (He.ga K x.nm)
  u : ∀ x ∈ es, ∀ c ∈ cs, PySem.W.kitOne K (.ref (He.ga K x.nm)) (.ref (He.ga K c.nm)) = some (x.under c)
  v : ∀ x ∈ es, PySem.W.kitOne K (.ref (He.ga K x.nm)) (.type "ValueError") = some true
def rIsX (K : PySem.W.Frag) (D a : Addr) : List V → Hp → VK → Prop := fun xs H Q => ∃ (c : V) (cv : Value) (b : Bool), xs = [.ref a, c] ∧ (∀ u, RelV c u → u = cv) ∧ PySem.W.kitOne K (.ref D) cv = some b ∧ Q (.bl b) H
theorem inst_of {pins : List (Addr × Obj)} {σ : St} {H : Hp} {s : Shared} {a D : Addr} {oe : Obj} (I : Inv X pins σ H s) (hp : (a, oe) ∈ X.pn) (hz : Zc (.ref D) none oe) (hf : ∃ vs, oe.data = .fields vs) : PySem.W.InstAt s.heap a oe D none := by
  obtain ⟨hget, _⟩ := I.pin (a, oe) (List.mem_append.mpr (.inl hp))
  obtain ⟨vs, hv⟩ := hf
  obtain ⟨oc, od, oda, osl⟩ := oe
  obtain ⟨h1, h2⟩ := hz
  dsimp only at h1 h2 hv
  subst h1 h2 hv
  exact ⟨hget, rfl, rfl, trivial⟩
theorem call_isX {a D : Addr} {oe : Obj} (C : ExcC X.K D) (hp : (a, oe) ∈ X.pn) (hz : Zc (.ref D) none oe) (hf : ∃ vs, oe.data = .fields vs) : CallR X (.builtin "isinstance") (rIsX X.K D a) := by
  intro pins s σ H xs us Q I r h
  obtain ⟨c, cv, b, rfl, hcv, e, q⟩ := h
  obtain ⟨u1, u2, rfl, r1, r2⟩ := vals2 r
  have ec := hcv _ r2
  subst ec
  cases r1
  exact PySem.W.kia_one (PySem.W.handS_kitx_exc C.hg C.hk C.hs C.hd C.ha C.hn C.ht C.hm) I.kIn (inst_of I hp hz hf) e (fun z => nomatch z) fun tk => ⟨.bl b, H, I.kept (t' := tk) fun _ _ z => z, rfl, q⟩
theorem e_isE {es cs : List Ec} {a : Addr} {xc : Ec} {pI : Pos} {e1 e2 : Expr} (hX : HotX1 X a xc) (T : IsK X.K es cs) (he : xc ∈ es) (hm : X.mg "isinstance" = none) (ha : EA X (some (a, xc)) W [e1, e2] As) (hg : Gl X "isinstance" := by rfl) (hst : starEach [e1, e2] X.env = (false, eval e1 X.env) :: starEach [e2] X.env := by rfl) (hpl : (backTo pos (starEach [e2] X.env)).any (·.1) = false := by rfl) :
    EE X (some (a, xc)) W (.Call (.Name "isinstance" pI) [e1, e2] [] pos) (aCB (two2 (dIsE es cs)) As) := by
  obtain ⟨oe, hp, hz, hf⟩ := hX.ex
  refine e_callB (call_isX (T.c xc he) hp hz hf) (cs_two fun d e x y g μ H Q E rx ry rs p => ?_) hm ha hg (by decide +kernel) (by decide) (by decide) hst hpl
  cases d with
  | exc x' =>
    obtain ⟨ad, q1, q2⟩ := rx
    have q2 : some (a, xc) = some (ad, x') := q2
    cases q2
    have p : Post (kx X (some (a, xc))) g (Rp (kx X (some (a, xc)))) (if xc ∈ es then isE1 cs xc e μ else R.fail) Q E := p
    rw [if_pos he] at p
    cases e with
    | ecl c =>
      have p : Post (kx X (some (a, xc))) g (Rp (kx X (some (a, xc)))) (if c ∈ cs then R.ok (.bl (xc.under c)) μ else R.fail) Q E := p
      by_cases hc : c ∈ cs
      · rw [if_pos hc] at p
        exact ⟨y, .ref (He.ga X.K c.nm), _, by rw [q1], fun u ru => by rw [show y = _ from ry] at ru; exact ru, T.u xc he c hc, p.ret rs rfl⟩
      · rw [if_neg hc] at p; exact p.elim
    | ty Ty =>
      have p : Post (kx X (some (a, xc))) g (Rp (kx X (some (a, xc)))) (if Ty = "ValueError" then R.ok (.bl true) μ else R.fail) Q E := p
      by_cases hc : Ty = "ValueError"
      · rw [if_pos hc] at p
        subst hc
        exact ⟨y, .type "ValueError", _, by rw [q1], fun u ru => by rw [show y = _ from ry] at ru; exact ru, T.v xc he, p.ret rs rfl⟩
      · rw [if_neg hc] at p; exact p.elim
    | _ => exact p.elim
  | _ => exact p.elim
/-- isinstance(e, (A, B, ..)) -/
def dIsET.ecls (cs : List Ec) : List D → Option (List Ec)
  | [] => some []
  | d :: r => match d with
    | .ecl c => if c ∈ cs then (ecls cs r).map fun l => c :: l else none
    | _ => none
theorem ecls_ok {K : PySem.W.Frag} {es cs : List Ec} {x : Ec} {g : G} {ho : Option (Addr × Ec)} (T : IsK K es cs) (he : x ∈ es) : ∀ {ds : List D} {l : List Ec} {vs : List V} {us : List Value}, dIsET.ecls cs ds = some l → Rps ⟨K, ho⟩ g ds vs → Vals vs us → PySem.W.kitAny K (.ref (He.ga K x.nm)) us = some (l.any x.under)
  | [], l, vs, us, h, r, rv => by
    cases h
    rw [show vs = [] from r] at rv
    cases rv
    rfl
  | d :: ds, l, vs, us, h, ⟨v, vr, e1, r1, r2⟩, rv => by
    rw [e1] at rv
    cases rv with
    | @cons _ u _ us' ru rr =>
      cases d with
      | ecl c =>
        have h : (if c ∈ cs then (dIsET.ecls cs ds).map (fun l => c :: l) else none) = some l := h
        by_cases hc : c ∈ cs
        · rw [if_pos hc] at h
          obtain ⟨l', h1, h2⟩ := Option.map_eq_some_iff.mp h
          have ih := ecls_ok T he h1 r2 rr
          rw [show v = _ from r1] at ru
          have ru : u = .ref (He.ga K c.nm) := ru
          rw [ru, ← h2]
          unfold PySem.W.kitAny
          rw [T.u x he c hc, List.any_cons]
          cases x.under c with
          | true => rfl
          | false => exact ih
        · rw [if_neg hc] at h; cases h
      | _ => cases h
def rIsXT (K : PySem.W.Frag) (D a : Addr) : List V → Hp → VK → Prop := fun xs H Q => ∃ (tp : Addr) (cs : List V) (b : Bool), xs = [.ref a, .ref tp] ∧ H tp = some (.tup cs) ∧ (∀ us, Vals cs us → PySem.W.kitAny K (.ref D) us = some b) ∧ Q (.bl b) H
theorem call_isXT {a D : Addr} {oe : Obj} (C : ExcC X.K D) (hp : (a, oe) ∈ X.pn) (hz : Zc (.ref D) none oe) (hf : ∃ vs, oe.data = .fields vs) : CallR X (.builtin "isinstance") (rIsXT X.K D a) := by
  intro pins s σ H xs us Q I r h
  obtain ⟨tp, cs, b, rfl, hT, hk, q⟩ := h
  obtain ⟨u1, u2, rfl, r1, r2⟩ := vals2 r
  cases r1
  cases (show u2 = Value.ref tp from r2)
  obtain ⟨_, its, rv, o, h1, h2, n, h3⟩ := (show ObjOk X.prog X.w H s.heap tp (.tup cs) from I.hok tp _ hT)
  obtain ⟨oc, od, dt, sl⟩ := o
  simp only at h2 h3
  subst h2 h3
  exact PySem.W.kia_tup (PySem.W.handS_kitx_exc C.hg C.hk C.hs C.hd C.ha C.hn C.ht C.hm) I.kIn (inst_of I hp hz hf) h1 (hk its rv) (fun z => nomatch z) fun tk => ⟨.bl b, H, I.kept (t' := tk) fun _ _ z => z, rfl, q⟩
end
end Z

set_option Elab.async false
set_option linter.all false
set_option maxRecDepth 100000
set_option maxHeartbeats 2000000
/-! Sim, part 10: what is called while an exception is handled, signs of a text, the ghost's statements. -/
namespace Z
open PySem PySem.Spec PyProof.Rows L2 L2H
/-! ### defs that are called while an exception is handled -/
/-- p's object is handled, an exception of the class e -/
structure HotQ (K : PySem.W.Frag) (A : Around) (p : Addr × Obj) (e : Ec) : Prop where
  hd : A.handled = some (.ref p.1)
  zc : Zc (.ref (He.ga K e.nm)) none p.2
  fl : ∃ vs, p.2.data = .fields vs
def aDefQ (loc : Nat) (S : ATS) : AF := fun ds μ => (S (startA loc ds) μ).res.noex
def spQ (k : Kx) (n : Nat) (a : AF) : Sp := fun vs H Q E => ∃ ds g μ, ds.length = n ∧ Rps k g ds vs ∧ Rs k g μ H ∧ Post k g (Rp k) (a ds μ) Q E
structure FnQ (P : Program) (w : World) (K : PySem.W.Frag) (mg : Str → Option Value) (base : Heap) (CX : CXT) (j : Nat) (f : Addr) (fd : FuncData) (ps : List Str) (n : Nat) (a : AF) (es : List Ec) : Prop where
  nl : n = ps.length
  run : ∀ (A : Around) (outer : List Env) (s : Shared) (H : Hp) (args : Args) (us : List Value) (vs : List V) (Q : VK) (E : XK) (p : Addr × Obj) (e : Ec), e ∈ es → RoomH j A → HotQ K A p e → PinOk outer H s p → Env0 P w K mg base A outer s H → BindsTo s fd args (ps.zip us) → Vals vs us → spQ ⟨K, some (p.1, e)⟩ n a vs H Q E →
    codeAny (model P w) A (.call (.ref f) args) (CR CX outer P w H s Q E) s
section
variable {P : Program} {w : World} {K : PySem.W.Frag} {mg : Str → Option Value} {base : Heap} {x qual : Str} {params : Arguments} {body : List Stmt} {scope : Scope} {dvs : List V} {f : Addr} {fd : FuncData} {CX : CXT}
theorem def_okQ {N ps : List Str} {j : Nat} {S : ATS} {es : List Ec} (F : FunD K x qual params body scope dvs [] f fd) (Sc : FnScope N ps scope)
    (hbody : ∀ (cdv : Value) (A : Around) (outer : List Env) (s : Shared) (H : Hp) (E : XK) (p : Addr × Obj) (e : Ec), e ∈ es → HotQ K (cxH CX P w K mg base N qual scope f cdv A outer s H E p).A p e → RoomH j (A.deeper (envOfC qual scope s.heap.objs.size f cdv)) →
      ESs (cxH CX P w K mg base N qual scope f cdv A outer s H E p) (some (p.1, e)) W0 body S) :
    FnQ P w K mg base CX (j + 1) f fd ps ps.length (aDefQ (N.length - ps.length) S) es := by
  obtain ⟨oc, od, dV, kV, doc, pm, an, cdv, ct, osl, rfl, lk, hcd, _, _⟩ := F.ex
  refine ⟨rfl, fun A outer s H args us vs Q E p e he hr hot hpin e0 hb r hsp => ?_⟩
  obtain ⟨ds, g, μ, hl0, rds, rs, pp⟩ := hsp
  have hl : vs.length = ps.length := by rw [rds.length, hl0]
  have KX : K.In s.heap := e0.mod.kin.keeps fun b o e => (e0.bs b o e).1
  have lim : s.heap.NoLimit := e0.mod.nolimit.keeps fun b o e => (e0.bs b o e).1
  have hkind : ∀ y ∈ ps.zip us, scope.names.lookup y.1 = some .local ∨ (scope.names.lookup y.1 = some .cell ∧ ((cellsFrom (s.heap.objs.size + 1) scope.names []).lookup y.1).isSome = true) := fun ⟨n, v⟩ hy => by
    rcases Sc.par n (List.of_mem_zip hy).1 with q | q
    · exact .inl q
    · exact .inr ⟨q, PySem.W.cellsFrom_some _ _ _ (.inl q)⟩
  refine codeAny_call_function hr.depth (KX _ _ lk) rfl Sc.co Sc.gen rfl (PySem.W.codeRec_of KX hcd) (hb _ _ _ _ ?_)
  refine wpAny_newFunctionEnv_cells Sc.kind hkind fun env he s1 x => ?_
  subst he
  refine ⟨lim.keeps x.toInCall.keep, codeAny_func ?_⟩
  obtain ⟨t, pt, st⟩ := hbody cdv A outer s H E p e he ⟨hot.hd, hot.zc, hot.fl⟩ (hr.deeper _)
  have I : Inv (cxH CX P w K mg base N qual scope f cdv A outer s H E p) [] (L2.start N vs) H s1 := inv_startH Sc hpin e0 hl r x
  have re := rpE_start (N.length - ps.length) rds
  have est : L2.start N vs = vs.map some ++ List.replicate (N.length - ps.length) none := by
    unfold L2.start
    rw [rds.length, hl0]
  have hq : t { nx := fun _ H' => Q .non H', rt := Q } (L2.start N vs) H := by
    rw [est]
    refine st _ _ g μ H _ re rs ?_
    have pp : Post ⟨K, some (p.1, e)⟩ g (Rp ⟨K, some (p.1, e)⟩) (S (startA (N.length - ps.length) ds) μ).res.noex Q E := pp
    cases z : S (startA (N.length - ps.length) ds) μ with
    | rt d m => rw [z] at pp; exact fun v h H' l rs' rv => pp v h H' l rs' rv
    | nx e m => rw [z] at pp; exact fun σ h H' l re' rs' => pp .non h H' l rs' rfl
    | ex c e m => rw [z] at pp; exact pp.elim
    | bk _ _ => rw [z] at pp; exact pp.elim
    | ct _ _ => rw [z] at pp; exact pp.elim
    | fail => rw [z] at pp; exact pp.elim
  refine wpAny_mono (pt.run [] s1 (L2.start N vs) H _ I hq) (fun fl s' hs => ?_) fun e s' hs => hs
  have fin : ∀ {σ' : St} {H' : Hp} {v : V} {u : Value}, Inv (cxH CX P w K mg base N qual scope f cdv A outer s H E p) [] σ' H' s' → RelV v u → Q v H' → CE outer P w H s Q u s' :=
    fun {σ' H' v u} J rv q => ⟨v, H', J.os, J.bare, J.base, J.hok, rv, q⟩
  cases fl with
  | ret u =>
    obtain ⟨v, σ', H', J, rv, q⟩ := hs
    exact fin J rv q
  | next =>
    obtain ⟨σ', H', J, q⟩ := hs
    exact fin (v := V.non) (u := Value.none) J rfl q
  | brk =>
    obtain ⟨_, _, _, q⟩ := hs
    exact False.elim q
  | cont =>
    obtain ⟨_, _, _, q⟩ := hs
    exact False.elim q
end
/-- such a def, callable -/
structure CalQ (P : Program) (w : World) (K : PySem.W.Frag) (mg : Str → Option Value) (base : Heap) (CX : CXT) (j : Nat) (f : Addr) (n : Nat) (a : AF) (es : List Ec) : Prop where
  ex : ∃ (fd : FuncData) (ps : List Str), FnQ P w K mg base CX j f fd ps n a es ∧ Binds K fd ps []
  kp : PySem.W.keepIn K (.ref f) = true
section
variable {X : Cx} {W : WX} {a b c e o : Expr} {es : List Expr} {A B C : AE} {As : AA} {pos p : Pos} {x : Str}
theorem hotX1_Q {K : PySem.W.Frag} {a : Addr} {e : Ec} (h1 : HotX1 X a e) : ∃ p : Addr × Obj, p.1 = a ∧ p ∈ X.pn ∧ HotQ X.K X.A p e := by
  obtain ⟨oe, h2, h3, h4⟩ := h1.ex
  exact ⟨(a, oe), rfl, h2, ⟨h1.hd, h3, h4⟩⟩
/-- what is let out while an exception is handled: nothing -/
theorem e_callQ {CX : CXT} {j j' n : Nat} {f : Addr} {af : AF} {cs : List Ec} {ad : Addr} {xc : Ec} (F : CalQ X.prog X.w X.K X.mg X.base CX j f n af cs) (hr : RoomH j' X.A) (hX : HotX1 X ad xc) (he : xc ∈ cs) (hm : X.mg x = some (.ref f)) (hx : ∀ σ, PassesAt CX X σ (WE W σ)) (ha : EA X (some (ad, xc)) W (e :: es) As)
    (hn : LenI As n) (hj : j ≤ j' := by decide) (hg : Gl X x := by rfl) (hdb : (x == ("__debug__" : Str)) = false := by decide)
    (hst : starEach (e :: es) X.env = (false, eval e X.env) :: starEach es X.env := by rfl) (hpl : (backTo pos (starEach es X.env)).any (·.1) = false := by rfl) : EE X (some (ad, xc)) W (.Call (.Name x p) (e :: es) [] pos) (aCall af [] As) := by
  obtain ⟨fd, ps, FO, hb⟩ := F.ex
  obtain ⟨t, pt, st⟩ := ha
  obtain ⟨q, e1, hp, hot⟩ := hotX1_Q (K := X.K) hX
  refine ⟨fun σ H Q => t σ H fun vs H1 => spQ ⟨X.K, some (q.1, xc)⟩ n af vs H1 Q (WE W σ), ⟨fun pins s σ H Q I h => ?_⟩, fun σ env g μ H Q re rs qq => ?_⟩
  · refine wpAny_Call_Name_kw (ld_glob I hg hm ?_ hdb)
    refine PySem.W.callWith_K (h₀ := X.base) I.ok.mod.kin F.kp (thn (pt.run pos pins s σ H _ I h) fun us s1 ⟨vs, H1, I1, r, q1⟩ => ⟨I1.kIn, ?_⟩) hst hpl
    have hl : us.length = ps.length := by
      obtain ⟨ds, g, μ, hl0, rds, _⟩ := q1
      rw [← r.length, rds.length, hl0, FO.nl]
    have b := hb s1 us I1.kIn (by rw [List.append_nil]; exact hl)
    rw [List.append_nil] at b
    have P1 := I1.pin q (List.mem_append_left _ hp)
    have hpin : PinOk X.stack H1 s1 q := ⟨P1.1, P1.2.1, fun hm => (List.mem_cons.mp (I1.stkSub q.1 hm)).elim P1.2.2.1 P1.2.2.2.1, P1.2.2.2.2⟩
    refine wpAny_call (codeAny_mono (FO.run X.A X.stack s1 H1 ⟨us, []⟩ us vs Q (WE W σ) q xc he (hr.mono hj) hot hpin I1.env0 b r q1) fun r s' hq => ?_)
    cases r with
    | error e => exact hx σ pins H1 s1 e s' I1 hq
    | ok fl =>
      cases fl with
      | ret u => exact I1.after hq
      | next => exact False.elim hq
      | brk => exact False.elim hq
      | cont => exact False.elim hq
  · refine st σ env g μ H _ re rs ?_
    have hn := hn env μ
    unfold aCall at qq
    cases z : As env μ with
    | ok ds m =>
      rw [z] at qq hn
      intro vs h H1 l rs1 rv
      rw [e1]
      have qq : Post (kx X (some (ad, xc))) g (Rp (kx X (some (ad, xc)))) (af (ds ++ []) m) Q _ := qq
      rw [List.append_nil] at qq
      exact ⟨ds, h, m, hn, rv, rs1, Post.mono l qq⟩
    | ex c m => rw [z] at qq; exact qq
    | fail => rw [z] at qq; exact qq
/-! ### isinstance of the handled exception with a written tuple -/
def isET1 (es cs : List Ec) (d : D) (ds : List D) (μ : Sto) : R D := match d with
  | .exc x => if x ∈ es ∧ ds.length ≤ line then (match dIsET.ecls cs ds with
    | some l => .ok (.bl (l.any x.under)) μ
    | none => .fail) else .fail
  | _ => .fail
def aIsT (es cs : List Ec) (A : AE) (As : AA) : AE := fun env μ => (A env μ).bind fun d m => (As env m).bind fun ds m2 => isET1 es cs d ds m2
theorem e_isET {es cs : List Ec} {a : Addr} {xc : Ec} {pI pT : Pos} {e1 : Expr} {ts : List Expr} {x1 : Nat} (hX : HotX1 X a xc) (T : IsK X.K es cs) (he : xc ∈ es) (hm : X.mg "isinstance" = none) (hA : EE X (some (a, xc)) W e1 A) (hT : EA X (some (a, xc)) W ts As) (hg : Gl X "isinstance" := by rfl)
    (hs2 : starEach (.Tuple ts x1 pT :: []) X.env = (false, eval (.Tuple ts x1 pT) X.env) :: starEach [] X.env := by rfl) (hst : starEach [e1, .Tuple ts x1 pT] X.env = (false, eval e1 X.env) :: starEach [.Tuple ts x1 pT] X.env := by rfl) (hpl : (backTo pos (starEach [.Tuple ts x1 pT] X.env)).any (·.1) = false := by rfl) :
    EE X (some (a, xc)) W (.Call (.Name "isinstance" pI) [e1, .Tuple ts x1 pT] [] pos) (aIsT es cs A As) := by
  obtain ⟨oe, hp, hz, hf⟩ := hX.ex
  obtain ⟨te, pe, se⟩ := hA
  obtain ⟨tt, pt, st⟩ := hT
  refine ⟨_, pe_callB (call_isXT (T.c xc he) hp hz hf) hg hm (by decide +kernel) (pa_cons pe (pa_cons (pe_tup pt) pa_nil hs2) hst) (by decide) (by decide) hst hpl, fun σ env g μ H Q re rs p => ?_⟩
  refine se σ env g μ H _ re rs (p.bind fun d m v h H1 l rs1 rv p1 => ?_)
  refine st σ env h m H1 _ (re.mono l) rs1 (p1.bind fun ds m2 vs h2 H2 l2 rs2 rvs p2 => ?_)
  cases d with
  | exc x' =>
    obtain ⟨ad, q1, q2⟩ := rv
    have q2 : some (a, xc) = some (ad, x') := q2
    cases q2
    have p2 : Post (kx X (some (a, xc))) h2 (Rp (kx X (some (a, xc)))) (if xc ∈ es ∧ ds.length ≤ line then (match dIsET.ecls cs ds with
      | some l => R.ok (.bl (l.any xc.under)) m2
      | none => R.fail) else R.fail) Q _ := p2
    by_cases hc : xc ∈ es ∧ ds.length ≤ line
    · rw [if_pos hc] at p2
      cases z : dIsET.ecls cs ds with
      | none => rw [z] at p2; exact p2.elim
      | some l =>
        rw [z] at p2
        refine ⟨by rw [rvs.length]; exact line_le hc.2, fun tp htp => ?_⟩
        refine ⟨tp, vs, _, by rw [q1], upd_same, fun us ru => ecls_ok T he z rvs ru, ?_⟩
        exact p2 (.bl (l.any xc.under)) h2 _ (.refl h2) (rs2.extra htp) rfl
    · rw [if_neg hc] at p2; exact p2.elim
  | _ => exact p2.elim
/-! ### the signs of a text -/
def chD (s : List Nat) : List D := s.map fun c => .str [c]
def aItS (A : AE) : AA := fun env μ => (A env μ).bind fun d m => match d with
  | .str s => .ok (chD s) m
  | _ => .fail
theorem i_str {tg iter : Expr} {hot : Option (Addr × Ec)} (h : EE X hot W iter A) : EI X hot W tg iter (aItS A) := by
  obtain ⟨te, p, s⟩ := h
  refine ⟨_, pi_str p, fun σ env g μ H Rk re rs q => s σ env g μ H _ re rs (q.bind fun d m x h H1 l rs1 rv q1 => ?_)⟩
  cases d with
  | str cs =>
    refine ⟨⟨cs.toArray⟩, rv, q1 _ h H1 (.refl h) rs1 ?_⟩
    intro i h2 μ2 H2 l2 rs2
    refine ⟨fun hi => by show cs.toArray.size ≤ i; simpa [chD] using hi, fun d' hd => ?_⟩
    have hd : (cs.map fun c => D.str [c])[i]? = some d' := hd
    rw [List.getElem?_map] at hd
    cases z : cs[i]? with
    | none => rw [z] at hd; cases hd
    | some c0 =>
      rw [z] at hd
      have hd : D.str [c0] = d' := Option.some.inj hd
      subst hd
      refine ⟨by show i < cs.toArray.size; simpa using (List.getElem?_eq_some_iff.mp z).1, fun x' H' y => ?_⟩
      obtain ⟨e2, c1, y1, y2⟩ := y
      have y1 : cs.toArray[i]? = some c1 := y1
      rw [List.getElem?_toArray, z] at y1
      cases y1
      subst e2
      exact ⟨h2, .refl h2, rs2, y2⟩
  | _ => exact q1.elim
end
end Z

set_option Elab.async false
set_option linter.all false
set_option maxRecDepth 100000
set_option maxHeartbeats 2000000
/-! Sim, part 11: the head's facts, callable defs, methods of texts and lists, the law's end. -/
namespace Z
open PySem PySem.Spec PyProof.Rows L2 L2H
/-! ### further facts -/
inductive Xf where
  | ec (c : Ec) | ki (x c : Ec) | kv (x : Ec)
def Xf.ok (K : PySem.W.Frag) : Xf → Bool
  | .ec c => He.eqO (PySem.W.findIn K (.ref (He.ga K c.nm)) "__getattribute__") (some (some (.builtin "BaseException.__getattribute__"))) && (He.eqO (PySem.W.findIn K (.ref (He.ga K c.nm)) "__getattr__") (some none) &&
      (decide (PySem.W.subIn K (.ref (He.ga K c.nm)) (.type "BaseException") = some true) && (PySem.W.hasDictIn K (He.ga K c.nm) && (He.eqO (PySem.W.findIn K (.ref (He.ga K c.nm)) "__class__") (some (some (.builtin "object.__class__"))) &&
      (He.eqO (PySem.W.specialIn K (.builtin "object.__class__") "__get__") (some (some (.builtin "getset_descriptor.__get__"))) && (decide (PySem.W.takesIn K (.builtin "object.__class__") = some true) && decide (PySem.W.mroIn K (He.ga K c.nm) (.type "object") = some true)))))))
  | .ki x c => decide (PySem.W.kitOne K (.ref (He.ga K x.nm)) (.ref (He.ga K c.nm)) = some (x.under c))
  | .kv x => decide (PySem.W.kitOne K (.ref (He.ga K x.nm)) (.type "ValueError") = some true)
theorem xf_ec {K : PySem.W.Frag} {c : Ec} (h : (Xf.ec c).ok K = true) : ExcC K (He.ga K c.nm) := by
  obtain ⟨h1, h⟩ := He.ba h
  obtain ⟨h2, h⟩ := He.ba h
  obtain ⟨h3, h⟩ := He.ba h
  obtain ⟨h4, h⟩ := He.ba h
  obtain ⟨h5, h⟩ := He.ba h
  obtain ⟨h6, h⟩ := He.ba h
  obtain ⟨h7, h8⟩ := He.ba h
  exact ⟨He.eqO_ok h1, He.eqO_ok h2, of_decide_eq_true h3, h4, He.eqO_ok h5, He.eqO_ok h6, of_decide_eq_true h7, of_decide_eq_true h8⟩
def obsX (fa : List He.Fa) (fn : List He.DefD) (xf : List Xf) (K : PySem.W.Frag) : He.AlD := (((fa.all fun f => f.ok K) && fn.all fun d => d.ok K) && xf.all fun x => x.ok K, fn.map fun d => He.fnW K d.at_)
def SaysX (fa : List He.Fa) (fn : List He.DefD) (xf : List Xf) (K : PySem.W.Frag) : Prop := obsX fa fn xf K = He.valD fn
def obsXG (n : Nat) (fa : List He.Fa) (fn : List He.DefD) (xf : List Xf) (g : Addr → Option Obj) : He.AlD := obsX fa fn xf (He.frG g (He.asD g n))
def hookX (n : Nat) (fa : List He.Fa) (fn : List He.DefD) (xf : List Xf) : PySem.W.Hook where
  α := He.AlD
  obs := fun s => obsXG n fa fn xf s.heap.get?
  val := fun _ => He.valD fn
  says := fun _ h => ∃ K : PySem.W.Frag, K.In h ∧ SaysX fa fn xf K
  of := fun _ _ e => ⟨_, He.frG_in, e⟩
  keeps := fun _ _ _ ⟨K, hK, c⟩ k => ⟨K, PySem.W.Frag.In.keeps hK k, c⟩
theorem obsXG_eq {n : Nat} {fa : List He.Fa} {fn : List He.DefD} {xf : List Xf} {g : Addr → Option Obj} {s : Shared} (h : ∀ a, g a = s.heap.get? a) : obsXG n fa fn xf g = (hookX n fa fn xf).obs s := by
  have e : g = s.heap.get? := funext h
  rw [e] <;> rfl
theorem SaysX.d {fa : List He.Fa} {fn : List He.DefD} {xf : List Xf} {K : PySem.W.Frag} (c : SaysX fa fn xf K) : He.SaysD fa fn K ∧ (xf.all fun x => x.ok K) = true := by
  have e1 : (((fa.all fun f => f.ok K) && fn.all fun d => d.ok K) && xf.all fun x => x.ok K) = true := congrArg (fun z : He.AlD => z.1) c
  have e2 : fn.map (fun d => He.fnW K d.at_) = fn.map He.DefD.val := congrArg (fun z : He.AlD => z.2) c
  obtain ⟨h1, h2⟩ := He.ba e1
  refine ⟨?_, h2⟩
  show ((fa.all fun f => f.ok K) && fn.all fun d => d.ok K, fn.map fun d => He.fnW K d.at_) = (true, fn.map He.DefD.val)
  rw [h1, e2]
/-- what a law's walk leans on -/
structure Fx (fa : List He.Fa) (fn : List He.DefD) (xf : List Xf) (K : PySem.W.Frag) (mg : Str → Option Value) : Prop where
  c : SaysX fa fn xf K
  h : ∃ h, K.In h ∧ h.Ns mainGlobals mg
section
variable {fa : List He.Fa} {fn : List He.DefD} {xf : List Xf} {K : PySem.W.Frag} {mg : Str → Option Value}
theorem Fx.glo (F : Fx fa fn xf K mg) {x : Str} (i : Nat) (h : fa[i]? = some (.glo x) := by rfl) : mg x = some (.ref (He.ga K x)) := by
  obtain ⟨hp, X, G⟩ := F.h
  exact He.glo_ok X G (F.c.d.1.fact i h)
theorem Fx.free (F : Fx fa fn xf K mg) {x : Str} (i : Nat) (h : fa[i]? = some (.free x) := by rfl) : mg x = none := by
  obtain ⟨hp, X, G⟩ := F.h
  exact He.free_ok X G (F.c.d.1.fact i h)
theorem Fx.int (F : Fx fa fn xf K mg) {x : Str} {z : Int} (i : Nat) (h : fa[i]? = some (.int x z) := by rfl) : ∃ t, mg x = some (.int z t) := by
  obtain ⟨hp, X, G⟩ := F.h
  exact He.int_ok X G (F.c.d.1.fact i h)
theorem Fx.str (F : Fx fa fn xf K mg) {x z : Str} (i : Nat) (h : fa[i]? = some (.str x z) := by rfl) : ∃ t, mg x = some (.str z t) := by
  obtain ⟨hp, X, G⟩ := F.h
  exact He.str_ok X G (F.c.d.1.fact i h)
theorem Fx.cls (F : Fx fa fn xf K mg) {x : Str} (i : Nat) (h : fa[i]? = some (.cls x) := by rfl) : Cls K (He.ga K x) := He.cls_ok (F.c.d.1.fact i h)
theorem Fx.noat (F : Fx fa fn xf K mg) {x f : Str} (i : Nat) (h : fa[i]? = some (.noat x f) := by rfl) : NoAttr K (He.ga K x) f := He.noat_ok (F.c.d.1.fact i h)
theorem Fx.meth (F : Fx fa fn xf K mg) {x m : Str} (i : Nat) (h : fa[i]? = some (.meth x m) := by rfl) : Meth K (He.ga K x) m (He.ma K (He.ga K x) m) := He.meth_ok (F.c.d.1.fact i h)
theorem Fx.mkr (F : Fx fa fn xf K mg) {x : Str} (i : Nat) (h : fa[i]? = some (.mkr x) := by rfl) : Mk K (He.ga K x) (He.ma K (He.ga K x) "__init__") := He.mkr_ok (F.c.d.1.fact i h)
theorem Fx.exc (F : Fx fa fn xf K mg) (c : Ec) (i j : Nat) (h : fa[i]? = some (.exc c.nm) := by rfl) (g : fa[j]? = some (.glo c.nm) := by rfl) : XcK K mg c := by
  obtain ⟨h1, h2, h3, h4⟩ := He.exc_ok (F.c.d.1.fact i h)
  exact ⟨F.glo j g, h1, h2, h3, h4⟩
theorem Fx.exm (F : Fx fa fn xf K mg) {x y : Str} {b : Bool} (i : Nat) (h : fa[i]? = some (.exm x y b) := by rfl) : PySem.W.exmOne K (.ref (He.ga K x)) (.ref (He.ga K y)) = some b := He.exm_ok (F.c.d.1.fact i h)
theorem Fx.x (F : Fx fa fn xf K mg) {x : Xf} (i : Nat) (h : xf[i]? = some x := by rfl) : x.ok K = true := List.all_eq_true.mp F.c.d.2 x (List.mem_of_getElem? h)
theorem Fx.def_ (F : Fx fa fn xf K mg) (i : Nat) {d : He.DefD} (h : fn[i]? = some d := by rfl) : ∃ fd, FunD K d.name d.qual d.params d.body d.scope (d.dvs K) (d.kws K) (He.fAd K d.at_) fd := F.c.d.1.def_ i h
end
/-! ### callable -/
section
variable {P : Program} {w : World} {K : PySem.W.Frag} {mg : Str → Option Value} {base : Heap} {x qual : Str} {params : Arguments} {body : List Stmt} {scope : Scope} {dvs : List V} {f : Addr} {fd : FuncData} {CX : CXT} {j n : Nat} {ps : List Str} {a : AF}
theorem cal0 (F : FunD K x qual params body scope [] [] f fd) (G : FnOk P w K mg base CX j f fd ps (spA K n a))
    (h : ∀ (kV doc pm : Value) (an : Option Addr) (cdv ct : Value) (us : List Value), us.length = ps.length → bindArgs (PySem.W.fnOf x qual params body scope .none kV doc pm an cdv ct) ⟨us, []⟩ = pure (ps.zip us)) : Cal P w K mg base CX j f n [] a :=
  ⟨⟨fd, ps, [], [], G, F.bindsN h, .nil, fun _ => Rps.nil⟩, F.kp⟩
theorem calD (F : FunD K x qual params body scope dvs [] f fd) (G : FnOk P w K mg base CX j f fd ps (spA K n a)) (m i : Nat) (dd : List D) (hd : dvs ≠ []) (hn : m + (dvs.length - i) = ps.length)
    (h : ∀ (T : Addr) (kV doc pm : Value) (an : Option Addr) (cdv ct : Value) (us its : List Value), us.length = m → its.length = dvs.length →
      ∃ k, bindArgs (PySem.W.fnOf x qual params body scope (.ref T) kV doc pm an cdv ct) ⟨us, []⟩ = seqItems? (.ref T) >>= k ∧ k (some its.toArray) = pure (ps.zip (us ++ its.drop i))) (hdd : ∀ g, Rps ⟨K, none⟩ g dd (dvs.drop i)) : Cal P w K mg base CX j f n dd a := by
  obtain ⟨ds, hv, hb⟩ := F.binds1 m i hd hn h
  exact ⟨⟨fd, ps, _, ds, G, hb, hv, hdd⟩, F.kp⟩
theorem calQ0 {es : List Ec} (F : FunD K x qual params body scope [] [] f fd) (G : FnQ P w K mg base CX j f fd ps n a es)
    (h : ∀ (kV doc pm : Value) (an : Option Addr) (cdv ct : Value) (us : List Value), us.length = ps.length → bindArgs (PySem.W.fnOf x qual params body scope .none kV doc pm an cdv ct) ⟨us, []⟩ = pure (ps.zip us)) : CalQ P w K mg base CX j f n a es :=
  ⟨⟨fd, ps, G, F.bindsN h⟩, F.kp⟩
def aFail : AF := fun _ _ => .fail
theorem fn_fail {ps : List Str} : FnOk P w K mg base CX j f fd ps (spA K n aFail) :=
  ⟨fun vs H Q E ⟨ds, g, μ, _, _, _, p⟩ => p.elim, fun A outer s H args us vs Q E _ _ _ _ ⟨ds, g, μ, _, _, _, p⟩ => p.elim⟩
end
/-! ### contexts -/
theorem hu_of {j : Nat} {A : Around} (r : Room j A) : A.units + 65 < cLine := by have := r.un; omega
theorem hu64 {j : Nat} {A : Around} (r : Room j A) : A.units + 64 < cLine := by have := r.un; omega
theorem huH {j : Nat} {A : Around} (r : RoomH j A) : A.units + 65 < cLine := by have := r.un; omega
theorem huH64 {j : Nat} {A : Around} (r : RoomH j A) : A.units + 64 < cLine := by have := r.un; omega
theorem no0N {X : Cx} (σ : St) : PassesAt (L2N.CX X.prog X.w) X σ (WE W0 σ) := fun _ _ _ _ _ _ ⟨_, _, _, _, _, _, _, _, _, _, _, _, h⟩ => h.elim
theorem no0C {X : Cx} (σ : St) : PassesAt (L2.CX X.prog X.w) X σ (WE W0 σ) := fun _ _ _ _ _ _ ⟨_, _, _, _, _, _, _, _, _, _, _, _, h⟩ => h.elim
theorem no0Z {X : Cx} {W : WX} (σ : St) : PassesAt CX0 X σ (WE W σ) := fun _ _ _ _ _ _ h => h.elim
/-- how far a while may turn -/
def sizeE : En → Nat
  | [] => 2
  | e :: es => (match e with
    | some (.int i) => i.natAbs
    | _ => 0) + sizeE es
def fuelE : En → Sto → Nat := fun env _ => sizeE env
/-! ### methods of texts and lists -/
section
variable {X : Cx} {W : WX} {a b c e o : Expr} {es : List Expr} {A B C : AE} {As : AA} {pos apos : Pos} {hot : Option (Addr × Ec)}
theorem e_starts (ho : EE X hot W o A) (ha : EA X hot W [e] As) (hbase : attributeBase o "startswith" X.env (eval o X.env) = eval o X.env := by rfl)
    (hline : (apos.endLine == pos.line) = true := by rfl) (hs : starEach [e] X.env = (false, eval e X.env) :: starEach [] X.env := by rfl) : EE X hot W (.Call (.Attribute o "startswith" apos) [e] [] pos) (aBM "str" (mSS cNe fun a b => .bl (TL.pre b a)) A As) :=
  e_bm PySem.F.plainAttrs_str PySem.F.slot_str_startswith PySem.F.type_str_startswith mt_startswith ms_starts ho ha hbase (by rw [hs]; rfl) hline hs rfl
theorem e_partition (ho : EE X hot W o A) (ha : EA X hot W [e] As) (hbase : attributeBase o "partition" X.env (eval o X.env) = eval o X.env := by rfl)
    (hline : (apos.endLine == pos.line) = true := by rfl) (hs : starEach [e] X.env = (false, eval e X.env) :: starEach [] X.env := by rfl) : EE X hot W (.Call (.Attribute o "partition" apos) [e] [] pos) (aBM "str" (mSS cPar parD) A As) :=
  e_bm PySem.F.plainAttrs_str PySem.F.slot_str_partition PySem.F.type_str_partition mt_partition ms_partition ho ha hbase (by rw [hs]; rfl) hline hs rfl
theorem e_split (ho : EE X hot W o A) (ha : EA X hot W [e] As) (hbase : attributeBase o "split" X.env (eval o X.env) = eval o X.env := by rfl)
    (hline : (apos.endLine == pos.line) = true := by rfl) (hs : starEach [e] X.env = (false, eval e X.env) :: starEach [] X.env := by rfl) : EE X hot W (.Call (.Attribute o "split" apos) [e] [] pos) (aBM "str" (mSS cSpl splD) A As) :=
  e_bm PySem.F.plainAttrs_str PySem.F.slot_str_split PySem.F.type_str_split mt_split ms_split ho ha hbase (by rw [hs]; rfl) hline hs rfl
theorem e_join (ho : EE X hot W o A) (ha : EA X hot W [e] As) (hbase : attributeBase o "join" X.env (eval o X.env) = eval o X.env := by rfl)
    (hline : (apos.endLine == pos.line) = true := by rfl) (hs : starEach [e] X.env = (false, eval e X.env) :: starEach [] X.env := by rfl) : EE X hot W (.Call (.Attribute o "join" apos) [e] [] pos) (aBM "str" (fun d ds μ => one1 (dJoin d) ds μ) A As) :=
  e_bm PySem.F.plainAttrs_str PySem.F.slot_str_join PySem.F.type_str_join mt_join ms_join ho ha hbase (by rw [hs]; rfl) hline hs rfl
theorem e_sindex (ho : EE X hot W o A) (ha : EA X hot W [e] As) (hbase : attributeBase o "index" X.env (eval o X.env) = eval o X.env := by rfl)
    (hline : (apos.endLine == pos.line) = true := by rfl) (hs : starEach [e] X.env = (false, eval e X.env) :: starEach [] X.env := by rfl) : EE X hot W (.Call (.Attribute o "index" apos) [e] [] pos) (aBM "str" (mSS cDig sixD) A As) :=
  e_bm PySem.F.plainAttrs_str PySem.F.slot_str_index PySem.F.type_str_index mt_sindex ms_sindex ho ha hbase (by rw [hs]; rfl) hline hs rfl
theorem e_count (ho : EE X hot W o A) (ha : EA X hot W [e] As) (hbase : attributeBase o "count" X.env (eval o X.env) = eval o X.env := by rfl)
    (hline : (apos.endLine == pos.line) = true := by rfl) (hs : starEach [e] X.env = (false, eval e X.env) :: starEach [] X.env := by rfl) : EE X hot W (.Call (.Attribute o "count" apos) [e] [] pos) (aBM "list" (fun d ds μ => one1 (dCountB d) ds μ) A As) :=
  e_bm PySem.F.plainAttrs_list PySem.F.slot_list_count PySem.F.type_list_count mt_vcount ms_count ho ha hbase (by rw [hs]; rfl) hline hs rfl
end
/-! ### the law's end -/
theorem law_sp {K : PySem.W.Frag} {a : AF} {H : Hp} {ad : Addr} {ns : List Int} (h : ∃ μ, a [.scr (ns.map D.int)] [] = .ok (.bl true) μ) (hO : Only H) (hS : SqL K H ad (ns.map V.int)) : spA K 1 a [.ref ad] H (fun v _ => v = .bl true) fun _ _ _ => False := by
  obtain ⟨μ, e⟩ := h
  have rpI : ∀ ns : List Int, Rps ⟨K, none⟩ ⟨H, [], fun _ => none⟩ (ns.map D.int) (ns.map V.int) := fun ns => by
    induction ns with
    | nil => exact Rps.nil
    | cons n ns ih => exact Rps.cons rfl ih
  refine ⟨[.scr (ns.map D.int)], ⟨H, [], fun _ => none⟩, [], rfl, Rps.cons ⟨ad, _, rfl, hS, rpI ns⟩ Rps.nil, ?_, ?_⟩
  · exact ⟨fun _ _ h => h, rfl, fun n m q h => (by simp at h), fun n m q h => (by simp at h), fun i j m1 m2 q h => (by simp at h), fun q u h => (by cases h), fun q u h => (by cases h), fun n m q h => (by simp at h)⟩
  · rw [e]
    exact fun v h H l rs r => r
end Z

set_option Elab.async false
set_option linter.all false
set_option maxRecDepth 100000
set_option maxHeartbeats 2000000
/-! Sim, part 12: small things the walks lean on. -/
namespace Z
open PySem PySem.Spec PyProof.Rows L2 L2H
def blkB (N : List Str) (sc scope : Scope) (own : List (Str × Nat)) : Bool :=
  decide (scope.kind = .function) && ((scope.names.all fun y => decide (scope.names.lookup y.1 = some y.2)) && ((own.all fun p => decide (N[p.2]? = some p.1)) &&
    ((scope.names.all fun y => !decide (y.2 = .free) || (decide (sc.names.lookup y.1 = some .cell) || decide (sc.names.lookup y.1 = some .free))) && scope.names.all fun y => !(decide (y.2 = .local) || decide (y.2 = .cell)) || (decide (y.1 ∈ own.map (·.1)) || decide (y.1 ∉ N)))))
theorem blkd {N : List Str} {sc scope : Scope} {own : List (Str × Nat)} (h : blkB N sc scope own = true) : BlkOk N sc scope own := by
  obtain ⟨h1, h⟩ := He.ba h
  obtain ⟨h2, h⟩ := He.ba h
  obtain ⟨h3, h⟩ := He.ba h
  obtain ⟨h4, h5⟩ := He.ba h
  refine ⟨of_decide_eq_true h1, fun y hy => of_decide_eq_true (List.all_eq_true.mp h2 y hy), fun p hp => of_decide_eq_true (List.all_eq_true.mp h3 p hp), fun y hy e => ?_, fun y hy e => ?_⟩
  · have q := List.all_eq_true.mp h4 y hy
    rw [decide_eq_true e] at q
    rcases Bool.or_eq_true_iff.mp (show (decide (sc.names.lookup y.1 = some .cell) || decide (sc.names.lookup y.1 = some .free)) = true from by simpa using q) with z | z
    · exact .inl (of_decide_eq_true z)
    · exact .inr (of_decide_eq_true z)
  · have q := List.all_eq_true.mp h5 y hy
    have e2 : (decide (y.2 = .local) || decide (y.2 = .cell)) = true := by
      rcases e with e | e
      · rw [decide_eq_true e]; rfl
      · rw [decide_eq_true e]; cases decide (y.2 = .local) <;> rfl
    rw [e2] at q
    rcases Bool.or_eq_true_iff.mp (show (decide (y.1 ∈ own.map (·.1)) || decide (y.1 ∉ N)) = true from by simpa using q) with z | z
    · exact .inl (of_decide_eq_true z)
    · exact .inr (of_decide_eq_true z)
section
variable {fa : List He.Fa} {fn : List He.DefD} {xf : List Xf} {K : PySem.W.Frag} {mg : Str → Option Value}
theorem Fx.ec (F : Fx fa fn xf K mg) {c : Ec} (i : Nat) (h : xf[i]? = some (.ec c) := by rfl) : ExcC K (He.ga K c.nm) := xf_ec (F.x i h)
theorem Fx.ki (F : Fx fa fn xf K mg) {x c : Ec} (i : Nat) (h : xf[i]? = some (.ki x c) := by rfl) : PySem.W.kitOne K (.ref (He.ga K x.nm)) (.ref (He.ga K c.nm)) = some (x.under c) := of_decide_eq_true (F.x i h)
theorem Fx.kv (F : Fx fa fn xf K mg) {x : Ec} (i : Nat) (h : xf[i]? = some (.kv x) := by rfl) : PySem.W.kitOne K (.ref (He.ga K x.nm)) (.type "ValueError") = some true := of_decide_eq_true (F.x i h)
end
def subE (a b : List Ec) : Bool := a.all fun e => decide (e ∈ b)
theorem mem_of_sub {a b : List Ec} {e : Ec} (h : subE a b = true) (m : e ∈ a) : e ∈ b := of_decide_eq_true (List.all_eq_true.mp h e m)
section
variable {P : Program} {w : World} {K : PySem.W.Frag} {mg : Str → Option Value} {base : Heap} {N : List Str} {qual : Str} {scope : Scope} {f : Addr} {cd : Value} {A : Around} {outer : List Env} {s : Shared} {H : Hp} {E : XK} {p : Addr × Obj} {e : Ec} {CX : CXT}
theorem hotX1_cxH (h : HotQ K (cxH CX P w K mg base N qual scope f cd A outer s H E p).A p e) : HotX1 (cxH CX P w K mg base N qual scope f cd A outer s H E p) p.1 e :=
  ⟨⟨p.2, List.mem_singleton.mpr rfl, h.zc, h.fl⟩, h.hd⟩
theorem spQ_imp {k : Kx} {n : Nat} {a b : AF} (h : ∀ ds μ g H Q E, Rs k g μ H → Post k g (Rp k) (b ds μ) Q E → Post k g (Rp k) (a ds μ) Q E) : ∀ vs H Q E, spQ k n b vs H Q E → spQ k n a vs H Q E :=
  fun vs H Q E ⟨ds, g, μ, hl, r, rs, q⟩ => ⟨ds, g, μ, hl, r, rs, h ds μ g H Q E rs q⟩
theorem FnQ.cut {j n : Nat} {fd : FuncData} {ps : List Str} {a : AF} {es : List Ec} (F : FnQ P w K mg base CX j f fd ps n a es) : FnQ P w K mg base CX j f fd ps n (aCut a) es :=
  ⟨F.nl, fun A outer s H args us vs Q E p e he hr hq hp e0 hb r sp => F.run A outer s H args us vs Q E p e he hr hq hp e0 hb r (spQ_imp (fun ds μ g H Q E rs q => Post.cut rs q) vs H Q E sp)⟩
end
end Z

set_option Elab.async false
set_option linter.all false
set_option maxRecDepth 100000
set_option maxHeartbeats 2000000
/-! Sim, part 13: a comprehension that lets an exception out. -/
namespace Z
open PySem PySem.Spec PyProof.Rows L2 L2H
section
variable {M : Model} {A : Around} {E : Value → Shared → Prop} {s : Shared} {env : Env}
/-- a block's end: the env is kept at an exception -/
def endX (M : Model) (A : Around) (E : Value → Shared → Prop) (Q : Value → Shared → Prop) (acc : Value) (ce : Env) (r : Result) (s' : Shared) : Prop := match r with
  | .ok _ => ∃ m, s'.heap.Ns ce.locals m ∧ ∀ h', Heap.SameBut ce.locals s'.heap h' → Q acc { s' with heap := h' }
  | .error x => ∃ m, s'.heap.Ns ce.locals m ∧ ∀ h', Heap.SameBut ce.locals s'.heap h' → wpAny M A (PySem.passOn "comprehension.variables-let-go" x ce : Sem Value) (fun _ _ => False) E { s' with heap := h' }
theorem comp_x {e : Expr} {scope : Scope} {pos : Pos} {newAcc first : Sem Value} {g : Comprehension} {gs : List Comprehension} {cl : List (Str × Addr)} {Q : Value → Shared → Prop}
    (hcl : clausesOf e = g :: gs) (hs : ∀ x, foldedSetIterable g.iter env x = pure x) (hclos : closureFor scope env = pure cl) (hkind : scope.kind = .function) (hnames : ∀ x ∈ scope.names, x.2 = .local → scope.names.lookup x.1 = some .local)
    (h : wpAny M A first (fun x s₁ => wpAny M A (pyIter x) (fun it s₂ => wpAny M A newAcc (fun acc s₃ => wpAny M A (newFunctionEnv scope env.globals cl [] env.qual none .none (some env)) (fun cenv s₄ =>
      codeAny M A (.compStart e 0 it acc { cenv with scope := relabel scope env }) (endX M A E Q acc { cenv with scope := relabel scope env }) s₄) E s₃) E s₂) E s₁) E s) :
    wpAny M A (comprehension e scope env pos newAcc false first none) Q E s := by
  unfold comprehension
  rw [hclos, hcl]
  refine wpAny_bind (wpAny_mono h (fun x s₁ h₁ => wpAny_bind (wpAny_standAt (wpAny_bind (wpAny_of_eq (hs x) (wpAny_bind (wpAny_holding (wpAny_mono h₁ (fun it s₂ h₂ =>
    wpAny_standIf (wpAny_bind (wpAny_mono h₂ (fun acc s₃ h₃ => wpAny_bind (wpAny_pure (wpAny_bind (wpAny_mono h₃ (fun cenv s₄ h₄ => ?_) fun _ _ h' => h')))) fun _ _ h' => h'))) fun _ _ h' => h'))))))) fun _ _ h' => h')
  dsimp only
  have hv : ∀ x ∈ (scope.names.filter fun x => (x.2 == .local || x.2 == .cell) && x.1 != (".0" : Str)).reverse, x.2 = .local → Env.kindOf { cenv with scope := relabel scope env } x.1 = some .local :=
    fun x hx hl => lookup_relabel_local (hnames x (List.mem_filter.mp (List.mem_reverse.mp hx)).1 hl)
  refine wpAny_holding (wpAny_bind (wpAny_attempt (wpAny_holding (wpAny_run (codeAny_mono h₄ fun r s' hr => ?_)))))
  cases r with
  | ok f =>
    obtain ⟨m, hn, hr⟩ := hr
    exact wpAny_bind (wpAny_holding (wpAny_comp_letGo (cenv := { cenv with scope := relabel scope env }) hkind _ s' m hv hn fun h' m' _ hs' => wpAny_pure (hr h' hs')))
  | error x =>
    obtain ⟨m, hn, hr⟩ := hr
    exact wpAny_bind (wpAny_holding (wpAny_comp_letGo (cenv := { cenv with scope := relabel scope env }) hkind _ s' m hv hn fun h' m' _ hs' => wpAny_mono (hr h' hs') (fun _ _ f => f.elim) fun _ _ y => y))
end
/-! the exception in the air of a block -/
theorem note_frame {a b : Env} (h : a.frame = b.frame) (e : Value) : noteFrame e a = noteFrame e b := by
  unfold noteFrame PySem.frameOf
  rw [h]
/-- in the air: new, or flying; not yet noted -/
def Sky2 (B : Heap) (l : List Env) (a : Addr) (Zo : Obj → Prop) (h : Heap) : Prop :=
  (B.StaysIn h ∧ B.get? a = none ∧ h.FunFrames B l ∧ ∃ oe vs, h.get? a = some oe ∧ Zo oe ∧ oe.data = .fields vs ∧ vs[1]? = some .none) ∨ HandSPX.FlyingZ B l a Zo h
theorem Sky2.note {M : Model} {A : Around} {E₁ : Value → Shared → Prop} {ce env : Env} {outer : List Env} {L a : Addr} {B : Heap} {Zo : Obj → Prop} {s : Shared} {Q : Unit → Shared → Prop} (hZ : PXN.Steady1 Zo) (hfr : A.frames = some (env :: outer)) (hf : env.frame = some L) (hc : ce.frame = env.frame)
    (x : Sky2 B (env :: outer) a Zo s.heap) (hQ : ∀ h', HandSPX.HeldZ B (env :: outer) a Zo L h' → s.heap.UpToSlots h' → Q () { s with heap := h' }) : wpAny M A (noteFrame (.ref a) ce) Q E₁ s := by
  rw [note_frame hc]
  rcases x with ⟨hB, hn, hl, oe, vs, he, hz, hd, h1⟩ | fl
  · exact PXN.look_newZ hZ hfr hl hf he hB hn hd h1 hz hQ
  · exact PXN.looks_onZ hZ hfr hf fl hQ
theorem frames_sub {h h' B B2 : Heap} {C : Addr} (hB : ∀ b, B.get? b = none → B2.get? b = none) (hk : ∀ b o, b ≠ C → h.get? b = some o → h'.get? b = some o) : ∀ {l : List Env}, (∀ b ∈ frs l, b ≠ C) → h.FunFrames B l → h'.FunFrames B2 l
  | [], _, _ => trivial
  | env :: l, hC, ⟨h1, ⟨L, o, e1, e2, e3, e4⟩, h2⟩ => by
    have m : L ∈ frs (env :: l) := List.mem_filterMap.mpr ⟨env, List.mem_cons_self .., e1⟩
    refine ⟨h1, ⟨L, o, e1, hB _ e2, hk _ _ (hC _ m) e3, e4⟩, frames_sub hB hk (fun b hb => hC b ?_) h2⟩
    obtain ⟨x, x1, x2⟩ := List.mem_filterMap.mp hb
    exact List.mem_filterMap.mpr ⟨x, List.mem_cons_of_mem _ x1, x2⟩
section
variable {X : Cx} {pins : List (Addr × Obj)} {σ : St} {H' : Hp} {sI s' : Shared} {W : WX} {ce : Env} {a : Addr} {B : Heap} {cls : Value} {d : Option Addr} {Q : Value → Shared → Prop} {acc : Value}
/-- an exception leaves a block -/
theorem out_blk (hs : X.stack = X.env :: X.outer) (hf : X.env.frame = some X.env.locals) (hc : ce.frame = X.env.frame) (tk : L2N.Takes X W) (I : Inv X pins σ H' sI) (fc : FpOk X pins H' ce.locals) (hm : ∃ m, sI.heap.Ns ce.locals m)
    (nb : ∀ b o, sI.heap.get? b = some o → b ∉ frs X.stack → B.get? b = some o) (up : sI.heap.UpToSlots s'.heap) (sky : Sky2 B X.stack a (L2N.Zn cls d) s'.heap) (na : H' a = none) (os : s'.os = sI.os) (ag : AllBare s'.gens) (w : W cls d σ H') :
    notedBy (model X.prog X.w) X.A ce (fun e s2 => endX (model X.prog X.w) X.A X.xe Q acc ce (.error e) s2) (.ref a) s' := by
  have hfr : X.A.frames = some (X.env :: X.outer) := by rw [I.ok.frames, hs]
  rw [hs] at sky
  refine Sky2.note L2N.Zn.steady hfr hf hc sky fun h1 hh up1 => ?_
  obtain ⟨m, hn⟩ := hm
  have hn1 : h1.Ns ce.locals m := (up.trans up1).ns hn
  refine ⟨m, hn1, fun h2 sb => ?_⟩
  obtain ⟨f0, f1, f2, f3, f4, f5⟩ := fc
  have nC : ∀ b ∈ frs X.stack, b ≠ ce.locals := fun b hb z => by
    rw [hs] at hb
    obtain ⟨e, he, q⟩ := List.mem_filterMap.mp hb
    rcases List.mem_cons.mp he with rfl | he
    · rw [hf] at q; exact f1 (by rw [← z]; exact (Option.some.inj q).symm)
    · exact f2 (z ▸ List.mem_filterMap.mpr ⟨e, he, q⟩)
  -- the ground without the block's dict
  obtain ⟨B2, g1, g2⟩ := restrict B fun b => decide (b ≠ ce.locals)
  obtain ⟨SI, j1, j2⟩ := restrict sI.heap fun b => decide (b ≠ ce.locals)
  have g3 : ∀ b o, B2.get? b = some o → b ≠ ce.locals ∧ B.get? b = some o := fun b o e => by
    by_cases z : b = ce.locals
    · rw [g2 b (by simp [z])] at e; cases e
    · exact ⟨z, by rw [← g1 b (by simp [z])]; exact e⟩
  have j3 : ∀ b o, SI.get? b = some o → b ≠ ce.locals ∧ sI.heap.get? b = some o := fun b o e => by
    by_cases z : b = ce.locals
    · rw [j2 b (by simp [z])] at e; cases e
    · exact ⟨z, by rw [← j1 b (by simp [z])]; exact e⟩
  have gn : ∀ b, B.get? b = none → B2.get? b = none := fun b e => by
    cases q : B2.get? b with
    | none => rfl
    | some o => rw [(g3 b o q).2] at e; cases e
  have I2 : Inv X pins σ H' { sI with heap := SI, gens := sI.gens, toks := sI.toks } := I.turned (t' := sI.toks) (fun b o hb e => by rw [j1 b (by simp [hb])]; exact e) f0 f1 f3 f4 f5
  have keep : ∀ b o, b ≠ ce.locals → h1.get? b = some o → h2.get? b = some o := fun b o hb e => (sb.2 b hb).trans e
  obtain ⟨kb, ka, kf, oe, vs, T, oT, ts, q1, q2, q3, q4, q5, q6, q7, q8, q9⟩ := hh
  have neF : ∀ b o (us : Array Value), h1.get? b = some o → o.data = .fields us → b ≠ ce.locals := fun b o us e hd z => by
    obtain ⟨oC, es, ep, c1, c2, _⟩ := hn1
    rw [z, c1] at e
    cases e
    rw [hd] at c2
    cases c2
  have ea := neF a oe vs q1 q3
  have eT := neF T oT ts q7 q8
  have hh2 : HandSPX.HeldZ B2 (X.env :: X.outer) a (L2N.Zn cls d) X.env.locals h2 :=
    ⟨fun b o e => keep b o (g3 b o e).1 (kb b o (g3 b o e).2), gn a ka, frames_sub gn keep (fun b hb => nC b (by rw [hs]; exact hb)) kf, oe, vs, T, oT, ts, keep a oe ea q1, q2, q3, q4, gn T q5, q6, keep T oT eT q7, q8, q9⟩
  have up2 : SI.UpToSlots h2 := fun b o e hd => by
    obtain ⟨hb, e'⟩ := j3 b o e
    obtain ⟨sl, e2⟩ := (up.trans up1) b o e' hd
    exact ⟨sl, keep b _ hb e2⟩
  show wpAny (model X.prog X.w) X.A (PySem.passOn "comprehension.variables-let-go" (.ref a) ce : Sem Value) (fun _ _ => False) X.xe { s' with heap := h2 }
  unfold PySem.passOn
  refine wpAny_bind (wpAny_field (keep a oe ea q1) q3 q4 ?_)
  rw [if_neg (show ¬ ((Value.ref T == Value.none) = true) from by simp)]
  have fin : wpAny (model X.prog X.w) X.A (setFlight (.ref a) ce.frame) (fun _ s4 => wpAny (model X.prog X.w) X.A (throw (.ref a) : Sem Value) (fun _ _ => False) X.xe s4) X.xe { s' with heap := h2 } := by
    rw [hc, hf]
    refine HandSPX.setFlight_onZ hh2 fun h4 hh4 up4 => wpAny_throw (tk _ _ ?_)
    exact ⟨a, B2, _, pins, σ, H', cls, d, rfl, I2, fun b o e hb => by
      obtain ⟨e1, e2⟩ := j3 b o e
      rw [g1 b (by simp [e1])]
      exact nb b o e2 hb, up2.trans up4, .inr (.inr (by rw [hs]; exact hh4)), na, os, ag, w⟩
  first
    | exact wpAny_bind (wpAny_pure (wpAny_bind fin))
    | exact wpAny_bind fin
end
/-! the block's context, its exceptions taken by xe -/
abbrev blkX (X : Cx) (s : Shared) (H : Hp) (scope : Scope) (ce : Env) (fp : List Addr) (xe : Value → Shared → Prop) : Cx := { X.blk s H scope ce fp with xe := xe }
theorem inv_xe {X : Cx} {pins : List (Addr × Obj)} {σ : St} {H : Hp} {s : Shared} {xe : Value → Shared → Prop} (I : Inv X pins σ H s) : Inv { X with xe := xe } pins σ H s :=
  ⟨⟨I.ok.mod, I.ok.kind, I.ok.glob, I.ok.blt, I.ok.above, I.ok.inj, I.ok.has, I.ok.cab, I.ok.hd, I.ok.frames, I.ok.stk, I.ok.exf, I.ok.bs, I.ok.bsz, I.ok.noex, I.ok.exfs, I.ok.funs, I.ok.frf⟩,
    I.os, I.bare, I.base, I.loc, I.cell, I.free, I.freeC, I.pin, I.hok, I.len⟩
/-- in the air of a block (X: the block's context) -/
def Air (X : Cx) (W : WX) (u : Value) (s' : Shared) : Prop :=
  ∃ (a : Addr) (B : Heap) (sI : Shared) (pins : List (Addr × Obj)) (σ : St) (H : Hp) (cls : Value) (d : Option Addr), u = .ref a ∧ Inv X pins σ H sI ∧ (∀ b o, sI.heap.get? b = some o → b ∉ frs X.stack → B.get? b = some o) ∧ sI.heap.UpToSlots s'.heap ∧
    Sky2 B X.stack a (L2N.Zn cls d) s'.heap ∧ H a = none ∧ s'.os = sI.os ∧ AllBare s'.gens ∧ W cls d σ H
theorem air_call {X : Cx} {W : WX} {E : XK} {pins : List (Addr × Obj)} {σ : St} {H : Hp} {s s' : Shared} {u : Value} (I : Inv X pins σ H s) (hW : ∀ cls d H', E cls d H' → W cls d σ H') (c : L2N.CX X.prog X.w X.stack H s E u s') : Air X W u s' := by
  obtain ⟨a, B, H', cls, d, rfl, fl, hok, ub, na, os, ag, hE⟩ := c
  obtain ⟨G, g1, g2⟩ := restrict s'.heap fun b => (B.get? b).isSome || decide (b ∈ frs X.stack)
  have st : B.StaysIn s'.heap := fl.1
  have gB : ∀ b o, B.get? b = some o → G.get? b = some o := fun b o e => by
    rw [g1 b (by simp [e])]; exact st b o e
  have gF : ∀ b, b ∈ frs X.stack → G.get? b = s'.heap.get? b := fun b hb => g1 b (by simp [hb])
  have og : ∀ b o, G.get? b = some o → s'.heap.get? b = some o ∧ ((B.get? b).isSome = true ∨ b ∈ frs X.stack) := fun b o e => by
    cases q : ((B.get? b).isSome || decide (b ∈ frs X.stack)) with
    | false => rw [g2 b q] at e; cases e
    | true => rw [g1 b q] at e; exact ⟨e, by simpa [Bool.or_eq_true] using q⟩
  refine ⟨a, B, { s with heap := G, gens := s'.gens, drawn := s'.drawn, toks := s'.toks }, pins, σ, H', cls, d, rfl, ?_, fun b o e hb => ?_, Heap.UpToSlots.of_keeps fun b o e => (og b o e).1, .inr fl, na, os, ag, hW _ _ _ hE⟩
  · refine I.call (ch := []) ⟨fun b o e n hb _ => gB b o (ub.keep b o e n hb), fun b o e n hb _ => ?_, fun b o e n _ => ub.free b o e n, fun b o e _ => ?_, ub.tups, ub.frzs, ub.tbls⟩ (hok.kept gB) ag (fun _ z => nomatch z)
    · obtain ⟨sl, q⟩ := ub.slot b o e hb
      exact ⟨sl, by rw [gF b hb]; exact q⟩
    · by_cases hb : b ∈ frs X.stack
      · obtain ⟨sl, q⟩ := ub.slot b o e hb
        exact ⟨_, by rw [gF b hb]; exact q⟩
      · obtain ⟨o', q⟩ := ub.there b o e hb
        exact ⟨o', gB b o' q⟩
  · obtain ⟨e', h⟩ := og b o e
    rcases h with h | h
    · obtain ⟨o', q⟩ := Option.isSome_iff_exists.mp h
      have z := st b o' q
      rw [e'] at z; cases z
      exact q
    · exact absurd h hb
theorem air_pass {X : Cx} {W : WX} (σ : St) : PassesAt (L2N.CX X.prog X.w) { X with xe := Air X W } σ (WE W σ) := fun pins H s e s' I c => air_call (X := X) (inv_xe (X := { X with xe := Air X W }) (xe := X.xe) I) (fun _ _ _ h => h) c
section
variable {X : Cx}
/-- the block runs, its exceptions leave it -/
theorem lc_coreX {pins : List (Addr × Obj)} {s : Shared} {σ : St} {H : Hp} {Q : VK} {elt tg iter : Expr} {ifs : List Expr} {scope : Scope} {own : List (Str × Nat)} {pos pos' : Pos} {wi : TI} {g : TG} {tt : TT} {te : WX → TE} {Qf : Value → Shared → Prop} {W : WX}
    (hc : X.calm = true) (hN : X.N.Nodup) (hst : X.stack = X.env :: X.outer) (hfr : X.env.frame = some X.env.locals) (tk : L2N.Takes X W) (I : Inv X pins σ H s) (hi : PI X tg iter wi) (ok : BlkOk X.N X.env.scope scope own)
    (hg : ∀ (s : Shared) (H : Hp) (C : Addr) (cl : List (Str × Addr)) (fp : List Addr) (xe : Value → Shared → Prop), PG (blkX X s H scope (compEnvC scope cl C X.env) fp xe) tg g) (ht : ∀ (s : Shared) (H : Hp) (C : Addr) (cl : List (Str × Addr)) (fp : List Addr) (xe : Value → Shared → Prop), PTs (blkX X s H scope (compEnvC scope cl C X.env) fp xe) ifs tt)
    (he : ∀ (s : Shared) (H : Hp) (C : Addr) (cl : List (Str × Addr)) (fp : List Addr) (W' : WX) (xe : Value → Shared → Prop), (∀ σ, PassesAt (L2N.CX X.prog X.w) (blkX X s H scope (compEnvC scope cl C X.env) fp xe) σ (WE W' σ)) → PE (blkX X s H scope (compEnvC scope cl C X.env) fp xe) elt (te W')) (hs : ∀ x, foldedSetIterable iter X.env x = pure x)
    (h : tLc wi g tt (te fun c d _ H' => W c d σ H') (own.map (·.2)) σ H Q)
    (hRR : ∀ (D : Addr) (ce : Env) (s' : Shared) (m : Str → Option Value) (H' : Hp), Inv X pins σ H' s' → Q (.ref D) H' → s'.heap.Ns ce.locals m → FpOk X pins H' ce.locals → ∀ h', Heap.SameBut ce.locals s'.heap h' → Qf (.ref D) { s' with heap := h' }) :
    wpAny (model X.prog X.w) X.A (comprehension (.ListComp elt [⟨tg, iter, ifs, 0⟩] scope pos) scope X.env pos' (newList []) false (eval iter X.env) none) Qf X.xe s := by
  have hfree : ∀ y ∈ scope.names, y.2 = .free → ∃ c, X.env.cells.lookup y.1 = some c := fun y hy e => by
    rcases ok.free y hy e with k | k
    · exact I.ok.has _ (.inl k)
    · exact I.ok.has _ (.inr k)
  refine comp_x rfl hs (closure_ok hfree) ok.kind (fun y hy e => by rw [ok.uniq y hy, e]) (thn (hi.run pins s σ H _ I h) fun xv s1 hx => thn hx fun itv s2 h2 => ?_)
  obtain ⟨it, fp, tn, J, H2, e, I2, T, st2, f2, q⟩ := h2
  subst e
  refine wpAny_newObj_type (newEnv_comp ?_) (by show 0 ≤ sizeLine; decide)
  generalize hD : s2.heap.objs.size = D
  have hDn : H2 D = none := I2.hok.fresh (Nat.le_of_eq hD)
  obtain ⟨Wm, ⟨m0, w0⟩, turn⟩ := q D hDn
  generalize hs3 : ({ s2 with heap := s2.heap.push { cls := .type "list", data := .seq ([] : List Value).toArray } } : Shared) = s3
  have I3 : Inv X pins σ (upd H2 D (.lst [])) s3 := by
    rw [← hs3]
    refine I2.laid (t' := s2.toks) (fun b o e => Heap.get?_push_of_some _ e) (Nat.le_of_eq hD) ⟨Nat.zero_le _, [], 0, .nil, ?_⟩
    rw [← hD]
    exact Heap.get?_push_size _ rfl
  have h3 : s3.heap = s2.heap.push { cls := .type "list", data := .seq ([] : List Value).toArray } := by rw [← hs3]
  have f3 : ∀ b ∈ fp, FpOk X pins (upd H2 D (.lst [])) b ∧ b < s3.heap.objs.size := fun b hb => by
    obtain ⟨o, e, _⟩ := T.obj _ _ st2 b hb
    have hlt := Heap.lt_size e
    refine ⟨⟨?_, (f2 b hb).2⟩, by rw [h3, Heap.size_push]; exact Nat.lt_succ_of_lt hlt⟩
    rw [upd_ne (by rw [← hD]; exact Nat.ne_of_lt hlt)]
    exact (f2 b hb).1
  have st3 : tn 0 s3.heap := T.keep _ _ _ st2 fun b _ o e => by rw [h3]; exact Heap.get?_push_of_some _ e
  have I4 := block_start I3 ok hN f3
  have pg := hg s3 (upd H2 D (.lst [])) s3.heap.objs.size (cellsFrom (s3.heap.objs.size + 1) scope.names (cloFrom X.env.cells scope.names [])) fp
  have pt := ht s3 (upd H2 D (.lst [])) s3.heap.objs.size (cellsFrom (s3.heap.objs.size + 1) scope.names (cloFrom X.env.cells scope.names [])) fp
  have pe := he s3 (upd H2 D (.lst [])) s3.heap.objs.size (cellsFrom (s3.heap.objs.size + 1) scope.names (cloFrom X.env.cells scope.names [])) fp (fun c d _ H' => W c d σ H')
  show codeAny _ _ (.compStart (.ListComp elt [⟨tg, iter, ifs, 0⟩] scope pos) 0 (.ref it) (.ref D) (compEnvC scope (cellsFrom (s3.heap.objs.size + 1) scope.names (cloFrom X.env.cells scope.names [])) s3.heap.objs.size X.env)) (endX (model X.prog X.w) X.A X.xe Qf (.ref D) (compEnvC scope (cellsFrom (s3.heap.objs.size + 1) scope.names (cloFrom X.env.cells scope.names [])) s3.heap.objs.size X.env)) { s3 with heap := pushCells (s3.heap.push { cls := .type "dict", data := .dict #[] }) scope.names }
  have nfp : ∀ b ∈ fp, (upd H2 D (.lst [])) b = none := fun b hb => (f3 b hb).1.1
  generalize hce : compEnvC scope (cellsFrom (s3.heap.objs.size + 1) scope.names (cloFrom X.env.cells scope.names [])) s3.heap.objs.size X.env = ce at I4 pg pt pe ⊢
  have cL : ce.locals = s3.heap.objs.size := by subst hce; rfl
  have cF : ce.frame = X.env.frame := by subst hce; rfl
  generalize hH3 : upd H2 D (.lst []) = H3 at I3 I4 pg pt pe w0 nfp f3
  generalize hs4 : ({ s3 with heap := pushCells (s3.heap.push { cls := .type "dict", data := .dict #[] }) scope.names } : Shared) = s4 at I4 ⊢
  have st4 : tn 0 s4.heap := T.keep _ _ _ st3 fun b _ o e => by rw [← hs4]; exact pushCells_keeps _ _ _ _ (Heap.get?_push_of_some _ e)
  -- the block's states are ours
  have back : ∀ {pb : List (Addr × Obj)} {σ' : St} {H' : Hp} {s' : Shared}, Inv (X.blk s3 H3 scope ce fp) pb σ' H' s' → Inv X pins σ H' s' ∧ FpOk X pins H' ce.locals ∧ ∃ m, s'.heap.Ns ce.locals m := fun {pb σ' H' s'} I6 => by
    have I7 : Inv X pins σ H' s' := I3.call' (ch := fp) I6.os I6.base I6.hok I6.bare fun b hb => ⟨(f3 b hb).1.2.2.2.1, (f3 b hb).1.2.1, (f3 b hb).1.2.2.2.2.1, (f3 b hb).1.2.2.2.2.2⟩
    have nC : H' ce.locals = none := I6.free
    obtain ⟨m, hn, _⟩ := I6.loc
    refine ⟨I7, ?_, m, hn⟩
    rw [cL] at nC ⊢
    exact I3.fpOk (Nat.le_refl _) nC
  have air : ∀ u s', Air (X.blk s3 H3 scope ce fp) (fun c d _ H' => W c d σ H') u s' → notedBy (model X.prog X.w) X.A ce (fun e s2 => endX (model X.prog X.w) X.A X.xe Qf (.ref D) ce (.error e) s2) u s' := fun u s' ⟨a, B, sI, pb, σ', H', cls, d, eu, I6, nb, up, sky, na, os, ag, w⟩ => by
    subst eu
    obtain ⟨I7, fc, hm⟩ := back I6
    exact out_blk hst hfr cF tk I7 fc hm nb up sky na os ag w
  have stat : ∀ {σ' : St} {H' : Hp} {s' : Shared}, Inv (X.blk s3 H3 scope ce fp) [] σ' H' s' → (∀ b ∈ fp, H' b = none) → ∀ b ∈ fp, FpOk (X.blk s3 H3 scope ce fp) [] H' b := fun {σ' H' s'} I' hn b hb =>
    ⟨hn b hb, (I'.ok.exf b hb).1, I'.ok.exfs b hb, .inl hb, fun x c e => (I'.ok.exf b hb).2 x c e, fun p hp => absurd (show p ∈ ([] : List (Addr × Obj)) ++ [] from hp) (by simp)⟩
  have loop : codeAny (model X.prog X.w) X.A (.compLoop (.ListComp elt [⟨tg, iter, ifs, 0⟩] scope pos) 0 (.ref it) (.ref D) ce) (endX (model X.prog X.w) X.A X.xe Qf (.ref D) ce) s4 := by
    refine compLoop_any (fun n s' => ∃ i H', Inv (X.blk s3 H3 scope ce fp) [] (wipe σ (own.map (·.2))) H' s' ∧ tn i s'.heap ∧ (∀ b ∈ fp, H' b = none) ∧ Wm i n H') ?_ m0 ⟨0, H3, I4, st4, nfp, w0⟩
    rintro n s5 ⟨i, H5, I5, st5, n5, w5⟩
    rcases turn i n H5 w5 with ⟨stop, qq⟩ | ⟨go, Nx, hNx, step⟩
    · have td := T.done (X.blk s3 H3 scope ce fp) rfl rfl rfl hc i [] s5 _ H5 (fun _ _ => False) I5 (stat I5 n5) st5 stop
      refine thnF td fun r s6 ⟨hr, I6⟩ => ?_
      subst hr
      obtain ⟨I7, fc, m, hn⟩ := back I6
      exact ⟨m, hn, fun h' sb => hRR D ce s6 m H5 I7 qq hn fc h' sb⟩
    · have ti := T.item (X.blk s3 H3 scope ce fp) rfl rfl rfl hc i [] s5 _ H5 (fun _ _ => False) I5 (stat I5 n5) st5 go
      refine thnF ti fun r s6 ⟨u, hr, h6⟩ => ?_
      subst hr
      refine thnF h6 fun _ s7 ⟨x, H7, I7, r7, y7, st7, n7⟩ => ?_
      have I7' := I7.pinned (stat I7 n7) (T.obj _ _ st7)
      let xe := Air (X.blk s3 H3 scope ce fp) (fun c d _ H' => W c d σ H')
      refine wpAny_mono ((pg xe).run _ s7 _ H7 x u _ (inv_xe I7') r7 (step x H7 y7)) (fun _ s8 ⟨σ8, H8, I8, hw8, q8⟩ => ?_) air
      refine wpAny_mono ((pt xe).run _ s8 σ8 H8 _ I8 q8) (fun b s9 ⟨H9, I9, q9⟩ => ?_) air
      have fin : ∀ {s' : Shared} {H' : Hp}, Inv (X.blk s3 H3 scope ce fp) ([] ++ pinsAt fp s7.heap) σ8 H' s' → Nx H' → ∃ m, m < n ∧ ∃ i H', Inv (X.blk s3 H3 scope ce fp) [] (wipe σ (own.map (·.2))) H' s' ∧ tn i s'.heap ∧ (∀ b ∈ fp, H' b = none) ∧ Wm i m H' := fun {s' H'} I' nx => by
        obtain ⟨m', hm, w'⟩ := hNx H' nx
        have pin' : ∀ b ∈ fp, ∀ o, s7.heap.get? b = some o → s'.heap.get? b = some o ∧ H' b = none := fun b hb o e =>
          let z := I'.pin (b, o) (List.mem_append_right _ (List.mem_append_right _ (mem_pinsAt hb e)))
          ⟨z.1, z.2.1⟩
        have hl : (wipe σ (own.map (·.2))).length = σ8.length := by rw [← hw8, L2.wipe_length]
        refine ⟨m', hm, i + 1, H', (I'.unpinned (pins := [])).weak hl (fun j v e => ?_), T.keep _ _ _ st7 fun b hb o e => (pin' b hb o e).1, fun b hb => ?_, w'⟩
        · rw [← hw8] at e
          exact (wipe_some e).1
        · obtain ⟨o, e, _⟩ := T.obj _ _ st7 b hb
          exact (pin' b hb o e).2
      cases b with
      | false =>
        simp only [Bool.false_eq_true, if_false] at q9 ⊢
        exact fin (inv_xe (X := blkX X s3 H3 scope ce fp xe) I9) q9
      | true =>
        simp only [if_true] at q9 ⊢
        refine wpAny_mono ((pe xe fun σ => air_pass (X := X.blk s3 H3 scope ce fp) σ).run _ s9 σ8 H9 _ I9 q9) (fun z s10 ⟨yv, H10, I10, r10, acc, hD10, hz10, nx⟩ => ?_) air
        exact app_ok (X := X.blk s3 H3 scope ce fp) (inv_xe (X := blkX X s3 H3 scope ce fp xe) I10) hD10 hz10 r10 fun s11 I11 => fin I11 nx
  exact codeAny_compStart_list loop (T.self X.A 0 _ _ _ st4 loop)
end
section
variable {X : Cx} {W : WX} {A : AE} {P : AT}
theorem pe_lcX {elt tg iter : Expr} {ifs : List Expr} {scope : Scope} {own : List (Str × Nat)} {pos : Pos} {wi : TI} {g : TG} {tt : TT} {te : WX → TE} (hc : X.calm = true) (hN : X.N.Nodup) (tk : L2N.Takes X W) (hi : PI X tg iter wi) (ok : BlkOk X.N X.env.scope scope own)
    (hg : ∀ (s : Shared) (H : Hp) (C : Addr) (cl : List (Str × Addr)) (fp : List Addr) (xe : Value → Shared → Prop), PG (blkX X s H scope (compEnvC scope cl C X.env) fp xe) tg g) (ht : ∀ (s : Shared) (H : Hp) (C : Addr) (cl : List (Str × Addr)) (fp : List Addr) (xe : Value → Shared → Prop), PTs (blkX X s H scope (compEnvC scope cl C X.env) fp xe) ifs tt)
    (he : ∀ (s : Shared) (H : Hp) (C : Addr) (cl : List (Str × Addr)) (fp : List Addr) (W' : WX) (xe : Value → Shared → Prop), (∀ σ, PassesAt (L2N.CX X.prog X.w) (blkX X s H scope (compEnvC scope cl C X.env) fp xe) σ (WE W' σ)) → PE (blkX X s H scope (compEnvC scope cl C X.env) fp xe) elt (te W'))
    (hst : X.stack = X.env :: X.outer := by rfl) (hfr : X.env.frame = some X.env.locals := by rfl) (hs : ∀ x, foldedSetIterable iter X.env x = pure x := by intro _; rfl) :
    PE X (.ListComp elt [⟨tg, iter, ifs, 0⟩] scope pos) (fun σ H Q => tLc wi g tt (te fun c d _ H' => W c d σ H') (own.map (·.2)) σ H Q) := by
  refine ⟨fun pins s σ H Q I h => ?_⟩
  rw [eval_ListComp]
  refine lc_coreX hc hN hst hfr tk I hi ok hg ht he hs h fun D ce s' m H' I' q hn f h'' sb => ?_
  obtain ⟨f0, f1, f2, f3, f4, f5⟩ := f
  exact ⟨.ref D, H', I'.turned (t' := s'.toks) (fun b o hb e => (sb.2 b hb).trans e) f0 f1 f3 f4 f5, rfl, q⟩
def lcAX (ga : D → ATS) (P : AT) (A : AE) (env : En) : List D → Sto → R (List D)
  | [], μ => .ok [] μ
  | d :: ds, μ => match ga d env μ with
    | .nx e1 m1 => (P e1 m1).noex.bind fun b m2 => if b = true then (A e1 m2).bind fun y m3 => (lcAX ga P A env ds m3).bind fun ys m4 => .ok (y :: ys) m4 else lcAX ga P A env ds m2
    | _ => .fail
def aLcX (I : AA) (ga : D → ATS) (P : AT) (A : AE) (vs : List Nat) : AE := fun env μ => (I env μ).bind fun ds m => if ds.length < line then (lcAX ga P A (wipeE env vs) ds m).bind fun ys m2 => .ok (.lst ys) m2 else .fail
/-- the state of a turn -/
structure LcJ (k : Kx) (W : WX) (ga : D → ATS) (P : AT) (A : AE) (vs : List Nat) (env : En) (σ : St) (Q : VK) (h : G) (L : Addr) (rest : List D) (i : Nat) (H : Hp) : Prop where
  ex : ∃ acc xs h' m', h.li h' ∧ h'.F = upd h.F L (.lst xs) ∧ Rps k h' acc xs ∧ acc.length ≤ i ∧ RpE k h' (wipeE env vs) (wipe σ vs) ∧ Rs k h' m' H ∧ Post k h (Rp k) ((lcAX ga P A (wipeE env vs) rest m').bind fun ys m2 => .ok (.lst (acc ++ ys)) m2) Q (fun c d H' => W c d σ H')
theorem simE_lcX {k : Kx} {wi : TI} {I : AA} {ga : D → ATS} {P : AT} {vs : List Nat} (si : SimI k W wi I) : SimE k W (fun σ H Q => tLc wi (absGc k vs ga) (absT k W0 P) (absE k (fun c d _ H' => W c d σ H') A) vs σ H Q) (aLcX I ga P A vs) := fun σ env g μ H Q re rs p => by
  refine si σ env g μ H _ re rs (p.bind fun ds m J h H1 l rs1 w p1 => fun L hL => ?_)
  by_cases hlen : ds.length < line
  · rw [if_pos hlen] at p1
    have reW : RpE k (h.wf L (.lst [])) (wipeE env vs) (wipe σ vs) := ((re.mono l).wipe vs).monoL G.li_wf
    have hF : h.F L = none := by
      cases e : h.F L with
      | none => rfl
      | some u => have z := rs1.fx L u e; rw [hL] at z; cases z
    refine ⟨fun i n H' => i ≤ ds.length ∧ n = ds.length - i ∧ LcJ k W ga P A vs env σ Q h L (ds.drop i) i H', ⟨ds.length, Nat.zero_le _, by simp, [], [], h.wf L (.lst []), m, G.li_wf, rfl, rfl, Nat.zero_le _, reW, rs1.wf hL, p1⟩, ?_⟩
    rintro i n H' ⟨hi, rfl, acc, xs, h', m', l', eF, ra, la, re', rs', p'⟩
    obtain ⟨w1, w2⟩ := w i h' m' H' l' rs'
    by_cases hlt : i < ds.length
    · obtain ⟨d, hd⟩ : ∃ d, ds[i]? = some d := ⟨ds[i], by simp [hlt]⟩
      obtain ⟨go, yl⟩ := w2 d hd
      rw [drop_get hd] at p'
      refine .inr ⟨go, LcJ k W ga P A vs env σ Q h L (ds.drop (i + 1)) (i + 1), fun H2 q => ⟨ds.length - (i + 1), by omega, by omega, rfl, q⟩, fun x H2 y => ?_⟩
      obtain ⟨h2, l2, rs2, rx⟩ := yl x H2 y
      have p2 : Post k h (Rp k) ((match ga d (wipeE env vs) m' with
        | .nx e1 m1 => (P e1 m1).noex.bind fun b m2 => if b = true then (A e1 m2).bind fun y m3 => (lcAX ga P A (wipeE env vs) (ds.drop (i + 1)) m3).bind fun ys m4 => .ok (y :: ys) m4 else lcAX ga P A (wipeE env vs) (ds.drop (i + 1)) m2
        | _ => .fail : R (List D)).bind fun ys m2 => .ok (.lst (acc ++ ys)) m2) Q (fun c d H' => W c d σ H') := p'
      refine ⟨d, wipeE env vs, h2, m', rx, re'.mono l2, rs2, ?_⟩
      cases z1 : ga d (wipeE env vs) m' with
      | nx e1 m1 =>
        rw [z1] at p2
        intro σ3 h3 H3 l3 re3 rs3 wp
        refine ⟨wp.trans wipe_wipe, ?_⟩
        refine ⟨e1, h3, m1, re3, rs3, ?_⟩
        have p3 : Post k h (Rp k) (((P e1 m1).noex.bind fun b m2 => if b = true then (A e1 m2).bind fun y m3 => (lcAX ga P A (wipeE env vs) (ds.drop (i + 1)) m3).bind fun ys m4 => .ok (y :: ys) m4 else lcAX ga P A (wipeE env vs) (ds.drop (i + 1)) m2 : R (List D)).bind fun ys m2 => .ok (.lst (acc ++ ys)) m2) Q (fun c d H' => W c d σ H') := p2
        cases z2 : P e1 m1 with
        | ok b m2 =>
          rw [z2] at p3
          intro b' h4 H4 l4 rs4 rb
          cases rb
          cases b with
          | true =>
            rw [if_pos rfl]
            refine ⟨e1, h4, m2, re3.mono l4, rs4, ?_⟩
            have p4 : Post k h (Rp k) (((A e1 m2).bind fun y m3 => (lcAX ga P A (wipeE env vs) (ds.drop (i + 1)) m3).bind fun ys m4 => .ok (y :: ys) m4 : R (List D)).bind fun ys m2 => .ok (.lst (acc ++ ys)) m2) Q (fun c d H' => W c d σ H') := p3
            cases z3 : A e1 m2 with
            | ok y m3 =>
              rw [z3] at p4
              intro v h5 H5 l5 rs5 rv
              have lt := (l2.trans l3).trans (l4.trans l5)
              have eF5 : h5.F = upd h.F L (.lst xs) := lt.f.trans eF
              refine ⟨xs, rs5.fx L _ (by rw [eF5, upd_same]), ?_, ?_⟩
              · rw [ra.length]; exact line_lt (by omega)
              · refine ⟨acc ++ [y], xs ++ [v], ⟨h5.I, h5.φ, upd h.F L (.lst (xs ++ [v]))⟩, m3, ?_, rfl, ?_, ?_, ?_, ?_, ?_⟩
                · exact ⟨fun a o e => lt.i a o (l'.i a o e), fun n a e => lt.p n a (l'.p n a e)⟩
                · exact Rps.monoL (g := h5) (g' := ⟨h5.I, h5.φ, upd h.F L (.lst (xs ++ [v]))⟩) ⟨fun _ _ e => e, fun _ _ e => e⟩ ((ra.mono lt).append (Rps.cons rv Rps.nil))
                · rw [List.length_append, List.length_singleton]; omega
                · exact RpE.monoL (g := h5) (g' := ⟨h5.I, h5.φ, upd h.F L (.lst (xs ++ [v]))⟩) ⟨fun _ _ e => e, fun _ _ e => e⟩ (re'.mono lt)
                · exact rs5.rf eF5
                · have p5 : Post k h (Rp k) (((lcAX ga P A (wipeE env vs) (ds.drop (i + 1)) m3).bind fun ys m4 => .ok (y :: ys) m4 : R (List D)).bind fun ys m2 => .ok (.lst (acc ++ ys)) m2) Q (fun c d H' => W c d σ H') := p4
                  cases z4 : lcAX ga P A (wipeE env vs) (ds.drop (i + 1)) m3 with
                  | ok ys m4 =>
                    rw [z4] at p5
                    show Post k h (Rp k) (.ok (.lst ((acc ++ [y]) ++ ys)) m4) Q _
                    rw [List.append_assoc]
                    exact p5
                  | ex c m4 => rw [z4] at p5; exact p5
                  | fail => rw [z4] at p5; exact p5
            | ex c m3 =>
              rw [z3] at p4
              intro h5 H5 l5 rs5
              have lt := (l2.trans l3).trans (l4.trans l5)
              have eF5 : h5.F = upd h.F L (.lst xs) := lt.f.trans eF
              refine p4 ⟨upd h5.I L (.lst xs), h5.φ, h.F⟩ H5 ⟨fun a o e => ?_, fun n a e => lt.p n a (l'.p n a e), rfl⟩ (rs5.unwf eF5 hF)
              show upd h5.I L (.lst xs) a = some o
              have e5 := lt.i a o (l'.i a o e)
              have q1 := rs5.fi L (.lst xs) (by rw [eF5, upd_same])
              have z : a ≠ L := fun q => by rw [q, q1] at e5; cases e5
              rw [upd_ne z]; exact e5
            | fail => rw [z3] at p4; exact p4
          | false =>
            rw [if_neg Bool.false_ne_true]
            have lt := (l2.trans l3).trans l4
            have eF4 : h4.F = upd h.F L (.lst xs) := lt.f.trans eF
            exact ⟨acc, xs, h4, m2, l'.trans lt.li, eF4, ra.mono lt, by omega, re'.mono lt, rs4, p3⟩
        | ex c m2 => rw [z2] at p3; exact p3.elim
        | fail => rw [z2] at p3; exact p3
      | ex c e1 m1 => rw [z1] at p2; exact p2.elim
      | rt _ _ => rw [z1] at p2; exact p2.elim
      | bk _ _ => rw [z1] at p2; exact p2.elim
      | ct _ _ => rw [z1] at p2; exact p2.elim
      | fail => rw [z1] at p2; exact p2.elim
    · have e1 : i = ds.length := by omega
      subst e1
      rw [List.drop_length] at p'
      refine .inl ⟨w1 (Nat.le_refl _), ?_⟩
      have q := rs'.unwf eF hF
      have p' : Post k h (Rp k) (.ok (.lst (acc ++ [])) m') Q (fun c d H' => W c d σ H') := p'
      rw [List.append_nil] at p'
      have li : h'.li ⟨upd h'.I L (.lst xs), h'.φ, h.F⟩ := ⟨fun a o e => by
        show upd h'.I L (.lst xs) a = some o
        have q1 := rs'.fi L (.lst xs) (by rw [eF, upd_same])
        have z : a ≠ L := fun q => by rw [q, q1] at e; cases e
        rw [upd_ne z]; exact e, fun _ _ e => e⟩
      exact p' (.ref L) ⟨upd h'.I L (.lst xs), h'.φ, h.F⟩ H' ⟨fun a o e => li.i a o (l'.i a o e), fun n a e => l'.p n a e, rfl⟩ q ⟨L, xs, rfl, .inl upd_same, ra.monoL li⟩
  · rw [if_neg hlen] at p1; exact p1.elim
variable {hot : Option (Addr × Ec)} {tg iter : Expr} {pos : Pos}
/-- a comprehension whose items may raise -/
theorem e_lcX {I : AA} {ga : D → ATS} {P : AT} {elt : Expr} {ifs : List Expr} {scope : Scope} {own : List (Str × Nat)} (hc : X.calm = true) (hN : X.N.Nodup) (tk : L2N.Takes X W) (hi : EI X hot W tg iter I) (ok : BlkOk X.N X.env.scope scope own)
    (hg : ∀ (s : Shared) (H : Hp) (C : Addr) (cl : List (Str × Addr)) (fp : List Addr) (xe : Value → Shared → Prop), EGc (blkX X s H scope (compEnvC scope cl C X.env) fp xe) hot (own.map (·.2)) tg ga)
    (ht : ∀ (s : Shared) (H : Hp) (C : Addr) (cl : List (Str × Addr)) (fp : List Addr) (xe : Value → Shared → Prop), ETs (blkX X s H scope (compEnvC scope cl C X.env) fp xe) hot W0 ifs P)
    (he : ∀ (s : Shared) (H : Hp) (C : Addr) (cl : List (Str × Addr)) (fp : List Addr) (W' : WX) (xe : Value → Shared → Prop), (∀ σ, PassesAt (L2N.CX X.prog X.w) (blkX X s H scope (compEnvC scope cl C X.env) fp xe) σ (WE W' σ)) → EE (blkX X s H scope (compEnvC scope cl C X.env) fp xe) hot W' elt A)
    (hst : X.stack = X.env :: X.outer := by rfl) (hfr : X.env.frame = some X.env.locals := by rfl) (hs : ∀ x, foldedSetIterable iter X.env x = pure x := by intro _; rfl) :
    EE X hot W (.ListComp elt [⟨tg, iter, ifs, 0⟩] scope pos) (aLcX I ga P A (own.map (·.2))) := by
  obtain ⟨wi, pi, si⟩ := hi
  exact ⟨_, pe_lcX (te := fun W' => absE (kx X hot) W' A) (tt := absT (kx X hot) W0 P) (g := absGc (kx X hot) (own.map (·.2)) ga) hc hN tk pi ok (fun s H C cl fp xe => (hg s H C cl fp xe).can) (fun s H C cl fp xe => (ht s H C cl fp xe).can) (fun s H C cl fp W' xe tp => (he s H C cl fp W' xe tp).can) hst hfr hs, simE_lcX si⟩
end
end Z

set_option Elab.async false
set_option linter.all false
set_option maxRecDepth 100000
set_option maxHeartbeats 2000000
/-! Sim, part 14: the same of exceptions with a context. -/
namespace Z
open PySem PySem.Spec PyProof.Rows L2 L2H
theorem Sky2.noteC {M : Model} {A : Around} {E₁ : Value → Shared → Prop} {ce env : Env} {outer : List Env} {L a : Addr} {B : Heap} {Zo : Obj → Prop} {s : Shared} {Q : Unit → Shared → Prop} (hZ : HandSPX.Steady Zo) (hfr : A.frames = some (env :: outer)) (hf : env.frame = some L) (hc : ce.frame = env.frame)
    (x : Sky2 B (env :: outer) a Zo s.heap) (hQ : ∀ h', HandSPX.HeldZ B (env :: outer) a Zo L h' → s.heap.UpToSlots h' → Q () { s with heap := h' }) : wpAny M A (noteFrame (.ref a) ce) Q E₁ s := by
  rw [note_frame hc]
  rcases x with ⟨hB, hn, hl, oe, vs, he, hz, hd, h1⟩ | fl
  · exact HandSPX.look_newZ hZ hfr hl hf he hB hn hd h1 hz hQ
  · exact HandSPX.looks_onZ hZ hfr hf fl hQ
section
variable {X : Cx} {pins : List (Addr × Obj)} {σ : St} {H' : Hp} {sI s' : Shared} {W : WX} {ce : Env} {a : Addr} {B : Heap} {cls : Value} {d : Option Addr} {Q : Value → Shared → Prop} {acc : Value}
/-- an exception leaves a block -/
theorem out_blkC (hs : X.stack = X.env :: X.outer) (hf : X.env.frame = some X.env.locals) (hc : ce.frame = X.env.frame) (tk : L2.Takes X W) (I : Inv X pins σ H' sI) (fc : FpOk X pins H' ce.locals) (hm : ∃ m, sI.heap.Ns ce.locals m)
    (nb : ∀ b o, sI.heap.get? b = some o → b ∉ frs X.stack → B.get? b = some o) (up : sI.heap.UpToSlots s'.heap) (sky : Sky2 B X.stack a (Zc cls d) s'.heap) (na : H' a = none) (os : s'.os = sI.os) (ag : AllBare s'.gens) (w : W cls d σ H') :
    notedBy (model X.prog X.w) X.A ce (fun e s2 => endX (model X.prog X.w) X.A X.xe Q acc ce (.error e) s2) (.ref a) s' := by
  have hfr : X.A.frames = some (X.env :: X.outer) := by rw [I.ok.frames, hs]
  rw [hs] at sky
  refine Sky2.noteC Zc.steady hfr hf hc sky fun h1 hh up1 => ?_
  obtain ⟨m, hn⟩ := hm
  have hn1 : h1.Ns ce.locals m := (up.trans up1).ns hn
  refine ⟨m, hn1, fun h2 sb => ?_⟩
  obtain ⟨f0, f1, f2, f3, f4, f5⟩ := fc
  have nC : ∀ b ∈ frs X.stack, b ≠ ce.locals := fun b hb z => by
    rw [hs] at hb
    obtain ⟨e, he, q⟩ := List.mem_filterMap.mp hb
    rcases List.mem_cons.mp he with rfl | he
    · rw [hf] at q; exact f1 (by rw [← z]; exact (Option.some.inj q).symm)
    · exact f2 (z ▸ List.mem_filterMap.mpr ⟨e, he, q⟩)
  -- the ground without the block's dict
  obtain ⟨B2, g1, g2⟩ := restrict B fun b => decide (b ≠ ce.locals)
  obtain ⟨SI, j1, j2⟩ := restrict sI.heap fun b => decide (b ≠ ce.locals)
  have g3 : ∀ b o, B2.get? b = some o → b ≠ ce.locals ∧ B.get? b = some o := fun b o e => by
    by_cases z : b = ce.locals
    · rw [g2 b (by simp [z])] at e; cases e
    · exact ⟨z, by rw [← g1 b (by simp [z])]; exact e⟩
  have j3 : ∀ b o, SI.get? b = some o → b ≠ ce.locals ∧ sI.heap.get? b = some o := fun b o e => by
    by_cases z : b = ce.locals
    · rw [j2 b (by simp [z])] at e; cases e
    · exact ⟨z, by rw [← j1 b (by simp [z])]; exact e⟩
  have gn : ∀ b, B.get? b = none → B2.get? b = none := fun b e => by
    cases q : B2.get? b with
    | none => rfl
    | some o => rw [(g3 b o q).2] at e; cases e
  have I2 : Inv X pins σ H' { sI with heap := SI, gens := sI.gens, toks := sI.toks } := I.turned (t' := sI.toks) (fun b o hb e => by rw [j1 b (by simp [hb])]; exact e) f0 f1 f3 f4 f5
  have keep : ∀ b o, b ≠ ce.locals → h1.get? b = some o → h2.get? b = some o := fun b o hb e => (sb.2 b hb).trans e
  obtain ⟨kb, ka, kf, oe, vs, T, oT, ts, q1, q2, q3, q4, q5, q6, q7, q8, q9⟩ := hh
  have neF : ∀ b o (us : Array Value), h1.get? b = some o → o.data = .fields us → b ≠ ce.locals := fun b o us e hd z => by
    obtain ⟨oC, es, ep, c1, c2, _⟩ := hn1
    rw [z, c1] at e
    cases e
    rw [hd] at c2
    cases c2
  have ea := neF a oe vs q1 q3
  have eT := neF T oT ts q7 q8
  have hh2 : HandSPX.HeldZ B2 (X.env :: X.outer) a (Zc cls d) X.env.locals h2 :=
    ⟨fun b o e => keep b o (g3 b o e).1 (kb b o (g3 b o e).2), gn a ka, frames_sub gn keep (fun b hb => nC b (by rw [hs]; exact hb)) kf, oe, vs, T, oT, ts, keep a oe ea q1, q2, q3, q4, gn T q5, q6, keep T oT eT q7, q8, q9⟩
  have up2 : SI.UpToSlots h2 := fun b o e hd => by
    obtain ⟨hb, e'⟩ := j3 b o e
    obtain ⟨sl, e2⟩ := (up.trans up1) b o e' hd
    exact ⟨sl, keep b _ hb e2⟩
  show wpAny (model X.prog X.w) X.A (PySem.passOn "comprehension.variables-let-go" (.ref a) ce : Sem Value) (fun _ _ => False) X.xe { s' with heap := h2 }
  unfold PySem.passOn
  refine wpAny_bind (wpAny_field (keep a oe ea q1) q3 q4 ?_)
  rw [if_neg (show ¬ ((Value.ref T == Value.none) = true) from by simp)]
  have fin : wpAny (model X.prog X.w) X.A (setFlight (.ref a) ce.frame) (fun _ s4 => wpAny (model X.prog X.w) X.A (throw (.ref a) : Sem Value) (fun _ _ => False) X.xe s4) X.xe { s' with heap := h2 } := by
    rw [hc, hf]
    refine HandSPX.setFlight_onZ hh2 fun h4 hh4 up4 => wpAny_throw (tk _ _ ?_)
    exact ⟨a, B2, _, pins, σ, H', cls, d, rfl, I2, fun b o e hb => by
      obtain ⟨e1, e2⟩ := j3 b o e
      rw [g1 b (by simp [e1])]
      exact nb b o e2 hb, up2.trans up4, .inr (.inr (by rw [hs]; exact hh4)), na, os, ag, w⟩
  first
    | exact wpAny_bind (wpAny_pure (wpAny_bind fin))
    | exact wpAny_bind fin
end
/-- in the air of a block (X: the block's context) -/
def AirC (X : Cx) (W : WX) (u : Value) (s' : Shared) : Prop :=
  ∃ (a : Addr) (B : Heap) (sI : Shared) (pins : List (Addr × Obj)) (σ : St) (H : Hp) (cls : Value) (d : Option Addr), u = .ref a ∧ Inv X pins σ H sI ∧ (∀ b o, sI.heap.get? b = some o → b ∉ frs X.stack → B.get? b = some o) ∧ sI.heap.UpToSlots s'.heap ∧
    Sky2 B X.stack a (Zc cls d) s'.heap ∧ H a = none ∧ s'.os = sI.os ∧ AllBare s'.gens ∧ W cls d σ H
theorem air_callC {X : Cx} {W : WX} {E : XK} {pins : List (Addr × Obj)} {σ : St} {H : Hp} {s s' : Shared} {u : Value} (I : Inv X pins σ H s) (hW : ∀ cls d H', E cls d H' → W cls d σ H') (c : L2.CX X.prog X.w X.stack H s E u s') : AirC X W u s' := by
  obtain ⟨a, B, H', cls, d, rfl, fl, hok, ub, na, os, ag, hE⟩ := c
  obtain ⟨G, g1, g2⟩ := restrict s'.heap fun b => (B.get? b).isSome || decide (b ∈ frs X.stack)
  have st : B.StaysIn s'.heap := fl.1
  have gB : ∀ b o, B.get? b = some o → G.get? b = some o := fun b o e => by
    rw [g1 b (by simp [e])]; exact st b o e
  have gF : ∀ b, b ∈ frs X.stack → G.get? b = s'.heap.get? b := fun b hb => g1 b (by simp [hb])
  have og : ∀ b o, G.get? b = some o → s'.heap.get? b = some o ∧ ((B.get? b).isSome = true ∨ b ∈ frs X.stack) := fun b o e => by
    cases q : ((B.get? b).isSome || decide (b ∈ frs X.stack)) with
    | false => rw [g2 b q] at e; cases e
    | true => rw [g1 b q] at e; exact ⟨e, by simpa [Bool.or_eq_true] using q⟩
  refine ⟨a, B, { s with heap := G, gens := s'.gens, drawn := s'.drawn, toks := s'.toks }, pins, σ, H', cls, d, rfl, ?_, fun b o e hb => ?_, Heap.UpToSlots.of_keeps fun b o e => (og b o e).1, .inr fl, na, os, ag, hW _ _ _ hE⟩
  · refine I.call (ch := []) ⟨fun b o e n hb _ => gB b o (ub.keep b o e n hb), fun b o e n hb _ => ?_, fun b o e n _ => ub.free b o e n, fun b o e _ => ?_, ub.tups, ub.frzs, ub.tbls⟩ (hok.kept gB) ag (fun _ z => nomatch z)
    · obtain ⟨sl, q⟩ := ub.slot b o e hb
      exact ⟨sl, by rw [gF b hb]; exact q⟩
    · by_cases hb : b ∈ frs X.stack
      · obtain ⟨sl, q⟩ := ub.slot b o e hb
        exact ⟨_, by rw [gF b hb]; exact q⟩
      · obtain ⟨o', q⟩ := ub.there b o e hb
        exact ⟨o', gB b o' q⟩
  · obtain ⟨e', h⟩ := og b o e
    rcases h with h | h
    · obtain ⟨o', q⟩ := Option.isSome_iff_exists.mp h
      have z := st b o' q
      rw [e'] at z; cases z
      exact q
    · exact absurd h hb
theorem air_passC {X : Cx} {W : WX} (σ : St) : PassesAt (L2.CX X.prog X.w) { X with xe := AirC X W } σ (WE W σ) := fun pins H s e s' I c => air_callC (X := X) (inv_xe (X := { X with xe := AirC X W }) (xe := X.xe) I) (fun _ _ _ h => h) c
section
variable {X : Cx}
/-- the block runs, its exceptions leave it -/
theorem lc_coreXC {pins : List (Addr × Obj)} {s : Shared} {σ : St} {H : Hp} {Q : VK} {elt tg iter : Expr} {ifs : List Expr} {scope : Scope} {own : List (Str × Nat)} {pos pos' : Pos} {wi : TI} {g : TG} {tt : TT} {te : WX → TE} {Qf : Value → Shared → Prop} {W : WX}
    (hc : X.calm = true) (hN : X.N.Nodup) (hst : X.stack = X.env :: X.outer) (hfr : X.env.frame = some X.env.locals) (tk : L2.Takes X W) (I : Inv X pins σ H s) (hi : PI X tg iter wi) (ok : BlkOk X.N X.env.scope scope own)
    (hg : ∀ (s : Shared) (H : Hp) (C : Addr) (cl : List (Str × Addr)) (fp : List Addr) (xe : Value → Shared → Prop), PG (blkX X s H scope (compEnvC scope cl C X.env) fp xe) tg g) (ht : ∀ (s : Shared) (H : Hp) (C : Addr) (cl : List (Str × Addr)) (fp : List Addr) (xe : Value → Shared → Prop), PTs (blkX X s H scope (compEnvC scope cl C X.env) fp xe) ifs tt)
    (he : ∀ (s : Shared) (H : Hp) (C : Addr) (cl : List (Str × Addr)) (fp : List Addr) (W' : WX) (xe : Value → Shared → Prop), (∀ σ, PassesAt (L2.CX X.prog X.w) (blkX X s H scope (compEnvC scope cl C X.env) fp xe) σ (WE W' σ)) → PE (blkX X s H scope (compEnvC scope cl C X.env) fp xe) elt (te W')) (hs : ∀ x, foldedSetIterable iter X.env x = pure x)
    (h : tLc wi g tt (te fun c d _ H' => W c d σ H') (own.map (·.2)) σ H Q)
    (hRR : ∀ (D : Addr) (ce : Env) (s' : Shared) (m : Str → Option Value) (H' : Hp), Inv X pins σ H' s' → Q (.ref D) H' → s'.heap.Ns ce.locals m → FpOk X pins H' ce.locals → ∀ h', Heap.SameBut ce.locals s'.heap h' → Qf (.ref D) { s' with heap := h' }) :
    wpAny (model X.prog X.w) X.A (comprehension (.ListComp elt [⟨tg, iter, ifs, 0⟩] scope pos) scope X.env pos' (newList []) false (eval iter X.env) none) Qf X.xe s := by
  have hfree : ∀ y ∈ scope.names, y.2 = .free → ∃ c, X.env.cells.lookup y.1 = some c := fun y hy e => by
    rcases ok.free y hy e with k | k
    · exact I.ok.has _ (.inl k)
    · exact I.ok.has _ (.inr k)
  refine comp_x rfl hs (closure_ok hfree) ok.kind (fun y hy e => by rw [ok.uniq y hy, e]) (thn (hi.run pins s σ H _ I h) fun xv s1 hx => thn hx fun itv s2 h2 => ?_)
  obtain ⟨it, fp, tn, J, H2, e, I2, T, st2, f2, q⟩ := h2
  subst e
  refine wpAny_newObj_type (newEnv_comp ?_) (by show 0 ≤ sizeLine; decide)
  generalize hD : s2.heap.objs.size = D
  have hDn : H2 D = none := I2.hok.fresh (Nat.le_of_eq hD)
  obtain ⟨Wm, ⟨m0, w0⟩, turn⟩ := q D hDn
  generalize hs3 : ({ s2 with heap := s2.heap.push { cls := .type "list", data := .seq ([] : List Value).toArray } } : Shared) = s3
  have I3 : Inv X pins σ (upd H2 D (.lst [])) s3 := by
    rw [← hs3]
    refine I2.laid (t' := s2.toks) (fun b o e => Heap.get?_push_of_some _ e) (Nat.le_of_eq hD) ⟨Nat.zero_le _, [], 0, .nil, ?_⟩
    rw [← hD]
    exact Heap.get?_push_size _ rfl
  have h3 : s3.heap = s2.heap.push { cls := .type "list", data := .seq ([] : List Value).toArray } := by rw [← hs3]
  have f3 : ∀ b ∈ fp, FpOk X pins (upd H2 D (.lst [])) b ∧ b < s3.heap.objs.size := fun b hb => by
    obtain ⟨o, e, _⟩ := T.obj _ _ st2 b hb
    have hlt := Heap.lt_size e
    refine ⟨⟨?_, (f2 b hb).2⟩, by rw [h3, Heap.size_push]; exact Nat.lt_succ_of_lt hlt⟩
    rw [upd_ne (by rw [← hD]; exact Nat.ne_of_lt hlt)]
    exact (f2 b hb).1
  have st3 : tn 0 s3.heap := T.keep _ _ _ st2 fun b _ o e => by rw [h3]; exact Heap.get?_push_of_some _ e
  have I4 := block_start I3 ok hN f3
  have pg := hg s3 (upd H2 D (.lst [])) s3.heap.objs.size (cellsFrom (s3.heap.objs.size + 1) scope.names (cloFrom X.env.cells scope.names [])) fp
  have pt := ht s3 (upd H2 D (.lst [])) s3.heap.objs.size (cellsFrom (s3.heap.objs.size + 1) scope.names (cloFrom X.env.cells scope.names [])) fp
  have pe := he s3 (upd H2 D (.lst [])) s3.heap.objs.size (cellsFrom (s3.heap.objs.size + 1) scope.names (cloFrom X.env.cells scope.names [])) fp (fun c d _ H' => W c d σ H')
  show codeAny _ _ (.compStart (.ListComp elt [⟨tg, iter, ifs, 0⟩] scope pos) 0 (.ref it) (.ref D) (compEnvC scope (cellsFrom (s3.heap.objs.size + 1) scope.names (cloFrom X.env.cells scope.names [])) s3.heap.objs.size X.env)) (endX (model X.prog X.w) X.A X.xe Qf (.ref D) (compEnvC scope (cellsFrom (s3.heap.objs.size + 1) scope.names (cloFrom X.env.cells scope.names [])) s3.heap.objs.size X.env)) { s3 with heap := pushCells (s3.heap.push { cls := .type "dict", data := .dict #[] }) scope.names }
  have nfp : ∀ b ∈ fp, (upd H2 D (.lst [])) b = none := fun b hb => (f3 b hb).1.1
  generalize hce : compEnvC scope (cellsFrom (s3.heap.objs.size + 1) scope.names (cloFrom X.env.cells scope.names [])) s3.heap.objs.size X.env = ce at I4 pg pt pe ⊢
  have cL : ce.locals = s3.heap.objs.size := by subst hce; rfl
  have cF : ce.frame = X.env.frame := by subst hce; rfl
  generalize hH3 : upd H2 D (.lst []) = H3 at I3 I4 pg pt pe w0 nfp f3
  generalize hs4 : ({ s3 with heap := pushCells (s3.heap.push { cls := .type "dict", data := .dict #[] }) scope.names } : Shared) = s4 at I4 ⊢
  have st4 : tn 0 s4.heap := T.keep _ _ _ st3 fun b _ o e => by rw [← hs4]; exact pushCells_keeps _ _ _ _ (Heap.get?_push_of_some _ e)
  -- the block's states are ours
  have back : ∀ {pb : List (Addr × Obj)} {σ' : St} {H' : Hp} {s' : Shared}, Inv (X.blk s3 H3 scope ce fp) pb σ' H' s' → Inv X pins σ H' s' ∧ FpOk X pins H' ce.locals ∧ ∃ m, s'.heap.Ns ce.locals m := fun {pb σ' H' s'} I6 => by
    have I7 : Inv X pins σ H' s' := I3.call' (ch := fp) I6.os I6.base I6.hok I6.bare fun b hb => ⟨(f3 b hb).1.2.2.2.1, (f3 b hb).1.2.1, (f3 b hb).1.2.2.2.2.1, (f3 b hb).1.2.2.2.2.2⟩
    have nC : H' ce.locals = none := I6.free
    obtain ⟨m, hn, _⟩ := I6.loc
    refine ⟨I7, ?_, m, hn⟩
    rw [cL] at nC ⊢
    exact I3.fpOk (Nat.le_refl _) nC
  have air : ∀ u s', AirC (X.blk s3 H3 scope ce fp) (fun c d _ H' => W c d σ H') u s' → notedBy (model X.prog X.w) X.A ce (fun e s2 => endX (model X.prog X.w) X.A X.xe Qf (.ref D) ce (.error e) s2) u s' := fun u s' ⟨a, B, sI, pb, σ', H', cls, d, eu, I6, nb, up, sky, na, os, ag, w⟩ => by
    subst eu
    obtain ⟨I7, fc, hm⟩ := back I6
    exact out_blkC hst hfr cF tk I7 fc hm nb up sky na os ag w
  have stat : ∀ {σ' : St} {H' : Hp} {s' : Shared}, Inv (X.blk s3 H3 scope ce fp) [] σ' H' s' → (∀ b ∈ fp, H' b = none) → ∀ b ∈ fp, FpOk (X.blk s3 H3 scope ce fp) [] H' b := fun {σ' H' s'} I' hn b hb =>
    ⟨hn b hb, (I'.ok.exf b hb).1, I'.ok.exfs b hb, .inl hb, fun x c e => (I'.ok.exf b hb).2 x c e, fun p hp => absurd (show p ∈ ([] : List (Addr × Obj)) ++ [] from hp) (by simp)⟩
  have loop : codeAny (model X.prog X.w) X.A (.compLoop (.ListComp elt [⟨tg, iter, ifs, 0⟩] scope pos) 0 (.ref it) (.ref D) ce) (endX (model X.prog X.w) X.A X.xe Qf (.ref D) ce) s4 := by
    refine compLoop_any (fun n s' => ∃ i H', Inv (X.blk s3 H3 scope ce fp) [] (wipe σ (own.map (·.2))) H' s' ∧ tn i s'.heap ∧ (∀ b ∈ fp, H' b = none) ∧ Wm i n H') ?_ m0 ⟨0, H3, I4, st4, nfp, w0⟩
    rintro n s5 ⟨i, H5, I5, st5, n5, w5⟩
    rcases turn i n H5 w5 with ⟨stop, qq⟩ | ⟨go, Nx, hNx, step⟩
    · have td := T.done (X.blk s3 H3 scope ce fp) rfl rfl rfl hc i [] s5 _ H5 (fun _ _ => False) I5 (stat I5 n5) st5 stop
      refine thnF td fun r s6 ⟨hr, I6⟩ => ?_
      subst hr
      obtain ⟨I7, fc, m, hn⟩ := back I6
      exact ⟨m, hn, fun h' sb => hRR D ce s6 m H5 I7 qq hn fc h' sb⟩
    · have ti := T.item (X.blk s3 H3 scope ce fp) rfl rfl rfl hc i [] s5 _ H5 (fun _ _ => False) I5 (stat I5 n5) st5 go
      refine thnF ti fun r s6 ⟨u, hr, h6⟩ => ?_
      subst hr
      refine thnF h6 fun _ s7 ⟨x, H7, I7, r7, y7, st7, n7⟩ => ?_
      have I7' := I7.pinned (stat I7 n7) (T.obj _ _ st7)
      let xe := AirC (X.blk s3 H3 scope ce fp) (fun c d _ H' => W c d σ H')
      refine wpAny_mono ((pg xe).run _ s7 _ H7 x u _ (inv_xe I7') r7 (step x H7 y7)) (fun _ s8 ⟨σ8, H8, I8, hw8, q8⟩ => ?_) air
      refine wpAny_mono ((pt xe).run _ s8 σ8 H8 _ I8 q8) (fun b s9 ⟨H9, I9, q9⟩ => ?_) air
      have fin : ∀ {s' : Shared} {H' : Hp}, Inv (X.blk s3 H3 scope ce fp) ([] ++ pinsAt fp s7.heap) σ8 H' s' → Nx H' → ∃ m, m < n ∧ ∃ i H', Inv (X.blk s3 H3 scope ce fp) [] (wipe σ (own.map (·.2))) H' s' ∧ tn i s'.heap ∧ (∀ b ∈ fp, H' b = none) ∧ Wm i m H' := fun {s' H'} I' nx => by
        obtain ⟨m', hm, w'⟩ := hNx H' nx
        have pin' : ∀ b ∈ fp, ∀ o, s7.heap.get? b = some o → s'.heap.get? b = some o ∧ H' b = none := fun b hb o e =>
          let z := I'.pin (b, o) (List.mem_append_right _ (List.mem_append_right _ (mem_pinsAt hb e)))
          ⟨z.1, z.2.1⟩
        have hl : (wipe σ (own.map (·.2))).length = σ8.length := by rw [← hw8, L2.wipe_length]
        refine ⟨m', hm, i + 1, H', (I'.unpinned (pins := [])).weak hl (fun j v e => ?_), T.keep _ _ _ st7 fun b hb o e => (pin' b hb o e).1, fun b hb => ?_, w'⟩
        · rw [← hw8] at e
          exact (wipe_some e).1
        · obtain ⟨o, e, _⟩ := T.obj _ _ st7 b hb
          exact (pin' b hb o e).2
      cases b with
      | false =>
        simp only [Bool.false_eq_true, if_false] at q9 ⊢
        exact fin (inv_xe (X := blkX X s3 H3 scope ce fp xe) I9) q9
      | true =>
        simp only [if_true] at q9 ⊢
        refine wpAny_mono ((pe xe fun σ => air_passC (X := X.blk s3 H3 scope ce fp) σ).run _ s9 σ8 H9 _ I9 q9) (fun z s10 ⟨yv, H10, I10, r10, acc, hD10, hz10, nx⟩ => ?_) air
        exact app_ok (X := X.blk s3 H3 scope ce fp) (inv_xe (X := blkX X s3 H3 scope ce fp xe) I10) hD10 hz10 r10 fun s11 I11 => fin I11 nx
  exact codeAny_compStart_list loop (T.self X.A 0 _ _ _ st4 loop)
end
section
variable {X : Cx} {W : WX} {A : AE} {P : AT}
theorem pe_lcXCC {elt tg iter : Expr} {ifs : List Expr} {scope : Scope} {own : List (Str × Nat)} {pos : Pos} {wi : TI} {g : TG} {tt : TT} {te : WX → TE} (hc : X.calm = true) (hN : X.N.Nodup) (tk : L2.Takes X W) (hi : PI X tg iter wi) (ok : BlkOk X.N X.env.scope scope own)
    (hg : ∀ (s : Shared) (H : Hp) (C : Addr) (cl : List (Str × Addr)) (fp : List Addr) (xe : Value → Shared → Prop), PG (blkX X s H scope (compEnvC scope cl C X.env) fp xe) tg g) (ht : ∀ (s : Shared) (H : Hp) (C : Addr) (cl : List (Str × Addr)) (fp : List Addr) (xe : Value → Shared → Prop), PTs (blkX X s H scope (compEnvC scope cl C X.env) fp xe) ifs tt)
    (he : ∀ (s : Shared) (H : Hp) (C : Addr) (cl : List (Str × Addr)) (fp : List Addr) (W' : WX) (xe : Value → Shared → Prop), (∀ σ, PassesAt (L2.CX X.prog X.w) (blkX X s H scope (compEnvC scope cl C X.env) fp xe) σ (WE W' σ)) → PE (blkX X s H scope (compEnvC scope cl C X.env) fp xe) elt (te W'))
    (hst : X.stack = X.env :: X.outer := by rfl) (hfr : X.env.frame = some X.env.locals := by rfl) (hs : ∀ x, foldedSetIterable iter X.env x = pure x := by intro _; rfl) :
    PE X (.ListComp elt [⟨tg, iter, ifs, 0⟩] scope pos) (fun σ H Q => tLc wi g tt (te fun c d _ H' => W c d σ H') (own.map (·.2)) σ H Q) := by
  refine ⟨fun pins s σ H Q I h => ?_⟩
  rw [eval_ListComp]
  refine lc_coreXC hc hN hst hfr tk I hi ok hg ht he hs h fun D ce s' m H' I' q hn f h'' sb => ?_
  obtain ⟨f0, f1, f2, f3, f4, f5⟩ := f
  exact ⟨.ref D, H', I'.turned (t' := s'.toks) (fun b o hb e => (sb.2 b hb).trans e) f0 f1 f3 f4 f5, rfl, q⟩
variable {hot : Option (Addr × Ec)} {tg iter : Expr} {pos : Pos}
/-- a comprehension whose items may raise -/
theorem e_lcXC {I : AA} {ga : D → ATS} {P : AT} {elt : Expr} {ifs : List Expr} {scope : Scope} {own : List (Str × Nat)} (hc : X.calm = true) (hN : X.N.Nodup) (tk : L2.Takes X W) (hi : EI X hot W tg iter I) (ok : BlkOk X.N X.env.scope scope own)
    (hg : ∀ (s : Shared) (H : Hp) (C : Addr) (cl : List (Str × Addr)) (fp : List Addr) (xe : Value → Shared → Prop), EGc (blkX X s H scope (compEnvC scope cl C X.env) fp xe) hot (own.map (·.2)) tg ga)
    (ht : ∀ (s : Shared) (H : Hp) (C : Addr) (cl : List (Str × Addr)) (fp : List Addr) (xe : Value → Shared → Prop), ETs (blkX X s H scope (compEnvC scope cl C X.env) fp xe) hot W0 ifs P)
    (he : ∀ (s : Shared) (H : Hp) (C : Addr) (cl : List (Str × Addr)) (fp : List Addr) (W' : WX) (xe : Value → Shared → Prop), (∀ σ, PassesAt (L2.CX X.prog X.w) (blkX X s H scope (compEnvC scope cl C X.env) fp xe) σ (WE W' σ)) → EE (blkX X s H scope (compEnvC scope cl C X.env) fp xe) hot W' elt A)
    (hst : X.stack = X.env :: X.outer := by rfl) (hfr : X.env.frame = some X.env.locals := by rfl) (hs : ∀ x, foldedSetIterable iter X.env x = pure x := by intro _; rfl) :
    EE X hot W (.ListComp elt [⟨tg, iter, ifs, 0⟩] scope pos) (aLcX I ga P A (own.map (·.2))) := by
  obtain ⟨wi, pi, si⟩ := hi
  exact ⟨_, pe_lcXCC (te := fun W' => absE (kx X hot) W' A) (tt := absT (kx X hot) W0 P) (g := absGc (kx X hot) (own.map (·.2)) ga) hc hN tk pi ok (fun s H C cl fp xe => (hg s H C cl fp xe).can) (fun s H C cl fp xe => (ht s H C cl fp xe).can) (fun s H C cl fp W' xe tp => (he s H C cl fp W' xe tp).can) hst hfr hs, simE_lcX si⟩
end
theorem pass_NC {X : Cx} {σ : St} {E : XK} (h : PassesAt (L2.CX X.prog X.w) X σ E) : PassesAt (L2N.CX X.prog X.w) X σ E := fun pins H s e s' I ⟨a, B, H', cls, d, e1, fl, c⟩ => h pins H s e s' I ⟨a, B, H', cls, d, e1, flyingZ_imp (fun _ => L2N.Zn.zc) fl, c⟩
/-! tuple targets in comprehensions -/
def SimGcs (k : Kx) (vs : List Nat) (tg : TGs) (a : List D → ATS) : Prop := ∀ (ds : List D) (xs : List V) (σ : St) (env : En) (g : G) (μ : Sto) (H : Hp) (Q : St → Hp → Prop), Rps k g ds xs → RpE k g env σ → Rs k g μ H →
  (match a ds env μ with
    | .nx e m => ∀ σ2 h H2, g.le h → RpE k h e σ2 → Rs k h m H2 → wipe σ2 vs = wipe σ vs → Q σ2 H2
    | _ => False) → tg xs σ H Q
def EGcs (X : Cx) (hot : Option (Addr × Ec)) (vs : List Nat) (es : List Expr) (a : List D → ATS) : Prop := ∃ tg, PGs X es tg ∧ SimGcs (kx X hot) vs tg a
section
variable {X : Cx} {hot : Option (Addr × Ec)} {e : Expr} {es : List Expr} {vs : List Nat}
theorem gcs_nil : EGcs X hot vs [] gsNil := ⟨_, pgs_nil, fun ds xs σ env g μ H Q rv re rs p => by
  cases ds with
  | nil => exact ⟨rv, p σ g H (.refl g) re rs rfl⟩
  | cons _ _ => exact p.elim⟩
theorem gcs_cons {g1 : D → ATS} {g2 : List D → ATS} (h1 : EGc X hot vs e g1) (h2 : EGcs X hot vs es g2) (hs : (assignEach (e :: es) X.env).map (fun x => x.snd) = assign e X.env :: (assignEach es X.env).map (fun x => x.snd) := by rfl) : EGcs X hot vs (e :: es) (gsCons g1 g2) := by
  obtain ⟨t1, p1, s1⟩ := h1
  obtain ⟨t2, p2, s2⟩ := h2
  refine ⟨_, pgs_cons p1 p2 hs, fun ds xs σ env g μ H Q rv re rs p => ?_⟩
  cases ds with
  | nil => exact p.elim
  | cons d r =>
    obtain ⟨v, vr, e1, r1, r2⟩ := rv
    refine ⟨v, vr, e1, ?_⟩
    refine s1 d v σ env g μ H _ r1 re rs ?_
    have q : (match aSeq (g1 d) (g2 r) env μ with
      | .nx e m => ∀ σ2 h H2, g.le h → RpE (kx X hot) h e σ2 → Rs (kx X hot) h m H2 → wipe σ2 vs = wipe σ vs → Q σ2 H2
      | _ => False) := p
    unfold aSeq at q
    cases z : g1 d env μ with
    | nx e m =>
      rw [z] at q
      intro σ' h' H' l re' rs' wp
      refine s2 r vr σ' e h' m H' _ (r2.mono l) re' rs' ?_
      have q : (match g2 r e m with
        | .nx e m => ∀ σ2 h H2, g.le h → RpE (kx X hot) h e σ2 → Rs (kx X hot) h m H2 → wipe σ2 vs = wipe σ vs → Q σ2 H2
        | _ => False) := q
      cases z2 : g2 r e m with
      | nx e2 m2 => rw [z2] at q; exact fun σ2 h2 H2 l2 re2 rs2 wp2 => q σ2 h2 H2 (l.trans l2) re2 rs2 (wp2.trans wp)
      | rt _ _ => rw [z2] at q; exact q.elim
      | bk _ _ => rw [z2] at q; exact q.elim
      | ct _ _ => rw [z2] at q; exact q.elim
      | ex _ _ _ => rw [z2] at q; exact q.elim
      | fail => rw [z2] at q; exact q.elim
    | rt d m => rw [z] at q; exact q.elim
    | bk e m => rw [z] at q; exact q.elim
    | ct e m => rw [z] at q; exact q.elim
    | ex c e m => rw [z] at q; exact q.elim
    | fail => rw [z] at q; exact q.elim
theorem gc_tup {n : Nat} {ga : List D → ATS} (h : EGcs X hot vs es ga) (w : ∀ t, PGs X es t → PG X e (gTup X.K n t)) : EGc X hot vs e (gTp n ga) := by
  obtain ⟨t, p, s⟩ := h
  refine ⟨_, w t p, fun d v σ env g μ H Q rv re rs p => ?_⟩
  cases d with
  | tup ds =>
    have p : (match (if ds.length = n then ga ds env μ else .fail) with
      | .nx e m => ∀ σ2 h H2, g.le h → RpE (kx X hot) h e σ2 → Rs (kx X hot) h m H2 → wipe σ2 vs = wipe σ vs → Q σ2 H2
      | _ => False) := p
    by_cases hl : ds.length = n
    · rw [if_pos hl] at p
      obtain ⟨a, xs, e1, sq, q⟩ := tup_ok rs rv
      exact ⟨a, xs, e1, sq, q.length.trans hl, s ds xs σ env g μ H Q q re rs p⟩
    · rw [if_neg hl] at p; exact p.elim
  | _ => exact p.elim
end
end Z

set_option Elab.async false
set_option linter.all false
set_option maxRecDepth 100000
set_option maxHeartbeats 2000000
/-! Sim, part 15: list(..), a list of the store that stays from a statement on. -/
namespace Z
open PySem PySem.Spec PyProof.Rows L2 L2H
section
variable {X : Cx} {W : WX} {hot : Option (Addr × Ec)} {st : Stmt} {S : ATS} {k : Kx}
def dLs : D → Sto → R D := fun d μ => match d with
  | .tup xs => .ok (.lst xs) μ
  | _ => (match d.sqL μ with
    | some xs => .ok (.lst xs) μ
    | none => .fail)
theorem cs_listOf : CallS k (fun xs H Q => ∃ p ys, xs = [.ref p] ∧ (SqL k.K H p ys ∨ SqT k.K H p ys) ∧ ∀ l, H l = none → Q (.ref l) (upd H l (.lst ys))) (one1 dLs) := cs_one fun d x g μ H Q E rx rs p => by
  have lcase : ∀ (o : Option (List D)), o = d.sqL μ → Post k g (Rp k) (match o with
      | some xs => R.ok (.lst xs) μ
      | none => R.fail) Q E → ∃ p ys, [x] = [.ref p] ∧ (SqL k.K H p ys ∨ SqT k.K H p ys) ∧ ∀ l, H l = none → Q (.ref l) (upd H l (.lst ys)) := fun o eo p => by
    cases o with
    | none => exact p.elim
    | some xs =>
      obtain ⟨ad, vs, e1, s, r⟩ := sqL_ok rs rx eo.symm
      exact ⟨ad, vs, by rw [e1], .inl s, fun l hl => p.newL rs r hl⟩
  cases d with
  | tup xs =>
    have p : Post k g (Rp k) (.ok (.lst xs) μ) Q E := p
    obtain ⟨ad, vs, e1, s, r⟩ := tup_ok rs rx
    exact ⟨ad, vs, by rw [e1], .inr s, fun l hl => p.newL rs r hl⟩
  | _ => exact lcase _ rfl p
/-- the list of slot i stays from now on -/
def frz (i : Nat) (e : En) (m : Sto) : Fl := match e[i]? with
  | some (some (.ob n)) => (match m[n]? with
    | some (.lst ds) => .nx (e.set i (some (.lst ds))) (m.set n .gone)
    | _ => .fail)
  | _ => .fail
def aFz (i : Nat) (S : ATS) : ATS := fun env μ => match S env μ with
  | .nx e m => frz i e m
  | z => z
theorem set_id {σ : St} {i : Nat} {v : Option V} (h : σ[i]? = some v) : σ.set i v = σ := by
  obtain ⟨h1, h2⟩ := List.getElem?_eq_some_iff.mp h
  rw [← h2]
  exact List.set_getElem_self h1
theorem s_fz (i : Nat) (h : ES X hot W st S) : ES X hot W st (aFz i S) := by
  obtain ⟨ts, ps, ss⟩ := h
  refine ⟨ts, ps, fun σ env g μ H T re rs q => ss σ env g μ H T re rs ?_⟩
  unfold aFz at q
  cases z : S env μ with
  | nx e m =>
    rw [z] at q
    have q : PostS (kx X hot) g (frz i e m) T W := q
    intro σ' h H' l re' rs'
    unfold frz at q
    cases z1 : e[i]? with
    | none => rw [z1] at q; exact q.elim
    | some od =>
      rw [z1] at q
      cases od with
      | none => exact q.elim
      | some d =>
        cases d with
        | ob n =>
          have q : PostS (kx X hot) g (match m[n]? with
            | some (.lst ds) => .nx (e.set i (some (.lst ds))) (m.set n .gone)
            | _ => .fail) T W := q
          obtain ⟨v, h1, ad, e1, e2⟩ := re'.get z1
          cases z2 : m[n]? with
          | none => rw [z2] at q; exact q.elim
          | some mm =>
            rw [z2] at q
            cases mm with
            | lst ds =>
              obtain ⟨ys, h3, h4⟩ := rs'.obj n _ ad z2 e2
              have ne : M.lst ds ≠ .gone := by intro y; cases y
              have le := rs'.le_freeze (ho := .lst ys) z2 e2 ne
              have q : ∀ σ2 h2 H2, g.le h2 → RpE (kx X hot) h2 (e.set i (some (.lst ds))) σ2 → Rs (kx X hot) h2 (m.set n .gone) H2 → T.nx σ2 H2 := q
              refine q σ' _ H' (l.trans le) ?_ (rs'.freeze z2 e2 ne h3)
              have r2 := RpE.set (show Rp (kx X hot) ⟨upd h.I ad (.lst ys), h.φ, h.F⟩ (.lst ds) v from ⟨ad, ys, e1, .inl upd_same, h4.mono le⟩) i (re'.mono le)
              rw [set_id h1] at r2
              exact r2
            | _ => exact q.elim
        | _ => exact q.elim
  | rt d m => rw [z] at q; exact q
  | bk e m => rw [z] at q; exact q
  | ct e m => rw [z] at q; exact q
  | ex c e m => rw [z] at q; exact q
  | fail => rw [z] at q; exact q
end
end Z

set_option Elab.async false
set_option linter.all false
set_option maxRecDepth 100000
set_option maxHeartbeats 2000000
/-! Sim, part 16: zip of two lists that stay. -/
namespace Z
open PySem PySem.Spec PyProof.Rows L2 L2H
section
variable {X : Cx} {W : WX} {hot : Option (Addr × Ec)} {k : Kx} {As : AA} {e e2 : Expr}
def zipD (xs ys : List D) : List D := List.zipWith (fun a b => D.tup [a, b]) xs ys
def two_ : List D → Option (D × D)
  | d :: r => (match r with
    | e :: r2 => (match r2 with
      | [] => some (d, e)
      | _ => none)
    | _ => none)
  | _ => none
theorem two_ok {ds : List D} {p : D × D} (h : two_ ds = some p) : ds = [p.1, p.2] := by
  cases ds with
  | nil => cases h
  | cons d r =>
    cases r with
    | nil => cases h
    | cons e r2 =>
      cases r2 with
      | nil => cases h; rfl
      | cons _ _ => cases h
def aItZ (As : AA) : AA := fun env μ => (As env μ).bind fun ds m => match two_ ds with
  | some p => (match p.1.seqI with
    | some xs => (match p.2.seqI with
      | some ys => .ok (zipD xs ys) m
      | none => .fail)
    | none => .fail)
  | none => .fail
theorem zipD_get {xs ys : List D} {i : Nat} {d : D} (h : (zipD xs ys)[i]? = some d) : ∃ a b, xs[i]? = some a ∧ ys[i]? = some b ∧ d = .tup [a, b] := by
  unfold zipD at h
  rw [List.getElem?_zipWith] at h
  cases z1 : xs[i]? with
  | none => rw [z1] at h; cases h
  | some a =>
    cases z2 : ys[i]? with
    | none => rw [z1, z2] at h; cases h
    | some b => rw [z1, z2] at h; cases h; exact ⟨a, b, rfl, rfl, rfl⟩
theorem i_zip {elts : List Expr} {kk : Nat} {p pos tpos : Pos} (hm : X.mg "zip" = none) (ha : EA X hot W [e, e2] As) (hg : Gl X "zip" := by rfl)
    (hs : starEach [e, e2] X.env = (false, eval e X.env) :: starEach [e2] X.env := by rfl) (hpl : (backTo pos (starEach [e2] X.env)).any (·.1) = false := by rfl) : EI X hot W (.Tuple elts kk tpos) (.Call (.Name "zip" p) [e, e2] [] pos) (aItZ As) := by
  obtain ⟨t, pt, st⟩ := ha
  refine ⟨_, pi_zip hg hm pt hs hpl, fun σ env g μ H Rk re rs q => st σ env g μ H _ re rs (q.bind fun ds m vs h H1 l rs1 rv q1 => ?_)⟩
  cases z : two_ ds with
  | none => rw [z] at q1; exact q1.elim
  | some pr =>
    rw [z] at q1
    have eds := two_ok z
    subst eds
    have q1 : Post (kx X hot) h (relI (kx X hot)) (match pr.1.seqI with
      | some xs => (match pr.2.seqI with
        | some ys => R.ok (zipD xs ys) m
        | none => R.fail)
      | none => R.fail) Rk _ := q1
    cases z1 : pr.1.seqI with
    | none => rw [z1] at q1; exact q1.elim
    | some xs =>
      rw [z1] at q1
      have q1 : Post (kx X hot) h (relI (kx X hot)) (match pr.2.seqI with
        | some ys => R.ok (zipD xs ys) m
        | none => R.fail) Rk _ := q1
      cases z2 : pr.2.seqI with
      | none => rw [z2] at q1; exact q1.elim
      | some ys =>
        rw [z2] at q1
        obtain ⟨v, w, ev, rv1, rv2⟩ := rps2 rv
        obtain ⟨a, us, e1, s1, r1⟩ := sqI_ok rv1 z1
        obtain ⟨b, ws, e2', s2, r2⟩ := sqI_ok rv2 z2
        refine ⟨a, b, us, ws, by rw [ev, e1, e2'], sqL_mono rs1.ex s1, sqL_mono rs1.ex s2, q1 _ h H1 (.refl h) rs1 ?_⟩
        intro i h2 μ2 H2 l2 rs2
        have t1 : SqL X.K H2 a us := sqL_mono (fun a o e => rs2.ex a o (l2.i a o e)) s1
        have t2 : SqL X.K H2 b ws := sqL_mono (fun a o e => rs2.ex a o (l2.i a o e)) s2
        refine ⟨fun hi => ⟨us, ws, t1, t2, ?_⟩, fun d hd => ?_⟩
        · have hl : (zipD xs ys).length = min xs.length ys.length := by unfold zipD; rw [List.length_zipWith]
          have c1 := r1.length
          have c2 := r2.length
          rw [hl] at hi
          omega
        · obtain ⟨da, db, g1, g2, ed⟩ := zipD_get hd
          obtain ⟨u, y1, y2⟩ := r1.get g1
          obtain ⟨w', y3, y4⟩ := r2.get g2
          refine ⟨⟨us, ws, u, w', t1, t2, y1, y3⟩, fun x' H' yy => ?_⟩
          obtain ⟨pp, x1, x2, f1, f2, f3, f4, f5⟩ := yy
          have w1 := f4 us t1
          have w2 := f5 ws t2
          rw [y1] at w1
          rw [y3] at w2
          cases w1
          cases w2
          subst f1 f3 ed
          have rr : Rps (kx X hot) h2 [da, db] [u, w'] := Rps.cons (y2.monoL l2) (Rps.cons (y4.monoL l2) Rps.nil)
          exact ⟨h2.add pp (.tup [u, w']), G.le_add (rs2.freeI f2), rs2.add f2, pp, [u, w'], rfl, .inl (.inl upd_same), rr.mono (G.le_add (rs2.freeI f2))⟩
end
end Z

set_option Elab.async false
set_option linter.all false
set_option maxRecDepth 100000
set_option maxHeartbeats 2000000
/-! Sim, part 17: walking a list, a tuple or a text, whichever comes. -/
namespace Z
open PySem PySem.Spec PyProof.Rows L2 L2H
section
variable {X : Cx} {W : WX} {hot : Option (Addr × Ec)} {k : Kx} {tg e : Expr} {A : AE}
def iAny (K : PySem.W.Frag) (te : TE) : TI := fun σ H R => te σ H fun x H1 => (∃ a, x = .ref a ∧ (∃ xs, SqL K H1 a xs) ∧ R (Itl K a) H1) ∨ (∃ a, x = .ref a ∧ (∃ xs, SqT K H1 a xs) ∧ R (Itt K a) H1) ∨ ∃ s, x = .str s ∧ R (Its s) H1
theorem pi_any {te : TE} (he : PE X e te) : PI X tg e (iAny X.K te) := by
  refine ⟨fun pins s σ H R I h => ?_⟩
  refine thn (he.run pins s σ H _ I h) fun v s1 ⟨x, H1, I1, r1, q1⟩ => ?_
  rcases q1 with ⟨a, e, ⟨xs, hq⟩, q⟩ | ⟨a, e, ⟨xs, hq⟩, q⟩ | ⟨z, ez, q⟩
  · subst e
    cases r1
    obtain ⟨its, rv, p, hz⟩ := I1.list hq
    refine wpAny_pyIter_list p.isList ?_
    refine ⟨s1.heap.objs.size, [s1.heap.objs.size], _, _, H1, rfl, I1.kept (t' := s1.toks) fun b o e => Heap.get?_push_of_some _ e, turn_list a _, ⟨_, Heap.get?_push_size _ rfl, rfl, rfl⟩, fun b hb => ?_, q⟩
    have e : b = s1.heap.objs.size := by simpa using hb
    subst e
    exact I1.fpOk (Nat.le_refl _) (I1.hok.fresh (Nat.le_refl _))
  · subst e
    cases r1
    obtain ⟨its, rv, p, hz⟩ := I1.tuple hq
    refine wpAny_pyIter_tuple (show s1.heap.IsTuple a its.toArray from p) ?_
    refine ⟨s1.heap.objs.size, [s1.heap.objs.size], _, _, H1, rfl, I1.kept (t' := s1.toks) fun b o e => Heap.get?_push_of_some _ e, turn_tuple a _, ⟨_, Heap.get?_push_size _ rfl, rfl, rfl⟩, fun b hb => ?_, q⟩
    have e : b = s1.heap.objs.size := by simpa using hb
    subst e
    exact I1.fpOk (Nat.le_refl _) (I1.hok.fresh (Nat.le_refl _))
  · subst ez
    obtain ⟨t, rfl⟩ := r1
    cases ha : z.cps.all (· < 128)
    · exact wpAny_pyIter_wide ha (pi_one (tk := s1.toks) I1 _ (turn_str _ z t "str_iterator" (.inr rfl)) ⟨_, Heap.get?_push_size _ rfl, rfl, rfl⟩ q)
    · exact wpAny_pyIter_ascii ha (pi_one (tk := s1.toks) I1 _ (turn_str _ z t "str_ascii_iterator" (.inl rfl)) ⟨_, Heap.get?_push_size _ rfl, rfl, rfl⟩ q)
def aItA (A : AE) : AA := fun env μ => (A env μ).bind fun d m => match d with
  | .lst xs => .ok xs m
  | .scr xs => .ok xs m
  | .tup xs => .ok xs m
  | .str s => .ok (chD s) m
  | _ => .fail
theorem wkA_list {a : Addr} {xs : List V} {ds : List D} {h : G} {m : Sto} {H1 : Hp} (rs1 : Rs k h m H1) (sq : SqL k.K h.I a xs) (r : Rps k h ds xs) : Walks k (Itl k.K a) h ds := by
  intro i h2 μ2 H2 l2 rs2
  have sH : SqL k.K H2 a xs := sqL_mono (fun a o e => rs2.ex a o (l2.i a o e)) sq
  refine ⟨fun hi => ⟨xs, sH, by rw [r.length]; exact hi⟩, fun d' hd => ?_⟩
  obtain ⟨v, h3, h4⟩ := r.get hd
  refine ⟨⟨xs, v, sH, h3⟩, fun x' H' y => ?_⟩
  obtain ⟨e2, y⟩ := y
  subst e2
  have w := y xs sH
  rw [h3] at w
  cases w
  exact ⟨h2, .refl h2, rs2, h4.monoL l2⟩
theorem wkA_tup {a : Addr} {xs : List V} {ds : List D} {h : G} {m : Sto} {H1 : Hp} (rs1 : Rs k h m H1) (sq : SqT k.K h.I a xs) (r : Rps k h ds xs) : Walks k (Itt k.K a) h ds := by
  intro i h2 μ2 H2 l2 rs2
  have sH : SqT k.K H2 a xs := sqT_mono (fun a o e => rs2.ex a o (l2.i a o e)) sq
  refine ⟨fun hi => ⟨xs, sH, by rw [r.length]; exact hi⟩, fun d' hd => ?_⟩
  obtain ⟨v, h3, h4⟩ := r.get hd
  refine ⟨⟨xs, v, sH, h3⟩, fun x' H' y => ?_⟩
  obtain ⟨e2, y⟩ := y
  subst e2
  have w := y xs sH
  rw [h3] at w
  cases w
  exact ⟨h2, .refl h2, rs2, h4.monoL l2⟩
theorem wkA_str {cs : List Nat} {h : G} : Walks k (Its ⟨cs.toArray⟩) h (chD cs) := by
  intro i h2 μ2 H2 l2 rs2
  refine ⟨fun hi => by show cs.toArray.size ≤ i; simpa [chD] using hi, fun d' hd => ?_⟩
  have hd : (cs.map fun c => D.str [c])[i]? = some d' := hd
  rw [List.getElem?_map] at hd
  cases z : cs[i]? with
  | none => rw [z] at hd; cases hd
  | some c0 =>
    rw [z] at hd
    have hd : D.str [c0] = d' := Option.some.inj hd
    subst hd
    refine ⟨by show i < cs.toArray.size; simpa using (List.getElem?_eq_some_iff.mp z).1, fun x' H' y => ?_⟩
    obtain ⟨e2, c1, y1, y2⟩ := y
    have y1 : cs.toArray[i]? = some c1 := y1
    rw [List.getElem?_toArray, z] at y1
    cases y1
    subst e2
    exact ⟨h2, .refl h2, rs2, y2⟩
theorem i_any (h : EE X hot W e A) : EI X hot W tg e (aItA A) := by
  obtain ⟨te, p, s⟩ := h
  refine ⟨_, pi_any p, fun σ env g μ H Rk re rs q => s σ env g μ H _ re rs (q.bind fun d m x h H1 l rs1 rv q1 => ?_)⟩
  cases d with
  | lst ds =>
    obtain ⟨ad, xs, e1, sq, r⟩ := sqI_ok (k := kx X hot) (ds := ds) rv rfl
    exact .inl ⟨ad, e1, ⟨xs, sqL_mono rs1.ex sq⟩, q1 _ h H1 (.refl h) rs1 (wkA_list rs1 sq r)⟩
  | scr ds =>
    obtain ⟨ad, xs, e1, sq, r⟩ := sqI_ok (k := kx X hot) (ds := ds) rv rfl
    exact .inl ⟨ad, e1, ⟨xs, sqL_mono rs1.ex sq⟩, q1 _ h H1 (.refl h) rs1 (wkA_list rs1 sq r)⟩
  | tup ds =>
    obtain ⟨ad, xs, e1, sq, r⟩ := rv
    exact .inr (.inl ⟨ad, e1, ⟨xs, sqT_mono rs1.ex sq⟩, q1 _ h H1 (.refl h) rs1 (wkA_tup rs1 sq r)⟩)
  | str cs => exact .inr (.inr ⟨⟨cs.toArray⟩, rv, q1 _ h H1 (.refl h) rs1 wkA_str⟩)
  | _ => exact q1.elim
end
end Z

set_option Elab.async false
set_option linter.all false
set_option maxRecDepth 100000
set_option maxHeartbeats 0

namespace HD
open PySem PySem.Spec PyProof.Rows L2
def top (i : Nat) : Stmt := PySem.Challenge.pw_limbtables_k71_tables_and_drawings_writt.main.body.getD i (.Pass ⟨0, 0, 0, 0⟩)
abbrev s__wall : Stmt := top 0
def d__wall : He.DefD := ⟨("_wall", none), "_wall", "_wall", defArgs s__wall, defBody s__wall, defScope s__wall, [], []⟩
abbrev s_is_whole : Stmt := top 25
def d_is_whole : He.DefD := ⟨("is_whole", none), "is_whole", "is_whole", defArgs s_is_whole, defBody s_is_whole, defScope s_is_whole, [], []⟩
abbrev s_is_arrow : Stmt := top 20
def d_is_arrow : He.DefD := ⟨("is_arrow", none), "is_arrow", "is_arrow", defArgs s_is_arrow, defBody s_is_arrow, defScope s_is_arrow, [], []⟩
abbrev s_must_be_drawing : Stmt := top 21
def d_must_be_drawing : He.DefD := ⟨("must_be_drawing", none), "must_be_drawing", "must_be_drawing", defArgs s_must_be_drawing, defBody s_must_be_drawing, defScope s_must_be_drawing, [], []⟩
abbrev s_is_small_prime : Stmt := top 27
def d_is_small_prime : He.DefD := ⟨("is_small_prime", none), "is_small_prime", "is_small_prime", defArgs s_is_small_prime, defBody s_is_small_prime, defScope s_is_small_prime, [], []⟩
abbrev s_is_ground : Stmt := top 28
def d_is_ground : He.DefD := ⟨("is_ground", none), "is_ground", "is_ground", defArgs s_is_ground, defBody s_is_ground, defScope s_is_ground, [], []⟩
abbrev s_divisor_of : Stmt := top 29
def d_divisor_of : He.DefD := ⟨("divisor_of", none), "divisor_of", "divisor_of", defArgs s_divisor_of, defBody s_divisor_of, defScope s_divisor_of, [], []⟩
abbrev s_lowest : Stmt := top 30
def d_lowest : He.DefD := ⟨("lowest", none), "lowest", "lowest", defArgs s_lowest, defBody s_lowest, defScope s_lowest, [], []⟩
abbrev s_back_by : Stmt := top 31
def d_back_by : He.DefD := ⟨("back_by", none), "back_by", "back_by", defArgs s_back_by, defBody s_back_by, defScope s_back_by, [], []⟩
abbrev s_show_number : Stmt := top 38
def d_show_number : He.DefD := ⟨("show_number", none), "show_number", "show_number", defArgs s_show_number, defBody s_show_number, defScope s_show_number, [], []⟩
abbrev s_show_table : Stmt := top 39
def d_show_table : He.DefD := ⟨("show_table", none), "show_table", "show_table", defArgs s_show_table, defBody s_show_table, defScope s_show_table, [], []⟩
abbrev s_show_drawing : Stmt := top 40
def d_show_drawing : He.DefD := ⟨("show_drawing", none), "show_drawing", "show_drawing", defArgs s_show_drawing, defBody s_show_drawing, defScope s_show_drawing, [], []⟩
abbrev s_read_whole : Stmt := top 41
def d_read_whole : He.DefD := ⟨("read_whole", none), "read_whole", "read_whole", defArgs s_read_whole, defBody s_read_whole, defScope s_read_whole, [], []⟩
abbrev s_read_arrow : Stmt := top 42
def d_read_arrow : He.DefD := ⟨("read_arrow", none), "read_arrow", "read_arrow", defArgs s_read_arrow, defBody s_read_arrow, defScope s_read_arrow, [], []⟩
abbrev s_read_drawing : Stmt := top 43
def d_read_drawing : He.DefD := ⟨("read_drawing", none), "read_drawing", "read_drawing", defArgs s_read_drawing, defBody s_read_drawing, defScope s_read_drawing, [], []⟩
abbrev s__law_cell : Stmt := top 45
def d__law_cell : He.DefD := ⟨("_law_cell", none), "_law_cell", "_law_cell", defArgs s__law_cell, defBody s__law_cell, defScope s__law_cell, [], []⟩
abbrev s__law_bag : Stmt := top 46
def d__law_bag : He.DefD := ⟨("_law_bag", none), "_law_bag", "_law_bag", defArgs s__law_bag, defBody s__law_bag, defScope s__law_bag, [], []⟩
abbrev s__law_draw : Stmt := top 47
def d__law_draw : He.DefD := ⟨("_law_draw", none), "_law_draw", "_law_draw", defArgs s__law_draw, defBody s__law_draw, defScope s__law_draw, [], []⟩
abbrev s__law_gcd : Stmt := top 48
def d__law_gcd : He.DefD := ⟨("_law_gcd", none), "_law_gcd", "_law_gcd", defArgs s__law_gcd, defBody s__law_gcd, defScope s__law_gcd, [], []⟩
abbrev s__law_lowest : Stmt := top 49
def d__law_lowest : He.DefD := ⟨("_law_lowest", none), "_law_lowest", "_law_lowest", defArgs s__law_lowest, defBody s__law_lowest, defScope s__law_lowest, [], []⟩
abbrev s__law_whole : Stmt := top 50
def d__law_whole : He.DefD := ⟨("_law_whole", none), "_law_whole", "_law_whole", defArgs s__law_whole, defBody s__law_whole, defScope s__law_whole, [], []⟩
abbrev s__law_prime : Stmt := top 51
def d__law_prime : He.DefD := ⟨("_law_prime", none), "_law_prime", "_law_prime", defArgs s__law_prime, defBody s__law_prime, defScope s__law_prime, [], []⟩
abbrev s__law_number : Stmt := top 52
def d__law_number : He.DefD := ⟨("_law_number", none), "_law_number", "_law_number", defArgs s__law_number, defBody s__law_number, defScope s__law_number, [], []⟩
abbrev s__law_add : Stmt := top 53
def d__law_add : He.DefD := ⟨("_law_add", none), "_law_add", "_law_add", defArgs s__law_add, defBody s__law_add, defScope s__law_add, [], []⟩
abbrev s__law_mul : Stmt := top 54
def d__law_mul : He.DefD := ⟨("_law_mul", none), "_law_mul", "_law_mul", defArgs s__law_mul, defBody s__law_mul, defScope s__law_mul, [], []⟩
abbrev s__law_int : Stmt := top 55
def d__law_int : He.DefD := ⟨("_law_int", none), "_law_int", "_law_int", defArgs s__law_int, defBody s__law_int, defScope s__law_int, [], []⟩
abbrev s__law_rows : Stmt := top 56
def d__law_rows : He.DefD := ⟨("_law_rows", none), "_law_rows", "_law_rows", defArgs s__law_rows, defBody s__law_rows, defScope s__law_rows, [], []⟩
abbrev s__law_table : Stmt := top 57
def d__law_table : He.DefD := ⟨("_law_table", none), "_law_table", "_law_table", defArgs s__law_table, defBody s__law_table, defScope s__law_table, [], []⟩
abbrev s__law_shown : Stmt := top 58
def d__law_shown : He.DefD := ⟨("_law_shown", none), "_law_shown", "_law_shown", defArgs s__law_shown, defBody s__law_shown, defScope s__law_shown, [], []⟩
abbrev s__law_read_whole : Stmt := top 59
def d__law_read_whole : He.DefD := ⟨("_law_read_whole", none), "_law_read_whole", "_law_read_whole", defArgs s__law_read_whole, defBody s__law_read_whole, defScope s__law_read_whole, [], []⟩
abbrev s__law_alone : Stmt := top 60
def d__law_alone : He.DefD := ⟨("_law_alone", none), "_law_alone", "_law_alone", defArgs s__law_alone, defBody s__law_alone, defScope s__law_alone, [], []⟩
abbrev s__law_sign_spoilt : Stmt := top 61
def d__law_sign_spoilt : He.DefD := ⟨("_law_sign_spoilt", none), "_law_sign_spoilt", "_law_sign_spoilt", defArgs s__law_sign_spoilt, defBody s__law_sign_spoilt, defScope s__law_sign_spoilt, [], []⟩
abbrev s__law_table_shown : Stmt := top 62
def d__law_table_shown : He.DefD := ⟨("_law_table_shown", none), "_law_table_shown", "_law_table_shown", defArgs s__law_table_shown, defBody s__law_table_shown, defScope s__law_table_shown, [], []⟩
abbrev s__law_drawing_shown : Stmt := top 63
def d__law_drawing_shown : He.DefD := ⟨("_law_drawing_shown", none), "_law_drawing_shown", "_law_drawing_shown", defArgs s__law_drawing_shown, defBody s__law_drawing_shown, defScope s__law_drawing_shown, [], []⟩
abbrev s__law_arrow_read : Stmt := top 64
def d__law_arrow_read : He.DefD := ⟨("_law_arrow_read", none), "_law_arrow_read", "_law_arrow_read", defArgs s__law_arrow_read, defBody s__law_arrow_read, defScope s__law_arrow_read, [], []⟩
abbrev s__law_read : Stmt := top 65
def d__law_read : He.DefD := ⟨("_law_read", none), "_law_read", "_law_read", defArgs s__law_read, defBody s__law_read, defScope s__law_read, [], []⟩
abbrev s__law_asked : Stmt := top 66
def d__law_asked : He.DefD := ⟨("_law_asked", none), "_law_asked", "_law_asked", defArgs s__law_asked, defBody s__law_asked, defScope s__law_asked, [], []⟩
abbrev s__law_odd : Stmt := top 67
def d__law_odd : He.DefD := ⟨("_law_odd", none), "_law_odd", "_law_odd", defArgs s__law_odd, defBody s__law_odd, defScope s__law_odd, [], []⟩
abbrev s__law_spoilt : Stmt := top 68
def d__law_spoilt : He.DefD := ⟨("_law_spoilt", none), "_law_spoilt", "_law_spoilt", defArgs s__law_spoilt, defBody s__law_spoilt, defScope s__law_spoilt, [], []⟩
abbrev s_law : Stmt := top 69
def d_law : He.DefD := ⟨("law", none), "law", "law", defArgs s_law, defBody s_law, defScope s_law, [], []⟩
abbrev s_is_whole_drawings : Stmt := top 18
def d_is_whole_drawings : He.DefD := ⟨("is_whole_drawings", none), "is_whole", "is_whole", defArgs s_is_whole_drawings, defBody s_is_whole_drawings, defScope s_is_whole_drawings, [], []⟩
abbrev s_is_whole_grounds : Stmt := top 25
def d_is_whole_grounds : He.DefD := ⟨("is_whole_grounds", none), "is_whole", "is_whole", defArgs s_is_whole_grounds, defBody s_is_whole_grounds, defScope s_is_whole_grounds, [], []⟩
abbrev s_Drawing__init__ : Stmt := inClass (top 22) 0
def d_Drawing__init__ : He.DefD := ⟨("Drawing", some "__init__"), "__init__", "Drawing.__init__", defArgs s_Drawing__init__, defBody s_Drawing__init__, defScope s_Drawing__init__, [], []⟩
abbrev s_Drawing_neighbours : Stmt := inClass (top 22) 1
def d_Drawing_neighbours : He.DefD := ⟨("Drawing", some "neighbours"), "neighbours", "Drawing.neighbours", defArgs s_Drawing_neighbours, defBody s_Drawing_neighbours, defScope s_Drawing_neighbours, [], []⟩
abbrev s_Drawing_piece_of : Stmt := inClass (top 22) 2
def d_Drawing_piece_of : He.DefD := ⟨("Drawing", some "piece_of"), "piece_of", "Drawing.piece_of", defArgs s_Drawing_piece_of, defBody s_Drawing_piece_of, defScope s_Drawing_piece_of, [], []⟩
abbrev s_Drawing_pieces : Stmt := inClass (top 22) 3
def d_Drawing_pieces : He.DefD := ⟨("Drawing", some "pieces"), "pieces", "Drawing.pieces", defArgs s_Drawing_pieces, defBody s_Drawing_pieces, defScope s_Drawing_pieces, [], []⟩
abbrev s_Drawing_is_well : Stmt := inClass (top 22) 4
def d_Drawing_is_well : He.DefD := ⟨("Drawing", some "is_well"), "is_well", "Drawing.is_well", defArgs s_Drawing_is_well, defBody s_Drawing_is_well, defScope s_Drawing_is_well, [], []⟩
abbrev s_Drawing_is_spring : Stmt := inClass (top 22) 5
def d_Drawing_is_spring : He.DefD := ⟨("Drawing", some "is_spring"), "is_spring", "Drawing.is_spring", defArgs s_Drawing_is_spring, defBody s_Drawing_is_spring, defScope s_Drawing_is_spring, [], []⟩
abbrev s_Drawing_turned : Stmt := inClass (top 22) 6
def d_Drawing_turned : He.DefD := ⟨("Drawing", some "turned"), "turned", "Drawing.turned", defArgs s_Drawing_turned, defBody s_Drawing_turned, defScope s_Drawing_turned, [], []⟩
abbrev s_Drawing_arm : Stmt := inClass (top 22) 7
def d_Drawing_arm : He.DefD := ⟨("Drawing", some "arm"), "arm", "Drawing.arm", defArgs s_Drawing_arm, defBody s_Drawing_arm, defScope s_Drawing_arm, [], []⟩
abbrev s_Drawing_kind_of : Stmt := inClass (top 22) 8
def d_Drawing_kind_of : He.DefD := ⟨("Drawing", some "kind_of"), "kind_of", "Drawing.kind_of", defArgs s_Drawing_kind_of, defBody s_Drawing_kind_of, defScope s_Drawing_kind_of, [], []⟩
abbrev s_Drawing_kinds : Stmt := inClass (top 22) 9
def d_Drawing_kinds : He.DefD := ⟨("Drawing", some "kinds"), "kinds", "Drawing.kinds", defArgs s_Drawing_kinds, defBody s_Drawing_kinds, defScope s_Drawing_kinds, [], []⟩
abbrev s_Ground__init__ : Stmt := inClass (top 32) 0
def d_Ground__init__ : He.DefD := ⟨("Ground", some "__init__"), "__init__", "Ground.__init__", defArgs s_Ground__init__, defBody s_Ground__init__, defScope s_Ground__init__, [], []⟩
abbrev s_Ground_number : Stmt := inClass (top 32) 1
def d_Ground_number : He.DefD := ⟨("Ground", some "number"), "number", "Ground.number", defArgs s_Ground_number, defBody s_Ground_number, defScope s_Ground_number, [.int 1], []⟩
abbrev s_Ground_nought : Stmt := inClass (top 32) 2
def d_Ground_nought : He.DefD := ⟨("Ground", some "nought"), "nought", "Ground.nought", defArgs s_Ground_nought, defBody s_Ground_nought, defScope s_Ground_nought, [], []⟩
abbrev s_Ground_one : Stmt := inClass (top 32) 3
def d_Ground_one : He.DefD := ⟨("Ground", some "one"), "one", "Ground.one", defArgs s_Ground_one, defBody s_Ground_one, defScope s_Ground_one, [], []⟩
abbrev s_Ground_plus : Stmt := inClass (top 32) 4
def d_Ground_plus : He.DefD := ⟨("Ground", some "plus"), "plus", "Ground.plus", defArgs s_Ground_plus, defBody s_Ground_plus, defScope s_Ground_plus, [], []⟩
abbrev s_Ground_minus : Stmt := inClass (top 32) 5
def d_Ground_minus : He.DefD := ⟨("Ground", some "minus"), "minus", "Ground.minus", defArgs s_Ground_minus, defBody s_Ground_minus, defScope s_Ground_minus, [], []⟩
abbrev s_Ground_times : Stmt := inClass (top 32) 6
def d_Ground_times : He.DefD := ⟨("Ground", some "times"), "times", "Ground.times", defArgs s_Ground_times, defBody s_Ground_times, defScope s_Ground_times, [], []⟩
abbrev s_Ground_over : Stmt := inClass (top 32) 7
def d_Ground_over : He.DefD := ⟨("Ground", some "over"), "over", "Ground.over", defArgs s_Ground_over, defBody s_Ground_over, defScope s_Ground_over, [], []⟩
abbrev s_Ground_is_number : Stmt := inClass (top 32) 8
def d_Ground_is_number : He.DefD := ⟨("Ground", some "is_number"), "is_number", "Ground.is_number", defArgs s_Ground_is_number, defBody s_Ground_is_number, defScope s_Ground_is_number, [], []⟩
def fn : List He.DefD := [d__wall, d_is_whole, d_is_arrow, d_must_be_drawing, d_is_small_prime, d_is_ground, d_divisor_of, d_lowest, d_back_by, d_show_number, d_show_table, d_show_drawing, d_read_whole, d_read_arrow, d_read_drawing, d__law_cell, d__law_bag, d__law_draw, d__law_gcd, d__law_lowest, d__law_whole, d__law_prime, d__law_number, d__law_add, d__law_mul, d__law_int, d__law_rows, d__law_table, d__law_shown, d__law_read_whole, d__law_alone, d__law_sign_spoilt, d__law_table_shown, d__law_drawing_shown, d__law_arrow_read, d__law_read, d__law_asked, d__law_odd, d__law_spoilt, d_law, d_is_whole_drawings, d_is_whole_grounds, d_Drawing__init__, d_Drawing_neighbours, d_Drawing_piece_of, d_Drawing_pieces, d_Drawing_is_well, d_Drawing_is_spring, d_Drawing_turned, d_Drawing_arm, d_Drawing_kind_of, d_Drawing_kinds, d_Ground__init__, d_Ground_number, d_Ground_nought, d_Ground_one, d_Ground_plus, d_Ground_minus, d_Ground_times, d_Ground_over, d_Ground_is_number]
def fa : List He.Fa := [.int "MOST_POINTS" 8, .int "MOST_ARROWS" 9, .glo "is_whole_drawings", .int "GREATEST_PRIME" 97, .glo "is_whole_grounds", .str "FIGURES" "0123456789", .int "MOST_FIGURES" 30, .str "BETWEEN_ROWS" " / ", .str "EMPTY" "-", .glo "_wall", .glo "is_whole", .glo "is_arrow", .glo "must_be_drawing", .glo "is_small_prime", .glo "is_ground", .glo "divisor_of", .glo "lowest", .glo "back_by", .glo "show_number", .glo "show_table", .glo "show_drawing", .glo "read_whole", .glo "read_arrow", .glo "read_drawing", .glo "_law_cell", .glo "_law_bag", .glo "_law_draw", .glo "_law_gcd", .glo "_law_lowest", .glo "_law_whole", .glo "_law_prime", .glo "_law_number", .glo "_law_add", .glo "_law_mul", .glo "_law_int", .glo "_law_rows", .glo "_law_table", .glo "_law_shown", .glo "_law_read_whole", .glo "_law_alone", .glo "_law_sign_spoilt", .glo "_law_table_shown", .glo "_law_drawing_shown", .glo "_law_arrow_read", .glo "_law_read", .glo "_law_asked", .glo "_law_odd", .glo "_law_spoilt", .glo "law", .glo "LimbError", .exc "LimbError", .keep "LimbError", .glo "NoGround", .exc "NoGround", .keep "NoGround", .glo "NoNumber", .exc "NoNumber", .keep "NoNumber", .glo "NoTable", .exc "NoTable", .keep "NoTable", .glo "NoDrawing", .exc "NoDrawing", .keep "NoDrawing", .glo "NoKind", .exc "NoKind", .keep "NoKind", .glo "NoStanding", .exc "NoStanding", .keep "NoStanding", .glo "NoChange", .exc "NoChange", .keep "NoChange", .glo "NoMirror", .exc "NoMirror", .keep "NoMirror", .glo "NoRoot", .exc "NoRoot", .keep "NoRoot", .glo "NoText", .exc "NoText", .keep "NoText", .glo "NoRow", .exc "NoRow", .keep "NoRow", .glo "NoName", .exc "NoName", .keep "NoName", .glo "Drawing", .cls "Drawing", .mkr "Drawing", .meth "Drawing" "neighbours", .meth "Drawing" "piece_of", .meth "Drawing" "pieces", .meth "Drawing" "is_well", .meth "Drawing" "is_spring", .meth "Drawing" "turned", .meth "Drawing" "arm", .meth "Drawing" "kind_of", .meth "Drawing" "kinds", .noat "Drawing" "arrows", .noat "Drawing" "many", .glo "Ground", .cls "Ground", .mkr "Ground", .meth "Ground" "number", .meth "Ground" "nought", .meth "Ground" "one", .meth "Ground" "plus", .meth "Ground" "minus", .meth "Ground" "times", .meth "Ground" "over", .meth "Ground" "is_number", .noat "Ground" "prime", .free "ValueError", .free "abs", .free "all", .free "bool", .free "int", .free "isinstance", .free "len", .free "list", .free "range", .free "str", .free "tuple", .free "zip", .exm "LimbError" "LimbError" true, .exm "NoGround" "LimbError" true, .exm "NoNumber" "LimbError" true, .exm "NoTable" "LimbError" true, .exm "NoDrawing" "LimbError" true, .exm "NoKind" "LimbError" true, .exm "NoStanding" "LimbError" true, .exm "NoChange" "LimbError" true, .exm "NoMirror" "LimbError" true, .exm "NoRoot" "LimbError" true, .exm "NoText" "LimbError" true, .exm "NoRow" "LimbError" true, .exm "NoName" "LimbError" true]
def xf : List Z.Xf := [.ec .ground, .ec .drawing, .ec .text, .ki .ground .limb, .ki .ground .ground, .ki .ground .number, .ki .ground .table, .ki .ground .drawing, .ki .ground .kind, .ki .ground .standing, .ki .ground .change, .ki .ground .mirror, .ki .ground .root, .ki .ground .text, .ki .ground .row, .ki .ground .name, .ki .drawing .limb, .ki .drawing .ground, .ki .drawing .number, .ki .drawing .table, .ki .drawing .drawing, .ki .drawing .kind, .ki .drawing .standing, .ki .drawing .change, .ki .drawing .mirror, .ki .drawing .root, .ki .drawing .text, .ki .drawing .row, .ki .drawing .name, .ki .text .limb, .ki .text .ground, .ki .text .number, .ki .text .table, .ki .text .drawing, .ki .text .kind, .ki .text .standing, .ki .text .change, .ki .text .mirror, .ki .text .root, .ki .text .text, .ki .text .row, .ki .text .name, .kv .ground, .kv .drawing, .kv .text]
def loose0 : List PySem.Str := [("_wall" : PySem.Str), ("LimbError" : PySem.Str), ("NoGround" : PySem.Str), ("NoNumber" : PySem.Str), ("NoTable" : PySem.Str), ("NoDrawing" : PySem.Str), ("NoKind" : PySem.Str), ("NoStanding" : PySem.Str), ("NoChange" : PySem.Str), ("NoMirror" : PySem.Str), ("NoRoot" : PySem.Str), ("NoText" : PySem.Str), ("NoRow" : PySem.Str), ("NoName" : PySem.Str), ("MOST_POINTS" : PySem.Str), ("MOST_ARROWS" : PySem.Str), ("is_whole" : PySem.Str), ("is_whole_drawings" : PySem.Str), ("is_arrow" : PySem.Str), ("must_be_drawing" : PySem.Str), ("Drawing" : PySem.Str), ("GREATEST_PRIME" : PySem.Str), ("is_whole_grounds" : PySem.Str), ("is_small_prime" : PySem.Str), ("is_ground" : PySem.Str), ("divisor_of" : PySem.Str), ("lowest" : PySem.Str), ("back_by" : PySem.Str), ("Ground" : PySem.Str), ("FIGURES" : PySem.Str)]
def loose1 : List PySem.Str := [("MOST_FIGURES" : PySem.Str), ("BETWEEN_ROWS" : PySem.Str), ("EMPTY" : PySem.Str), ("show_number" : PySem.Str), ("show_table" : PySem.Str), ("show_drawing" : PySem.Str), ("read_whole" : PySem.Str), ("read_arrow" : PySem.Str), ("read_drawing" : PySem.Str), ("_law_cell" : PySem.Str), ("_law_bag" : PySem.Str), ("_law_draw" : PySem.Str), ("_law_gcd" : PySem.Str), ("_law_lowest" : PySem.Str), ("_law_whole" : PySem.Str), ("_law_prime" : PySem.Str), ("_law_number" : PySem.Str), ("_law_add" : PySem.Str), ("_law_mul" : PySem.Str), ("_law_int" : PySem.Str), ("_law_rows" : PySem.Str), ("_law_table" : PySem.Str), ("_law_shown" : PySem.Str), ("_law_read_whole" : PySem.Str), ("_law_alone" : PySem.Str), ("_law_sign_spoilt" : PySem.Str), ("_law_table_shown" : PySem.Str), ("_law_drawing_shown" : PySem.Str), ("_law_arrow_read" : PySem.Str), ("_law_read" : PySem.Str)]
def loose2 : List PySem.Str := [("_law_asked" : PySem.Str), ("_law_odd" : PySem.Str), ("_law_spoilt" : PySem.Str)]
def loose : List PySem.Str := loose0 ++ loose1 ++ loose2
abbrev R : PySem.W.OpenRow := PySem.W.OpenLaw.row PySem.Challenge.rw_limbtables_k71_tables_and_drawings_writt
abbrev hk : PySem.W.Hook := Z.hookX 6 fa fn xf
def ob (s : PySem.W.SharedT) : He.AlD := Z.obsXG 6 fa fn xf (HandSHeadRun.getT s)
theorem ob_eq (s : PySem.W.SharedT) : ob s = hk.obs s.abs := Z.obsXG_eq (HandSHeadRun.getT_eq s)
theorem run (w : World) : HandSHeadRun.RunEq R (PySem.W.view R.prog [69]) hk ob 10000 loose w := by
  intro os
  kernel_rfl
end HD

set_option Elab.async false
set_option linter.all false
set_option maxRecDepth 100000
set_option maxHeartbeats 0
namespace HD
open PySem PySem.Spec PyProof.Rows L2 L2H Z
abbrev FX (K : PySem.W.Frag) (mg : Str → Option Value) : Prop := Fx fa fn xf K mg
abbrev esk : List Ec := [.ground, .drawing, .text]
abbrev csk : List Ec := [.limb, .ground, .number, .table, .drawing, .kind, .standing, .change, .mirror, .root, .text, .row, .name]
section
variable {P : Program} {w : World} {K : PySem.W.Frag} {mg : Str → Option Value} {base : Heap}
theorem isk (F : FX K mg) : IsK K esk csk := ⟨List.forall_mem_cons.mpr ⟨F.ec 0, List.forall_mem_cons.mpr ⟨F.ec 1, List.forall_mem_cons.mpr ⟨F.ec 2, List.forall_mem_nil _⟩⟩⟩, List.forall_mem_cons.mpr ⟨List.forall_mem_cons.mpr ⟨F.ki 3, List.forall_mem_cons.mpr ⟨F.ki 4, List.forall_mem_cons.mpr ⟨F.ki 5, List.forall_mem_cons.mpr ⟨F.ki 6, List.forall_mem_cons.mpr ⟨F.ki 7, List.forall_mem_cons.mpr ⟨F.ki 8, List.forall_mem_cons.mpr ⟨F.ki 9, List.forall_mem_cons.mpr ⟨F.ki 10, List.forall_mem_cons.mpr ⟨F.ki 11, List.forall_mem_cons.mpr ⟨F.ki 12, List.forall_mem_cons.mpr ⟨F.ki 13, List.forall_mem_cons.mpr ⟨F.ki 14, List.forall_mem_cons.mpr ⟨F.ki 15, List.forall_mem_nil _⟩⟩⟩⟩⟩⟩⟩⟩⟩⟩⟩⟩⟩, List.forall_mem_cons.mpr ⟨List.forall_mem_cons.mpr ⟨F.ki 16, List.forall_mem_cons.mpr ⟨F.ki 17, List.forall_mem_cons.mpr ⟨F.ki 18, List.forall_mem_cons.mpr ⟨F.ki 19, List.forall_mem_cons.mpr ⟨F.ki 20, List.forall_mem_cons.mpr ⟨F.ki 21, List.forall_mem_cons.mpr ⟨F.ki 22, List.forall_mem_cons.mpr ⟨F.ki 23, List.forall_mem_cons.mpr ⟨F.ki 24, List.forall_mem_cons.mpr ⟨F.ki 25, List.forall_mem_cons.mpr ⟨F.ki 26, List.forall_mem_cons.mpr ⟨F.ki 27, List.forall_mem_cons.mpr ⟨F.ki 28, List.forall_mem_nil _⟩⟩⟩⟩⟩⟩⟩⟩⟩⟩⟩⟩⟩, List.forall_mem_cons.mpr ⟨List.forall_mem_cons.mpr ⟨F.ki 29, List.forall_mem_cons.mpr ⟨F.ki 30, List.forall_mem_cons.mpr ⟨F.ki 31, List.forall_mem_cons.mpr ⟨F.ki 32, List.forall_mem_cons.mpr ⟨F.ki 33, List.forall_mem_cons.mpr ⟨F.ki 34, List.forall_mem_cons.mpr ⟨F.ki 35, List.forall_mem_cons.mpr ⟨F.ki 36, List.forall_mem_cons.mpr ⟨F.ki 37, List.forall_mem_cons.mpr ⟨F.ki 38, List.forall_mem_cons.mpr ⟨F.ki 39, List.forall_mem_cons.mpr ⟨F.ki 40, List.forall_mem_cons.mpr ⟨F.ki 41, List.forall_mem_nil _⟩⟩⟩⟩⟩⟩⟩⟩⟩⟩⟩⟩⟩, List.forall_mem_nil _⟩⟩⟩, List.forall_mem_cons.mpr ⟨F.kv 42, List.forall_mem_cons.mpr ⟨F.kv 43, List.forall_mem_cons.mpr ⟨F.kv 44, List.forall_mem_nil _⟩⟩⟩⟩
abbrev n__law_alone : List Str := ["_law_e", "_law_kind", "_law_hits", "_law_others"]
theorem sc__law_alone : FnScope n__law_alone ["_law_e", "_law_kind"] (defScope s__law_alone) := ⟨rfl, rfl, rfl, by decide +kernel, rfl, by decide +kernel, by decide +kernel⟩
def aq__law_alone : AF := aCut (aDefQ 2 ((aSeq (aAsg 2 (aLstM (aCons (aCB (two2 (dIsE esk csk)) (aCons (aVar 0) (aCons (aC (.ecl .text)) aNil))) (aCons (aCB (two2 (dIsE esk csk)) (aCons (aVar 0) (aCons (aC (.ecl .drawing)) aNil))) (aCons (aCB (two2 (dIsE esk csk)) (aCons (aVar 0) (aCons (aC (.ecl .number)) aNil))) (aCons (aCB (two2 (dIsE esk csk)) (aCons (aVar 0) (aCons (aC (.ecl .table)) aNil))) aNil))))))
  (aSeq (aFz 2 (aDrop (aBM "list" (fun d ds μ => one1 (dAppend d) ds μ) (aVar 2) (aCons (aCB (two2 (dIsE esk csk)) (aCons (aVar 0) (aCons (aC (.ecl .standing)) aNil))) aNil))))
  (aSeq (aAsg 3 (aIsT esk csk (aVar 0) (aCons (aC (.ecl .change)) (aCons (aC (.ecl .ground)) (aCons (aC (.ecl .kind)) (aCons (aC (.ecl .mirror)) (aCons (aC (.ecl .name)) (aCons (aC (.ecl .root)) (aCons (aC (.ecl .row)) aNil)))))))))
  (aRet (aAndV (aOp dEq (aBM "list" (fun d ds μ => one1 (dCountB d) ds μ) (aVar 2) (aCons (aC (.bl true)) aNil)) (aC (.int 1))) (aAndV (aOp dIx (aVar 2) (aVar 1)) (aAndV (aCB (two2 (dIsE esk csk)) (aCons (aVar 0) (aCons (aC (.ty "ValueError")) aNil))) (aNotV (aVar 3)))))))))))
theorem okq__law_alone (F : FX K mg) {fd : FuncData} (FD : FunD K d__law_alone.name d__law_alone.qual d__law_alone.params d__law_alone.body d__law_alone.scope (d__law_alone.dvs K) (d__law_alone.kws K) (He.fAd K ("_law_alone", none)) fd) : FnQ P w K mg base CX0 1 (He.fAd K ("_law_alone", none)) fd ["_law_e", "_law_kind"] 2 aq__law_alone esk :=
  FnQ.cut <| def_okQ FD sc__law_alone fun cdv A outer s H E p e he hq hr =>
  (ss_cons
  (s_set sc__law_alone.nd (e_lstM (a_cons (e_isE (hotX1_cxH hq) (isk F) he (F.free 119) (a_cons (e_var 0) (a_cons (e_gecl .text (h := (F.glo 79))) a_nil))) (a_cons (e_isE (hotX1_cxH hq) (isk F) he (F.free 119) (a_cons (e_var 0) (a_cons (e_gecl .drawing (h := (F.glo 61))) a_nil))) (a_cons (e_isE (hotX1_cxH hq) (isk F) he (F.free 119) (a_cons (e_var 0) (a_cons (e_gecl .number (h := (F.glo 55))) a_nil))) (a_cons (e_isE (hotX1_cxH hq) (isk F) he (F.free 119) (a_cons (e_var 0) (a_cons (e_gecl .table (h := (F.glo 58))) a_nil))) a_nil))))))
  (ss_cons
  (s_fz 2 (s_expr (e_append (e_var 2) (a_cons (e_isE (hotX1_cxH hq) (isk F) he (F.free 119) (a_cons (e_var 0) (a_cons (e_gecl .standing (h := (F.glo 67))) a_nil))) a_nil))))
  (ss_cons
  (s_set sc__law_alone.nd (e_isET (hotX1_cxH hq) (isk F) he (F.free 119) (e_var 0) (a_cons (e_gecl .change (h := (F.glo 70))) (a_cons (e_gecl .ground (h := (F.glo 52))) (a_cons (e_gecl .kind (h := (F.glo 64))) (a_cons (e_gecl .mirror (h := (F.glo 73))) (a_cons (e_gecl .name (h := (F.glo 85))) (a_cons (e_gecl .root (h := (F.glo 76))) (a_cons (e_gecl .row (h := (F.glo 82))) a_nil)))))))))
  (ss_one (s_ret (e_and (e_cmp (op_eqAny (huH64 hr)) os_eq (e_count (e_var 2) (a_cons e_bl a_nil)) e_int) (e_and (e_ix (e_var 2) (e_var 1)) (e_and (e_isE (hotX1_cxH hq) (isk F) he (F.free 119) (a_cons (e_var 0) (a_cons (e_ty (T := "ValueError") (hm := (F.free 114))) a_nil))) (e_one (e_not (e_var 3)))))))))))
theorem calq__law_alone (F : FX K mg) : CalQ P w K mg base CX0 1 (He.fAd K ("_law_alone", none)) 2 aq__law_alone esk := let ⟨_, FD⟩ := F.def_ 30 (d := d__law_alone); calQ0 FD (okq__law_alone F FD) fun _ _ _ _ _ _ us hl => match us, hl with | [_, _], _ => rfl
abbrev n__law_bag : List Str := ["_law_cell_here"]
theorem sc__law_bag : FnScope n__law_bag ["_law_cell_here"] (defScope s__law_bag) := ⟨rfl, rfl, rfl, by decide +kernel, rfl, by decide +kernel, by decide +kernel⟩
def a__law_bag : AF := aDef 0 ((aSeq (aIf (aB (aOp dGe (aVar 0) (aOp dPow (aC (.int 10)) (aC (.int 18))))) (aRet (aLstM (aCons (aVar 0) (aCons (aOp dMod (aVar 0) (aC (.int 2147483647))) aNil)))) aNext)
  (aRet (aLstM (aCons (aC (.int 0)) (aCons (aOp dMod (aOp dAdd (aOp dMul (aOp dMod (aVar 0) (aC (.int 2147483647))) (aC (.int 69621))) (aC (.int 7))) (aC (.int 2147483647))) aNil))))))
theorem ok__law_bag (F : FX K mg) {fd : FuncData} (FD : FunD K d__law_bag.name d__law_bag.qual d__law_bag.params d__law_bag.body d__law_bag.scope (d__law_bag.dvs K) [] (He.fAd K ("_law_bag", none)) fd) : FnOk P w K mg base (L2N.CX P w) 1 (He.fAd K ("_law_bag", none)) fd ["_law_cell_here"] (spA K 1 a__law_bag) :=
  def_okN FD sc__law_bag fun cdv A outer s H E hr tk =>
  (ss_cons
  (s_if (t_cmp op_ge os_ge (e_var 0) (e_op op_pow os_pow e_int e_int)) (ss_one (s_ret (e_lstM (a_cons (e_var 0) (a_cons (e_op op_mod os_mod (e_var 0) e_int) a_nil))))) ss_nil)
  (ss_one (s_ret (e_lstM (a_cons e_int (a_cons (e_op op_mod os_mod (e_op op_addAny os_add (e_op op_mulAny os_mul (e_op op_mod os_mod (e_var 0) e_int) e_int) e_int) e_int) a_nil))))))
theorem cal__law_bag (F : FX K mg) : Cal P w K mg base (L2N.CX P w) 1 (He.fAd K ("_law_bag", none)) 1 [] a__law_bag := let ⟨_, FD⟩ := F.def_ 16 (d := d__law_bag); cal0 FD (ok__law_bag F FD) fun _ _ _ _ _ _ us hl => match us, hl with | [_], _ => rfl
abbrev n__law_cell : List Str := ["_law_script", "_law_k"]
theorem sc__law_cell : FnScope n__law_cell ["_law_script", "_law_k"] (defScope s__law_cell) := ⟨rfl, rfl, rfl, by decide +kernel, rfl, by decide +kernel, by decide +kernel⟩
def a__law_cell : AF := aDef 0 ((aSeq (aIf (aB (aOp dLt (aVar 1) (aCB (one1 dLen) (aCons (aVar 0) aNil)))) (aRet (aOp dIx (aVar 0) (aVar 1))) aNext)
  (aRet (aC (.int 0)))))
theorem ok__law_cell (F : FX K mg) {fd : FuncData} (FD : FunD K d__law_cell.name d__law_cell.qual d__law_cell.params d__law_cell.body d__law_cell.scope (d__law_cell.dvs K) [] (He.fAd K ("_law_cell", none)) fd) : FnOk P w K mg base (L2N.CX P w) 1 (He.fAd K ("_law_cell", none)) fd ["_law_script", "_law_k"] (spA K 2 a__law_cell) :=
  def_okN FD sc__law_cell fun cdv A outer s H E hr tk =>
  (ss_cons
  (s_if (t_cmp op_lt os_lt (e_var 1) (e_callB call_len cs_len (F.free 120) (a_cons (e_var 0) a_nil))) (ss_one (s_ret (e_ix (e_var 0) (e_var 1)))) ss_nil)
  (ss_one (s_ret e_int)))
theorem cal__law_cell (F : FX K mg) : Cal P w K mg base (L2N.CX P w) 1 (He.fAd K ("_law_cell", none)) 2 [] a__law_cell := let ⟨_, FD⟩ := F.def_ 15 (d := d__law_cell); cal0 FD (ok__law_cell F FD) fun _ _ _ _ _ _ us hl => match us, hl with | [_, _], _ => rfl
abbrev n__law_draw : List Str := ["_law_bag_here", "_law_many", "_law_found"]
theorem sc__law_draw : FnScope n__law_draw ["_law_bag_here", "_law_many"] (defScope s__law_draw) := ⟨rfl, rfl, rfl, by decide +kernel, rfl, by decide +kernel, by decide +kernel⟩
def a__law_draw : AF := aDef 1 ((aSeq (aIf (aB (aOp dGt (aOp dIx (aVar 0) (aC (.int 0))) (aC (.int 0)))) (aSeq (aAsg 2 (aOp dMod (aOp dIx (aVar 0) (aC (.int 0))) (aVar 1)))
  (aSeq (aAsgG (aOp dFdiv (aOp dIx (aVar 0) (aC (.int 0))) (aVar 1)) (gIx (aVar 0) (aC (.int 0))))
  (aRet (aVar 2)))) aNext)
  (aSeq (aAsgG (aOp dMod (aOp dAdd (aOp dMul (aOp dIx (aVar 0) (aC (.int 1))) (aC (.int 48271))) (aC (.int 4099))) (aC (.int 2147483647))) (gIx (aVar 0) (aC (.int 1))))
  (aRet (aOp dMod (aOp dFdiv (aOp dMod (aOp dMul (aOp dIx (aVar 0) (aC (.int 1))) (aOp dAdd (aOp dFdiv (aOp dIx (aVar 0) (aC (.int 1))) (aC (.int 65536))) (aC (.int 7)))) (aC (.int 2147483629))) (aC (.int 32))) (aVar 1))))))
theorem ok__law_draw (F : FX K mg) {fd : FuncData} (FD : FunD K d__law_draw.name d__law_draw.qual d__law_draw.params d__law_draw.body d__law_draw.scope (d__law_draw.dvs K) [] (He.fAd K ("_law_draw", none)) fd) : FnOk P w K mg base (L2N.CX P w) 1 (He.fAd K ("_law_draw", none)) fd ["_law_bag_here", "_law_many"] (spA K 2 a__law_draw) :=
  def_okN FD sc__law_draw fun cdv A outer s H E hr tk =>
  (ss_cons
  (s_if (t_cmp op_gt os_gt (e_ix (e_var 0) e_int) e_int) (ss_cons
  (s_set sc__law_draw.nd (e_op op_mod os_mod (e_ix (e_var 0) e_int) (e_var 1)))
  (ss_cons
  (s_asg (e_op op_fdivW os_fdiv (e_ix (e_var 0) e_int) (e_var 1)) (g_ix (e_var 0) e_int (fun _ _ pa pb => pg_sub pa pb set_list)))
  (ss_one (s_ret (e_var 2))))) ss_nil)
  (ss_cons
  (s_asg (e_op op_mod os_mod (e_op op_addAny os_add (e_op op_mulAny os_mul (e_ix (e_var 0) e_int) e_int) e_int) e_int) (g_ix (e_var 0) e_int (fun _ _ pa pb => pg_sub pa pb set_list)))
  (ss_one (s_ret (e_op op_mod os_mod (e_op op_fdivW os_fdiv (e_op op_mod os_mod (e_op op_mulAny os_mul (e_ix (e_var 0) e_int) (e_op op_addAny os_add (e_op op_fdivW os_fdiv (e_ix (e_var 0) e_int) e_int) e_int)) e_int) e_int) (e_var 1))))))
theorem cal__law_draw (F : FX K mg) : Cal P w K mg base (L2N.CX P w) 1 (He.fAd K ("_law_draw", none)) 2 [] a__law_draw := let ⟨_, FD⟩ := F.def_ 17 (d := d__law_draw); cal0 FD (ok__law_draw F FD) fun _ _ _ _ _ _ us hl => match us, hl with | [_, _], _ => rfl
abbrev n__law_drawing_shown : List Str := ["_law_many", "_law_arrows", "_law_text", "_law_tail", "_law_head"]
theorem sc__law_drawing_shown : FnScope n__law_drawing_shown ["_law_many", "_law_arrows"] (defScope s__law_drawing_shown) := ⟨rfl, rfl, rfl, by decide +kernel, rfl, by decide +kernel, by decide +kernel⟩
def a__law_drawing_shown : AF := aDef 3 ((aSeq (aAsg 2 (aOp dAdd (aCB (one1 dStr) (aCons (aVar 0) aNil)) (aC (.str [58]))))
  (aSeq (aFor (aItA (aVar 1)) (gTp 2 (gsCons (gNm 3) (gsCons (gNm 4) gsNil))) (aAsg 2 (aOp dAdd (aOp dAdd (aOp dAdd (aOp dAdd (aVar 2) (aC (.str [32]))) (aCB (one1 dStr) (aCons (aVar 3) aNil))) (aC (.str [62]))) (aCB (one1 dStr) (aCons (aVar 4) aNil)))))
  (aRet (aVar 2)))))
theorem ok__law_drawing_shown (F : FX K mg) {fd : FuncData} (FD : FunD K d__law_drawing_shown.name d__law_drawing_shown.qual d__law_drawing_shown.params d__law_drawing_shown.body d__law_drawing_shown.scope (d__law_drawing_shown.dvs K) [] (He.fAd K ("_law_drawing_shown", none)) fd) : FnOk P w K mg base (L2N.CX P w) 1 (He.fAd K ("_law_drawing_shown", none)) fd ["_law_many", "_law_arrows"] (spA K 2 a__law_drawing_shown) :=
  def_okN FD sc__law_drawing_shown fun cdv A outer s H E hr tk =>
  (ss_cons
  (s_set sc__law_drawing_shown.nd (e_op op_addAny os_add (e_callTy call_str_int cs_str (F.free 123) (a_cons (e_var 0) a_nil)) (e_str [58])))
  (ss_cons
  (s_for (passes_of rfl) rfl (i_any (e_var 1)) (g_tup (k := 0) (n := 2) rfl (gs_cons (g_name sc__law_drawing_shown.nd) (gs_cons (g_name sc__law_drawing_shown.nd) gs_nil)) (fun _ h => pg_tup rfl h)) (ss_one (s_set sc__law_drawing_shown.nd (e_op op_addAny os_add (e_op op_addAny os_add (e_op op_addAny os_add (e_op op_addAny os_add (e_var 2) (e_str [32])) (e_callTy call_str_int cs_str (F.free 123) (a_cons (e_var 3) a_nil))) (e_str [62])) (e_callTy call_str_int cs_str (F.free 123) (a_cons (e_var 4) a_nil))))))
  (ss_one (s_ret (e_var 2)))))
theorem cal__law_drawing_shown (F : FX K mg) : Cal P w K mg base (L2N.CX P w) 1 (He.fAd K ("_law_drawing_shown", none)) 2 [] a__law_drawing_shown := let ⟨_, FD⟩ := F.def_ 33 (d := d__law_drawing_shown); cal0 FD (ok__law_drawing_shown F FD) fun _ _ _ _ _ _ us hl => match us, hl with | [_, _], _ => rfl
abbrev n__law_gcd : List Str := ["_law_one", "_law_two", "_law_rest"]
theorem sc__law_gcd : FnScope n__law_gcd ["_law_one", "_law_two"] (defScope s__law_gcd) := ⟨rfl, rfl, rfl, by decide +kernel, rfl, by decide +kernel, by decide +kernel⟩
def a__law_gcd : AF := aDef 1 ((aSeq (aAsg 0 (aCB (one1 dAbs) (aCons (aVar 0) aNil)))
  (aSeq (aAsg 1 (aCB (one1 dAbs) (aCons (aVar 1) aNil)))
  (aSeq (aWhile fuelE (aB (aOp dGt (aVar 1) (aC (.int 0)))) (aSeq (aAsg 2 (aOp dMod (aVar 0) (aVar 1)))
  (aSeq (aAsg 0 (aVar 1))
  (aAsg 1 (aVar 2)))))
  (aRet (aVar 0))))))
theorem ok__law_gcd (F : FX K mg) {fd : FuncData} (FD : FunD K d__law_gcd.name d__law_gcd.qual d__law_gcd.params d__law_gcd.body d__law_gcd.scope (d__law_gcd.dvs K) [] (He.fAd K ("_law_gcd", none)) fd) : FnOk P w K mg base (L2N.CX P w) 1 (He.fAd K ("_law_gcd", none)) fd ["_law_one", "_law_two"] (spA K 2 a__law_gcd) :=
  def_okN FD sc__law_gcd fun cdv A outer s H E hr tk =>
  (ss_cons
  (s_set sc__law_gcd.nd (e_callB call_abs cs_abs (F.free 115) (a_cons (e_var 0) a_nil)))
  (ss_cons
  (s_set sc__law_gcd.nd (e_callB call_abs cs_abs (F.free 115) (a_cons (e_var 1) a_nil)))
  (ss_cons
  (s_while fuelE (passes_of rfl) (t_cmp op_gt os_gt (e_var 1) e_int) (ss_cons
  (s_set sc__law_gcd.nd (e_op op_mod os_mod (e_var 0) (e_var 1)))
  (ss_cons
  (s_set sc__law_gcd.nd (e_var 1))
  (ss_one (s_set sc__law_gcd.nd (e_var 2))))))
  (ss_one (s_ret (e_var 0))))))
theorem cal__law_gcd (F : FX K mg) : Cal P w K mg base (L2N.CX P w) 1 (He.fAd K ("_law_gcd", none)) 2 [] a__law_gcd := let ⟨_, FD⟩ := F.def_ 18 (d := d__law_gcd); cal0 FD (ok__law_gcd F FD) fun _ _ _ _ _ _ us hl => match us, hl with | [_, _], _ => rfl
abbrev n__law_int : List Str := ["_law_p", "_law_k"]
theorem sc__law_int : FnScope n__law_int ["_law_p", "_law_k"] (defScope s__law_int) := ⟨rfl, rfl, rfl, by decide +kernel, rfl, by decide +kernel, by decide +kernel⟩
def a__law_int : AF := aDef 0 ((aSeq (aIf (aB (aOp dGt (aVar 0) (aC (.int 0)))) (aRet (aOp dMod (aVar 1) (aVar 0))) aNext)
  (aRet (aTup (aCons (aVar 1) (aCons (aC (.int 1)) aNil))))))
theorem ok__law_int (F : FX K mg) {fd : FuncData} (FD : FunD K d__law_int.name d__law_int.qual d__law_int.params d__law_int.body d__law_int.scope (d__law_int.dvs K) [] (He.fAd K ("_law_int", none)) fd) : FnOk P w K mg base (L2N.CX P w) 1 (He.fAd K ("_law_int", none)) fd ["_law_p", "_law_k"] (spA K 2 a__law_int) :=
  def_okN FD sc__law_int fun cdv A outer s H E hr tk =>
  (ss_cons
  (s_if (t_cmp op_gt os_gt (e_var 0) e_int) (ss_one (s_ret (e_op op_mod os_mod (e_var 1) (e_var 0)))) ss_nil)
  (ss_one (s_ret (e_tup (a_cons (e_var 1) (a_cons e_int a_nil))))))
theorem cal__law_int (F : FX K mg) : Cal P w K mg base (L2N.CX P w) 1 (He.fAd K ("_law_int", none)) 2 [] a__law_int := let ⟨_, FD⟩ := F.def_ 25 (d := d__law_int); cal0 FD (ok__law_int F FD) fun _ _ _ _ _ _ us hl => match us, hl with | [_, _], _ => rfl
abbrev n__law_read_whole : List Str := ["_law_text", "_law_number_here", "_law_sign"]
theorem sc__law_read_whole : FnScope n__law_read_whole ["_law_text"] (defScope s__law_read_whole) := ⟨rfl, rfl, rfl, by decide +kernel, rfl, by decide +kernel, by decide +kernel⟩
def a__law_read_whole : AF := aDef 2 ((aSeq (aIf (aOrT (aB (aOp dLt (aCB (one1 dLen) (aCons (aVar 0) aNil)) (aC (.int 1)))) (aOrT (aB (aOp dGt (aCB (one1 dLen) (aCons (aVar 0) aNil)) (aC (.int 30)))) (aAndT (aB (aOp dEq (aOp dIx (aVar 0) (aC (.int 0))) (aC (.str [48])))) (aB (aOp dGt (aCB (one1 dLen) (aCons (aVar 0) aNil)) (aC (.int 1))))))) (aRet (aC .non)) aNext)
  (aSeq (aAsg 1 (aC (.int 0)))
  (aSeq (aFor (aItS (aVar 0)) (gNm 2) (aSeq (aIf (aB (aOp dNotIn (aVar 2) (aC (.str [48, 49, 50, 51, 52, 53, 54, 55, 56, 57])))) (aRet (aC .non)) aNext)
  (aAsg 1 (aOp dAdd (aOp dMul (aVar 1) (aC (.int 10))) (aBM "str" (mSS cDig sixD) (aC (.str [48, 49, 50, 51, 52, 53, 54, 55, 56, 57])) (aCons (aVar 2) aNil))))))
  (aRet (aVar 1))))))
theorem ok__law_read_whole (F : FX K mg) {fd : FuncData} (FD : FunD K d__law_read_whole.name d__law_read_whole.qual d__law_read_whole.params d__law_read_whole.body d__law_read_whole.scope (d__law_read_whole.dvs K) [] (He.fAd K ("_law_read_whole", none)) fd) : FnOk P w K mg base (L2N.CX P w) 1 (He.fAd K ("_law_read_whole", none)) fd ["_law_text"] (spA K 1 a__law_read_whole) :=
  def_okN FD sc__law_read_whole fun cdv A outer s H E hr tk =>
  (ss_cons
  (s_if (t_w (tw_or (t_cmp op_lt os_lt (e_callB call_len cs_len (F.free 120) (a_cons (e_var 0) a_nil)) e_int) (tw_or (t_cmp op_gt os_gt (e_callB call_len cs_len (F.free 120) (a_cons (e_var 0) a_nil)) e_int) (tw_or1 (t_w (tw_and (t_cmp (op_eqAny (hu64 hr)) os_eq (e_ix (e_var 0) e_int) (e_str [48])) (tw_and1 (t_cmp op_gt os_gt (e_callB call_len cs_len (F.free 120) (a_cons (e_var 0) a_nil)) e_int)))))))) (ss_one (s_ret e_non)) ss_nil)
  (ss_cons
  (s_set sc__law_read_whole.nd e_int)
  (ss_cons
  (s_for (passes_of rfl) rfl (i_str (e_var 0)) (g_name sc__law_read_whole.nd) (ss_cons
  (s_if (t_cmp (op_notInAny (hu_of hr)) os_notIn (e_var 2) (e_str [48, 49, 50, 51, 52, 53, 54, 55, 56, 57])) (ss_one (s_ret e_non)) ss_nil)
  (ss_one (s_set sc__law_read_whole.nd (e_op op_addAny os_add (e_op op_mulAny os_mul (e_var 1) e_int) (e_sindex (e_str [48, 49, 50, 51, 52, 53, 54, 55, 56, 57]) (a_cons (e_var 2) a_nil)))))))
  (ss_one (s_ret (e_var 1))))))
theorem cal__law_read_whole (F : FX K mg) : Cal P w K mg base (L2N.CX P w) 1 (He.fAd K ("_law_read_whole", none)) 1 [] a__law_read_whole := let ⟨_, FD⟩ := F.def_ 29 (d := d__law_read_whole); cal0 FD (ok__law_read_whole F FD) fun _ _ _ _ _ _ us hl => match us, hl with | [_], _ => rfl
abbrev n__law_shown : List Str := ["_law_p", "_law_number_here"]
theorem sc__law_shown : FnScope n__law_shown ["_law_p", "_law_number_here"] (defScope s__law_shown) := ⟨rfl, rfl, rfl, by decide +kernel, rfl, by decide +kernel, by decide +kernel⟩
def a__law_shown : AF := aDef 0 ((aSeq (aIf (aB (aOp dGt (aVar 0) (aC (.int 0)))) (aRet (aCB (one1 dStr) (aCons (aVar 1) aNil))) aNext)
  (aSeq (aIf (aB (aOp dEq (aOp dIx (aVar 1) (aC (.int 1))) (aC (.int 1)))) (aRet (aCB (one1 dStr) (aCons (aOp dIx (aVar 1) (aC (.int 0))) aNil))) aNext)
  (aRet (aOp dAdd (aOp dAdd (aCB (one1 dStr) (aCons (aOp dIx (aVar 1) (aC (.int 0))) aNil)) (aC (.str [47]))) (aCB (one1 dStr) (aCons (aOp dIx (aVar 1) (aC (.int 1))) aNil)))))))
theorem ok__law_shown (F : FX K mg) {fd : FuncData} (FD : FunD K d__law_shown.name d__law_shown.qual d__law_shown.params d__law_shown.body d__law_shown.scope (d__law_shown.dvs K) [] (He.fAd K ("_law_shown", none)) fd) : FnOk P w K mg base (L2N.CX P w) 1 (He.fAd K ("_law_shown", none)) fd ["_law_p", "_law_number_here"] (spA K 2 a__law_shown) :=
  def_okN FD sc__law_shown fun cdv A outer s H E hr tk =>
  (ss_cons
  (s_if (t_cmp op_gt os_gt (e_var 0) e_int) (ss_one (s_ret (e_callTy call_str_int cs_str (F.free 123) (a_cons (e_var 1) a_nil)))) ss_nil)
  (ss_cons
  (s_if (t_cmp (op_eqAny (hu64 hr)) os_eq (e_ix (e_var 1) e_int) e_int) (ss_one (s_ret (e_callTy call_str_int cs_str (F.free 123) (a_cons (e_ix (e_var 1) e_int) a_nil)))) ss_nil)
  (ss_one (s_ret (e_op op_addAny os_add (e_op op_addAny os_add (e_callTy call_str_int cs_str (F.free 123) (a_cons (e_ix (e_var 1) e_int) a_nil)) (e_str [47])) (e_callTy call_str_int cs_str (F.free 123) (a_cons (e_ix (e_var 1) e_int) a_nil)))))))
theorem cal__law_shown (F : FX K mg) : Cal P w K mg base (L2N.CX P w) 1 (He.fAd K ("_law_shown", none)) 2 [] a__law_shown := let ⟨_, FD⟩ := F.def_ 28 (d := d__law_shown); cal0 FD (ok__law_shown F FD) fun _ _ _ _ _ _ us hl => match us, hl with | [_, _], _ => rfl
abbrev n__law_whole : List Str := ["_law_found"]
theorem sc__law_whole : FnScope n__law_whole ["_law_found"] (defScope s__law_whole) := ⟨rfl, rfl, rfl, by decide +kernel, rfl, by decide +kernel, by decide +kernel⟩
def a__law_whole : AF := aDef 0 ((aRet (aAndV (aCB (two2 dIsi) (aCons (aVar 0) (aCons (aC (.ty "int")) aNil))) (aNotV (aCB (two2 dIsi) (aCons (aVar 0) (aCons (aC (.ty "bool")) aNil)))))))
theorem ok__law_whole (F : FX K mg) {fd : FuncData} (FD : FunD K d__law_whole.name d__law_whole.qual d__law_whole.params d__law_whole.body d__law_whole.scope (d__law_whole.dvs K) [] (He.fAd K ("_law_whole", none)) fd) : FnOk P w K mg base (L2N.CX P w) 1 (He.fAd K ("_law_whole", none)) fd ["_law_found"] (spA K 1 a__law_whole) :=
  def_okN FD sc__law_whole fun cdv A outer s H E hr tk =>
  (ss_one (s_ret (e_and (e_callB call_isi cs_isi (F.free 119) (a_cons (e_var 0) (a_cons (e_ty (T := "int") (hm := (F.free 118))) a_nil))) (e_one (e_not (e_callB call_isi cs_isi (F.free 119) (a_cons (e_var 0) (a_cons (e_ty (T := "bool") (hm := (F.free 117))) a_nil))))))))
theorem cal__law_whole (F : FX K mg) : Cal P w K mg base (L2N.CX P w) 1 (He.fAd K ("_law_whole", none)) 1 [] a__law_whole := let ⟨_, FD⟩ := F.def_ 20 (d := d__law_whole); cal0 FD (ok__law_whole F FD) fun _ _ _ _ _ _ us hl => match us, hl with | [_], _ => rfl
abbrev n_is_small_prime : List Str := ["number", "k"]
theorem sc_is_small_prime : FnScope n_is_small_prime ["number"] (defScope s_is_small_prime) := ⟨rfl, rfl, rfl, by decide +kernel, rfl, by decide +kernel, by decide +kernel⟩
def a_is_small_prime : AF := aDef 1 ((aSeq (aIf (aOrT (aB (aOp dLt (aVar 0) (aC (.int 2)))) (aB (aOp dGt (aVar 0) (aC (.int 97))))) (aRet (aC (.bl false))) aNext)
  (aRet (aCB (one1 (dAllQ fun bs => bs.all id)) (aCons (aLc (aItR2 (aCons (aC (.int 2)) (aCons (aVar 0) aNil))) (gNm 1) aYes (aOp dNe (aOp dMod (aVar 0) (aVar 1)) (aC (.int 0))) [1]) aNil)))))
theorem ok_is_small_prime (F : FX K mg) {fd : FuncData} (FD : FunD K d_is_small_prime.name d_is_small_prime.qual d_is_small_prime.params d_is_small_prime.body d_is_small_prime.scope (d_is_small_prime.dvs K) [] (He.fAd K ("is_small_prime", none)) fd) : FnOk P w K mg base (L2N.CX P w) 1 (He.fAd K ("is_small_prime", none)) fd ["number"] (spA K 1 a_is_small_prime) :=
  def_okN FD sc_is_small_prime fun cdv A outer s H E hr tk =>
  (ss_cons
  (s_if (t_w (tw_or (t_cmp op_lt os_lt (e_var 0) e_int) (tw_or1 (t_cmp op_gt os_gt (e_var 0) (e_gint (h := F.int 3)))))) (ss_one (s_ret e_bl)) ss_nil)
  (ss_one (s_ret (e_callB (cr_all rfl) cs_allQ (F.free 116) (a_cons (e_lc rfl sc_is_small_prime.nd (i_range2 (F.free 122) (a_cons e_int (a_cons (e_var 0) a_nil))) (own := [("k", 1)]) (show BlkOk n_is_small_prime (defScope s_is_small_prime) _ _ from blkd (by decide +kernel)) (fun _ _ _ _ _ => (gc_name sc_is_small_prime.nd)) (fun _ _ _ _ _ => ts_nil) (fun _ _ _ _ _ => (e_cmp (op_neAny (hu64 hr)) os_ne (e_op op_mod os_mod (e_var 0) (e_var 1)) e_int))) a_nil)))))
theorem cal_is_small_prime (F : FX K mg) : Cal P w K mg base (L2N.CX P w) 1 (He.fAd K ("is_small_prime", none)) 1 [] a_is_small_prime := let ⟨_, FD⟩ := F.def_ 4 (d := d_is_small_prime); cal0 FD (ok_is_small_prime F FD) fun _ _ _ _ _ _ us hl => match us, hl with | [_], _ => rfl
abbrev n_is_whole_drawings : List Str := ["thing"]
theorem sc_is_whole_drawings : FnScope n_is_whole_drawings ["thing"] (defScope s_is_whole_drawings) := ⟨rfl, rfl, rfl, by decide +kernel, rfl, by decide +kernel, by decide +kernel⟩
def a_is_whole_drawings : AF := aDef 0 ((aRet (aAndV (aCB (two2 dIsi) (aCons (aVar 0) (aCons (aC (.ty "int")) aNil))) (aNotV (aCB (two2 dIsi) (aCons (aVar 0) (aCons (aC (.ty "bool")) aNil)))))))
theorem ok_is_whole_drawings (F : FX K mg) {fd : FuncData} (FD : FunD K d_is_whole_drawings.name d_is_whole_drawings.qual d_is_whole_drawings.params d_is_whole_drawings.body d_is_whole_drawings.scope (d_is_whole_drawings.dvs K) [] (He.fAd K ("is_whole_drawings", none)) fd) : FnOk P w K mg base (L2N.CX P w) 1 (He.fAd K ("is_whole_drawings", none)) fd ["thing"] (spA K 1 a_is_whole_drawings) :=
  def_okN FD sc_is_whole_drawings fun cdv A outer s H E hr tk =>
  (ss_one (s_ret (e_and (e_callB call_isi cs_isi (F.free 119) (a_cons (e_var 0) (a_cons (e_ty (T := "int") (hm := (F.free 118))) a_nil))) (e_one (e_not (e_callB call_isi cs_isi (F.free 119) (a_cons (e_var 0) (a_cons (e_ty (T := "bool") (hm := (F.free 117))) a_nil))))))))
theorem cal_is_whole_drawings (F : FX K mg) : Cal P w K mg base (L2N.CX P w) 1 (He.fAd K ("is_whole_drawings", none)) 1 [] a_is_whole_drawings := let ⟨_, FD⟩ := F.def_ 40 (d := d_is_whole_drawings); cal0 FD (ok_is_whole_drawings F FD) fun _ _ _ _ _ _ us hl => match us, hl with | [_], _ => rfl
abbrev n_is_whole_grounds : List Str := ["thing"]
theorem sc_is_whole_grounds : FnScope n_is_whole_grounds ["thing"] (defScope s_is_whole_grounds) := ⟨rfl, rfl, rfl, by decide +kernel, rfl, by decide +kernel, by decide +kernel⟩
def a_is_whole_grounds : AF := aDef 0 ((aRet (aAndV (aCB (two2 dIsi) (aCons (aVar 0) (aCons (aC (.ty "int")) aNil))) (aNotV (aCB (two2 dIsi) (aCons (aVar 0) (aCons (aC (.ty "bool")) aNil)))))))
theorem ok_is_whole_grounds (F : FX K mg) {fd : FuncData} (FD : FunD K d_is_whole_grounds.name d_is_whole_grounds.qual d_is_whole_grounds.params d_is_whole_grounds.body d_is_whole_grounds.scope (d_is_whole_grounds.dvs K) [] (He.fAd K ("is_whole_grounds", none)) fd) : FnOk P w K mg base (L2N.CX P w) 1 (He.fAd K ("is_whole_grounds", none)) fd ["thing"] (spA K 1 a_is_whole_grounds) :=
  def_okN FD sc_is_whole_grounds fun cdv A outer s H E hr tk =>
  (ss_one (s_ret (e_and (e_callB call_isi cs_isi (F.free 119) (a_cons (e_var 0) (a_cons (e_ty (T := "int") (hm := (F.free 118))) a_nil))) (e_one (e_not (e_callB call_isi cs_isi (F.free 119) (a_cons (e_var 0) (a_cons (e_ty (T := "bool") (hm := (F.free 117))) a_nil))))))))
theorem cal_is_whole_grounds (F : FX K mg) : Cal P w K mg base (L2N.CX P w) 1 (He.fAd K ("is_whole_grounds", none)) 1 [] a_is_whole_grounds := let ⟨_, FD⟩ := F.def_ 41 (d := d_is_whole_grounds); cal0 FD (ok_is_whole_grounds F FD) fun _ _ _ _ _ _ us hl => match us, hl with | [_], _ => rfl
abbrev n_read_whole : List Str := ["text", "sign"]
theorem sc_read_whole : FnScope n_read_whole ["text"] (defScope s_read_whole) := ⟨rfl, rfl, rfl, by decide +kernel, rfl, by decide +kernel, by decide +kernel⟩
def a_read_whole : AF := aDef 1 ((aSeq (aIf (aOrT (aNotT (aB (aChain dLe dLe (aC (.int 1)) (aCB (one1 dLen) (aCons (aVar 0) aNil)) (aC (.int 30))))) (aAndT (aB (aOp dEq (aOp dIx (aVar 0) (aC (.int 0))) (aC (.str [48])))) (aB (aOp dNe (aVar 0) (aC (.str [48])))))) (aRaise .text) aNext)
  (aSeq (aFor (aItS (aVar 0)) (gNm 1) (aIf (aB (aOp dNotIn (aVar 1) (aC (.str [48, 49, 50, 51, 52, 53, 54, 55, 56, 57])))) (aRaise .text) aNext))
  (aRet (aCB (one1 dInt) (aCons (aVar 0) aNil))))))
theorem ok_read_whole (F : FX K mg) {fd : FuncData} (FD : FunD K d_read_whole.name d_read_whole.qual d_read_whole.params d_read_whole.body d_read_whole.scope (d_read_whole.dvs K) [] (He.fAd K ("read_whole", none)) fd) : FnOk P w K mg base (L2N.CX P w) 1 (He.fAd K ("read_whole", none)) fd ["text"] (spA K 1 a_read_whole) :=
  def_okN FD sc_read_whole fun cdv A outer s H E hr tk =>
  (ss_cons
  (s_if (t_w (tw_or (t_not (t_chain op_le op_le os_le os_le e_int (e_callB call_len cs_len (F.free 120) (a_cons (e_var 0) a_nil)) (e_gint (h := F.int 6)))) (tw_or1 (t_w (tw_and (t_cmp (op_eqAny (hu64 hr)) os_eq (e_ix (e_var 0) e_int) (e_str [48])) (tw_and1 (t_cmp (op_neAny (hu64 hr)) os_ne (e_var 0) (e_str [48])))))))) (ss_one (s_raise .text (F.exc .text 80 79) rfl tk)) ss_nil)
  (ss_cons
  (s_for (passes_of rfl) rfl (i_str (e_var 0)) (g_name sc_read_whole.nd) (ss_one (s_if (t_cmp (op_notInAny (hu_of hr)) os_notIn (e_var 1) (e_gstr (z := "0123456789") [48, 49, 50, 51, 52, 53, 54, 55, 56, 57] (h := F.str 5))) (ss_one (s_raise .text (F.exc .text 80 79) rfl tk)) ss_nil)))
  (ss_one (s_ret (e_callTy call_intAny cs_int (F.free 118) (a_cons (e_var 0) a_nil))))))
theorem cal_read_whole (F : FX K mg) : Cal P w K mg base (L2N.CX P w) 1 (He.fAd K ("read_whole", none)) 1 [] a_read_whole := let ⟨_, FD⟩ := F.def_ 12 (d := d_read_whole); cal0 FD (ok_read_whole F FD) fun _ _ _ _ _ _ us hl => match us, hl with | [_], _ => rfl
abbrev n_show_drawing : List Str := ["drawing", "words", "tail", "head"]
theorem sc_show_drawing : FnScope n_show_drawing ["drawing"] (defScope s_show_drawing) := ⟨rfl, rfl, rfl, by decide +kernel, rfl, by decide +kernel, by decide +kernel⟩
def a_show_drawing : AF := aDef 3 ((aSeq (aAsg 1 (aOp dAdd (aLst (aCons (aJs [(aUn dFmt (aUn (dFld .drawing 0) (aVar 0))), (aC (.str [58]))] []) aNil)) (aLc (aItA (aUn (dFld .drawing 1) (aVar 0))) (gTp 2 (gsCons (gNm 2) (gsCons (gNm 3) gsNil))) aYes (aJs [(aUn dFmt (aVar 2)), (aC (.str [62])), (aUn dFmt (aVar 3))] []) [2, 3])))
  (aRet (aBM "str" (fun d ds μ => one1 (dJoin d) ds μ) (aC (.str [32])) (aCons (aVar 1) aNil)))))
theorem ok_show_drawing (F : FX K mg) {fd : FuncData} (FD : FunD K d_show_drawing.name d_show_drawing.qual d_show_drawing.params d_show_drawing.body d_show_drawing.scope (d_show_drawing.dvs K) [] (He.fAd K ("show_drawing", none)) fd) : FnOk P w K mg base (L2N.CX P w) 1 (He.fAd K ("show_drawing", none)) fd ["drawing"] (spA K 1 a_show_drawing) :=
  def_okN FD sc_show_drawing fun cdv A outer s H E hr tk =>
  (ss_cons
  (s_set sc_show_drawing.nd (e_op op_addAny os_add (e_lst (a_cons (e_joined (.cons (e_fmt (e_fld .drawing 0 (e_var 0) (F.cls 89) (F.noat 101))) (.cons (e_str [58]) .nil))) a_nil)) (e_lc rfl sc_show_drawing.nd (i_any (e_fld .drawing 1 (e_var 0) (F.cls 89) (F.noat 100))) (own := [("tail", 2), ("head", 3)]) (show BlkOk n_show_drawing (defScope s_show_drawing) _ _ from blkd (by decide +kernel)) (fun _ _ _ _ _ => (gc_tup (n := 2) (gcs_cons (gc_name sc_show_drawing.nd) (gcs_cons (gc_name sc_show_drawing.nd) gcs_nil)) (fun _ h => pg_tup rfl h))) (fun _ _ _ _ _ => ts_nil) (fun _ _ _ _ _ => (e_joined (.cons (e_fmt (e_var 2)) (.cons (e_str [62]) (.cons (e_fmt (e_var 3)) .nil))))))))
  (ss_one (s_ret (e_join (e_str [32]) (a_cons (e_var 1) a_nil)))))
theorem cal_show_drawing (F : FX K mg) : Cal P w K mg base (L2N.CX P w) 1 (He.fAd K ("show_drawing", none)) 1 [] a_show_drawing := let ⟨_, FD⟩ := F.def_ 11 (d := d_show_drawing); cal0 FD (ok_show_drawing F FD) fun _ _ _ _ _ _ us hl => match us, hl with | [_], _ => rfl
abbrev n_show_number : List Str := ["ground", "number"]
theorem sc_show_number : FnScope n_show_number ["ground", "number"] (defScope s_show_number) := ⟨rfl, rfl, rfl, by decide +kernel, rfl, by decide +kernel, by decide +kernel⟩
def a_show_number : AF := aDef 0 ((aSeq (aIf (aB (aOp dGt (aUn (dFld .ground 0) (aVar 0)) (aC (.int 0)))) (aRet (aCB (one1 dStr) (aCons (aVar 1) aNil))) aNext)
  (aSeq (aIf (aB (aOp dEq (aOp dIx (aVar 1) (aC (.int 1))) (aC (.int 1)))) (aRet (aCB (one1 dStr) (aCons (aOp dIx (aVar 1) (aC (.int 0))) aNil))) aNext)
  (aRet (aJs [(aUn dFmt (aOp dIx (aVar 1) (aC (.int 0)))), (aC (.str [47])), (aUn dFmt (aOp dIx (aVar 1) (aC (.int 1))))] [])))))
theorem ok_show_number (F : FX K mg) {fd : FuncData} (FD : FunD K d_show_number.name d_show_number.qual d_show_number.params d_show_number.body d_show_number.scope (d_show_number.dvs K) [] (He.fAd K ("show_number", none)) fd) : FnOk P w K mg base (L2N.CX P w) 1 (He.fAd K ("show_number", none)) fd ["ground", "number"] (spA K 2 a_show_number) :=
  def_okN FD sc_show_number fun cdv A outer s H E hr tk =>
  (ss_cons
  (s_if (t_cmp op_gt os_gt (e_fld .ground 0 (e_var 0) (F.cls 103) (F.noat 113)) e_int) (ss_one (s_ret (e_callTy call_str_int cs_str (F.free 123) (a_cons (e_var 1) a_nil)))) ss_nil)
  (ss_cons
  (s_if (t_cmp (op_eqAny (hu64 hr)) os_eq (e_ix (e_var 1) e_int) e_int) (ss_one (s_ret (e_callTy call_str_int cs_str (F.free 123) (a_cons (e_ix (e_var 1) e_int) a_nil)))) ss_nil)
  (ss_one (s_ret (e_joined (.cons (e_fmt (e_ix (e_var 1) e_int)) (.cons (e_str [47]) (.cons (e_fmt (e_ix (e_var 1) e_int)) .nil))))))))
theorem cal_show_number (F : FX K mg) : Cal P w K mg base (L2N.CX P w) 1 (He.fAd K ("show_number", none)) 2 [] a_show_number := let ⟨_, FD⟩ := F.def_ 9 (d := d_show_number); cal0 FD (ok_show_number F FD) fun _ _ _ _ _ _ us hl => match us, hl with | [_, _], _ => rfl
abbrev n__law_arrow_read : List Str := ["_law_word", "_law_parts"]
theorem sc__law_arrow_read : FnScope n__law_arrow_read ["_law_word"] (defScope s__law_arrow_read) := ⟨rfl, rfl, rfl, by decide +kernel, rfl, by decide +kernel, by decide +kernel⟩
def a__law_arrow_read : AF := aDef 1 ((aSeq (aAsg 1 (aBM "str" (mSS cSpl splD) (aVar 0) (aCons (aC (.str [62])) aNil)))
  (aSeq (aIf (aOrT (aB (aOp dNe (aCB (one1 dLen) (aCons (aVar 1) aNil)) (aC (.int 2)))) (aOrT (aB (aOp dIsN (aCall a__law_read_whole [] (aCons (aOp dIx (aVar 1) (aC (.int 0))) aNil)) (aC .non))) (aB (aOp dIsN (aCall a__law_read_whole [] (aCons (aOp dIx (aVar 1) (aC (.int 1))) aNil)) (aC .non))))) (aRet (aC .non)) aNext)
  (aRet (aTup (aCons (aCall a__law_read_whole [] (aCons (aOp dIx (aVar 1) (aC (.int 0))) aNil)) (aCons (aCall a__law_read_whole [] (aCons (aOp dIx (aVar 1) (aC (.int 1))) aNil)) aNil)))))))
theorem ok__law_arrow_read (F : FX K mg) {fd : FuncData} (FD : FunD K d__law_arrow_read.name d__law_arrow_read.qual d__law_arrow_read.params d__law_arrow_read.body d__law_arrow_read.scope (d__law_arrow_read.dvs K) [] (He.fAd K ("_law_arrow_read", none)) fd) : FnOk P w K mg base (L2N.CX P w) 2 (He.fAd K ("_law_arrow_read", none)) fd ["_law_word"] (spA K 1 a__law_arrow_read) :=
  def_okN FD sc__law_arrow_read fun cdv A outer s H E hr tk =>
  (ss_cons
  (s_set sc__law_arrow_read.nd (e_split (e_var 0) (a_cons (e_str [62]) a_nil)))
  (ss_cons
  (s_if (t_w (tw_or (t_cmp (op_neAny (hu64 hr)) os_ne (e_callB call_len cs_len (F.free 120) (a_cons (e_var 1) a_nil)) e_int) (tw_or (t_cmp Z.op_isN1 os_isN (e_call (cal__law_read_whole F) hr (F.glo 38) (L2N.passAt tk) (a_cons (e_ix (e_var 1) e_int) a_nil) (li_dd (k := 0) (li_cons li_nil) rfl rfl)) e_non) (tw_or1 (t_cmp Z.op_isN1 os_isN (e_call (cal__law_read_whole F) hr (F.glo 38) (L2N.passAt tk) (a_cons (e_ix (e_var 1) e_int) a_nil) (li_dd (k := 0) (li_cons li_nil) rfl rfl)) e_non))))) (ss_one (s_ret e_non)) ss_nil)
  (ss_one (s_ret (e_tup (a_cons (e_call (cal__law_read_whole F) hr (F.glo 38) (L2N.passAt tk) (a_cons (e_ix (e_var 1) e_int) a_nil) (li_dd (k := 0) (li_cons li_nil) rfl rfl)) (a_cons (e_call (cal__law_read_whole F) hr (F.glo 38) (L2N.passAt tk) (a_cons (e_ix (e_var 1) e_int) a_nil) (li_dd (k := 0) (li_cons li_nil) rfl rfl)) a_nil)))))))
theorem cal__law_arrow_read (F : FX K mg) : Cal P w K mg base (L2N.CX P w) 2 (He.fAd K ("_law_arrow_read", none)) 1 [] a__law_arrow_read := let ⟨_, FD⟩ := F.def_ 34 (d := d__law_arrow_read); cal0 FD (ok__law_arrow_read F FD) fun _ _ _ _ _ _ us hl => match us, hl with | [_], _ => rfl
abbrev n__law_odd : List Str := ["_law_bag_here", "_law_some"]
theorem sc__law_odd : FnScope n__law_odd ["_law_bag_here"] (defScope s__law_odd) := ⟨rfl, rfl, rfl, by decide +kernel, rfl, by decide +kernel, by decide +kernel⟩
def a__law_odd : AF := aDef 1 ((aSeq (aAsg 1 (aLst (aCons (aC (.str [])) (aCons (aC (.str [58])) (aCons (aC (.str [49])) (aCons (aC (.str [49, 58])) (aCons (aC (.str [49, 58, 32])) (aCons (aC (.str [32, 49, 58])) (aCons (aC (.str [49, 32, 58])) (aCons (aC (.str [48, 58])) (aCons (aC (.str [56, 58])) (aCons (aC (.str [57, 58])) (aCons (aC (.str [48, 49, 58])) (aCons (aC (.str [50, 58, 48, 62, 49])) (aCons (aC (.str [50, 58, 32, 48, 62, 49, 32])) (aCons (aC (.str [50, 58, 32, 32, 48, 62, 49])) (aCons (aC (.str [50, 58, 32, 48, 62, 50])) aNil)))))))))))))))))
  (aSeq (aAsg 1 (aOp dAdd (aVar 1) (aLst (aCons (aC (.str [50, 58, 32, 48, 60, 49])) (aCons (aC (.str [50, 58, 32, 48, 49])) (aCons (aC (.str [50, 58, 32, 48, 62])) (aCons (aC (.str [50, 58, 32, 62, 49])) (aCons (aC (.str [50, 58, 32, 48, 62, 49, 62, 48])) (aCons (aC (.str [50, 58, 32, 48, 62, 32, 49])) (aCons (aC (.str [50, 58, 32, 48, 62, 49, 44, 49, 62, 48])) (aCons (aC (.str [50, 58, 32, 45, 49, 62, 48])) (aCons (aC (.str [45, 50, 58, 32, 48, 62, 49])) (aCons (aC (.str [97, 58])) aNil)))))))))))))
  (aSeq (aAsg 1 (aOp dAdd (aVar 1) (aLst (aCons (aC (.str [50, 58, 32, 48, 48, 62, 49])) (aCons (aC (.str [50, 58, 58, 32, 48, 62, 49])) (aCons (aC (.str [49, 58, 32, 48, 62, 48])) (aCons (aC (.str [51, 58, 32, 48, 62, 49, 32, 50, 62, 49])) (aCons (aOp dAdd (aC (.str [49, 58])) (aOp dMul (aC (.str [32, 48, 62, 48])) (aC (.int 10)))) aNil))))))))
  (aRet (aOp dIx (aVar 1) (aCall a__law_draw [] (aCons (aVar 0) (aCons (aC (.int 30)) aNil)))))))))
theorem ok__law_odd (F : FX K mg) {fd : FuncData} (FD : FunD K d__law_odd.name d__law_odd.qual d__law_odd.params d__law_odd.body d__law_odd.scope (d__law_odd.dvs K) [] (He.fAd K ("_law_odd", none)) fd) : FnOk P w K mg base (L2N.CX P w) 2 (He.fAd K ("_law_odd", none)) fd ["_law_bag_here"] (spA K 1 a__law_odd) :=
  def_okN FD sc__law_odd fun cdv A outer s H E hr tk =>
  (ss_cons
  (s_set sc__law_odd.nd (e_lst (a_cons (e_str []) (a_cons (e_str [58]) (a_cons (e_str [49]) (a_cons (e_str [49, 58]) (a_cons (e_str [49, 58, 32]) (a_cons (e_str [32, 49, 58]) (a_cons (e_str [49, 32, 58]) (a_cons (e_str [48, 58]) (a_cons (e_str [56, 58]) (a_cons (e_str [57, 58]) (a_cons (e_str [48, 49, 58]) (a_cons (e_str [50, 58, 48, 62, 49]) (a_cons (e_str [50, 58, 32, 48, 62, 49, 32]) (a_cons (e_str [50, 58, 32, 32, 48, 62, 49]) (a_cons (e_str [50, 58, 32, 48, 62, 50]) a_nil)))))))))))))))))
  (ss_cons
  (s_set sc__law_odd.nd (e_op op_addAny os_add (e_var 1) (e_lst (a_cons (e_str [50, 58, 32, 48, 60, 49]) (a_cons (e_str [50, 58, 32, 48, 49]) (a_cons (e_str [50, 58, 32, 48, 62]) (a_cons (e_str [50, 58, 32, 62, 49]) (a_cons (e_str [50, 58, 32, 48, 62, 49, 62, 48]) (a_cons (e_str [50, 58, 32, 48, 62, 32, 49]) (a_cons (e_str [50, 58, 32, 48, 62, 49, 44, 49, 62, 48]) (a_cons (e_str [50, 58, 32, 45, 49, 62, 48]) (a_cons (e_str [45, 50, 58, 32, 48, 62, 49]) (a_cons (e_str [97, 58]) a_nil)))))))))))))
  (ss_cons
  (s_set sc__law_odd.nd (e_op op_addAny os_add (e_var 1) (e_lst (a_cons (e_str [50, 58, 32, 48, 48, 62, 49]) (a_cons (e_str [50, 58, 58, 32, 48, 62, 49]) (a_cons (e_str [49, 58, 32, 48, 62, 48]) (a_cons (e_str [51, 58, 32, 48, 62, 49, 32, 50, 62, 49]) (a_cons (e_op op_addAny os_add (e_str [49, 58]) (e_op op_mulAny os_mul (e_str [32, 48, 62, 48]) e_int)) a_nil))))))))
  (ss_one (s_ret (e_ix (e_var 1) (e_call (cal__law_draw F) hr (F.glo 26) (L2N.passAt tk) (a_cons (e_var 0) (a_cons e_int a_nil)) (li_dd (k := 0) (li_cons (li_cons li_nil)) rfl rfl))))))))
theorem cal__law_odd (F : FX K mg) : Cal P w K mg base (L2N.CX P w) 2 (He.fAd K ("_law_odd", none)) 1 [] a__law_odd := let ⟨_, FD⟩ := F.def_ 37 (d := d__law_odd); cal0 FD (ok__law_odd F FD) fun _ _ _ _ _ _ us hl => match us, hl with | [_], _ => rfl
abbrev n__law_prime : List Str := ["_law_bag_here", "_law_way"]
theorem sc__law_prime : FnScope n__law_prime ["_law_bag_here"] (defScope s__law_prime) := ⟨rfl, rfl, rfl, by decide +kernel, rfl, by decide +kernel, by decide +kernel⟩
def a__law_prime : AF := aDef 1 ((aSeq (aAsg 1 (aCall a__law_draw [] (aCons (aVar 0) (aCons (aC (.int 6)) aNil))))
  (aSeq (aIf (aB (aOp dLt (aVar 1) (aC (.int 5)))) (aRet (aOp dIx (aLst (aCons (aC (.int 0)) (aCons (aC (.int 2)) (aCons (aC (.int 3)) (aCons (aC (.int 5)) (aCons (aC (.int 97)) aNil)))))) (aVar 1))) aNext)
  (aRet (aOp dIx (aLst (aCons (aC (.int 0)) (aCons (aC (.int 7)) (aCons (aC (.int 11)) (aCons (aC (.int 13)) (aCons (aC (.int 17)) (aCons (aC (.int 19)) (aCons (aC (.int 23)) (aCons (aC (.int 29)) (aCons (aC (.int 31)) (aCons (aC (.int 37)) (aCons (aC (.int 41)) (aCons (aC (.int 43)) (aCons (aC (.int 47)) (aCons (aC (.int 53)) (aCons (aC (.int 59)) (aCons (aC (.int 61)) (aCons (aC (.int 67)) (aCons (aC (.int 71)) (aCons (aC (.int 73)) (aCons (aC (.int 79)) (aCons (aC (.int 83)) (aCons (aC (.int 89)) aNil))))))))))))))))))))))) (aCall a__law_draw [] (aCons (aVar 0) (aCons (aC (.int 22)) aNil))))))))
theorem ok__law_prime (F : FX K mg) {fd : FuncData} (FD : FunD K d__law_prime.name d__law_prime.qual d__law_prime.params d__law_prime.body d__law_prime.scope (d__law_prime.dvs K) [] (He.fAd K ("_law_prime", none)) fd) : FnOk P w K mg base (L2N.CX P w) 2 (He.fAd K ("_law_prime", none)) fd ["_law_bag_here"] (spA K 1 a__law_prime) :=
  def_okN FD sc__law_prime fun cdv A outer s H E hr tk =>
  (ss_cons
  (s_set sc__law_prime.nd (e_call (cal__law_draw F) hr (F.glo 26) (L2N.passAt tk) (a_cons (e_var 0) (a_cons e_int a_nil)) (li_dd (k := 0) (li_cons (li_cons li_nil)) rfl rfl)))
  (ss_cons
  (s_if (t_cmp op_lt os_lt (e_var 1) e_int) (ss_one (s_ret (e_ix (e_lst (a_cons e_int (a_cons e_int (a_cons e_int (a_cons e_int (a_cons e_int a_nil)))))) (e_var 1)))) ss_nil)
  (ss_one (s_ret (e_ix (e_lst (a_cons e_int (a_cons e_int (a_cons e_int (a_cons e_int (a_cons e_int (a_cons e_int (a_cons e_int (a_cons e_int (a_cons e_int (a_cons e_int (a_cons e_int (a_cons e_int (a_cons e_int (a_cons e_int (a_cons e_int (a_cons e_int (a_cons e_int (a_cons e_int (a_cons e_int (a_cons e_int (a_cons e_int (a_cons e_int a_nil))))))))))))))))))))))) (e_call (cal__law_draw F) hr (F.glo 26) (L2N.passAt tk) (a_cons (e_var 0) (a_cons e_int a_nil)) (li_dd (k := 0) (li_cons (li_cons li_nil)) rfl rfl)))))))
theorem cal__law_prime (F : FX K mg) : Cal P w K mg base (L2N.CX P w) 2 (He.fAd K ("_law_prime", none)) 1 [] a__law_prime := let ⟨_, FD⟩ := F.def_ 21 (d := d__law_prime); cal0 FD (ok__law_prime F FD) fun _ _ _ _ _ _ us hl => match us, hl with | [_], _ => rfl
abbrev n__law_sign_spoilt : List Str := ["_law_text", "_law_bag_here", "_law_signs", "_law_at", "_law_way", "_law_sign"]
theorem sc__law_sign_spoilt : FnScope n__law_sign_spoilt ["_law_text", "_law_bag_here"] (defScope s__law_sign_spoilt) := ⟨rfl, rfl, rfl, by decide +kernel, rfl, by decide +kernel, by decide +kernel⟩
def a__law_sign_spoilt : AF := aDef 4 ((aSeq (aAsg 2 (aC (.str [32, 48, 49, 50, 51, 52, 53, 54, 55, 56, 57, 45, 47, 43, 46, 59, 58, 44, 62, 60, 97, 98, 95, 40, 41, 126])))
  (aSeq (aAsg 3 (aCall a__law_draw [] (aCons (aVar 1) (aCons (aOp dAdd (aCB (one1 dLen) (aCons (aVar 0) aNil)) (aC (.int 1))) aNil))))
  (aSeq (aAsg 4 (aCall a__law_draw [] (aCons (aVar 1) (aCons (aC (.int 4)) aNil))))
  (aSeq (aAsg 5 (aOp dIx (aVar 2) (aCall a__law_draw [] (aCons (aVar 1) (aCons (aC (.int 26)) aNil)))))
  (aSeq (aIf (aB (aOp dEq (aVar 4) (aC (.int 0)))) (aRet (aOp dAdd (aOp dAdd (aSl (aVar 0) aNoPart (aPart (aVar 3))) (aVar 5)) (aSl (aVar 0) (aPart (aVar 3)) aNoPart))) aNext)
  (aSeq (aIf (aB (aOp dEq (aVar 4) (aC (.int 1)))) (aRet (aOp dAdd (aSl (aVar 0) aNoPart (aPart (aVar 3))) (aSl (aVar 0) (aPart (aOp dAdd (aVar 3) (aC (.int 1)))) aNoPart))) aNext)
  (aSeq (aIf (aB (aOp dEq (aVar 4) (aC (.int 2)))) (aRet (aOp dAdd (aOp dAdd (aSl (aVar 0) aNoPart (aPart (aVar 3))) (aVar 5)) (aSl (aVar 0) (aPart (aOp dAdd (aVar 3) (aC (.int 1)))) aNoPart))) aNext)
  (aRet (aOp dAdd (aOp dAdd (aSl (aVar 0) aNoPart (aPart (aVar 3))) (aSl (aVar 0) (aPart (aVar 3)) (aPart (aOp dAdd (aVar 3) (aC (.int 1)))))) (aSl (aVar 0) (aPart (aVar 3)) aNoPart)))))))))))
theorem ok__law_sign_spoilt (F : FX K mg) {fd : FuncData} (FD : FunD K d__law_sign_spoilt.name d__law_sign_spoilt.qual d__law_sign_spoilt.params d__law_sign_spoilt.body d__law_sign_spoilt.scope (d__law_sign_spoilt.dvs K) [] (He.fAd K ("_law_sign_spoilt", none)) fd) : FnOk P w K mg base (L2N.CX P w) 2 (He.fAd K ("_law_sign_spoilt", none)) fd ["_law_text", "_law_bag_here"] (spA K 2 a__law_sign_spoilt) :=
  def_okN FD sc__law_sign_spoilt fun cdv A outer s H E hr tk =>
  (ss_cons
  (s_set sc__law_sign_spoilt.nd (e_str [32, 48, 49, 50, 51, 52, 53, 54, 55, 56, 57, 45, 47, 43, 46, 59, 58, 44, 62, 60, 97, 98, 95, 40, 41, 126]))
  (ss_cons
  (s_set sc__law_sign_spoilt.nd (e_call (cal__law_draw F) hr (F.glo 26) (L2N.passAt tk) (a_cons (e_var 1) (a_cons (e_op op_addAny os_add (e_callB call_len cs_len (F.free 120) (a_cons (e_var 0) a_nil)) e_int) a_nil)) (li_dd (k := 0) (li_cons (li_cons li_nil)) rfl rfl)))
  (ss_cons
  (s_set sc__law_sign_spoilt.nd (e_call (cal__law_draw F) hr (F.glo 26) (L2N.passAt tk) (a_cons (e_var 1) (a_cons e_int a_nil)) (li_dd (k := 0) (li_cons (li_cons li_nil)) rfl rfl)))
  (ss_cons
  (s_set sc__law_sign_spoilt.nd (e_ix (e_var 2) (e_call (cal__law_draw F) hr (F.glo 26) (L2N.passAt tk) (a_cons (e_var 1) (a_cons e_int a_nil)) (li_dd (k := 0) (li_cons (li_cons li_nil)) rfl rfl))))
  (ss_cons
  (s_if (t_cmp (op_eqAny (hu64 hr)) os_eq (e_var 4) e_int) (ss_one (s_ret (e_op op_addAny os_add (e_op op_addAny os_add (e_slice (e_var 0) o_none (o_some (e_var 3))) (e_var 5)) (e_slice (e_var 0) (o_some (e_var 3)) o_none)))) ss_nil)
  (ss_cons
  (s_if (t_cmp (op_eqAny (hu64 hr)) os_eq (e_var 4) e_int) (ss_one (s_ret (e_op op_addAny os_add (e_slice (e_var 0) o_none (o_some (e_var 3))) (e_slice (e_var 0) (o_some (e_op op_addAny os_add (e_var 3) e_int)) o_none)))) ss_nil)
  (ss_cons
  (s_if (t_cmp (op_eqAny (hu64 hr)) os_eq (e_var 4) e_int) (ss_one (s_ret (e_op op_addAny os_add (e_op op_addAny os_add (e_slice (e_var 0) o_none (o_some (e_var 3))) (e_var 5)) (e_slice (e_var 0) (o_some (e_op op_addAny os_add (e_var 3) e_int)) o_none)))) ss_nil)
  (ss_one (s_ret (e_op op_addAny os_add (e_op op_addAny os_add (e_slice (e_var 0) o_none (o_some (e_var 3))) (e_slice (e_var 0) (o_some (e_var 3)) (o_some (e_op op_addAny os_add (e_var 3) e_int)))) (e_slice (e_var 0) (o_some (e_var 3)) o_none)))))))))))
theorem cal__law_sign_spoilt (F : FX K mg) : Cal P w K mg base (L2N.CX P w) 2 (He.fAd K ("_law_sign_spoilt", none)) 2 [] a__law_sign_spoilt := let ⟨_, FD⟩ := F.def_ 31 (d := d__law_sign_spoilt); cal0 FD (ok__law_sign_spoilt F FD) fun _ _ _ _ _ _ us hl => match us, hl with | [_, _], _ => rfl
abbrev n__law_table_shown : List Str := ["_law_p", "_law_table_here", "_law_row", "_law_number_here"]
theorem sc__law_table_shown : FnScope n__law_table_shown ["_law_p", "_law_table_here"] (defScope s__law_table_shown) := ⟨rfl, rfl, rfl, by decide +kernel, rfl, by decide +kernel, by decide +kernel⟩
def a__law_table_shown : AF := aDef 2 ((aSeq (aIf (aOrT (aB (aOp dEq (aOp dIx (aVar 1) (aC (.int 0))) (aC (.int 0)))) (aB (aOp dEq (aOp dIx (aVar 1) (aC (.int 1))) (aC (.int 0))))) (aRet (aC (.str [45]))) aNext)
  (aRet (aBM "str" (fun d ds μ => one1 (dJoin d) ds μ) (aC (.str [32, 47, 32])) (aCons (aLc (aItA (aOp dIx (aVar 1) (aC (.int 2)))) (gNm 2) aYes (aBM "str" (fun d ds μ => one1 (dJoin d) ds μ) (aC (.str [32])) (aCons (aLc (aItA (aVar 2)) (gNm 3) aYes (aCall a__law_shown [] (aCons (aVar 0) (aCons (aVar 3) aNil))) [3]) aNil)) [2]) aNil)))))
theorem ok__law_table_shown (F : FX K mg) {fd : FuncData} (FD : FunD K d__law_table_shown.name d__law_table_shown.qual d__law_table_shown.params d__law_table_shown.body d__law_table_shown.scope (d__law_table_shown.dvs K) [] (He.fAd K ("_law_table_shown", none)) fd) : FnOk P w K mg base (L2N.CX P w) 2 (He.fAd K ("_law_table_shown", none)) fd ["_law_p", "_law_table_here"] (spA K 2 a__law_table_shown) :=
  def_okN FD sc__law_table_shown fun cdv A outer s H E hr tk =>
  (ss_cons
  (s_if (t_w (tw_or (t_cmp (op_eqAny (hu64 hr)) os_eq (e_ix (e_var 1) e_int) e_int) (tw_or1 (t_cmp (op_eqAny (hu64 hr)) os_eq (e_ix (e_var 1) e_int) e_int)))) (ss_one (s_ret (e_str [45]))) ss_nil)
  (ss_one (s_ret (e_join (e_str [32, 47, 32]) (a_cons (e_lc rfl sc__law_table_shown.nd (i_any (e_ix (e_var 1) e_int)) (own := [("_law_row", 2)]) (show BlkOk n__law_table_shown (defScope s__law_table_shown) _ _ from blkd (by decide +kernel)) (fun _ _ _ _ _ => (gc_name sc__law_table_shown.nd)) (fun _ _ _ _ _ => ts_nil) (fun _ _ _ _ _ => (e_join (e_str [32]) (a_cons (e_lc rfl sc__law_table_shown.nd (i_any (e_var 2)) (own := [("_law_number_here", 3)]) (blkd rfl) (fun _ _ _ _ _ => (gc_name sc__law_table_shown.nd)) (fun _ _ _ _ _ => ts_nil) (fun _ _ _ _ _ => (e_call (cal__law_shown F) hr (F.glo 37) no0N (a_cons (e_var 0) (a_cons (e_var 3) a_nil)) (li_dd (k := 0) (li_cons (li_cons li_nil)) rfl rfl)))) a_nil)))) a_nil)))))
theorem cal__law_table_shown (F : FX K mg) : Cal P w K mg base (L2N.CX P w) 2 (He.fAd K ("_law_table_shown", none)) 2 [] a__law_table_shown := let ⟨_, FD⟩ := F.def_ 32 (d := d__law_table_shown); cal0 FD (ok__law_table_shown F FD) fun _ _ _ _ _ _ us hl => match us, hl with | [_, _], _ => rfl
abbrev n_is_arrow : List Str := ["thing", "many", "end"]
theorem sc_is_arrow : FnScope n_is_arrow ["thing", "many"] (defScope s_is_arrow) := ⟨rfl, rfl, rfl, by decide +kernel, rfl, by decide +kernel, by decide +kernel⟩
def a_is_arrow : AF := aDef 1 ((aSeq (aIf (aOrT (aNotT (aB (aCB (two2 dIsi) (aCons (aVar 0) (aCons (aC (.ty "tuple")) aNil))))) (aB (aOp dNe (aCB (one1 dLen) (aCons (aVar 0) aNil)) (aC (.int 2))))) (aRet (aC (.bl false))) aNext)
  (aRet (aCB (one1 (dAllQ fun bs => bs.all id)) (aCons (aLc (aItA (aVar 0)) (gNm 2) aYes (aAndV (aCall a_is_whole_drawings [] (aCons (aVar 2) aNil)) (aChain dLe dLt (aC (.int 0)) (aVar 2) (aVar 1))) [2]) aNil)))))
theorem ok_is_arrow (F : FX K mg) {fd : FuncData} (FD : FunD K d_is_arrow.name d_is_arrow.qual d_is_arrow.params d_is_arrow.body d_is_arrow.scope (d_is_arrow.dvs K) [] (He.fAd K ("is_arrow", none)) fd) : FnOk P w K mg base (L2N.CX P w) 2 (He.fAd K ("is_arrow", none)) fd ["thing", "many"] (spA K 2 a_is_arrow) :=
  def_okN FD sc_is_arrow fun cdv A outer s H E hr tk =>
  (ss_cons
  (s_if (t_w (tw_or (t_not (t_val (e_callB call_isi cs_isi (F.free 119) (a_cons (e_var 0) (a_cons (e_ty (T := "tuple") (hm := (F.free 124))) a_nil))))) (tw_or1 (t_cmp (op_neAny (hu64 hr)) os_ne (e_callB call_len cs_len (F.free 120) (a_cons (e_var 0) a_nil)) e_int)))) (ss_one (s_ret e_bl)) ss_nil)
  (ss_one (s_ret (e_callB (cr_all rfl) cs_allQ (F.free 116) (a_cons (e_lc rfl sc_is_arrow.nd (i_any (e_var 0)) (own := [("end", 2)]) (show BlkOk n_is_arrow (defScope s_is_arrow) _ _ from blkd (by decide +kernel)) (fun _ _ _ _ _ => (gc_name sc_is_arrow.nd)) (fun _ _ _ _ _ => ts_nil) (fun _ _ _ _ _ => (e_and (e_call (cal_is_whole_drawings F) hr (F.glo 2) no0N (a_cons (e_var 2) a_nil) (li_dd (k := 0) (li_cons li_nil) rfl rfl)) (e_one (e_chain op_le op_lt os_le os_lt e_int (e_var 2) (e_var 1)))))) a_nil)))))
theorem cal_is_arrow (F : FX K mg) : Cal P w K mg base (L2N.CX P w) 2 (He.fAd K ("is_arrow", none)) 2 [] a_is_arrow := let ⟨_, FD⟩ := F.def_ 2 (d := d_is_arrow); cal0 FD (ok_is_arrow F FD) fun _ _ _ _ _ _ us hl => match us, hl with | [_, _], _ => rfl
abbrev n_is_ground : List Str := ["thing"]
theorem sc_is_ground : FnScope n_is_ground ["thing"] (defScope s_is_ground) := ⟨rfl, rfl, rfl, by decide +kernel, rfl, by decide +kernel, by decide +kernel⟩
def a_is_ground : AF := aDef 0 ((aRet (aAndV (aCall a_is_whole_grounds [] (aCons (aVar 0) aNil)) (aOrV (aOp dEq (aVar 0) (aC (.int 0))) (aCall a_is_small_prime [] (aCons (aVar 0) aNil))))))
theorem ok_is_ground (F : FX K mg) {fd : FuncData} (FD : FunD K d_is_ground.name d_is_ground.qual d_is_ground.params d_is_ground.body d_is_ground.scope (d_is_ground.dvs K) [] (He.fAd K ("is_ground", none)) fd) : FnOk P w K mg base (L2N.CX P w) 2 (He.fAd K ("is_ground", none)) fd ["thing"] (spA K 1 a_is_ground) :=
  def_okN FD sc_is_ground fun cdv A outer s H E hr tk =>
  (ss_one (s_ret (e_and (e_call (cal_is_whole_grounds F) hr (F.glo 4) (L2N.passAt tk) (a_cons (e_var 0) a_nil) (li_dd (k := 0) (li_cons li_nil) rfl rfl)) (e_one (e_or (e_cmp (op_eqAny (hu64 hr)) os_eq (e_var 0) e_int) (e_one (e_call (cal_is_small_prime F) hr (F.glo 13) (L2N.passAt tk) (a_cons (e_var 0) a_nil) (li_dd (k := 0) (li_cons li_nil) rfl rfl))))))))
theorem cal_is_ground (F : FX K mg) : Cal P w K mg base (L2N.CX P w) 2 (He.fAd K ("is_ground", none)) 1 [] a_is_ground := let ⟨_, FD⟩ := F.def_ 5 (d := d_is_ground); cal0 FD (ok_is_ground F FD) fun _ _ _ _ _ _ us hl => match us, hl with | [_], _ => rfl
abbrev n_read_arrow : List Str := ["word", "tail", "mark", "head"]
theorem sc_read_arrow : FnScope n_read_arrow ["word"] (defScope s_read_arrow) := ⟨rfl, rfl, rfl, by decide +kernel, rfl, by decide +kernel, by decide +kernel⟩
def a_read_arrow : AF := aDef 3 ((aSeq (aAsgG (aBM "str" (mSS cPar parD) (aVar 0) (aCons (aC (.str [62])) aNil)) (gTp 3 (gsCons (gNm 1) (gsCons (gNm 2) (gsCons (gNm 3) gsNil)))))
  (aSeq (aIf (aB (aOp dNe (aVar 2) (aC (.str [62])))) (aRaise .text) aNext)
  (aRet (aTup (aCons (aCall a_read_whole [] (aCons (aVar 1) aNil)) (aCons (aCall a_read_whole [] (aCons (aVar 3) aNil)) aNil)))))))
theorem ok_read_arrow (F : FX K mg) {fd : FuncData} (FD : FunD K d_read_arrow.name d_read_arrow.qual d_read_arrow.params d_read_arrow.body d_read_arrow.scope (d_read_arrow.dvs K) [] (He.fAd K ("read_arrow", none)) fd) : FnOk P w K mg base (L2N.CX P w) 2 (He.fAd K ("read_arrow", none)) fd ["word"] (spA K 1 a_read_arrow) :=
  def_okN FD sc_read_arrow fun cdv A outer s H E hr tk =>
  (ss_cons
  (s_asg (e_partition (e_var 0) (a_cons (e_str [62]) a_nil)) (g_tup (k := 0) (n := 3) rfl (gs_cons (g_name sc_read_arrow.nd) (gs_cons (g_name sc_read_arrow.nd) (gs_cons (g_name sc_read_arrow.nd) gs_nil))) (fun _ h => pg_tup rfl h)))
  (ss_cons
  (s_if (t_cmp (op_neAny (hu64 hr)) os_ne (e_var 2) (e_str [62])) (ss_one (s_raise .text (F.exc .text 80 79) rfl tk)) ss_nil)
  (ss_one (s_ret (e_tup (a_cons (e_call (cal_read_whole F) hr (F.glo 21) (L2N.passAt tk) (a_cons (e_var 1) a_nil) (li_dd (k := 0) (li_cons li_nil) rfl rfl)) (a_cons (e_call (cal_read_whole F) hr (F.glo 21) (L2N.passAt tk) (a_cons (e_var 3) a_nil) (li_dd (k := 0) (li_cons li_nil) rfl rfl)) a_nil)))))))
theorem cal_read_arrow (F : FX K mg) : Cal P w K mg base (L2N.CX P w) 2 (He.fAd K ("read_arrow", none)) 1 [] a_read_arrow := let ⟨_, FD⟩ := F.def_ 13 (d := d_read_arrow); cal0 FD (ok_read_arrow F FD) fun _ _ _ _ _ _ us hl => match us, hl with | [_], _ => rfl
abbrev n_show_table : List Str := ["ground", "table", "row", "number"]
theorem sc_show_table : FnScope n_show_table ["ground", "table"] (defScope s_show_table) := ⟨rfl, rfl, rfl, by decide +kernel, rfl, by decide +kernel, by decide +kernel⟩
def a_show_table : AF := aDef 2 ((aSeq (aIf (aOrT (aB (aOp dEq (aOp dIx (aVar 1) (aC (.int 0))) (aC (.int 0)))) (aB (aOp dEq (aOp dIx (aVar 1) (aC (.int 1))) (aC (.int 0))))) (aRet (aC (.str [45]))) aNext)
  (aRet (aBM "str" (fun d ds μ => one1 (dJoin d) ds μ) (aC (.str [32, 47, 32])) (aCons (aLc (aItA (aOp dIx (aVar 1) (aC (.int 2)))) (gNm 2) aYes (aBM "str" (fun d ds μ => one1 (dJoin d) ds μ) (aC (.str [32])) (aCons (aLc (aItA (aVar 2)) (gNm 3) aYes (aCall a_show_number [] (aCons (aVar 0) (aCons (aVar 3) aNil))) [3]) aNil)) [2]) aNil)))))
theorem ok_show_table (F : FX K mg) {fd : FuncData} (FD : FunD K d_show_table.name d_show_table.qual d_show_table.params d_show_table.body d_show_table.scope (d_show_table.dvs K) [] (He.fAd K ("show_table", none)) fd) : FnOk P w K mg base (L2N.CX P w) 2 (He.fAd K ("show_table", none)) fd ["ground", "table"] (spA K 2 a_show_table) :=
  def_okN FD sc_show_table fun cdv A outer s H E hr tk =>
  (ss_cons
  (s_if (t_w (tw_or (t_cmp (op_eqAny (hu64 hr)) os_eq (e_ix (e_var 1) e_int) e_int) (tw_or1 (t_cmp (op_eqAny (hu64 hr)) os_eq (e_ix (e_var 1) e_int) e_int)))) (ss_one (s_ret (e_gstr (z := "-") [45] (h := F.str 8)))) ss_nil)
  (ss_one (s_ret (e_join (e_gstr (z := " / ") [32, 47, 32] (h := F.str 7)) (a_cons (e_lc rfl sc_show_table.nd (i_any (e_ix (e_var 1) e_int)) (own := [("row", 2)]) (show BlkOk n_show_table (defScope s_show_table) _ _ from blkd (by decide +kernel)) (fun _ _ _ _ _ => (gc_name sc_show_table.nd)) (fun _ _ _ _ _ => ts_nil) (fun _ _ _ _ _ => (e_join (e_str [32]) (a_cons (e_lc rfl sc_show_table.nd (i_any (e_var 2)) (own := [("number", 3)]) (blkd rfl) (fun _ _ _ _ _ => (gc_name sc_show_table.nd)) (fun _ _ _ _ _ => ts_nil) (fun _ _ _ _ _ => (e_call (cal_show_number F) hr (F.glo 18) no0N (a_cons (e_var 0) (a_cons (e_var 3) a_nil)) (li_dd (k := 0) (li_cons (li_cons li_nil)) rfl rfl)))) a_nil)))) a_nil)))))
theorem cal_show_table (F : FX K mg) : Cal P w K mg base (L2N.CX P w) 2 (He.fAd K ("show_table", none)) 2 [] a_show_table := let ⟨_, FD⟩ := F.def_ 10 (d := d_show_table); cal0 FD (ok_show_table F FD) fun _ _ _ _ _ _ us hl => match us, hl with | [_, _], _ => rfl
abbrev n_Ground__init : List Str := ["self", "prime"]
theorem sc_Ground__init : FnScope n_Ground__init ["self", "prime"] (defScope s_Ground__init__) := ⟨rfl, rfl, rfl, by decide +kernel, rfl, by decide +kernel, by decide +kernel⟩
def a_Ground__init : AF := aDef 0 ((aSeq (aIf (aNotT (aB (aCall a_is_ground [] (aCons (aVar 1) aNil)))) (aRaise .ground) aNext)
  (aSetF .ground 0 (aVar 0) (aVar 1))))
theorem ok_Ground__init (F : FX K mg) {fd : FuncData} (FD : FunD K d_Ground__init__.name d_Ground__init__.qual d_Ground__init__.params d_Ground__init__.body d_Ground__init__.scope (d_Ground__init__.dvs K) [] (He.fAd K ("Ground", some "__init__")) fd) : FnOk P w K mg base (L2N.CX P w) 3 (He.fAd K ("Ground", some "__init__")) fd ["self", "prime"] (spA K 2 a_Ground__init) :=
  def_okN FD sc_Ground__init fun cdv A outer s H E hr tk =>
  (ss_cons
  (s_if (t_not (t_val (e_call (cal_is_ground F) hr (F.glo 14) (L2N.passAt tk) (a_cons (e_var 1) a_nil) (li_dd (k := 0) (li_cons li_nil) rfl rfl)))) (ss_one (s_raise .ground (F.exc .ground 53 52) rfl tk)) ss_nil)
  (ss_one (s_fld .ground 0 (e_var 0) (e_var 1) (F.cls 103) (F.noat 113))))
theorem cal_Ground__init (F : FX K mg) : Cal P w K mg base (L2N.CX P w) 3 (He.fAd K ("Ground", some "__init__")) 2 [] a_Ground__init := let ⟨_, FD⟩ := F.def_ 52 (d := d_Ground__init__); cal0 FD (ok_Ground__init F FD) fun _ _ _ _ _ _ us hl => match us, hl with | [_, _], _ => rfl
abbrev n__law_lowest : List Str := ["_law_top", "_law_bottom", "_law_both"]
theorem sc__law_lowest : FnScope n__law_lowest ["_law_top", "_law_bottom"] (defScope s__law_lowest) := ⟨rfl, rfl, rfl, by decide +kernel, rfl, by decide +kernel, by decide +kernel⟩
theorem cal__law_lowest_0 (F : FX K mg) : Cal P w K mg base (L2N.CX P w) 1 (He.fAd K ("_law_lowest", none)) 2 [] aFail := let ⟨_, FD⟩ := F.def_ 19 (d := d__law_lowest); cal0 (ps := ["_law_top", "_law_bottom"]) FD fn_fail fun _ _ _ _ _ _ us hl => match us, hl with | [_, _], _ => rfl
abbrev a__law_lowest_0 : AF := aFail
def a__law_lowest_1 : AF := aDef 1 ((aSeq (aIf (aB (aOp dLt (aVar 1) (aC (.int 0)))) (aRet (aCall a__law_lowest_0 [] (aCons (aUn dNeg (aVar 0)) (aCons (aUn dNeg (aVar 1)) aNil)))) aNext)
  (aSeq (aAsg 2 (aCall a__law_gcd [] (aCons (aVar 0) (aCons (aVar 1) aNil))))
  (aRet (aTup (aCons (aOp dFdiv (aVar 0) (aVar 2)) (aCons (aOp dFdiv (aVar 1) (aVar 2)) aNil)))))))
theorem ok__law_lowest_1 (F : FX K mg) {fd : FuncData} (FD : FunD K d__law_lowest.name d__law_lowest.qual d__law_lowest.params d__law_lowest.body d__law_lowest.scope (d__law_lowest.dvs K) [] (He.fAd K ("_law_lowest", none)) fd) : FnOk P w K mg base (L2N.CX P w) 2 (He.fAd K ("_law_lowest", none)) fd ["_law_top", "_law_bottom"] (spA K 2 a__law_lowest_1) :=
  def_okN FD sc__law_lowest fun cdv A outer s H E hr tk =>
  (ss_cons
  (s_if (t_cmp op_lt os_lt (e_var 1) e_int) (ss_one (s_ret (e_call (cal__law_lowest_0 F) hr (F.glo 28) (L2N.passAt tk) (a_cons (e_un un_neg us_neg (e_var 0)) (a_cons (e_un un_neg us_neg (e_var 1)) a_nil)) (li_dd (k := 0) (li_cons (li_cons li_nil)) rfl rfl)))) ss_nil)
  (ss_cons
  (s_set sc__law_lowest.nd (e_call (cal__law_gcd F) hr (F.glo 27) (L2N.passAt tk) (a_cons (e_var 0) (a_cons (e_var 1) a_nil)) (li_dd (k := 0) (li_cons (li_cons li_nil)) rfl rfl)))
  (ss_one (s_ret (e_tup (a_cons (e_op op_fdivW os_fdiv (e_var 0) (e_var 2)) (a_cons (e_op op_fdivW os_fdiv (e_var 1) (e_var 2)) a_nil)))))))
theorem cal__law_lowest_1 (F : FX K mg) : Cal P w K mg base (L2N.CX P w) 2 (He.fAd K ("_law_lowest", none)) 2 [] a__law_lowest_1 := let ⟨_, FD⟩ := F.def_ 19 (d := d__law_lowest); cal0 FD (ok__law_lowest_1 F FD) fun _ _ _ _ _ _ us hl => match us, hl with | [_, _], _ => rfl
def a__law_lowest_2 : AF := aDef 1 ((aSeq (aIf (aB (aOp dLt (aVar 1) (aC (.int 0)))) (aRet (aCall a__law_lowest_1 [] (aCons (aUn dNeg (aVar 0)) (aCons (aUn dNeg (aVar 1)) aNil)))) aNext)
  (aSeq (aAsg 2 (aCall a__law_gcd [] (aCons (aVar 0) (aCons (aVar 1) aNil))))
  (aRet (aTup (aCons (aOp dFdiv (aVar 0) (aVar 2)) (aCons (aOp dFdiv (aVar 1) (aVar 2)) aNil)))))))
theorem ok__law_lowest_2 (F : FX K mg) {fd : FuncData} (FD : FunD K d__law_lowest.name d__law_lowest.qual d__law_lowest.params d__law_lowest.body d__law_lowest.scope (d__law_lowest.dvs K) [] (He.fAd K ("_law_lowest", none)) fd) : FnOk P w K mg base (L2N.CX P w) 3 (He.fAd K ("_law_lowest", none)) fd ["_law_top", "_law_bottom"] (spA K 2 a__law_lowest_2) :=
  def_okN FD sc__law_lowest fun cdv A outer s H E hr tk =>
  (ss_cons
  (s_if (t_cmp op_lt os_lt (e_var 1) e_int) (ss_one (s_ret (e_call (cal__law_lowest_1 F) hr (F.glo 28) (L2N.passAt tk) (a_cons (e_un un_neg us_neg (e_var 0)) (a_cons (e_un un_neg us_neg (e_var 1)) a_nil)) (li_dd (k := 0) (li_cons (li_cons li_nil)) rfl rfl)))) ss_nil)
  (ss_cons
  (s_set sc__law_lowest.nd (e_call (cal__law_gcd F) hr (F.glo 27) (L2N.passAt tk) (a_cons (e_var 0) (a_cons (e_var 1) a_nil)) (li_dd (k := 0) (li_cons (li_cons li_nil)) rfl rfl)))
  (ss_one (s_ret (e_tup (a_cons (e_op op_fdivW os_fdiv (e_var 0) (e_var 2)) (a_cons (e_op op_fdivW os_fdiv (e_var 1) (e_var 2)) a_nil)))))))
theorem cal__law_lowest_2 (F : FX K mg) : Cal P w K mg base (L2N.CX P w) 3 (He.fAd K ("_law_lowest", none)) 2 [] a__law_lowest_2 := let ⟨_, FD⟩ := F.def_ 19 (d := d__law_lowest); cal0 FD (ok__law_lowest_2 F FD) fun _ _ _ _ _ _ us hl => match us, hl with | [_, _], _ => rfl
abbrev a__law_lowest : AF := a__law_lowest_2
theorem cal__law_lowest (F : FX K mg) : Cal P w K mg base (L2N.CX P w) 3 (He.fAd K ("_law_lowest", none)) 2 [] a__law_lowest := cal__law_lowest_2 F
abbrev n__law_read : List Str := ["_law_text", "_law_words", "_law_many", "_law_arrows", "_law_good", "_law_arrow", "_law_word"]
theorem sc__law_read : FnScope n__law_read ["_law_text"] (defScope s__law_read) := ⟨rfl, rfl, rfl, by decide +kernel, rfl, by decide +kernel, by decide +kernel⟩
def a__law_read : AF := aDef 6 ((aSeq (aAsg 1 (aBM "str" (mSS cSpl splD) (aVar 0) (aCons (aC (.str [32])) aNil)))
  (aSeq (aAsg 2 (aCall a__law_read_whole [] (aCons (aSl (aOp dIx (aVar 1) (aC (.int 0))) aNoPart (aPart (aUn dNeg (aC (.int 1))))) aNil)))
  (aSeq (aAsg 3 (aLc (aItA (aSl (aVar 1) (aPart (aC (.int 1))) aNoPart)) (gNm 6) aYes (aCall a__law_arrow_read [] (aCons (aVar 6) aNil)) [6]))
  (aSeq (aIf (aOrT (aB (aOp dNe (aSl (aOp dIx (aVar 1) (aC (.int 0))) (aPart (aUn dNeg (aC (.int 1)))) aNoPart) (aC (.str [58])))) (aOrT (aB (aOp dIsN (aVar 2) (aC .non))) (aB (aOp dIn (aC .non) (aVar 3))))) (aRet (aC (.str [116, 101, 120, 116]))) aNext)
  (aSeq (aAsg 4 (aAndV (aChain dLe dLe (aC (.int 1)) (aVar 2) (aC (.int 8))) (aOp dLt (aCB (one1 dLen) (aCons (aVar 3) aNil)) (aC (.int 10)))))
  (aSeq (aFor (aItA (aVar 3)) (gNm 5) (aAsg 4 (aAndV (aVar 4) (aAndV (aOp dLt (aOp dIx (aVar 5) (aC (.int 0))) (aVar 2)) (aOp dLt (aOp dIx (aVar 5) (aC (.int 1))) (aVar 2))))))
  (aRet (aOp dIx (aLst (aCons (aC (.str [100, 114, 97, 119, 105, 110, 103])) (aCons (aTup (aCons (aVar 2) (aCons (aVar 3) aNil))) aNil))) (aCB (one1 dInt) (aCons (aVar 4) aNil)))))))))))
theorem ok__law_read (F : FX K mg) {fd : FuncData} (FD : FunD K d__law_read.name d__law_read.qual d__law_read.params d__law_read.body d__law_read.scope (d__law_read.dvs K) [] (He.fAd K ("_law_read", none)) fd) : FnOk P w K mg base (L2N.CX P w) 3 (He.fAd K ("_law_read", none)) fd ["_law_text"] (spA K 1 a__law_read) :=
  def_okN FD sc__law_read fun cdv A outer s H E hr tk =>
  (ss_cons
  (s_set sc__law_read.nd (e_split (e_var 0) (a_cons (e_str [32]) a_nil)))
  (ss_cons
  (s_set sc__law_read.nd (e_call (cal__law_read_whole F) hr (F.glo 38) (L2N.passAt tk) (a_cons (e_slice (e_ix (e_var 1) e_int) o_none (o_some (e_un un_neg us_neg e_int))) a_nil) (li_dd (k := 0) (li_cons li_nil) rfl rfl)))
  (ss_cons
  (s_setLc rfl sc__law_read.nd (i_any (e_slice (e_var 1) (o_some e_int) o_none)) (own := [("_law_word", 6)]) (show BlkOk n__law_read (defScope s__law_read) _ _ from blkd (by decide +kernel)) rfl (fun _ _ _ _ _ => (gc_name sc__law_read.nd)) (fun _ _ _ _ _ => ts_nil) (fun _ _ _ _ _ => (e_call (cal__law_arrow_read F) hr (F.glo 43) no0N (a_cons (e_var 6) a_nil) (li_dd (k := 0) (li_cons li_nil) rfl rfl))))
  (ss_cons
  (s_if (t_w (tw_or (t_cmp (op_neAny (hu64 hr)) os_ne (e_slice (e_ix (e_var 1) e_int) (o_some (e_un un_neg us_neg e_int)) o_none) (e_str [58])) (tw_or (t_cmp Z.op_isN1 os_isN (e_var 2) e_non) (tw_or1 (t_cmp (op_inAny (hu_of hr)) os_in e_non (e_var 3)))))) (ss_one (s_ret (e_str [116, 101, 120, 116]))) ss_nil)
  (ss_cons
  (s_set sc__law_read.nd (e_and (e_chain op_le op_le os_le os_le e_int (e_var 2) e_int) (e_one (e_cmp op_lt os_lt (e_callB call_len cs_len (F.free 120) (a_cons (e_var 3) a_nil)) e_int))))
  (ss_cons
  (s_for (passes_of rfl) rfl (i_any (e_var 3)) (g_name sc__law_read.nd) (ss_one (s_set sc__law_read.nd (e_and (e_var 4) (e_and (e_cmp op_lt os_lt (e_ix (e_var 5) e_int) (e_var 2)) (e_one (e_cmp op_lt os_lt (e_ix (e_var 5) e_int) (e_var 2))))))))
  (ss_one (s_ret (e_ix (e_lst (a_cons (e_str [100, 114, 97, 119, 105, 110, 103]) (a_cons (e_tup (a_cons (e_var 2) (a_cons (e_var 3) a_nil))) a_nil))) (e_callTy call_intAny cs_int (F.free 118) (a_cons (e_var 4) a_nil)))))))))))
theorem cal__law_read (F : FX K mg) : Cal P w K mg base (L2N.CX P w) 3 (He.fAd K ("_law_read", none)) 1 [] a__law_read := let ⟨_, FD⟩ := F.def_ 35 (d := d__law_read); cal0 FD (ok__law_read F FD) fun _ _ _ _ _ _ us hl => match us, hl with | [_], _ => rfl
abbrev n__law_spoilt : List Str := ["_law_bag_here", "_law_many", "_law_arrows", "_law_way", "_law_more"]
theorem sc__law_spoilt : FnScope n__law_spoilt ["_law_bag_here", "_law_many", "_law_arrows"] (defScope s__law_spoilt) := ⟨rfl, rfl, rfl, by decide +kernel, rfl, by decide +kernel, by decide +kernel⟩
def a__law_spoilt : AF := aDef 2 ((aSeq (aAsg 3 (aCall a__law_draw [] (aCons (aVar 0) (aCons (aC (.int 5)) aNil))))
  (aSeq (aIf (aB (aOp dEq (aVar 3) (aC (.int 0)))) (aRet (aCall a__law_odd [] (aCons (aVar 0) aNil))) aNext)
  (aSeq (aIf (aB (aOp dEq (aVar 3) (aC (.int 1)))) (aRet (aCall a__law_drawing_shown [] (aCons (aCall a__law_draw [] (aCons (aVar 0) (aCons (aC (.int 10)) aNil))) (aCons (aVar 2) aNil)))) aNext)
  (aSeq (aIf (aB (aOp dEq (aVar 3) (aC (.int 2)))) (aSeq (aAsg 4 (aLst (aCons (aTup (aCons (aCall a__law_draw [] (aCons (aVar 0) (aCons (aC (.int 10)) aNil))) (aCons (aCall a__law_draw [] (aCons (aVar 0) (aCons (aC (.int 10)) aNil))) aNil))) (aCons (aTup (aCons (aC (.int 0)) (aCons (aC (.int 0)) aNil))) aNil))))
  (aRet (aCall a__law_drawing_shown [] (aCons (aVar 1) (aCons (aOp dAdd (aVar 2) (aVar 4)) aNil))))) aNext)
  (aRet (aCall a__law_sign_spoilt [] (aCons (aCall a__law_drawing_shown [] (aCons (aVar 1) (aCons (aVar 2) aNil))) (aCons (aVar 0) aNil)))))))))
theorem ok__law_spoilt (F : FX K mg) {fd : FuncData} (FD : FunD K d__law_spoilt.name d__law_spoilt.qual d__law_spoilt.params d__law_spoilt.body d__law_spoilt.scope (d__law_spoilt.dvs K) [] (He.fAd K ("_law_spoilt", none)) fd) : FnOk P w K mg base (L2N.CX P w) 3 (He.fAd K ("_law_spoilt", none)) fd ["_law_bag_here", "_law_many", "_law_arrows"] (spA K 3 a__law_spoilt) :=
  def_okN FD sc__law_spoilt fun cdv A outer s H E hr tk =>
  (ss_cons
  (s_set sc__law_spoilt.nd (e_call (cal__law_draw F) hr (F.glo 26) (L2N.passAt tk) (a_cons (e_var 0) (a_cons e_int a_nil)) (li_dd (k := 0) (li_cons (li_cons li_nil)) rfl rfl)))
  (ss_cons
  (s_if (t_cmp (op_eqAny (hu64 hr)) os_eq (e_var 3) e_int) (ss_one (s_ret (e_call (cal__law_odd F) hr (F.glo 46) (L2N.passAt tk) (a_cons (e_var 0) a_nil) (li_dd (k := 0) (li_cons li_nil) rfl rfl)))) ss_nil)
  (ss_cons
  (s_if (t_cmp (op_eqAny (hu64 hr)) os_eq (e_var 3) e_int) (ss_one (s_ret (e_call (cal__law_drawing_shown F) hr (F.glo 42) (L2N.passAt tk) (a_cons (e_call (cal__law_draw F) hr (F.glo 26) (L2N.passAt tk) (a_cons (e_var 0) (a_cons e_int a_nil)) (li_dd (k := 0) (li_cons (li_cons li_nil)) rfl rfl)) (a_cons (e_var 2) a_nil)) (li_dd (k := 0) (li_cons (li_cons li_nil)) rfl rfl)))) ss_nil)
  (ss_cons
  (s_if (t_cmp (op_eqAny (hu64 hr)) os_eq (e_var 3) e_int) (ss_cons
  (s_set sc__law_spoilt.nd (e_lst (a_cons (e_tup (a_cons (e_call (cal__law_draw F) hr (F.glo 26) (L2N.passAt tk) (a_cons (e_var 0) (a_cons e_int a_nil)) (li_dd (k := 0) (li_cons (li_cons li_nil)) rfl rfl)) (a_cons (e_call (cal__law_draw F) hr (F.glo 26) (L2N.passAt tk) (a_cons (e_var 0) (a_cons e_int a_nil)) (li_dd (k := 0) (li_cons (li_cons li_nil)) rfl rfl)) a_nil))) (a_cons (e_tup (a_cons e_int (a_cons e_int a_nil))) a_nil))))
  (ss_one (s_ret (e_call (cal__law_drawing_shown F) hr (F.glo 42) (L2N.passAt tk) (a_cons (e_var 1) (a_cons (e_op op_addAny os_add (e_var 2) (e_var 4)) a_nil)) (li_dd (k := 0) (li_cons (li_cons li_nil)) rfl rfl))))) ss_nil)
  (ss_one (s_ret (e_call (cal__law_sign_spoilt F) hr (F.glo 40) (L2N.passAt tk) (a_cons (e_call (cal__law_drawing_shown F) hr (F.glo 42) (L2N.passAt tk) (a_cons (e_var 1) (a_cons (e_var 2) a_nil)) (li_dd (k := 0) (li_cons (li_cons li_nil)) rfl rfl)) (a_cons (e_var 0) a_nil)) (li_dd (k := 0) (li_cons (li_cons li_nil)) rfl rfl))))))))
theorem cal__law_spoilt (F : FX K mg) : Cal P w K mg base (L2N.CX P w) 3 (He.fAd K ("_law_spoilt", none)) 3 [] a__law_spoilt := let ⟨_, FD⟩ := F.def_ 38 (d := d__law_spoilt); cal0 FD (ok__law_spoilt F FD) fun _ _ _ _ _ _ us hl => match us, hl with | [_, _, _], _ => rfl
abbrev n_must_be_drawing : List Str := ["many", "arrows", "arrow"]
theorem sc_must_be_drawing : FnScope n_must_be_drawing ["many", "arrows"] (defScope s_must_be_drawing) := ⟨rfl, rfl, rfl, by decide +kernel, rfl, by decide +kernel, by decide +kernel⟩
def a_must_be_drawing : AF := aDef 1 ((aSeq (aIf (aOrT (aNotT (aB (aCall a_is_whole_drawings [] (aCons (aVar 0) aNil)))) (aNotT (aB (aChain dLe dLe (aC (.int 1)) (aVar 0) (aC (.int 8)))))) (aRaise .drawing) aNext)
  (aSeq (aIf (aOrT (aNotT (aB (aCB (two2 dIsi) (aCons (aVar 1) (aCons (aC (.ty "list")) aNil))))) (aB (aOp dGt (aCB (one1 dLen) (aCons (aVar 1) aNil)) (aC (.int 9))))) (aRaise .drawing) aNext)
  (aIf (aNotT (aB (aCB (one1 (dAllQ fun bs => bs.all id)) (aCons (aLc (aItA (aVar 1)) (gNm 2) aYes (aCall a_is_arrow [] (aCons (aVar 2) (aCons (aVar 0) aNil))) [2]) aNil)))) (aRaise .drawing) aNext))))
theorem ok_must_be_drawing (F : FX K mg) {fd : FuncData} (FD : FunD K d_must_be_drawing.name d_must_be_drawing.qual d_must_be_drawing.params d_must_be_drawing.body d_must_be_drawing.scope (d_must_be_drawing.dvs K) [] (He.fAd K ("must_be_drawing", none)) fd) : FnOk P w K mg base (L2N.CX P w) 3 (He.fAd K ("must_be_drawing", none)) fd ["many", "arrows"] (spA K 2 a_must_be_drawing) :=
  def_okN FD sc_must_be_drawing fun cdv A outer s H E hr tk =>
  (ss_cons
  (s_if (t_w (tw_or (t_not (t_val (e_call (cal_is_whole_drawings F) hr (F.glo 2) (L2N.passAt tk) (a_cons (e_var 0) a_nil) (li_dd (k := 0) (li_cons li_nil) rfl rfl)))) (tw_or1 (t_not (t_chain op_le op_le os_le os_le e_int (e_var 0) (e_gint (h := F.int 0))))))) (ss_one (s_raise .drawing (F.exc .drawing 62 61) rfl tk)) ss_nil)
  (ss_cons
  (s_if (t_w (tw_or (t_not (t_val (e_callB call_isi cs_isi (F.free 119) (a_cons (e_var 1) (a_cons (e_ty (T := "list") (hm := (F.free 121))) a_nil))))) (tw_or1 (t_cmp op_gt os_gt (e_callB call_len cs_len (F.free 120) (a_cons (e_var 1) a_nil)) (e_gint (h := F.int 1)))))) (ss_one (s_raise .drawing (F.exc .drawing 62 61) rfl tk)) ss_nil)
  (ss_one (s_if (t_not (t_val (e_callB (cr_all rfl) cs_allQ (F.free 116) (a_cons (e_lc rfl sc_must_be_drawing.nd (i_any (e_var 1)) (own := [("arrow", 2)]) (show BlkOk n_must_be_drawing (defScope s_must_be_drawing) _ _ from blkd (by decide +kernel)) (fun _ _ _ _ _ => (gc_name sc_must_be_drawing.nd)) (fun _ _ _ _ _ => ts_nil) (fun _ _ _ _ _ => (e_call (cal_is_arrow F) hr (F.glo 11) no0N (a_cons (e_var 2) (a_cons (e_var 0) a_nil)) (li_dd (k := 0) (li_cons (li_cons li_nil)) rfl rfl)))) a_nil)))) (ss_one (s_raise .drawing (F.exc .drawing 62 61) rfl tk)) ss_nil))))
theorem cal_must_be_drawing (F : FX K mg) : Cal P w K mg base (L2N.CX P w) 3 (He.fAd K ("must_be_drawing", none)) 2 [] a_must_be_drawing := let ⟨_, FD⟩ := F.def_ 3 (d := d_must_be_drawing); cal0 FD (ok_must_be_drawing F FD) fun _ _ _ _ _ _ us hl => match us, hl with | [_, _], _ => rfl
abbrev n_Drawing__init : List Str := ["self", "many", "arrows"]
theorem sc_Drawing__init : FnScope n_Drawing__init ["self", "many", "arrows"] (defScope s_Drawing__init__) := ⟨rfl, rfl, rfl, by decide +kernel, rfl, by decide +kernel, by decide +kernel⟩
def a_Drawing__init : AF := aDef 0 ((aSeq (aDrop (aCall a_must_be_drawing [] (aCons (aVar 1) (aCons (aVar 2) aNil))))
  (aSeq (aSetF .drawing 0 (aVar 0) (aVar 1))
  (aSetF .drawing 1 (aVar 0) (aCB (one1 dLs) (aCons (aVar 2) aNil))))))
theorem ok_Drawing__init (F : FX K mg) {fd : FuncData} (FD : FunD K d_Drawing__init__.name d_Drawing__init__.qual d_Drawing__init__.params d_Drawing__init__.body d_Drawing__init__.scope (d_Drawing__init__.dvs K) [] (He.fAd K ("Drawing", some "__init__")) fd) : FnOk P w K mg base (L2N.CX P w) 4 (He.fAd K ("Drawing", some "__init__")) fd ["self", "many", "arrows"] (spA K 3 a_Drawing__init) :=
  def_okN FD sc_Drawing__init fun cdv A outer s H E hr tk =>
  (ss_cons
  (s_expr (e_call (cal_must_be_drawing F) hr (F.glo 12) (L2N.passAt tk) (a_cons (e_var 1) (a_cons (e_var 2) a_nil)) (li_dd (k := 0) (li_cons (li_cons li_nil)) rfl rfl)))
  (ss_cons
  (s_fld .drawing 0 (e_var 0) (e_var 1) (F.cls 89) (F.noat 101))
  (ss_one (s_fld .drawing 1 (e_var 0) (e_callTy call_list_of cs_listOf (F.free 121) (a_cons (e_var 2) a_nil)) (F.cls 89) (F.noat 100)))))
theorem cal_Drawing__init (F : FX K mg) : Cal P w K mg base (L2N.CX P w) 4 (He.fAd K ("Drawing", some "__init__")) 3 [] a_Drawing__init := let ⟨_, FD⟩ := F.def_ 42 (d := d_Drawing__init__); cal0 FD (ok_Drawing__init F FD) fun _ _ _ _ _ _ us hl => match us, hl with | [_, _, _], _ => rfl
abbrev n__law_add : List Str := ["_law_p", "_law_a", "_law_b"]
theorem sc__law_add : FnScope n__law_add ["_law_p", "_law_a", "_law_b"] (defScope s__law_add) := ⟨rfl, rfl, rfl, by decide +kernel, rfl, by decide +kernel, by decide +kernel⟩
def a__law_add : AF := aDef 0 ((aSeq (aIf (aB (aOp dGt (aVar 0) (aC (.int 0)))) (aRet (aOp dMod (aOp dAdd (aVar 1) (aVar 2)) (aVar 0))) aNext)
  (aRet (aCall a__law_lowest [] (aCons (aOp dAdd (aOp dMul (aOp dIx (aVar 1) (aC (.int 0))) (aOp dIx (aVar 2) (aC (.int 1)))) (aOp dMul (aOp dIx (aVar 2) (aC (.int 0))) (aOp dIx (aVar 1) (aC (.int 1))))) (aCons (aOp dMul (aOp dIx (aVar 1) (aC (.int 1))) (aOp dIx (aVar 2) (aC (.int 1)))) aNil))))))
theorem ok__law_add (F : FX K mg) {fd : FuncData} (FD : FunD K d__law_add.name d__law_add.qual d__law_add.params d__law_add.body d__law_add.scope (d__law_add.dvs K) [] (He.fAd K ("_law_add", none)) fd) : FnOk P w K mg base (L2N.CX P w) 4 (He.fAd K ("_law_add", none)) fd ["_law_p", "_law_a", "_law_b"] (spA K 3 a__law_add) :=
  def_okN FD sc__law_add fun cdv A outer s H E hr tk =>
  (ss_cons
  (s_if (t_cmp op_gt os_gt (e_var 0) e_int) (ss_one (s_ret (e_op op_mod os_mod (e_op op_addAny os_add (e_var 1) (e_var 2)) (e_var 0)))) ss_nil)
  (ss_one (s_ret (e_call (cal__law_lowest F) hr (F.glo 28) (L2N.passAt tk) (a_cons (e_op op_addAny os_add (e_op op_mulAny os_mul (e_ix (e_var 1) e_int) (e_ix (e_var 2) e_int)) (e_op op_mulAny os_mul (e_ix (e_var 2) e_int) (e_ix (e_var 1) e_int))) (a_cons (e_op op_mulAny os_mul (e_ix (e_var 1) e_int) (e_ix (e_var 2) e_int)) a_nil)) (li_dd (k := 0) (li_cons (li_cons li_nil)) rfl rfl)))))
theorem cal__law_add (F : FX K mg) : Cal P w K mg base (L2N.CX P w) 4 (He.fAd K ("_law_add", none)) 3 [] a__law_add := let ⟨_, FD⟩ := F.def_ 23 (d := d__law_add); cal0 FD (ok__law_add F FD) fun _ _ _ _ _ _ us hl => match us, hl with | [_, _, _], _ => rfl
abbrev n__law_mul : List Str := ["_law_p", "_law_a", "_law_b"]
theorem sc__law_mul : FnScope n__law_mul ["_law_p", "_law_a", "_law_b"] (defScope s__law_mul) := ⟨rfl, rfl, rfl, by decide +kernel, rfl, by decide +kernel, by decide +kernel⟩
def a__law_mul : AF := aDef 0 ((aSeq (aIf (aB (aOp dGt (aVar 0) (aC (.int 0)))) (aRet (aOp dMod (aOp dMul (aVar 1) (aVar 2)) (aVar 0))) aNext)
  (aRet (aCall a__law_lowest [] (aCons (aOp dMul (aOp dIx (aVar 1) (aC (.int 0))) (aOp dIx (aVar 2) (aC (.int 0)))) (aCons (aOp dMul (aOp dIx (aVar 1) (aC (.int 1))) (aOp dIx (aVar 2) (aC (.int 1)))) aNil))))))
theorem ok__law_mul (F : FX K mg) {fd : FuncData} (FD : FunD K d__law_mul.name d__law_mul.qual d__law_mul.params d__law_mul.body d__law_mul.scope (d__law_mul.dvs K) [] (He.fAd K ("_law_mul", none)) fd) : FnOk P w K mg base (L2N.CX P w) 4 (He.fAd K ("_law_mul", none)) fd ["_law_p", "_law_a", "_law_b"] (spA K 3 a__law_mul) :=
  def_okN FD sc__law_mul fun cdv A outer s H E hr tk =>
  (ss_cons
  (s_if (t_cmp op_gt os_gt (e_var 0) e_int) (ss_one (s_ret (e_op op_mod os_mod (e_op op_mulAny os_mul (e_var 1) (e_var 2)) (e_var 0)))) ss_nil)
  (ss_one (s_ret (e_call (cal__law_lowest F) hr (F.glo 28) (L2N.passAt tk) (a_cons (e_op op_mulAny os_mul (e_ix (e_var 1) e_int) (e_ix (e_var 2) e_int)) (a_cons (e_op op_mulAny os_mul (e_ix (e_var 1) e_int) (e_ix (e_var 2) e_int)) a_nil)) (li_dd (k := 0) (li_cons (li_cons li_nil)) rfl rfl)))))
theorem cal__law_mul (F : FX K mg) : Cal P w K mg base (L2N.CX P w) 4 (He.fAd K ("_law_mul", none)) 3 [] a__law_mul := let ⟨_, FD⟩ := F.def_ 24 (d := d__law_mul); cal0 FD (ok__law_mul F FD) fun _ _ _ _ _ _ us hl => match us, hl with | [_, _, _], _ => rfl
abbrev n__law_number : List Str := ["_law_bag_here", "_law_p", "_law_way"]
theorem sc__law_number : FnScope n__law_number ["_law_bag_here", "_law_p"] (defScope s__law_number) := ⟨rfl, rfl, rfl, by decide +kernel, rfl, by decide +kernel, by decide +kernel⟩
def a__law_number : AF := aDef 1 ((aSeq (aIf (aB (aOp dGt (aVar 1) (aC (.int 0)))) (aRet (aCall a__law_draw [] (aCons (aVar 0) (aCons (aVar 1) aNil)))) aNext)
  (aSeq (aAsg 2 (aCall a__law_draw [] (aCons (aVar 0) (aCons (aC (.int 8)) aNil))))
  (aSeq (aIf (aB (aOp dEq (aVar 2) (aC (.int 0)))) (aRet (aCall a__law_lowest [] (aCons (aOp dSub (aCall a__law_draw [] (aCons (aVar 0) (aCons (aC (.int 20001)) aNil))) (aC (.int 10000))) (aCons (aOp dAdd (aC (.int 1)) (aCall a__law_draw [] (aCons (aVar 0) (aCons (aC (.int 500)) aNil)))) aNil)))) aNext)
  (aSeq (aIf (aB (aOp dLt (aVar 2) (aC (.int 4)))) (aRet (aCall a__law_lowest [] (aCons (aOp dSub (aCall a__law_draw [] (aCons (aVar 0) (aCons (aC (.int 13)) aNil))) (aC (.int 6))) (aCons (aOp dAdd (aC (.int 1)) (aCall a__law_draw [] (aCons (aVar 0) (aCons (aC (.int 4)) aNil)))) aNil)))) aNext)
  (aRet (aOp dIx (aLst (aCons (aTup (aCons (aC (.int 0)) (aCons (aC (.int 1)) aNil))) (aCons (aTup (aCons (aC (.int 1)) (aCons (aC (.int 1)) aNil))) (aCons (aTup (aCons (aUn dNeg (aC (.int 1))) (aCons (aC (.int 1)) aNil))) (aCons (aTup (aCons (aC (.int 2)) (aCons (aC (.int 1)) aNil))) aNil))))) (aOp dSub (aVar 2) (aC (.int 4))))))))))
theorem ok__law_number (F : FX K mg) {fd : FuncData} (FD : FunD K d__law_number.name d__law_number.qual d__law_number.params d__law_number.body d__law_number.scope (d__law_number.dvs K) [] (He.fAd K ("_law_number", none)) fd) : FnOk P w K mg base (L2N.CX P w) 4 (He.fAd K ("_law_number", none)) fd ["_law_bag_here", "_law_p"] (spA K 2 a__law_number) :=
  def_okN FD sc__law_number fun cdv A outer s H E hr tk =>
  (ss_cons
  (s_if (t_cmp op_gt os_gt (e_var 1) e_int) (ss_one (s_ret (e_call (cal__law_draw F) hr (F.glo 26) (L2N.passAt tk) (a_cons (e_var 0) (a_cons (e_var 1) a_nil)) (li_dd (k := 0) (li_cons (li_cons li_nil)) rfl rfl)))) ss_nil)
  (ss_cons
  (s_set sc__law_number.nd (e_call (cal__law_draw F) hr (F.glo 26) (L2N.passAt tk) (a_cons (e_var 0) (a_cons e_int a_nil)) (li_dd (k := 0) (li_cons (li_cons li_nil)) rfl rfl)))
  (ss_cons
  (s_if (t_cmp (op_eqAny (hu64 hr)) os_eq (e_var 2) e_int) (ss_one (s_ret (e_call (cal__law_lowest F) hr (F.glo 28) (L2N.passAt tk) (a_cons (e_op op_sub os_sub (e_call (cal__law_draw F) hr (F.glo 26) (L2N.passAt tk) (a_cons (e_var 0) (a_cons e_int a_nil)) (li_dd (k := 0) (li_cons (li_cons li_nil)) rfl rfl)) e_int) (a_cons (e_op op_addAny os_add e_int (e_call (cal__law_draw F) hr (F.glo 26) (L2N.passAt tk) (a_cons (e_var 0) (a_cons e_int a_nil)) (li_dd (k := 0) (li_cons (li_cons li_nil)) rfl rfl))) a_nil)) (li_dd (k := 0) (li_cons (li_cons li_nil)) rfl rfl)))) ss_nil)
  (ss_cons
  (s_if (t_cmp op_lt os_lt (e_var 2) e_int) (ss_one (s_ret (e_call (cal__law_lowest F) hr (F.glo 28) (L2N.passAt tk) (a_cons (e_op op_sub os_sub (e_call (cal__law_draw F) hr (F.glo 26) (L2N.passAt tk) (a_cons (e_var 0) (a_cons e_int a_nil)) (li_dd (k := 0) (li_cons (li_cons li_nil)) rfl rfl)) e_int) (a_cons (e_op op_addAny os_add e_int (e_call (cal__law_draw F) hr (F.glo 26) (L2N.passAt tk) (a_cons (e_var 0) (a_cons e_int a_nil)) (li_dd (k := 0) (li_cons (li_cons li_nil)) rfl rfl))) a_nil)) (li_dd (k := 0) (li_cons (li_cons li_nil)) rfl rfl)))) ss_nil)
  (ss_one (s_ret (e_ix (e_lst (a_cons (e_tup (a_cons e_int (a_cons e_int a_nil))) (a_cons (e_tup (a_cons e_int (a_cons e_int a_nil))) (a_cons (e_tup (a_cons (e_un un_neg us_neg e_int) (a_cons e_int a_nil))) (a_cons (e_tup (a_cons e_int (a_cons e_int a_nil))) a_nil))))) (e_op op_sub os_sub (e_var 2) e_int))))))))
theorem cal__law_number (F : FX K mg) : Cal P w K mg base (L2N.CX P w) 4 (He.fAd K ("_law_number", none)) 2 [] a__law_number := let ⟨_, FD⟩ := F.def_ 22 (d := d__law_number); cal0 FD (ok__law_number F FD) fun _ _ _ _ _ _ us hl => match us, hl with | [_, _], _ => rfl
abbrev n__law_rows : List Str := ["_law_bag_here", "_law_p", "_law_high", "_law_wide", "_law_thin", "_law_rows_here", "_law_i", "_law_row", "_law_j", "_law_number_here"]
theorem sc__law_rows : FnScope n__law_rows ["_law_bag_here", "_law_p", "_law_high", "_law_wide"] (defScope s__law_rows) := ⟨rfl, rfl, rfl, by decide +kernel, rfl, by decide +kernel, by decide +kernel⟩
def a__law_rows : AF := aDef 6 ((aSeq (aAsg 4 (aOp dAdd (aC (.int 1)) (aCall a__law_draw [] (aCons (aVar 0) (aCons (aC (.int 3)) aNil)))))
  (aSeq (aAsg 5 (aLstM aNil))
  (aSeq (aFor (aItR1 (aCons (aVar 2) aNil)) (gNm 6) (aSeq (aAsg 7 (aLstM aNil))
  (aSeq (aFz 7 (aFor (aItR1 (aCons (aVar 3) aNil)) (gNm 8) (aSeq (aAsg 9 (aCall a__law_number [] (aCons (aVar 0) (aCons (aVar 1) aNil))))
  (aIf (aB (aOp dLt (aCall a__law_draw [] (aCons (aVar 0) (aCons (aC (.int 4)) aNil))) (aVar 4))) (aDrop (aBM "list" (fun d ds μ => one1 (dAppend d) ds μ) (aVar 7) (aCons (aVar 9) aNil))) (aDrop (aBM "list" (fun d ds μ => one1 (dAppend d) ds μ) (aVar 7) (aCons (aCall a__law_int [] (aCons (aVar 1) (aCons (aC (.int 0)) aNil))) aNil)))))))
  (aDrop (aBM "list" (fun d ds μ => one1 (dAppend d) ds μ) (aVar 5) (aCons (aVar 7) aNil))))))
  (aRet (aVar 5))))))
theorem ok__law_rows (F : FX K mg) {fd : FuncData} (FD : FunD K d__law_rows.name d__law_rows.qual d__law_rows.params d__law_rows.body d__law_rows.scope (d__law_rows.dvs K) [] (He.fAd K ("_law_rows", none)) fd) : FnOk P w K mg base (L2N.CX P w) 5 (He.fAd K ("_law_rows", none)) fd ["_law_bag_here", "_law_p", "_law_high", "_law_wide"] (spA K 4 a__law_rows) :=
  def_okN FD sc__law_rows fun cdv A outer s H E hr tk =>
  (ss_cons
  (s_set sc__law_rows.nd (e_op op_addAny os_add e_int (e_call (cal__law_draw F) hr (F.glo 26) (L2N.passAt tk) (a_cons (e_var 0) (a_cons e_int a_nil)) (li_dd (k := 0) (li_cons (li_cons li_nil)) rfl rfl))))
  (ss_cons
  (s_set sc__law_rows.nd (e_lstM a_nil))
  (ss_cons
  (s_for (passes_of rfl) rfl (i_range1 (F.free 122) (a_cons (e_var 2) a_nil)) (g_name sc__law_rows.nd) (ss_cons
  (s_set sc__law_rows.nd (e_lstM a_nil))
  (ss_cons
  (s_fz 7 (s_for (passes_of rfl) rfl (i_range1 (F.free 122) (a_cons (e_var 3) a_nil)) (g_name sc__law_rows.nd) (ss_cons
  (s_set sc__law_rows.nd (e_call (cal__law_number F) hr (F.glo 31) (L2N.passAt tk) (a_cons (e_var 0) (a_cons (e_var 1) a_nil)) (li_dd (k := 0) (li_cons (li_cons li_nil)) rfl rfl)))
  (ss_one (s_if (t_cmp op_lt os_lt (e_call (cal__law_draw F) hr (F.glo 26) (L2N.passAt tk) (a_cons (e_var 0) (a_cons e_int a_nil)) (li_dd (k := 0) (li_cons (li_cons li_nil)) rfl rfl)) (e_var 4)) (ss_one (s_expr (e_append (e_var 7) (a_cons (e_var 9) a_nil)))) (ss_one (s_expr (e_append (e_var 7) (a_cons (e_call (cal__law_int F) hr (F.glo 34) (L2N.passAt tk) (a_cons (e_var 1) (a_cons e_int a_nil)) (li_dd (k := 0) (li_cons (li_cons li_nil)) rfl rfl)) a_nil)))))))))
  (ss_one (s_expr (e_append (e_var 5) (a_cons (e_var 7) a_nil)))))))
  (ss_one (s_ret (e_var 5))))))
theorem cal__law_rows (F : FX K mg) : Cal P w K mg base (L2N.CX P w) 5 (He.fAd K ("_law_rows", none)) 4 [] a__law_rows := let ⟨_, FD⟩ := F.def_ 26 (d := d__law_rows); cal0 FD (ok__law_rows F FD) fun _ _ _ _ _ _ us hl => match us, hl with | [_, _, _, _], _ => rfl
abbrev n__law_table : List Str := ["_law_bag_here", "_law_p", "_law_high", "_law_wide", "_law_rows_here", "_law_a", "_law_number_here", "_law_b", "_law_c"]
theorem sc__law_table : FnScope n__law_table ["_law_bag_here", "_law_p", "_law_high", "_law_wide"] (defScope s__law_table) := ⟨rfl, rfl, rfl, by decide +kernel, rfl, by decide +kernel, by decide +kernel⟩
def a__law_table : AF := aCut (aDef 5 ((aSeq (aAsg 4 (aCall a__law_rows [] (aCons (aVar 0) (aCons (aVar 1) (aCons (aVar 2) (aCons (aVar 3) aNil))))))
  (aSeq (aFz 4 (aIf (aAndT (aB (aOp dGt (aVar 2) (aC (.int 1)))) (aB (aOp dEq (aCall a__law_draw [] (aCons (aVar 0) (aCons (aC (.int 3)) aNil))) (aC (.int 0))))) (aSeq (aAsg 5 (aCall a__law_number [] (aCons (aVar 0) (aCons (aVar 1) aNil))))
  (aSeq (aAsgG (aLc (aItA (aOp dIx (aVar 4) (aC (.int 0)))) (gNm 6) aYes (aCall a__law_mul [] (aCons (aVar 1) (aCons (aVar 5) (aCons (aVar 6) aNil)))) [6]) (gIx (aVar 4) (aUn dNeg (aC (.int 1)))))
  (aIf (aAndT (aB (aOp dGt (aVar 2) (aC (.int 2)))) (aB (aOp dEq (aCall a__law_draw [] (aCons (aVar 0) (aCons (aC (.int 2)) aNil))) (aC (.int 0))))) (aAsgG (aLc (aItZ (aCons (aOp dIx (aVar 4) (aUn dNeg (aC (.int 1)))) (aCons (aOp dIx (aVar 4) (aC (.int 1))) aNil))) (gTp 2 (gsCons (gNm 7) (gsCons (gNm 8) gsNil))) aYes (aCall a__law_add [] (aCons (aVar 1) (aCons (aVar 7) (aCons (aVar 8) aNil)))) [7, 8]) (gIx (aVar 4) (aUn dNeg (aC (.int 1))))) aNext))) aNext))
  (aRet (aTup (aCons (aVar 2) (aCons (aVar 3) (aCons (aVar 4) aNil)))))))))
theorem ok__law_table (F : FX K mg) {fd : FuncData} (FD : FunD K d__law_table.name d__law_table.qual d__law_table.params d__law_table.body d__law_table.scope (d__law_table.dvs K) [] (He.fAd K ("_law_table", none)) fd) : FnOk P w K mg base (L2N.CX P w) 6 (He.fAd K ("_law_table", none)) fd ["_law_bag_here", "_law_p", "_law_high", "_law_wide"] (spA K 4 a__law_table) :=
  FnOk.cut <| def_okN FD sc__law_table fun cdv A outer s H E hr tk =>
  (ss_cons
  (s_set sc__law_table.nd (e_call (cal__law_rows F) hr (F.glo 35) (L2N.passAt tk) (a_cons (e_var 0) (a_cons (e_var 1) (a_cons (e_var 2) (a_cons (e_var 3) a_nil)))) (li_dd (k := 0) (li_cons (li_cons (li_cons (li_cons li_nil)))) rfl rfl)))
  (ss_cons
  (s_fz 4 (s_if (t_w (tw_and (t_cmp op_gt os_gt (e_var 2) e_int) (tw_and1 (t_cmp (op_eqAny (hu64 hr)) os_eq (e_call (cal__law_draw F) hr (F.glo 26) (L2N.passAt tk) (a_cons (e_var 0) (a_cons e_int a_nil)) (li_dd (k := 0) (li_cons (li_cons li_nil)) rfl rfl)) e_int)))) (ss_cons
  (s_set sc__law_table.nd (e_call (cal__law_number F) hr (F.glo 31) (L2N.passAt tk) (a_cons (e_var 0) (a_cons (e_var 1) a_nil)) (li_dd (k := 0) (li_cons (li_cons li_nil)) rfl rfl)))
  (ss_cons
  (s_asg (e_lc rfl sc__law_table.nd (i_any (e_ix (e_var 4) e_int)) (own := [("_law_number_here", 6)]) (show BlkOk n__law_table (defScope s__law_table) _ _ from blkd (by decide +kernel)) (fun _ _ _ _ _ => (gc_name sc__law_table.nd)) (fun _ _ _ _ _ => ts_nil) (fun _ _ _ _ _ => (e_call (cal__law_mul F) hr (F.glo 33) no0N (a_cons (e_var 1) (a_cons (e_var 5) (a_cons (e_var 6) a_nil))) (li_dd (k := 0) (li_cons (li_cons (li_cons li_nil))) rfl rfl)))) (g_ix (e_var 4) (e_un un_neg us_neg e_int) (fun _ _ pa pb => pg_sub pa pb set_list)))
  (ss_one (s_if (t_w (tw_and (t_cmp op_gt os_gt (e_var 2) e_int) (tw_and1 (t_cmp (op_eqAny (hu64 hr)) os_eq (e_call (cal__law_draw F) hr (F.glo 26) (L2N.passAt tk) (a_cons (e_var 0) (a_cons e_int a_nil)) (li_dd (k := 0) (li_cons (li_cons li_nil)) rfl rfl)) e_int)))) (ss_one (s_asg (e_lc rfl sc__law_table.nd (i_zip (F.free 125) (a_cons (e_ix (e_var 4) (e_un un_neg us_neg e_int)) (a_cons (e_ix (e_var 4) e_int) a_nil))) (own := [("_law_b", 7), ("_law_c", 8)]) (show BlkOk n__law_table (defScope s__law_table) _ _ from blkd (by decide +kernel)) (fun _ _ _ _ _ => (gc_tup (n := 2) (gcs_cons (gc_name sc__law_table.nd) (gcs_cons (gc_name sc__law_table.nd) gcs_nil)) (fun _ h => pg_tup rfl h))) (fun _ _ _ _ _ => ts_nil) (fun _ _ _ _ _ => (e_call (cal__law_add F) hr (F.glo 32) no0N (a_cons (e_var 1) (a_cons (e_var 7) (a_cons (e_var 8) a_nil))) (li_dd (k := 0) (li_cons (li_cons (li_cons li_nil))) rfl rfl)))) (g_ix (e_var 4) (e_un un_neg us_neg e_int) (fun _ _ pa pb => pg_sub pa pb set_list)))) ss_nil)))) ss_nil))
  (ss_one (s_ret (e_tup (a_cons (e_var 2) (a_cons (e_var 3) (a_cons (e_var 4) a_nil))))))))
theorem cal__law_table (F : FX K mg) : Cal P w K mg base (L2N.CX P w) 6 (He.fAd K ("_law_table", none)) 4 [] a__law_table := let ⟨_, FD⟩ := F.def_ 27 (d := d__law_table); cal0 FD (ok__law_table F FD) fun _ _ _ _ _ _ us hl => match us, hl with | [_, _, _, _], _ => rfl
abbrev n_read_drawing : List Str := ["text", "many", "colon", "rest", "number", "word"]
theorem sc_read_drawing : FnScope n_read_drawing ["text"] (defScope s_read_drawing) := ⟨rfl, rfl, rfl, by decide +kernel, rfl, by decide +kernel, by decide +kernel⟩
def a_read_drawing : AF := aDef 5 ((aSeq (aAsgG (aBM "str" (mSS cPar parD) (aVar 0) (aCons (aC (.str [58])) aNil)) (gTp 3 (gsCons (gNm 1) (gsCons (gNm 2) (gsCons (gNm 3) gsNil)))))
  (aSeq (aIf (aB (aOp dNe (aVar 2) (aC (.str [58])))) (aRaise .text) aNext)
  (aSeq (aAsg 4 (aCall a_read_whole [] (aCons (aVar 1) aNil)))
  (aSeq (aIf (aB (aOp dEq (aVar 3) (aC (.str [])))) (aRet (aMake .drawing a_Drawing__init [] (aCons (aVar 4) (aCons (aLst aNil) aNil)))) aNext)
  (aSeq (aIf (aNotT (aB (aBM "str" (mSS cNe fun a b => .bl (TL.pre b a)) (aVar 3) (aCons (aC (.str [32])) aNil)))) (aRaise .text) aNext)
  (aRet (aMake .drawing a_Drawing__init [] (aCons (aVar 4) (aCons (aLcX (aItA (aBM "str" (mSS cSpl splD) (aSl (aVar 3) (aPart (aC (.int 1))) aNoPart) (aCons (aC (.str [32])) aNil))) (gNm 5) aYes (aCall a_read_arrow [] (aCons (aVar 5) aNil)) [5]) aNil))))))))))
theorem ok_read_drawing (F : FX K mg) {fd : FuncData} (FD : FunD K d_read_drawing.name d_read_drawing.qual d_read_drawing.params d_read_drawing.body d_read_drawing.scope (d_read_drawing.dvs K) [] (He.fAd K ("read_drawing", none)) fd) : FnOk P w K mg base (L2N.CX P w) 6 (He.fAd K ("read_drawing", none)) fd ["text"] (spA K 1 a_read_drawing) :=
  def_okN FD sc_read_drawing fun cdv A outer s H E hr tk =>
  (ss_cons
  (s_asg (e_partition (e_var 0) (a_cons (e_str [58]) a_nil)) (g_tup (k := 0) (n := 3) rfl (gs_cons (g_name sc_read_drawing.nd) (gs_cons (g_name sc_read_drawing.nd) (gs_cons (g_name sc_read_drawing.nd) gs_nil))) (fun _ h => pg_tup rfl h)))
  (ss_cons
  (s_if (t_cmp (op_neAny (hu64 hr)) os_ne (e_var 2) (e_str [58])) (ss_one (s_raise .text (F.exc .text 80 79) rfl tk)) ss_nil)
  (ss_cons
  (s_set sc_read_drawing.nd (e_call (cal_read_whole F) hr (F.glo 21) (L2N.passAt tk) (a_cons (e_var 1) a_nil) (li_dd (k := 0) (li_cons li_nil) rfl rfl)))
  (ss_cons
  (s_if (t_cmp (op_eqAny (hu64 hr)) os_eq (e_var 3) (e_str [])) (ss_one (s_ret (e_make .drawing (F.mkr 90) (cal_Drawing__init F) hr (F.glo 88) (L2N.passAt tk) (a_cons (e_var 4) (a_cons (e_lst a_nil) a_nil)) (li_dd (k := 0) (li_cons (li_cons li_nil)) rfl rfl)))) ss_nil)
  (ss_cons
  (s_if (t_not (t_val (e_starts (e_var 3) (a_cons (e_str [32]) a_nil)))) (ss_one (s_raise .text (F.exc .text 80 79) rfl tk)) ss_nil)
  (ss_one (s_ret (e_make .drawing (F.mkr 90) (cal_Drawing__init F) hr (F.glo 88) (L2N.passAt tk) (a_cons (e_var 4) (a_cons (e_lcX rfl sc_read_drawing.nd tk (i_any (e_split (e_slice (e_var 3) (o_some e_int) o_none) (a_cons (e_str [32]) a_nil))) (own := [("word", 5)]) (show BlkOk n_read_drawing (defScope s_read_drawing) _ _ from blkd (by decide +kernel)) (fun _ _ _ _ _ _ => (gc_name sc_read_drawing.nd)) (fun _ _ _ _ _ _ => ts_nil) (fun _ _ _ _ _ W' xe tp => (e_call (cal_read_arrow F) hr (F.glo 22) tp (a_cons (e_var 5) a_nil) (li_dd (k := 0) (li_cons li_nil) rfl rfl)))) a_nil)) (li_dd (k := 0) (li_cons (li_cons li_nil)) rfl rfl)))))))))
theorem cal_read_drawing (F : FX K mg) : Cal P w K mg base (L2N.CX P w) 6 (He.fAd K ("read_drawing", none)) 1 [] a_read_drawing := let ⟨_, FD⟩ := F.def_ 14 (d := d_read_drawing); cal0 FD (ok_read_drawing F FD) fun _ _ _ _ _ _ us hl => match us, hl with | [_], _ => rfl
abbrev n__law_asked : List Str := ["_law_text", "_law_found", "_law_e", "_law_arrow", "_law_end"]
theorem sc__law_asked : FnScope n__law_asked ["_law_text"] (defScope s__law_asked) := ⟨rfl, rfl, rfl, by decide +kernel, rfl, by decide +kernel, by decide +kernel⟩
def a__law_asked : AF := aDef 4 ((aSeq (aTryA [.drawing, .text] .limb 2 (aAsg 1 (aCall a_read_drawing [] (aCons (aVar 0) aNil))) (aRet (aOp dIx (aLst (aCons (aC (.str [111, 116, 104, 101, 114])) (aCons (aOp dIx (aLst (aCons (aC (.str [116, 101, 120, 116])) (aCons (aC (.str [100, 114, 97, 119, 105, 110, 103])) aNil))) (aCB (one1 dInt) (aCons (aCB (two2 (dIsE esk csk)) (aCons (aVar 2) (aCons (aC (.ecl .drawing)) aNil))) aNil))) aNil))) (aCB (one1 dInt) (aCons (aOrV (aCall aq__law_alone [] (aCons (aVar 2) (aCons (aC (.int 0)) aNil))) (aCall aq__law_alone [] (aCons (aVar 2) (aCons (aC (.int 1)) aNil)))) aNil)))))
  (aSeq (aIf (aOrT (aNotT (aB (aCall a__law_whole [] (aCons (aUn (dFld .drawing 0) (aVar 1)) aNil)))) (aNotT (aB (aCB (two2 dIsi) (aCons (aUn (dFld .drawing 1) (aVar 1)) (aCons (aC (.ty "list")) aNil)))))) (aRet (aC (.str [111, 116, 104, 101, 114]))) aNext)
  (aSeq (aFor (aItA (aUn (dFld .drawing 1) (aVar 1))) (gNm 3) (aIf (aOrT (aNotT (aB (aCB (two2 dIsi) (aCons (aVar 3) (aCons (aC (.ty "tuple")) aNil))))) (aNotT (aB (aCB (one1 (dAllQ fun bs => bs.all id)) (aCons (aLc (aItA (aVar 3)) (gNm 4) aYes (aCall a__law_whole [] (aCons (aVar 4) aNil)) [4]) aNil))))) (aRet (aC (.str [111, 116, 104, 101, 114]))) aNext))
  (aRet (aTup (aCons (aUn (dFld .drawing 0) (aVar 1)) (aCons (aUn (dFld .drawing 1) (aVar 1)) aNil))))))))
theorem ok__law_asked (F : FX K mg) {fd : FuncData} (FD : FunD K d__law_asked.name d__law_asked.qual d__law_asked.params d__law_asked.body d__law_asked.scope (d__law_asked.dvs K) [] (He.fAd K ("_law_asked", none)) fd) : FnOk P w K mg base (L2.CX P w) 7 (He.fAd K ("_law_asked", none)) fd ["_law_text"] (spA K 1 a__law_asked) :=
  def_okC FD sc__law_asked fun cdv A outer s H E hr tk =>
  (ss_cons
  (s_tryA (i := 2) [.drawing, .text] .limb (List.forall_mem_cons.mpr ⟨F.exm 130, List.forall_mem_cons.mpr ⟨F.exm 136, List.forall_mem_nil _⟩⟩) (F.glo 49) sc__law_asked.nd tk (fun W' pn xe t1 po => (ss_one (s_set sc__law_asked.nd (e_call (cal_read_drawing F) hr (F.glo 23) (L2N.passAt (Z.takesN t1)) (a_cons (e_var 0) a_nil) (li_dd (k := 0) (li_cons li_nil) rfl rfl))))) (fun e a oe pn he hz hf => (ss_one (s_ret (e_ix (e_lst (a_cons (e_str [111, 116, 104, 101, 114]) (a_cons (e_ix (e_lst (a_cons (e_str [116, 101, 120, 116]) (a_cons (e_str [100, 114, 97, 119, 105, 110, 103]) a_nil))) (e_callTy call_intAny cs_int (F.free 118) (a_cons (e_isE (hotX1_suite hz hf) (isk F) (show _ ∈ esk from mem_of_sub (by decide) he) (F.free 119) (a_cons (e_var 2) (a_cons (e_gecl .drawing (h := (F.glo 61))) a_nil))) a_nil))) a_nil))) (e_callTy call_intAny cs_int (F.free 118) (a_cons (e_or (e_callQ (calq__law_alone F) (show RoomH 6 _ from ⟨hr.dp, hr.un⟩) (hotX1_suite hz hf) (show _ ∈ esk from mem_of_sub (by decide) he) (F.glo 39) no0Z (a_cons (e_var 2) (a_cons e_int a_nil)) (li_cons (li_cons li_nil))) (e_one (e_callQ (calq__law_alone F) (show RoomH 6 _ from ⟨hr.dp, hr.un⟩) (hotX1_suite hz hf) (show _ ∈ esk from mem_of_sub (by decide) he) (F.glo 39) no0Z (a_cons (e_var 2) (a_cons e_int a_nil)) (li_cons (li_cons li_nil))))) a_nil)))))))
  (ss_cons
  (s_if (t_w (tw_or (t_not (t_val (e_call (cal__law_whole F) hr (F.glo 29) (L2N.passAt (Z.takesN tk)) (a_cons (e_fld .drawing 0 (e_var 1) (F.cls 89) (F.noat 101)) a_nil) (li_dd (k := 0) (li_cons li_nil) rfl rfl)))) (tw_or1 (t_not (t_val (e_callB call_isi cs_isi (F.free 119) (a_cons (e_fld .drawing 1 (e_var 1) (F.cls 89) (F.noat 100)) (a_cons (e_ty (T := "list") (hm := (F.free 121))) a_nil)))))))) (ss_one (s_ret (e_str [111, 116, 104, 101, 114]))) ss_nil)
  (ss_cons
  (s_for (passes_of rfl) rfl (i_any (e_fld .drawing 1 (e_var 1) (F.cls 89) (F.noat 100))) (g_name sc__law_asked.nd) (ss_one (s_if (t_w (tw_or (t_not (t_val (e_callB call_isi cs_isi (F.free 119) (a_cons (e_var 3) (a_cons (e_ty (T := "tuple") (hm := (F.free 124))) a_nil))))) (tw_or1 (t_not (t_val (e_callB (cr_all rfl) cs_allQ (F.free 116) (a_cons (e_lc rfl sc__law_asked.nd (i_any (e_var 3)) (own := [("_law_end", 4)]) (show BlkOk n__law_asked (defScope s__law_asked) _ _ from blkd (by decide +kernel)) (fun _ _ _ _ _ => (gc_name sc__law_asked.nd)) (fun _ _ _ _ _ => ts_nil) (fun _ _ _ _ _ => (e_call (cal__law_whole F) hr (F.glo 29) no0N (a_cons (e_var 4) a_nil) (li_dd (k := 0) (li_cons li_nil) rfl rfl)))) a_nil))))))) (ss_one (s_ret (e_str [111, 116, 104, 101, 114]))) ss_nil)))
  (ss_one (s_ret (e_tup (a_cons (e_fld .drawing 0 (e_var 1) (F.cls 89) (F.noat 101)) (a_cons (e_fld .drawing 1 (e_var 1) (F.cls 89) (F.noat 100)) a_nil))))))))
theorem cal__law_asked (F : FX K mg) : Cal P w K mg base (L2.CX P w) 7 (He.fAd K ("_law_asked", none)) 1 [] a__law_asked := let ⟨_, FD⟩ := F.def_ 36 (d := d__law_asked); cal0 FD (ok__law_asked F FD) fun _ _ _ _ _ _ us hl => match us, hl with | [_], _ => rfl
abbrev n_law : List Str := ["_law_script", "_law_cell_here", "_law_bag_here", "_law_p", "_law_most", "_law_high", "_law_table_here", "_law_many", "_law_arrows", "_law_k", "_law_tail", "_law_text", "_law_turn", "_law_bad"]
theorem sc_law : FnScope n_law ["_law_script"] (defScope s_law) := ⟨rfl, rfl, rfl, by decide +kernel, rfl, by decide +kernel, by decide +kernel⟩
def a_law : AF := aDef 13 ((aSeq (aFor (aItA (aOp dAdd (aLst (aCons (aCall a__law_cell [] (aCons (aVar 0) (aCons (aC (.int 0)) aNil))) (aCons (aC (.int 3)) aNil))) (aSl (aVar 0) (aPart (aC (.int 1))) (aPart (aC (.int 10)))))) (gNm 1) (aSeq (aAsg 2 (aCall a__law_bag [] (aCons (aVar 1) aNil)))
  (aSeq (aAsg 3 (aCall a__law_prime [] (aCons (aVar 2) aNil)))
  (aSeq (aAsg 4 (aOp dIx (aLst (aCons (aC (.int 4)) (aCons (aC (.int 6)) aNil))) (aCB (one1 dInt) (aCons (aOp dGt (aVar 3) (aC (.int 0))) aNil))))
  (aSeq (aAsg 5 (aCall a__law_draw [] (aCons (aVar 2) (aCons (aOp dAdd (aVar 4) (aC (.int 1))) aNil))))
  (aSeq (aAsg 6 (aCall a__law_table [] (aCons (aVar 2) (aCons (aVar 3) (aCons (aVar 5) (aCons (aCall a__law_draw [] (aCons (aVar 2) (aCons (aOp dAdd (aVar 4) (aC (.int 1))) aNil))) aNil))))))
  (aSeq (aIf (aB (aOp dNe (aCall a_show_table [] (aCons (aMake .ground a_Ground__init [] (aCons (aVar 3) aNil)) (aCons (aVar 6) aNil))) (aCall a__law_table_shown [] (aCons (aVar 3) (aCons (aVar 6) aNil))))) (aRet (aC (.bl false))) aNext)
  (aSeq (aAsg 7 (aOp dAdd (aC (.int 1)) (aCall a__law_draw [] (aCons (aVar 2) (aCons (aC (.int 8)) aNil)))))
  (aSeq (aAsg 8 (aLstM aNil))
  (aSeq (aFz 8 (aFor (aItR1 (aCons (aCall a__law_draw [] (aCons (aVar 2) (aCons (aC (.int 10)) aNil))) aNil)) (gNm 9) (aSeq (aAsg 10 (aCall a__law_draw [] (aCons (aVar 2) (aCons (aVar 7) aNil))))
  (aDrop (aBM "list" (fun d ds μ => one1 (dAppend d) ds μ) (aVar 8) (aCons (aTup (aCons (aVar 10) (aCons (aCall a__law_draw [] (aCons (aVar 2) (aCons (aVar 7) aNil))) aNil))) aNil))))))
  (aSeq (aAsg 11 (aCall a__law_drawing_shown [] (aCons (aVar 7) (aCons (aVar 8) aNil))))
  (aSeq (aIf (aOrT (aB (aOp dNe (aCall a_show_drawing [] (aCons (aMake .drawing a_Drawing__init [] (aCons (aVar 7) (aCons (aCB (one1 dLs) (aCons (aVar 8) aNil)) aNil))) aNil)) (aVar 11))) (aB (aOp dNe (aCall a__law_asked [] (aCons (aVar 11) aNil)) (aTup (aCons (aVar 7) (aCons (aVar 8) aNil)))))) (aRet (aC (.bl false))) aNext)
  (aFor (aItR1 (aCons (aC (.int 4)) aNil)) (gNm 12) (aSeq (aAsg 13 (aCall a__law_spoilt [] (aCons (aVar 2) (aCons (aVar 7) (aCons (aVar 8) aNil)))))
  (aIf (aB (aOp dNe (aCall a__law_asked [] (aCons (aVar 13) aNil)) (aCall a__law_read [] (aCons (aVar 13) aNil)))) (aRet (aC (.bl false))) aNext)))))))))))))))
  (aRet (aC (.bl true)))))
theorem ok_law (F : FX K mg) {fd : FuncData} (FD : FunD K d_law.name d_law.qual d_law.params d_law.body d_law.scope (d_law.dvs K) [] (He.fAd K ("law", none)) fd) : FnOk P w K mg base (L2.CX P w) 8 (He.fAd K ("law", none)) fd ["_law_script"] (spA K 1 a_law) :=
  def_okC FD sc_law fun cdv A outer s H E hr tk =>
  (ss_cons
  (s_for (passes_of rfl) rfl (i_any (e_op op_addAny os_add (e_lst (a_cons (e_call (cal__law_cell F) hr (F.glo 24) (L2N.passAt (Z.takesN tk)) (a_cons (e_var 0) (a_cons e_int a_nil)) (li_dd (k := 0) (li_cons (li_cons li_nil)) rfl rfl)) (a_cons e_int a_nil))) (e_slice (e_var 0) (o_some e_int) (o_some e_int)))) (g_name sc_law.nd) (ss_cons
  (s_set sc_law.nd (e_call (cal__law_bag F) hr (F.glo 25) (L2N.passAt (Z.takesN tk)) (a_cons (e_var 1) a_nil) (li_dd (k := 0) (li_cons li_nil) rfl rfl)))
  (ss_cons
  (s_set sc_law.nd (e_call (cal__law_prime F) hr (F.glo 30) (L2N.passAt (Z.takesN tk)) (a_cons (e_var 2) a_nil) (li_dd (k := 0) (li_cons li_nil) rfl rfl)))
  (ss_cons
  (s_set sc_law.nd (e_ix (e_lst (a_cons e_int (a_cons e_int a_nil))) (e_callTy call_intAny cs_int (F.free 118) (a_cons (e_cmp op_gt os_gt (e_var 3) e_int) a_nil))))
  (ss_cons
  (s_set sc_law.nd (e_call (cal__law_draw F) hr (F.glo 26) (L2N.passAt (Z.takesN tk)) (a_cons (e_var 2) (a_cons (e_op op_addAny os_add (e_var 4) e_int) a_nil)) (li_dd (k := 0) (li_cons (li_cons li_nil)) rfl rfl)))
  (ss_cons
  (s_set sc_law.nd (e_call (cal__law_table F) hr (F.glo 36) (L2N.passAt (Z.takesN tk)) (a_cons (e_var 2) (a_cons (e_var 3) (a_cons (e_var 5) (a_cons (e_call (cal__law_draw F) hr (F.glo 26) (L2N.passAt (Z.takesN tk)) (a_cons (e_var 2) (a_cons (e_op op_addAny os_add (e_var 4) e_int) a_nil)) (li_dd (k := 0) (li_cons (li_cons li_nil)) rfl rfl)) a_nil)))) (li_dd (k := 0) (li_cons (li_cons (li_cons (li_cons li_nil)))) rfl rfl)))
  (ss_cons
  (s_if (t_cmp (op_neAny (hu64 hr)) os_ne (e_call (cal_show_table F) hr (F.glo 19) (L2N.passAt (Z.takesN tk)) (a_cons (e_make .ground (F.mkr 104) (cal_Ground__init F) hr (F.glo 102) (L2N.passAt (Z.takesN tk)) (a_cons (e_var 3) a_nil) (li_dd (k := 0) (li_cons li_nil) rfl rfl)) (a_cons (e_var 6) a_nil)) (li_dd (k := 0) (li_cons (li_cons li_nil)) rfl rfl)) (e_call (cal__law_table_shown F) hr (F.glo 41) (L2N.passAt (Z.takesN tk)) (a_cons (e_var 3) (a_cons (e_var 6) a_nil)) (li_dd (k := 0) (li_cons (li_cons li_nil)) rfl rfl))) (ss_one (s_ret e_bl)) ss_nil)
  (ss_cons
  (s_set sc_law.nd (e_op op_addAny os_add e_int (e_call (cal__law_draw F) hr (F.glo 26) (L2N.passAt (Z.takesN tk)) (a_cons (e_var 2) (a_cons e_int a_nil)) (li_dd (k := 0) (li_cons (li_cons li_nil)) rfl rfl))))
  (ss_cons
  (s_set sc_law.nd (e_lstM a_nil))
  (ss_cons
  (s_fz 8 (s_for (passes_of rfl) rfl (i_range1 (F.free 122) (a_cons (e_call (cal__law_draw F) hr (F.glo 26) (L2N.passAt (Z.takesN tk)) (a_cons (e_var 2) (a_cons e_int a_nil)) (li_dd (k := 0) (li_cons (li_cons li_nil)) rfl rfl)) a_nil)) (g_name sc_law.nd) (ss_cons
  (s_set sc_law.nd (e_call (cal__law_draw F) hr (F.glo 26) (L2N.passAt (Z.takesN tk)) (a_cons (e_var 2) (a_cons (e_var 7) a_nil)) (li_dd (k := 0) (li_cons (li_cons li_nil)) rfl rfl)))
  (ss_one (s_expr (e_append (e_var 8) (a_cons (e_tup (a_cons (e_var 10) (a_cons (e_call (cal__law_draw F) hr (F.glo 26) (L2N.passAt (Z.takesN tk)) (a_cons (e_var 2) (a_cons (e_var 7) a_nil)) (li_dd (k := 0) (li_cons (li_cons li_nil)) rfl rfl)) a_nil))) a_nil)))))))
  (ss_cons
  (s_set sc_law.nd (e_call (cal__law_drawing_shown F) hr (F.glo 42) (L2N.passAt (Z.takesN tk)) (a_cons (e_var 7) (a_cons (e_var 8) a_nil)) (li_dd (k := 0) (li_cons (li_cons li_nil)) rfl rfl)))
  (ss_cons
  (s_if (t_w (tw_or (t_cmp (op_neAny (hu64 hr)) os_ne (e_call (cal_show_drawing F) hr (F.glo 20) (L2N.passAt (Z.takesN tk)) (a_cons (e_make .drawing (F.mkr 90) (cal_Drawing__init F) hr (F.glo 88) (L2N.passAt (Z.takesN tk)) (a_cons (e_var 7) (a_cons (e_callTy call_list_of cs_listOf (F.free 121) (a_cons (e_var 8) a_nil)) a_nil)) (li_dd (k := 0) (li_cons (li_cons li_nil)) rfl rfl)) a_nil) (li_dd (k := 0) (li_cons li_nil) rfl rfl)) (e_var 11)) (tw_or1 (t_cmp (op_neAny (hu64 hr)) os_ne (e_call (cal__law_asked F) hr (F.glo 45) (Z.passC tk) (a_cons (e_var 11) a_nil) (li_dd (k := 0) (li_cons li_nil) rfl rfl)) (e_tup (a_cons (e_var 7) (a_cons (e_var 8) a_nil))))))) (ss_one (s_ret e_bl)) ss_nil)
  (ss_one (s_for (passes_of rfl) rfl (i_range1 (F.free 122) (a_cons e_int a_nil)) (g_name sc_law.nd) (ss_cons
  (s_set sc_law.nd (e_call (cal__law_spoilt F) hr (F.glo 47) (L2N.passAt (Z.takesN tk)) (a_cons (e_var 2) (a_cons (e_var 7) (a_cons (e_var 8) a_nil))) (li_dd (k := 0) (li_cons (li_cons (li_cons li_nil))) rfl rfl)))
  (ss_one (s_if (t_cmp (op_neAny (hu64 hr)) os_ne (e_call (cal__law_asked F) hr (F.glo 45) (Z.passC tk) (a_cons (e_var 13) a_nil) (li_dd (k := 0) (li_cons li_nil) rfl rfl)) (e_call (cal__law_read F) hr (F.glo 44) (L2N.passAt (Z.takesN tk)) (a_cons (e_var 13) a_nil) (li_dd (k := 0) (li_cons li_nil) rfl rfl))) (ss_one (s_ret e_bl)) ss_nil)))))))))))))))))
  (ss_one (s_ret e_bl)))
theorem cal_law (F : FX K mg) : Cal P w K mg base (L2.CX P w) 8 (He.fAd K ("law", none)) 1 [] a_law := let ⟨_, FD⟩ := F.def_ 39 (d := d_law); cal0 FD (ok_law F FD) fun _ _ _ _ _ _ us hl => match us, hl with | [_], _ => rfl
end
end HD

set_option Elab.async false
set_option linter.all false
set_option maxRecDepth 100000
set_option maxHeartbeats 2000000
/-! the plain side: the abstract functions computed by simp. -/
namespace Z
open PySem PySem.Spec PyProof.Rows L2 L2H
section
variable {env : En} {μ : Sto} {A B C : AE} {As : AA} {S1 S2 S : ATS} {P P1 P2 : AT} {i j : Nat} {d e : D} {f g : D → D → Sto → R D}
@[simp ↓] theorem q_bind {α β : Type} {r : R α} {f : α → Sto → R β} : r.bind f = match r with
  | .ok a μ => f a μ
  | .ex c μ => .ex c μ
  | .fail => .fail := rfl
@[simp ↓] theorem q_st {α : Type} {r : R α} {f : α → Sto → Fl} : r.st env f = match r with
  | .ok a μ => f a μ
  | .ex c μ => .ex c env μ
  | .fail => .fail := rfl
@[simp ↓] theorem q_chain {f' : D → D → Sto → R D} : aChain f f' A B C env μ = (A env μ).bind fun d μ1 => (B env μ1).bind fun e μ2 => (f d e μ2).bind fun z μ3 => match z with
  | .bl true => (C env μ3).bind fun w μ4 => f' e w μ4
  | .bl false => .ok (.bl false) μ3
  | _ => .fail := rfl
@[simp ↓] theorem q_ifE : aIfE P A B env μ = (P env μ).bind fun k m => if k = true then A env m else B env m := rfl
@[simp ↓] theorem q_def {loc : Nat} {ds : List D} : aDef loc S ds μ = (S (startA loc ds) μ).res := rfl
@[simp ↓] theorem q_defQ {loc : Nat} {ds : List D} : aDefQ loc S ds μ = (S (startA loc ds) μ).res.noex := rfl
@[simp ↓] theorem q_cut {a : AF} {ds : List D} : aCut a ds μ = (a ds μ).cut μ.length := rfl
@[simp ↓] theorem q_start {loc : Nat} {ds : List D} : startA loc ds = ds.map some ++ List.replicate loc none := rfl
@[simp] theorem q_res1 : (Fl.rt d μ).res = .ok d μ := rfl
@[simp] theorem q_res2 : (Fl.nx env μ).res = .ok .non μ := rfl
@[simp] theorem q_res3 {c : Ec} : (Fl.ex c env μ).res = .ex c μ := rfl
@[simp] theorem q_res4 : (Fl.fail).res = .fail := rfl
@[simp ↓] theorem q_next : aNext env μ = .nx env μ := rfl
@[simp ↓] theorem q_ret : aRet A env μ = (A env μ).st env fun d m => .rt d m := rfl
@[simp ↓] theorem q_retN : aRetN env μ = .rt .non μ := rfl
@[simp ↓] theorem q_brk : aBreak env μ = .bk env μ := rfl
@[simp ↓] theorem q_cont : aCont env μ = .ct env μ := rfl
@[simp ↓] theorem q_raise {c : Ec} : aRaise c env μ = .ex c env μ := rfl
@[simp ↓] theorem q_drop : aDrop A env μ = (A env μ).st env fun _ m => .nx env m := rfl
@[simp ↓] theorem q_seq : aSeq S1 S2 env μ = match S1 env μ with | .nx e m => S2 e m | z => z := rfl



@[simp ↓] theorem q_if : aIf P S1 S2 env μ = (P env μ).st env fun k m => if k = true then S1 env m else S2 env m := rfl
@[simp ↓] theorem q_asg : aAsg i A env μ = (A env μ).st env fun d m => .nx (env.set i (some d)) m := rfl
@[simp ↓] theorem q_asgG {ga : D → ATS} : aAsgG A ga env μ = (A env μ).st env fun d m => ga d env m := rfl
@[simp ↓] theorem q_gnm : gNm i d env μ = .nx (env.set i (some d)) μ := rfl
@[simp ↓] theorem q_gtp {n : Nat} {a : List D → ATS} {ds : List D} : gTp n a (.tup ds) env μ = if ds.length = n then a ds env μ else .fail := rfl
@[simp ↓] theorem q_gix {v : D} : gIx A B v env μ = (A env μ).st env fun o m1 => (B env m1).st env fun i m2 => match o, i with
  | .ob n, .int z => (match m2[n]? with
    | some (.lst xs) => (match ixN xs.length z with
      | some j => .nx env (m2.set n (.lst (xs.set j v)))
      | none => .fail)
    | _ => .fail)
  | _, _ => .fail := rfl
@[simp ↓] theorem q_par : aPar i j As env μ = (As env μ).st env fun ds m => match ds with
  | [d, e] => .nx ((env.set i (some d)).set j (some e)) m
  | _ => .fail := rfl
@[simp ↓] theorem q_var : aVar i env μ = match env[i]? with
  | some (some d) => .ok d μ
  | _ => .fail := rfl
@[simp ↓] theorem q_c : aC d env μ = .ok d μ := rfl
@[simp ↓] theorem q_op : aOp f A B env μ = (A env μ).bind fun d m1 => (B env m1).bind fun e m2 => f d e m2 := rfl
@[simp ↓] theorem q_un {u : D → Sto → R D} : aUn u A env μ = (A env μ).bind fun d m => u d m := rfl
@[simp ↓] theorem q_b : aB A env μ = (A env μ).bind fun d m => match d with
  | .bl b => .ok b m
  | _ => .fail := rfl
@[simp ↓] theorem q_nil : aNil env μ = .ok [] μ := rfl
@[simp ↓] theorem q_cons : aCons A As env μ = (A env μ).bind fun d m1 => (As env m1).bind fun ds m2 => .ok (d :: ds) m2 := rfl
@[simp ↓] theorem q_cb {u : List D → Sto → R D} : aCB u As env μ = (As env μ).bind fun ds m => u ds m := rfl
@[simp ↓] theorem q_one {u : D → Sto → R D} : one1 u [d] μ = u d μ := rfl
@[simp ↓] theorem q_two : two2 f [d, e] μ = f d e μ := rfl
@[simp ↓] theorem q_call {a : AF} {dd : List D} : aCall a dd As env μ = (As env μ).bind fun ds m => a (ds ++ dd) m := rfl
@[simp ↓] theorem q_tup : aTup As env μ = (As env μ).bind fun ds m => if ds.length ≤ line then .ok (.tup ds) m else .fail := rfl
@[simp ↓] theorem q_lst : aLst As env μ = (As env μ).bind fun ds m => if ds.length ≤ line then .ok (.lst ds) m else .fail := rfl
@[simp ↓] theorem q_lstM : aLstM As env μ = (As env μ).bind fun ds m => if ds.length ≤ line then .ok (.ob m.length) (m ++ [.lst ds]) else .fail := rfl
@[simp ↓] theorem q_andT : aAndT P1 P2 env μ = (P1 env μ).bind fun k m => if k = true then P2 env m else .ok false m := rfl
@[simp ↓] theorem q_orT : aOrT P1 P2 env μ = (P1 env μ).bind fun k m => if k = true then .ok true m else P2 env m := rfl
@[simp ↓] theorem q_notT : aNotT P env μ = (P env μ).bind fun k m => .ok (!k) m := rfl
@[simp ↓] theorem q_andV : aAndV A B env μ = (A env μ).bind fun d m => match d with
  | .bl b => if b = true then B env m else .ok (.bl false) m
  | _ => .fail := by
  unfold aAndV
  cases A env μ with
  | ok d m => cases d <;> first | rfl | (rename_i b; cases b <;> rfl)
  | _ => rfl
@[simp ↓] theorem q_orV : aOrV A B env μ = (A env μ).bind fun d m => match d with
  | .bl b => if b = true then .ok (.bl true) m else B env m
  | _ => .fail := by
  unfold aOrV
  cases A env μ with
  | ok d m => cases d <;> first | rfl | (rename_i b; cases b <;> rfl)
  | _ => rfl
@[simp ↓] theorem q_notV : aNotV A env μ = (A env μ).bind fun d m => match d with
  | .bl b => .ok (.bl (!b)) m
  | _ => .fail := rfl

/-- operations on what is known -/
@[simp] theorem q_sub {x y : Int} : dSub (.int x) (.int y) μ = .ok (.int (x - y)) μ := rfl
@[simp] theorem q_add {x y : Int} : dAdd (.int x) (.int y) μ = .ok (.int (x + y)) μ := rfl
@[simp] theorem q_addS {x y : List Nat} (h : x.length + y.length ≤ line) : dAdd (.str x) (.str y) μ = .ok (.str (x ++ y)) μ := by
  show (if x.length + y.length ≤ line then (R.ok (D.str (x ++ y)) μ : R D) else R.fail).orF _ = _
  rw [if_pos h]; rfl
@[simp] theorem q_addL {x y : List D} (h : x.length + y.length ≤ line) : dAdd (.lst x) (.lst y) μ = .ok (.lst (x ++ y)) μ := by
  show (if x.length + y.length ≤ line then R.ok (.lst (x ++ y)) μ else R.fail : R D) = _
  rw [if_pos h]
@[simp] theorem q_mul {x y : Int} (h : x.natAbs.log2 + y.natAbs.log2 < 1000000) : dMul (.int x) (.int y) μ = .ok (.int (x * y)) μ := by
  show (if cMul x y = true then (R.ok (D.int (x * y)) μ : R D) else R.fail).orF _ = _
  rw [if_pos (show cMul x y = true from decide_eq_true h)]; rfl
@[simp] theorem q_mod {x y : Int} (h : 0 < y) : dMod (.int x) (.int y) μ = .ok (.int (x % y)) μ := if_pos (show cMod x y = true from decide_eq_true h)
@[simp] theorem q_fdiv {x y : Int} (h : 0 < y) (h2 : y.natAbs.log2 < 9000) : dFdiv (.int x) (.int y) μ = .ok (.int (x / y)) μ := if_pos (show cDiv x y = true from by unfold cDiv; rw [decide_eq_true h, decide_eq_true h2]; rfl)
@[simp] theorem q_pow {x y : Int} (h : 0 ≤ y) (h2 : y ≤ 1000000) (h3 : x.natAbs < 18446744073709551616) : dPow (.int x) (.int y) μ = .ok (.int (x ^ y.toNat)) μ := if_pos (show cPow x y = true from by unfold cPow; rw [decide_eq_true h, decide_eq_true h2, decide_eq_true h3]; rfl)
@[simp] theorem q_lt {x y : Int} : dLt (.int x) (.int y) μ = .ok (.bl (decide (x < y))) μ := rfl
@[simp] theorem q_le {x y : Int} : dLe (.int x) (.int y) μ = .ok (.bl (decide (x ≤ y))) μ := rfl
@[simp] theorem q_gt {x y : Int} : dGt (.int x) (.int y) μ = .ok (.bl (decide (y < x))) μ := rfl
@[simp] theorem q_ge {x y : Int} : dGe (.int x) (.int y) μ = .ok (.bl (decide (y ≤ x))) μ := rfl
@[simp] theorem q_neg {x : Int} : dNeg (.int x) μ = .ok (.int (-x)) μ := rfl
@[simp] theorem q_line : line = 16000000 := rfl
theorem beqI (x y : Int) : (x == y) = decide (x = y) := by by_cases h : x = y <;> simp [h]
theorem eqv_int {x y : Int} : PyData.eqv (.int x) (.int y) = decide (x = y) := by simp only [PyData.eqv]; exact beqI x y
@[simp] theorem q_eqI {x y : Int} : dEq (.int x) (.int y) μ = .ok (.bl (decide (x = y))) μ := by
  have h : dEqD id (.int x) (.int y) μ = .ok (.bl (decide (x = y))) μ := by
    unfold dEqD
    simp only [D.now, D.py]
    rw [if_pos (by simp [SeqAt.shaped, PyData.canLay0, PyData.depth]), eqv_int]; rfl
  exact h
@[simp] theorem q_neI {x y : Int} : dNe (.int x) (.int y) μ = .ok (.bl (!decide (x = y))) μ := by
  have h : dEqD not (.int x) (.int y) μ = .ok (.bl (!decide (x = y))) μ := by
    unfold dEqD
    simp only [D.now, D.py]
    rw [if_pos (by simp [SeqAt.shaped, PyData.canLay0, PyData.depth]), eqv_int]
  exact h
@[simp] theorem q_eqS {x y : List Nat} : dEq (.str x) (.str y) μ = .ok (.bl (decide (x = y))) μ := rfl
@[simp] theorem q_neS {x y : List Nat} : dNe (.str x) (.str y) μ = .ok (.bl (!decide (x = y))) μ := rfl
@[simp] theorem q_eqT {x y a b : Int} : dEq (.tup [.int x, .int y]) (.tup [.int a, .int b]) μ = .ok (.bl (decide (x = a) && decide (y = b))) μ := by
  have h : dEqD id (.tup [.int x, .int y]) (.tup [.int a, .int b]) μ = .ok (.bl (decide (x = a) && decide (y = b))) μ := by
    unfold dEqD
    simp only [D.now, D.py, D.pys, Option.bind_some, Option.map_some]
    rw [if_pos (by simp [SeqAt.shaped, PyData.canLay0, PyData.canLayAll0, PyData.depth, PyData.depthAll])]
    simp only [PyData.eqv, PyData.eqvAll, beqI, Bool.and_true, id]
  exact h
@[simp] theorem q_isN {d : D} : dIsN d .non μ = .ok (.bl d.isNon) μ := rfl
@[simp] theorem q_notN {d : D} : dNotN d .non μ = .ok (.bl (!d.isNon)) μ := rfl
@[simp] theorem q_non1 : D.isNon .non = true := rfl
@[simp] theorem q_non2 {x : Int} : D.isNon (.int x) = false := rfl
@[simp] theorem q_non3 {x : List D} : D.isNon (.tup x) = false := rfl
@[simp] theorem q_non4 {x : List Nat} : D.isNon (.str x) = false := rfl
@[simp] theorem q_inS {c : Nat} {b : List Nat} : dIn (.str [c]) (.str b) μ = .ok (.bl (decide (c ∈ b))) μ := rfl
@[simp] theorem q_ninS {c : Nat} {b : List Nat} : dNotIn (.str [c]) (.str b) μ = .ok (.bl (!decide (c ∈ b))) μ := rfl
theorem q_R2 {i j : Int} {m : Sto} (h : As env μ = .ok [.int i, .int j] m) (b : -big ≤ i ∧ i < big ∧ -big ≤ j ∧ j < big) : aItR2 As env μ = .ok (rangeD i (j - i).toNat) m := by
  unfold aItR2
  rw [h]
  exact if_pos b
theorem q_R1 {j : Int} {m : Sto} (h : As env μ = .ok [.int j] m) (b : -big ≤ j ∧ j < big) : aItR1 As env μ = .ok (rangeD 0 j.toNat) m := by
  unfold aItR1
  rw [h]
  exact if_pos b
theorem big_ok {i : Int} (h : -4611686018427387904 ≤ i) (h2 : i < 4611686018427387904) : -big ≤ i ∧ i < big := ⟨h, h2⟩
theorem ixN0 {n : Nat} {i : Int} (h : 0 ≤ i) (h2 : i < n) : ixN n i = some i.toNat := by
  unfold ixN
  rw [if_pos h, if_pos h2]
theorem atD0 {xs : List D} {i : Int} (h : 0 ≤ i) (h2 : i < xs.length) : atD xs i = xs[i.toNat]? := by
  unfold atD
  rw [ixN0 h h2]; rfl
@[simp] theorem q_ixT {xs : List D} {i : Int} : dIx (.tup xs) (.int i) μ = match atD xs i with
  | some x => .ok x μ
  | none => .fail := rfl
@[simp] theorem q_ixL {xs : List D} {i : Int} : dIx (.lst xs) (.int i) μ = match atD xs i with
  | some x => .ok x μ
  | none => .fail := rfl
@[simp] theorem q_ixC {xs : List D} {i : Int} : dIx (.scr xs) (.int i) μ = match atD xs i with
  | some x => .ok x μ
  | none => .fail := rfl
@[simp] theorem q_ixO {n : Nat} {i : Int} : dIx (.ob n) (.int i) μ = match μ[n]? with
  | some (.lst xs) => (match atD xs i with
    | some x => .ok x μ
    | none => .fail)
  | _ => .fail := by
  show (match D.rdL μ (.ob n) with
    | some xs => (match atD xs i with
      | some x => R.ok x μ
      | none => R.fail)
    | none => R.fail : R D) = _
  unfold D.rdL
  cases h : μ[n]? with
  | none => simp only [h]
  | some m => cases m <;> simp only [h]
@[simp] theorem q_lenS {s : List Nat} (h : s.length ≤ line) : dLen (.str s) μ = .ok (.int s.length) μ := if_pos h
@[simp] theorem q_lenT {xs : List D} : dLen (.tup xs) μ = .ok (.int xs.length) μ := rfl
@[simp] theorem q_lenL {xs : List D} : dLen (.lst xs) μ = .ok (.int xs.length) μ := rfl
@[simp] theorem q_lenC {xs : List D} : dLen (.scr xs) μ = .ok (.int xs.length) μ := rfl
@[simp] theorem q_abs {x : Int} : dAbs (.int x) μ = .ok (.int (if x < 0 then -x else x)) μ := rfl
@[simp] theorem q_max {x y : Int} : dMax2 (.int x) (.int y) μ = .ok (.int (if y > x then y else x)) μ := rfl
@[simp] theorem q_str {x : Int} (h : x.natAbs.log2 < 1920) : dStr (.int x) μ = .ok (.str (intS x)) μ := if_pos h
@[simp] theorem q_int {x : Int} : dInt (.int x) μ = .ok (.int x) μ := rfl
@[simp] theorem q_intB {b : Bool} : dInt (.bl b) μ = .ok (.int (if b then 1 else 0)) μ := rfl
end
end Z

set_option linter.all false
set_option maxRecDepth 100000
set_option maxHeartbeats 2000000
namespace HD
open PySem PySem.Spec PyProof.Rows L2 L2H Z
/-! numbers -/
theorem lgN {x : Nat} {k : Nat} (hk : 0 < k) (h : x < 2 ^ k) : x.log2 < k := by
  by_cases z : x = 0
  · subst z; simpa using hk
  · exact (Nat.log2_lt z).mpr h
theorem mulB {x y : Int} (hx : x.natAbs < 10 ^ 70) (hy : y.natAbs < 10 ^ 70) (μ : Sto) : dMul (.int x) (.int y) μ = .ok (.int (x * y)) μ := by
  refine q_mul ?_
  have a := lgN (k := 250) (by decide) (Nat.lt_of_lt_of_le hx (by decide))
  have b := lgN (k := 250) (by decide) (Nat.lt_of_lt_of_le hy (by decide))
  omega
theorem fdivB {x y : Int} (h : 0 < y) (hy : y.natAbs < 10 ^ 70) (μ : Sto) : dFdiv (.int x) (.int y) μ = .ok (.int (x / y)) μ :=
  q_fdiv h (Nat.lt_trans (lgN (k := 250) (by decide) (Nat.lt_of_lt_of_le hy (by decide))) (by decide))
/-! the store: what is kept -/
def Mok (m : M) : Bool := m.imm && m.cool
theorem mok_imm {μ : Sto} (h : μ.all Mok = true) : μ.all M.imm = true := List.all_eq_true.mpr fun x hx => (Bool.and_eq_true_iff.mp (List.all_eq_true.mp h x hx)).1
theorem mok_cool {μ : Sto} (h : μ.all Mok = true) : μ.all M.cool = true := List.all_eq_true.mpr fun x hx => (Bool.and_eq_true_iff.mp (List.all_eq_true.mp h x hx)).2
structure Fr (s : List Nat) (μ μ' : Sto) : Prop where
  len : μ.length ≤ μ'.length
  fr : ∀ m, m < μ.length → m ∉ s → μ'[m]? = μ[m]?
  ok : ∀ m x, μ.length ≤ m → μ'[m]? = some x → Mok x = true
theorem Fr.refl (s : List Nat) (μ : Sto) : Fr s μ μ := ⟨Nat.le_refl _, fun _ _ _ => rfl, fun m x h e => by rw [List.getElem?_eq_none h] at e; cases e⟩
theorem Fr.trans {s : List Nat} {a b c : Sto} (x : Fr s a b) (y : Fr s b c) (hs : ∀ m ∈ s, m < a.length) : Fr s a c where
  len := Nat.le_trans x.len y.len
  fr := fun m h n => (y.fr m (Nat.lt_of_lt_of_le h x.len) n).trans (x.fr m h n)
  ok := fun m z h e => by
    by_cases q : b.length ≤ m
    · exact y.ok m z q e
    · have n : m ∉ s := fun hm => by have := hs m hm; omega
      rw [y.fr m (by omega) n] at e
      exact x.ok m z h e
theorem Fr.sub {s t : List Nat} {a b : Sto} (x : Fr s a b) (h : ∀ m ∈ s, m ∈ t) : Fr t a b := ⟨x.len, fun m hm n => x.fr m hm fun q => n (h m q), x.ok⟩
theorem Fr.get {s : List Nat} {a b : Sto} (x : Fr s a b) {m : Nat} {z : M} (h : a[m]? = some z) (n : m ∉ s) : b[m]? = some z := by
  rw [x.fr m (List.getElem?_eq_some_iff.mp h).1 n]; exact h
theorem Fr.set {n : Nat} {μ : Sto} (x : M) : Fr [n] μ (μ.set n x) where
  len := by rw [List.length_set]; exact Nat.le_refl _
  fr := fun m h q => List.getElem?_set_ne (fun e => q (by rw [e]; exact List.mem_singleton.mpr rfl))
  ok := fun m z h e => by
    have := (List.getElem?_eq_some_iff.mp e).1
    rw [List.length_set] at this; omega
theorem Fr.push {s : List Nat} {μ : Sto} {x : M} (h : Mok x = true) : Fr s μ (μ ++ [x]) where
  len := by simp
  fr := fun m h q => List.getElem?_append_left h
  ok := fun m z hm e => by
    rcases getElem?_snoc e with ⟨l, _⟩ | ⟨_, q⟩
    · omega
    · rw [q]; exact h
theorem get_lt {μ : Sto} {n : Nat} {x : M} (h : μ[n]? = some x) : n < μ.length := (List.getElem?_eq_some_iff.mp h).1
theorem get_set {μ : Sto} {n : Nat} {m : M} (h : μ[n]? = some m) (x : M) : (μ.set n x)[n]? = some x := List.getElem?_set_self (get_lt h)
theorem get_push {μ : Sto} {x : M} : (μ ++ [x])[μ.length]? = some x := by simp
theorem all_of {μ μ' : Sto} {s : List Nat} (h : μ.all Mok = true) (f : Fr s μ μ') (hs : ∀ m ∈ s, ∀ x, μ'[m]? = some x → Mok x = true) : μ'.all Mok = true := by
  rw [List.all_eq_true] at h ⊢
  intro x hx
  obtain ⟨i, hi⟩ := List.getElem?_of_mem hx
  by_cases q : μ.length ≤ i
  · exact f.ok i x q hi
  · by_cases z : i ∈ s
    · exact hs i z x hi
    · rw [f.fr i (by omega) z] at hi
      exact h x (List.mem_of_getElem? hi)
theorem take_fr {μ μ' : Sto} {s : List Nat} (f : Fr s μ μ') : Fr s μ (μ'.take μ.length) where
  len := by rw [List.length_take, Nat.min_eq_left f.len]; exact Nat.le_refl _
  fr := fun m h n => by rw [List.getElem?_take_of_lt h]; exact f.fr m h n
  ok := fun m x h e => by
    have := (List.getElem?_eq_some_iff.mp e).1
    rw [List.length_take] at this; omega
theorem take_get {μ μ' : Sto} {n : Nat} (h : n < μ.length) : (μ'.take μ.length)[n]? = μ'[n]? := List.getElem?_take_of_lt h
/-! the bag -/
def Bag (n : Nat) (μ : Sto) : Prop := ∃ a b : Int, μ[n]? = some (.lst [.int a, .int b]) ∧ 0 ≤ b ∧ b < 2147483647
theorem Bag.lt {n : Nat} {μ : Sto} (h : Bag n μ) : n < μ.length := let ⟨_, _, e, _⟩ := h; get_lt e
theorem Bag.mok {n : Nat} {μ : Sto} (h : Bag n μ) : ∀ x, μ[n]? = some x → Mok x = true := fun x e => by
  obtain ⟨a, b, e2, _⟩ := h
  rw [e2] at e; cases e; rfl
theorem Bag.all {n : Nat} {μ μ' : Sto} (hb : Bag n μ') (h : μ.all Mok = true) (f : Fr [n] μ μ') : μ'.all Mok = true :=
  all_of h f fun m hm x e => by rw [List.mem_singleton.mp hm] at e; exact hb.mok x e
theorem Bag.of {n : Nat} {μ μ' : Sto} {s : List Nat} (hb : Bag n μ) (f : Fr s μ μ') (h : n ∉ s) : Bag n μ' := by
  obtain ⟨a, b, e, h0, h1⟩ := hb
  exact ⟨a, b, f.get e h, h0, h1⟩
theorem Bag.fr {n : Nat} {μ μ1 μ2 : Sto} (hb : Bag n μ) (x : Fr [n] μ μ1) (y : Fr [n] μ1 μ2) : Fr [n] μ μ2 := x.trans y fun m hm => by rw [List.mem_singleton.mp hm]; exact hb.lt
theorem Bag.set {n m : Nat} {μ : Sto} {x : M} (hb : Bag n μ) (h : n ≠ m) : Bag n (μ.set m x) := by
  obtain ⟨a, b, e, h0, h1⟩ := hb
  exact ⟨a, b, by rw [List.getElem?_set_ne (fun q => h q.symm)]; exact e, h0, h1⟩
theorem Bag.push {n : Nat} {μ : Sto} {x : M} (hb : Bag n μ) : Bag n (μ ++ [x]) := by
  obtain ⟨a, b, e, h0, h1⟩ := hb
  exact ⟨a, b, by rw [List.getElem?_append_left (get_lt e)]; exact e, h0, h1⟩
theorem ix20 {a b : D} : atD [a, b] 0 = some a := rfl
theorem ix21 {a b : D} : atD [a, b] 1 = some b := rfl
theorem ixN20 : ixN 2 0 = some 0 := rfl
theorem ixN21 : ixN 2 1 = some 1 := rfl
theorem draw {n : Nat} {μ : Sto} {many : Int} (hb : Bag n μ) (h : 0 < many) (h2 : many.natAbs < 10 ^ 70) : ∃ r μ', a__law_draw [.ob n, .int many] μ = .ok (.int r) μ' ∧ 0 ≤ r ∧ r < many ∧ Bag n μ' ∧ Fr [n] μ μ' := by
  obtain ⟨a, b, e, b0, b1⟩ := hb
  by_cases ha : 0 < a
  · refine ⟨a % many, μ.set n (.lst [.int (a / many), .int b]), ?_, Int.emod_nonneg _ (by omega), Int.emod_lt_of_pos _ h, ⟨_, _, get_set e _, b0, b1⟩, .set _⟩
    simp [a__law_draw, e, ix20, ixN20, ha, h, fdivB h h2]
  · have m1 := fun μ => mulB (x := b) (y := 48271) (by omega) (by omega) μ
    have c0 : 0 ≤ (b * 48271 + 4099) % 2147483647 := Int.emod_nonneg _ (by decide)
    have c1 : (b * 48271 + 4099) % 2147483647 < 2147483647 := Int.emod_lt_of_pos _ (by decide)
    generalize hc : (b * 48271 + 4099) % 2147483647 = c at c0 c1
    have m2 := fun μ => mulB (x := c) (y := c / 65536 + 7) (by omega) (by omega) μ
    have f1 := fun μ => fdivB (x := c) (y := 65536) (by decide) (by decide) μ
    have f2 := fun x μ => fdivB (x := x) (y := 32) (by decide) (by decide) μ
    refine ⟨c * (c / 65536 + 7) % 2147483629 / 32 % many, μ.set n (.lst [.int a, .int c]), ?_, Int.emod_nonneg _ (by omega), Int.emod_lt_of_pos _ h, ⟨_, _, get_set e _, c0, c1⟩, .set _⟩
    simp [a__law_draw, e, ix20, ix21, ixN20, ixN21, ha, h, m1, m2, f1, f2, hc, get_set e]
theorem cell_ok {xs : List Int} {μ : Sto} : ∃ c, a__law_cell [.scr (xs.map D.int), .int 0] μ = .ok (.int c) μ := by
  cases xs with
  | nil => exact ⟨0, by simp [a__law_cell]⟩
  | cons x xs =>
    refine ⟨x, ?_⟩
    have e : (0 : Int) < (xs.length : Int) + 1 := by omega
    have e2 : atD (D.int x :: xs.map D.int) 0 = some (D.int x) := by rw [atD0 (by omega) (by rw [List.length_cons]; omega)]; rfl
    simp [a__law_cell, e2, e]
theorem bag_ok {c : Int} {μ : Sto} : ∃ m, a__law_bag [.int c] μ = .ok (.ob μ.length) (μ ++ [m]) ∧ Bag μ.length (μ ++ [m]) ∧ Mok m = true := by
  have pw : ∀ μ, dPow (.int 10) (.int 18) μ = .ok (.int 1000000000000000000) μ := fun μ => q_pow (by decide) (by decide) (by decide)
  have c0 : 0 ≤ c % 2147483647 := Int.emod_nonneg _ (by decide)
  have c1 : c % 2147483647 < 2147483647 := Int.emod_lt_of_pos _ (by decide)
  have m1 := fun μ => mulB (x := c % 2147483647) (y := 69621) (by omega) (by omega) μ
  by_cases hc : 1000000000000000000 ≤ c
  · exact ⟨.lst [.int c, .int (c % 2147483647)], by simp [a__law_bag, pw, hc], ⟨_, _, get_push, c0, c1⟩, rfl⟩
  · exact ⟨.lst [.int 0, .int ((c % 2147483647 * 69621 + 7) % 2147483647)], by simp [a__law_bag, pw, hc, m1], ⟨_, _, get_push, Int.emod_nonneg _ (by decide), Int.emod_lt_of_pos _ (by decide)⟩, rfl⟩
theorem atD_0 {x : D} {xs : List D} : atD (x :: xs) 0 = some x := by
  rw [atD0 (by omega) (by rw [List.length_cons]; omega)]; rfl
theorem atD_1 {x y : D} {xs : List D} : atD (x :: y :: xs) 1 = some y := by
  rw [atD0 (by omega) (by rw [List.length_cons, List.length_cons]; omega)]; rfl
theorem atD_2 {x y z : D} {xs : List D} : atD (x :: y :: z :: xs) 2 = some z := by
  rw [atD0 (by omega) (by rw [List.length_cons, List.length_cons, List.length_cons]; omega)]; rfl
theorem atD_mem {xs : List D} {r : Int} (h0 : 0 ≤ r) (h1 : r < xs.length) : ∃ d, atD xs r = some d ∧ d ∈ xs := by
  rw [atD0 h0 h1]
  have h : r.toNat < xs.length := by omega
  exact ⟨xs[r.toNat], by simp [h], List.getElem_mem h⟩
/-! what is appended to a list of the store -/
theorem app_ok {i k : Nat} {env : En} {μ μ' : Sto} {A : AE} {xs ys : List D} {d : D} (hv : env[i]? = some (some (.ob k))) (h0 : μ[k]? = some (.lst xs)) (hA : A env μ = .ok d μ') (h1 : μ'[k]? = some (.lst ys)) (hl : ys.length < line) :
    aDrop (aBM "list" (fun d ds μ => one1 (dAppend d) ds μ) (aVar i) (aCons A aNil)) env μ = .nx env (μ'.set k (.lst (ys ++ [d]))) := by
  have t : D.isT μ "list" (.ob k) = true := by
    show ("list" == "list" && (D.sqL μ (.ob k)).isSome) = true
    simp [D.sqL, D.rdL, h0]
  have e : aBM "list" (fun d ds μ => one1 (dAppend d) ds μ) (aVar i) (aCons A aNil) env μ = .ok .non (μ'.set k (.lst (ys ++ [d]))) := by
    unfold aBM
    rw [q_var, hv]
    simp only [q_bind, t, if_pos]
    rw [q_cons, hA]
    simp only [q_bind, q_nil, q_one]
    unfold dAppend
    simp only [h1]
    rw [if_pos hl]
  rw [q_drop, e]
  rfl
theorem fz_ok {i k : Nat} {e : En} {m : Sto} {S : ATS} {env : En} {μ : Sto} {xs : List D} (h : S env μ = .nx e m) (h1 : e[i]? = some (some (.ob k))) (h2 : m[k]? = some (.lst xs)) : aFz i S env μ = .nx (e.set i (some (.lst xs))) (m.set k .gone) := by
  unfold aFz
  rw [h]
  simp only [frz, h1, h2]
end HD

set_option linter.all false
set_option maxRecDepth 100000
set_option maxHeartbeats 2000000
namespace HD
open PySem PySem.Spec PyProof.Rows L2 L2H Z
theorem gcd_step {x y : Int} (hy : 0 < y) (hx : 0 ≤ x) : Int.gcd x y = Int.gcd y (x % y) := by
  obtain ⟨a, rfl⟩ : ∃ a : Nat, x = a := ⟨x.toNat, by omega⟩
  obtain ⟨b, rfl⟩ : ∃ b : Nat, y = b := ⟨y.toNat, by omega⟩
  show Nat.gcd _ _ = Nat.gcd _ _
  have e : ((a : Int) % b).natAbs = a % b := by omega
  rw [e]
  show Nat.gcd a b = Nat.gcd b (a % b)
  rw [Nat.gcd_comm a b, Nat.gcd_rec b a]
  exact Nat.gcd_comm _ _
theorem gcd0 {x : Int} (hx : 0 ≤ x) : (Int.gcd x 0 : Int) = x := by
  rw [Int.gcd_zero_right]; omega
def dvP : AT := aB (aOp dGt (aVar 1) (aC (.int 0)))
def lgS : ATS := aSeq (aAsg 2 (aOp dMod (aVar 0) (aVar 1))) (aSeq (aAsg 0 (aVar 1)) (aAsg 1 (aVar 2)))
theorem lg_loop {μ : Sto} : ∀ (k : Nat) (x y : Int) (o : Option D), 0 ≤ x → 0 ≤ y → y < k →
    ∃ o', loopW dvP lgS k [some (.int x), some (.int y), o] μ = .nx [some (.int (Int.gcd x y)), some (.int 0), o'] μ
  | 0, x, y, o, hx, hy, hk => by omega
  | k + 1, x, y, o, hx, hy, hk => by
    by_cases h : 0 < y
    · obtain ⟨o', ih⟩ := lg_loop (μ := μ) k y (x % y) (some (.int (x % y))) hy (Int.emod_nonneg _ (by omega)) (by have := Int.emod_lt_of_pos x h; omega)
      refine ⟨o', ?_⟩
      rw [gcd_step h hx, ← ih]
      rw [loopW]
      simp [dvP, lgS, h]
    · have e : y = 0 := by omega
      subst e
      refine ⟨o, ?_⟩
      rw [gcd0 hx, loopW]
      simp [dvP]
theorem lgcd {a b : Int} {μ : Sto} : a__law_gcd [.int a, .int b] μ = .ok (.int (Int.gcd a b)) μ := by
  obtain ⟨o', h⟩ := lg_loop (μ := μ) (sizeE [some (.int (if a < 0 then -a else a)), some (.int (if b < 0 then -b else b)), none]) (if a < 0 then -a else a) (if b < 0 then -b else b) none (by split <;> omega) (by split <;> omega) (by simp only [sizeE]; split <;> omega)
  have e : Int.gcd (if a < 0 then -a else a) (if b < 0 then -b else b) = Int.gcd a b := by
    show Nat.gcd _ _ = Nat.gcd _ _
    congr 1 <;> (split <;> omega)
  rw [e] at h
  simp [a__law_gcd, aWhile, fuelE]
  rw [show (aB (aOp dGt (aVar 1) (aC (.int 0)))) = dvP from rfl, show (aSeq (aAsg 2 (aOp dMod (aVar 0) (aVar 1))) (aSeq (aAsg 0 (aVar 1)) (aAsg 1 (aVar 2)))) = lgS from rfl, h]
  simp
/-- what lowest tells -/
def low (t b : Int) : D := .tup [.int (t / Int.gcd t b), .int (b / Int.gcd t b)]
theorem gcd_pos {t b : Int} (h : 0 < b) : 0 < (Int.gcd t b : Int) := by
  have : 0 < Int.gcd t b := Nat.gcd_pos_of_pos_right _ (by omega)
  omega
theorem gcd_le {t b : Int} (h : 0 < b) : (Int.gcd t b : Int) ≤ b := by
  have : Int.gcd t b ≤ b.natAbs := Nat.gcd_le_right _ (by omega)
  omega
theorem llow1 {t b : Int} {μ : Sto} (h : 0 < b) (h2 : b < 10 ^ 69) : a__law_lowest_2 [.int t, .int b] μ = .ok (low t b) μ := by
  have g1 := gcd_pos (t := t) h
  have g2 := gcd_le (t := t) h
  have f := fun x μ => fdivB (x := x) (y := Int.gcd t b) g1 (by omega) μ
  simp [a__law_lowest_2, lgcd, f, low, show ¬ b < 0 by omega]
end HD

set_option linter.all false
set_option maxRecDepth 100000
set_option maxHeartbeats 2000000
namespace HD
open PySem PySem.Spec PyProof.Rows L2 L2H Z
abbrev figs : List Nat := [48, 49, 50, 51, 52, 53, 54, 55, 56, 57]
def dg (c : Nat) : Bool := decide (c ∈ figs)
theorem dg_iff {c : Nat} : dg c = true ↔ 48 ≤ c ∧ c ≤ 57 := by
  simp [dg, figs]; omega
def val (t : List Nat) : Int := t.foldl (fun (a : Int) (c : Nat) => a * 10 + ((c : Int) - 48)) 0
def rwOk (t : List Nat) : Bool := decide (1 ≤ t.length) && (decide (t.length ≤ 30) && (!(decide (t.head? = some 48) && decide (1 < t.length)) && t.all dg))
def rw_ (t : List Nat) : Option Int := if rwOk t = true then some (val t) else none
theorem digitsVal_val : ∀ (t : List Nat), t.all dg = true → ((NumText.digitsVal t : Nat) : Int) = val t := by
  have go : ∀ (t : List Nat) (a : Nat), t.all dg = true → ((t.foldl (fun a c => a * 10 + (c - 48)) a : Nat) : Int) = t.foldl (fun (a : Int) (c : Nat) => a * 10 + ((c : Int) - 48)) a := by
    intro t
    induction t with
    | nil => intro a _; rfl
    | cons c t ih =>
      intro a h
      rw [List.all_cons, Bool.and_eq_true] at h
      have hc := dg_iff.mp h.1
      rw [List.foldl_cons, List.foldl_cons, ih _ h.2]
      congr 1
      omega
  intro t h
  exact go t 0 h
theorem val_pos : ∀ (t : List Nat) (a : Int), 0 ≤ a → t.all dg = true → 0 ≤ t.foldl (fun (a : Int) (c : Nat) => a * 10 + ((c : Int) - 48)) a ∧ t.foldl (fun (a : Int) (c : Nat) => a * 10 + ((c : Int) - 48)) a < (a + 1) * 10 ^ t.length
  | [], a, h, _ => by simp; omega
  | c :: t, a, h, hd => by
    rw [List.all_cons, Bool.and_eq_true] at hd
    have hc := dg_iff.mp hd.1
    obtain ⟨h1, h2⟩ := val_pos t (a * 10 + ((c : Int) - 48)) (by omega) hd.2
    rw [List.foldl_cons]
    refine ⟨h1, Int.lt_of_lt_of_le h2 ?_⟩
    rw [List.length_cons, Int.pow_succ]
    have e : (a + 1) * (10 ^ t.length * 10) = ((a + 1) * 10) * 10 ^ t.length := by
      rw [Int.mul_comm (10 ^ t.length) 10, Int.mul_assoc]
    rw [e]
    exact Int.mul_le_mul_of_nonneg_right (by omega) (Int.pow_nonneg (by decide))
theorem val_bd {t : List Nat} (h : t.all dg = true) (hl : t.length ≤ 30) : 0 ≤ val t ∧ val t < 10 ^ 30 := by
  obtain ⟨h1, h2⟩ := val_pos t 0 (by omega) h
  refine ⟨h1, Int.lt_of_lt_of_le h2 ?_⟩
  rw [Int.zero_add, Int.one_mul]
  exact_mod_cast Nat.pow_le_pow_right (show 0 < 10 by decide) hl
/-! the program's -/
def rdS : ATS := aIf (aB (aOp dNotIn (aVar 1) (aC (.str figs)))) (aRaise .text) aNext
theorem rd_loop {μ : Sto} {t : List Nat} : ∀ (l : List Nat) (o : Option D), (l.all dg = true → ∃ o', loopA (gNm 1) rdS (chD l) [some (.str t), o] μ = .nx [some (.str t), o'] μ) ∧ (l.all dg = false → ∃ e, loopA (gNm 1) rdS (chD l) [some (.str t), o] μ = .ex .text e μ)
  | [], o => ⟨fun _ => ⟨o, rfl⟩, fun h => by simp at h⟩
  | c :: l, o => by
    obtain ⟨h1, h2⟩ := rd_loop (μ := μ) (t := t) l (some (.str [c]))
    have e : chD (c :: l) = .str [c] :: chD l := rfl
    rw [e]
    by_cases hc : dg c = true
    · have hm : c ∈ figs := of_decide_eq_true hc
      rw [List.all_cons, hc, Bool.true_and]
      refine ⟨fun h => ?_, fun h => ?_⟩
      · obtain ⟨o', q⟩ := h1 h
        refine ⟨o', ?_⟩
        rw [← q]
        simp only [loopA]
        simp [rdS, hm]
      · obtain ⟨o', q⟩ := h2 h
        refine ⟨o', ?_⟩
        rw [← q]
        simp only [loopA]
        simp [rdS, hm]
    · have hm : ¬ c ∈ figs := fun z => hc (decide_eq_true z)
      have hc : dg c = false := by simpa using hc
      rw [List.all_cons, hc, Bool.false_and]
      refine ⟨fun h => Bool.noConfusion h, fun _ => ⟨[some (.str t), some (.str [c])], ?_⟩⟩
      simp only [loopA]
      simp [rdS, hm]
theorem atI0 {c : Nat} {t : List Nat} : atI (c :: t) 0 = some c := by
  unfold atI
  rw [ixN0 (by omega) (by rw [List.length_cons]; omega)]; rfl
theorem q_ix0 {c : Nat} {t : List Nat} {μ : Sto} (h : (c :: t).length ≤ line) : dIx (.str (c :: t)) (.int 0) μ = .ok (.str [c]) μ := by
  unfold dIx
  simp only [if_pos h, atI0]
theorem rd_whole {t : List Nat} {μ : Sto} (hl : t.length ≤ 15000000) : a_read_whole [.str t] μ = match rw_ t with | some v => .ok (.int v) μ | none => .ex .text μ := by
  have hl2 : t.length ≤ line := by rw [q_line]; omega
  have hlen : ∀ μ, dLen (.str t) μ = .ok (.int t.length) μ := fun μ => q_lenS hl2
  by_cases h1 : 1 ≤ t.length
  · by_cases h30 : t.length ≤ 30
    · obtain ⟨c, r, rfl⟩ : ∃ c r, t = c :: r := by
        cases t with
        | nil => simp at h1
        | cons c r => exact ⟨c, r, rfl⟩
      have ix := fun μ => q_ix0 (μ := μ) hl2
      by_cases hz : c = 48 ∧ r ≠ []
      · obtain ⟨rfl, hr⟩ := hz
        have hr2 : 0 < r.length := List.length_pos_iff.mpr hr
        have e : rw_ (48 :: r) = none := by
          have e0 : rwOk (48 :: r) = false := by simp [rwOk, hr2]
          unfold rw_; rw [e0]; rfl
        rw [e]
        simp [a_read_whole, hlen, ix, hr, show ((r.length : Int) + 1 ≤ 30) by simp at h30; omega, show (1 : Int) ≤ r.length + 1 by omega]
      · obtain ⟨g1, g2⟩ := rd_loop (μ := μ) (t := c :: r) (c :: r) none
        have pre : ∀ (k : Bool), (c :: r).all dg = k → a_read_whole [.str (c :: r)] μ = (match loopA (gNm 1) rdS (chD (c :: r)) [some (.str (c :: r)), none] μ with | .nx e m => (aRet (aCB (one1 dInt) (aCons (aVar 0) aNil))) e m | z => z).res := fun k _ => by
          by_cases hc : c = 48
          · have hr : r = [] := by
              by_cases q : r = []
              · exact q
              · exact absurd ⟨hc, q⟩ hz
            subst hc hr
            simp [a_read_whole, hlen, ix, aFor, aItS]
            rfl
          · simp [a_read_whole, hlen, ix, hc, aFor, aItS, show ((r.length : Int) + 1 ≤ 30) by simp at h30; omega, show (1 : Int) ≤ r.length + 1 by omega]
            rfl
        cases hd : (c :: r).all dg with
        | true =>
          obtain ⟨o', q⟩ := g1 hd
          have e : rw_ (c :: r) = some (val (c :: r)) := by
            unfold rw_ rwOk
            rw [if_pos]
            rw [hd]
            simp at h30
            simp [h30]
            by_cases q : r = []
            · exact .inr q
            · exact .inl fun hc => hz ⟨hc, q⟩
          rw [pre true hd, q, e]
          have it : intText? (Z.S (c :: r)) = some (val (c :: r)) := by
            rw [← digitsVal_val _ hd]
            exact SX.int_S (a := c :: r) (List.all_eq_true.mpr fun c hc => by
              have z := dg_iff.mp (List.all_eq_true.mp hd c hc)
              simp [z]) (List.cons_ne_nil _ _) (by omega)
          have di : ∀ μ, dInt (.str (c :: r)) μ = .ok (.int (val (c :: r))) μ := fun μ => by
            unfold dInt
            simp only [it]
            rw [if_pos (by omega)]
          simp [di]
        | false =>
          obtain ⟨o', q⟩ := g2 hd
          have e : rw_ (c :: r) = none := by
            unfold rw_ rwOk
            rw [hd]
            simp
          rw [pre false hd, q, e]
          rfl
    · have e : rw_ t = none := by simp [rw_, rwOk]; intro _ h; omega
      rw [e]
      simp [a_read_whole, hlen, show ¬ (t.length : Int) ≤ 30 by omega, show (1 : Int) ≤ t.length by omega]
  · have e : rw_ t = none := by simp [rw_, rwOk]; intro h; omega
    rw [e]
    simp [a_read_whole, hlen, show ¬ (1 : Int) ≤ t.length by omega]
end HD

set_option linter.all false
set_option maxRecDepth 100000
set_option maxHeartbeats 2000000
namespace HD
open PySem PySem.Spec PyProof.Rows L2 L2H Z
/-! the law's own reader of a whole number -/
def lrS : ATS := aSeq (aIf (aB (aOp dNotIn (aVar 2) (aC (.str figs)))) (aRet (aC .non)) aNext)
  (aAsg 1 (aOp dAdd (aOp dMul (aVar 1) (aC (.int 10))) (aBM "str" (mSS cDig sixD) (aC (.str figs)) (aCons (aVar 2) aNil))))
theorem q_six {c : Nat} {μ : Sto} {env : En} (h : dg c = true) (e : env[2]? = some (some (.str [c]))) : aBM "str" (mSS cDig sixD) (aC (.str figs)) (aCons (aVar 2) aNil) env μ = .ok (.int ((c : Int) - 48)) μ := by
  have h2 := dg_iff.mp h
  have c1 : cDig figs [c] = true := by
    show (decide (figs = digs) && (decide (48 ≤ c) && decide (c ≤ 57))) = true
    rw [decide_eq_true h2.1, decide_eq_true h2.2]
    rfl
  have t : D.isT μ "str" (.str figs) = true := rfl
  unfold aBM
  simp [e, t, mSS, c1, sixD]
theorem lr_loop {μ : Sto} {t : List Nat} : ∀ (l : List Nat) (a : Int) (o : Option D), 0 ≤ a → (a + 1) * 10 ^ l.length ≤ 10 ^ 40 →
    (l.all dg = true → ∃ o', loopA (gNm 2) lrS (chD l) [some (.str t), some (.int a), o] μ = .nx [some (.str t), some (.int (l.foldl (fun (a : Int) (c : Nat) => a * 10 + ((c : Int) - 48)) a)), o'] μ) ∧
    (l.all dg = false → loopA (gNm 2) lrS (chD l) [some (.str t), some (.int a), o] μ = .rt .non μ)
  | [], a, o, h0, hb => ⟨fun _ => ⟨o, rfl⟩, fun h => by simp at h⟩
  | c :: l, a, o, h0, hb => by
    have e : chD (c :: l) = .str [c] :: chD l := rfl
    rw [e]
    have hp : (1 : Int) ≤ 10 ^ l.length := by
      have : 0 < (10 : Int) ^ l.length := Int.pow_pos (by decide)
      omega
    have hb2 : (a * 10 + 10) * 10 ^ l.length ≤ 10 ^ 40 := by
      rw [List.length_cons, Int.pow_succ] at hb
      have q : (a + 1) * (10 ^ l.length * 10) = (a * 10 + 10) * 10 ^ l.length := by
        rw [Int.mul_comm (10 ^ l.length) 10, ← Int.mul_assoc, Int.add_mul]; rfl
      rw [← q]; exact hb
    have ha : a * 10 + 10 ≤ 10 ^ 40 := Int.le_trans (by
      have q := Int.mul_le_mul_of_nonneg_left hp (show 0 ≤ a * 10 + 10 by omega)
      rw [Int.mul_one] at q
      exact q) hb2
    by_cases hc : dg c = true
    · have hm : c ∈ figs := of_decide_eq_true hc
      have h2 := dg_iff.mp hc
      rw [List.all_cons, hc, Bool.true_and, List.foldl_cons]
      obtain ⟨h1, h3⟩ := lr_loop (μ := μ) (t := t) l (a * 10 + ((c : Int) - 48)) (some (.str [c])) (by omega) (Int.le_trans (Int.mul_le_mul_of_nonneg_right (by omega) (by omega)) hb2)
      have m1 := fun μ => mulB (x := a) (y := 10) (by omega) (by omega) μ
      have sx := q_six (μ := μ) (env := [some (.str t), some (.int a), some (.str [c])]) hc rfl
      refine ⟨fun h => ?_, fun h => ?_⟩
      · obtain ⟨o', q⟩ := h1 h
        refine ⟨o', ?_⟩
        rw [← q]
        simp only [loopA]
        simp [lrS, hm, m1, sx]
      · rw [← h3 h]
        simp only [loopA]
        simp [lrS, hm, m1, sx]
    · have hm : ¬ c ∈ figs := fun z => hc (decide_eq_true z)
      have hc : dg c = false := by simpa using hc
      rw [List.all_cons, hc, Bool.false_and]
      refine ⟨fun h => Bool.noConfusion h, fun _ => ?_⟩
      simp only [loopA]
      simp [lrS, hm]
def optD : Option Int → D
  | some v => .int v
  | none => .non
theorem lr_whole {t : List Nat} {μ : Sto} (hl : t.length ≤ 15000000) : a__law_read_whole [.str t] μ = .ok (optD (rw_ t)) μ := by
  have hl2 : t.length ≤ line := by rw [q_line]; omega
  have hlen : ∀ μ, dLen (.str t) μ = .ok (.int t.length) μ := fun μ => q_lenS hl2
  by_cases h1 : 1 ≤ t.length
  · by_cases h30 : t.length ≤ 30
    · obtain ⟨c, r, rfl⟩ : ∃ c r, t = c :: r := by
        cases t with
        | nil => simp at h1
        | cons c r => exact ⟨c, r, rfl⟩
      have ix := fun μ => q_ix0 (μ := μ) hl2
      have k1 : ¬ ((r.length : Int) + 1 < 1) := by omega
      have k2 : ¬ (30 < (r.length : Int) + 1) := by simp at h30; omega
      by_cases hz : c = 48 ∧ r ≠ []
      · obtain ⟨rfl, hr⟩ := hz
        have hr2 : 0 < r.length := List.length_pos_iff.mpr hr
        have e : rw_ (48 :: r) = none := by
          have e0 : rwOk (48 :: r) = false := by simp [rwOk, hr2]
          unfold rw_; rw [e0]; rfl
        rw [e]
        simp [a__law_read_whole, hlen, ix, k1, k2, show (1 : Int) < r.length + 1 by omega]
        rfl
      · have hp : (((0 : Int) + 1) * 10 ^ (c :: r).length) ≤ 10 ^ 40 := by
          rw [Int.zero_add, Int.one_mul]
          exact_mod_cast Nat.pow_le_pow_right (show 0 < 10 by decide) (Nat.le_trans h30 (by decide))
        obtain ⟨g1, g2⟩ := lr_loop (μ := μ) (t := c :: r) (c :: r) 0 none (by omega) hp
        have pre : a__law_read_whole [.str (c :: r)] μ = (match loopA (gNm 2) lrS (chD (c :: r)) [some (.str (c :: r)), some (.int 0), none] μ with | .nx e m => (aRet (aVar 1)) e m | z => z).res := by
          by_cases hc : c = 48
          · have hr : r = [] := by
              by_cases q : r = []
              · exact q
              · exact absurd ⟨hc, q⟩ hz
            subst hc hr
            simp [a__law_read_whole, hlen, ix, aFor, aItS]
            rfl
          · simp [a__law_read_whole, hlen, ix, hc, aFor, aItS, k1, k2]
            rfl
        cases hd : (c :: r).all dg with
        | true =>
          obtain ⟨o', q⟩ := g1 hd
          have e : rw_ (c :: r) = some (val (c :: r)) := by
            unfold rw_ rwOk
            rw [if_pos]
            rw [hd]
            simp at h30
            simp [h30]
            by_cases q : r = []
            · exact .inr q
            · exact .inl fun hc => hz ⟨hc, q⟩
          rw [pre, q, e]
          simp [optD, val]
        | false =>
          have q := g2 hd
          have e : rw_ (c :: r) = none := by
            unfold rw_ rwOk
            rw [hd]
            simp
          rw [pre, q, e]
          rfl
    · have e : rw_ t = none := by simp [rw_, rwOk]; intro _ h; omega
      rw [e]
      simp [a__law_read_whole, hlen, show ¬ ((t.length : Int) < 1) by omega, show 30 < (t.length : Int) by omega]
      rfl
  · have e : rw_ t = none := by simp [rw_, rwOk]; intro h; omega
    rw [e]
    simp [a__law_read_whole, hlen, show ((t.length : Int) < 1) by omega]
    rfl
theorem rw_bd {t : List Nat} {v : Int} (h : rw_ t = some v) : 0 ≤ v ∧ v < 10 ^ 30 := by
  unfold rw_ at h
  by_cases q : rwOk t = true
  · rw [if_pos q] at h
    cases h
    unfold rwOk at q
    simp only [Bool.and_eq_true, decide_eq_true_eq] at q
    exact val_bd q.2.2.2 q.2.1
  · rw [if_neg q] at h; cases h
end HD

set_option linter.all false
set_option maxRecDepth 100000
set_option maxHeartbeats 2000000
namespace HD
open PySem PySem.Spec PyProof.Rows L2 L2H Z
/-! cutting at one sign -/
theorem pre1 {c s : Nat} {r : List Nat} : TL.pre [s] (c :: r) = decide (c = s) := by
  unfold TL.pre
  simp only [List.length_singleton, List.take_succ_cons, List.take_zero]
  by_cases h : c = s
  · subst h; simp
  · simp [h]
theorem par1 {s : Nat} : ∀ (a acc : List Nat), s ∉ a → TL.par [s] acc a = none
  | [], _, _ => rfl
  | c :: a, acc, h => by
    rw [TL.par_miss (by rw [pre1]; simp; intro z; exact h (z ▸ List.mem_cons_self ..))]
    exact par1 a _ fun z => h (List.mem_cons_of_mem _ z)
theorem par2 {s : Nat} {b : List Nat} : ∀ (a acc : List Nat), s ∉ a → TL.par [s] acc (a ++ s :: b) = some (acc ++ a, b)
  | [], acc, _ => by
    rw [List.nil_append, TL.par_hit (by rw [pre1]; simp)]
    simp
  | c :: a, acc, h => by
    rw [List.cons_append, TL.par_miss (by rw [pre1]; simp; intro z; exact h (z ▸ List.mem_cons_self ..)), par2 a _ fun z => h (List.mem_cons_of_mem _ z)]
    simp
theorem spl1 {s : Nat} : ∀ (a acc : List Nat), s ∉ a → TL.spl [s] 0 acc a = [acc ++ a]
  | [], acc, _ => by rw [TL.spl_nil]; simp
  | c :: a, acc, h => by
    rw [TL.spl_miss (by rw [pre1]; simp; intro z; exact h (z ▸ List.mem_cons_self ..)), spl1 a _ fun z => h (List.mem_cons_of_mem _ z)]
    simp
theorem spl2 {s : Nat} {b : List Nat} : ∀ (a acc : List Nat), s ∉ a → TL.spl [s] 0 acc (a ++ s :: b) = (acc ++ a) :: TL.spl [s] 0 [] b
  | [], acc, _ => by
    rw [List.nil_append, TL.spl_hit (by rw [pre1]; simp)]
    simp
  | c :: a, acc, h => by
    rw [List.cons_append, TL.spl_miss (by rw [pre1]; simp; intro z; exact h (z ▸ List.mem_cons_self ..)), spl2 a _ fun z => h (List.mem_cons_of_mem _ z)]
    simp
theorem cut1 (s : Nat) : ∀ t : List Nat, s ∉ t ∨ ∃ a b, t = a ++ s :: b ∧ s ∉ a
  | [] => .inl (by simp)
  | c :: t => by
    by_cases h : c = s
    · exact .inr ⟨[], t, by rw [h]; rfl, by simp⟩
    · rcases cut1 s t with z | ⟨a, b, e, z⟩
      · exact .inl (by simp; exact ⟨fun q => h q.symm, z⟩)
      · exact .inr ⟨c :: a, b, by rw [e]; rfl, by simp; exact ⟨fun q => h q.symm, z⟩⟩
theorem spl_ne (s : Nat) (t acc : List Nat) : ∃ x y, TL.spl [s] 0 acc t = x :: y := by
  rcases cut1 s t with z | ⟨a, b, e, z⟩
  · exact ⟨_, _, spl1 t acc z⟩
  · exact ⟨_, _, by rw [e]; exact spl2 a acc z⟩
theorem cut_take {t : List Nat} (k : Nat) : cutL t none (some (k : Int)) = t.take k := by
  unfold cutL
  rw [HT.sIx_none, HT.sIx_nat, List.drop_zero, Nat.sub_zero]
  by_cases h : k ≤ t.length
  · rw [Nat.min_eq_left h]
  · rw [Nat.min_eq_right (by omega), List.take_length, List.take_of_length_le (by omega)]
theorem cut_drop {t : List Nat} (k : Nat) : cutL t (some (k : Int)) none = t.drop k := by
  unfold cutL
  rw [HT.sIx_none, HT.sIx_nat]
  by_cases h : k ≤ t.length
  · rw [Nat.min_eq_left h, List.take_of_length_le (by rw [List.length_drop]; omega)]
  · rw [Nat.min_eq_right (by omega), List.drop_length, List.drop_of_length_le (by omega)]; simp
end HD

set_option linter.all false
set_option maxRecDepth 100000
set_option maxHeartbeats 2000000
namespace HD
open PySem PySem.Spec PyProof.Rows L2 L2H Z
/-! comprehensions -/
theorem lc_step {ga : D → ATS} {P : AT} {A : AE} {env e1 : En} {d y : D} {ds : List D} {μ : Sto} {b : Bool} (h1 : ga d env μ = .nx e1 μ) (h2 : P e1 μ = .ok b μ) (h3 : b = true → A e1 μ = .ok y μ) :
    lcA ga P A env (d :: ds) μ = if b = true then (lcA ga P A env ds μ).bind fun ys m => .ok (y :: ys) m else lcA ga P A env ds μ := by
  show (match ga d env μ with
    | .nx e1 m1 => (P e1 m1).noex.bind fun b m2 => if b = true then (A e1 m2).noex.bind fun y m3 => (lcA ga P A env ds m3).bind fun ys m4 => .ok (y :: ys) m4 else lcA ga P A env ds m2
    | _ => .fail) = _
  rw [h1]
  simp only [h2]
  cases b with
  | true => simp only [R.noex, R.bind, if_pos, h3 rfl]
  | false => rfl
/-- a map of a list -/
theorem lc_map {α : Type} {ga : D → ATS} {A : AE} {env : En} {μ : Sto} (f : α → D) (g : α → D) : ∀ (l : List α), (∀ x ∈ l, ∃ e1, ga (f x) env μ = .nx e1 μ ∧ A e1 μ = .ok (g x) μ) → lcA ga aYes A env (l.map f) μ = .ok (l.map g) μ
  | [], _ => rfl
  | x :: l, h => by
    obtain ⟨e1, h1, h2⟩ := h x (List.mem_cons_self ..)
    rw [List.map_cons, lc_step (b := true) (y := g x) h1 rfl (fun _ => h2), if_pos rfl, lc_map f g l fun y hy => h y (List.mem_cons_of_mem _ hy)]
    rfl
theorem lc_mapL {α : Type} {I : AA} {ga : D → ATS} {A : AE} {vs : List Nat} {env : En} {μ : Sto} {f g : α → D} {l : List α} (hi : I env μ = .ok (l.map f) μ) (hl : l.length < line) (h : ∀ x ∈ l, ∃ e1, ga (f x) (wipeE env vs) μ = .nx e1 μ ∧ A e1 μ = .ok (g x) μ) :
    aLc I ga aYes A vs env μ = .ok (.lst (l.map g)) μ := by
  unfold aLc
  rw [hi, R.bind_ok, if_pos (by rw [List.length_map]; exact hl), lc_map f g l h]
  rfl
/-! primes -/
abbrev PsN : List Nat := [2, 3, 5, 97, 7, 11, 13, 17, 19, 23, 29, 31, 37, 41, 43, 47, 53, 59, 61, 67, 71, 73, 79, 83, 89]
theorem psn_bd : ∀ p ∈ PsN, 2 ≤ p ∧ p ≤ 97 := by decide +kernel
def Gp (p : Int) : Prop := p = 0 ∨ ∃ q : Nat, q ∈ PsN ∧ p = q
theorem gp_bd {p : Int} (h : Gp p) : 0 ≤ p ∧ p ≤ 97 := by
  rcases h with rfl | ⟨q, hq, rfl⟩
  · decide
  · have := psn_bd q hq; omega
theorem gp_pos {p : Int} (hp : Gp p) (h : p ≠ 0) : 2 ≤ p := by
  rcases hp with z | ⟨q, hq, rfl⟩
  · exact absurd z h
  · have := psn_bd q hq; omega
def gr (p : Int) : D := .ins .ground [.int p]
theorem q_prime {p : Int} {μ : Sto} : dFld .ground 0 (gr p) μ = .ok (.int p) μ := rfl
theorem isC_gr {p : Int} {μ : Sto} : D.isC .ground μ (gr p) = true := rfl
def spE : AE := aOp dNe (aOp dMod (aVar 0) (aVar 1)) (aC (.int 0))
theorem sp_list {q : Nat} {μ : Sto} {env : En} (e0 : env[0]? = some (some (.int q))) (el : 1 < env.length) : ∀ (n i : Nat), 1 ≤ i →
    lcA (gNm 1) aYes spE env (rangeD i n) μ = .ok ((List.range' i n).map fun k => D.bl (!decide ((q : Int) % (k : Nat) = 0))) μ
  | 0, i, _ => rfl
  | n + 1, i, hi => by
    have ih := sp_list (μ := μ) e0 el n (i + 1) (by omega)
    have s0 : (env.set 1 (some (.int i)))[0]? = some (some (.int q)) := by rw [List.getElem?_set_ne (by decide)]; exact e0
    have s1 : (env.set 1 (some (.int i)))[1]? = some (some (D.int i)) := List.getElem?_set_self el
    have md : ∀ (μ : Sto), dMod (.int q) (.int i) μ = .ok (.int (q % i)) μ := fun μ => q_mod (by omega)
    have st := lc_step (ga := gNm 1) (P := aYes) (A := spE) (env := env) (d := .int i) (y := .bl (!decide ((q : Int) % (i : Nat) = 0))) (ds := rangeD ((i : Int) + 1) n) (μ := μ) (e1 := env.set 1 (some (.int i))) (b := true) rfl rfl (fun _ => by simp [spE, s0, s1, md])
    show lcA (gNm 1) aYes spE env (.int i :: rangeD ((i : Int) + 1) n) μ = _
    have ih : lcA (gNm 1) aYes spE env (rangeD ((i : Int) + 1) n) μ = _ := ih
    rw [st, if_pos rfl, ih, List.range'_succ, List.map_cons, R.bind_ok]
theorem prime_all : ∀ q ∈ PsN, ∀ k ∈ List.range' 2 (q - 2), q % k ≠ 0 := by decide +kernel
theorem bls_all {α : Type} {f : α → Bool} : ∀ l : List α, bls (l.map fun k => D.bl (f k)) = some (l.map f)
  | [] => rfl
  | k :: l => by
    show (bls (l.map fun k => D.bl (f k))).map (fun bs => f k :: bs) = _
    rw [bls_all l]; rfl
theorem q_all {α : Type} {f : α → Bool} {l : List α} {μ : Sto} : dAllQ (fun bs => bs.all id) (.lst (l.map fun k => D.bl (f k))) μ = .ok (.bl (l.all f)) μ := by
  unfold dAllQ
  have e : D.sqL μ (.lst (l.map fun k => D.bl (f k))) = some (l.map fun k => D.bl (f k)) := rfl
  rw [e]
  show (match bls (l.map fun k => D.bl (f k)) with
    | some bs => (Z.R.ok (D.bl (bs.all id)) μ : Z.R D)
    | none => .fail) = _
  rw [bls_all]
  show (Z.R.ok (D.bl ((l.map f).all id)) μ : Z.R D) = _
  rw [List.all_map]; rfl
theorem sp_rg {q : Nat} {env : En} {μ : Sto} (h1 : 2 ≤ q) (h2 : q ≤ 97) (e0 : env[0]? = some (some (.int q))) : aItR2 (aCons (aC (.int 2)) (aCons (aVar 0) aNil)) env μ = .ok (rangeD 2 (q - 2)) μ := by
  have e : ((q : Int) - 2).toNat = q - 2 := by omega
  have c := big_ok (i := 2) (by decide) (by decide)
  have d := big_ok (i := q) (by omega) (by omega)
  have h : aCons (aC (.int 2)) (aCons (aVar 0) aNil) env μ = .ok [.int 2, .int q] μ := by simp [e0]
  rw [q_R2 h ⟨c.1, c.2, d.1, d.2⟩, e]
theorem sp_lc {q : Nat} {env : En} {μ : Sto} (h1 : 2 ≤ q) (h2 : q ≤ 97) (e0 : env[0]? = some (some (.int q))) (w0 : (wipeE env [1])[0]? = some (some (.int q))) (el : 1 < (wipeE env [1]).length) :
    aLc (aItR2 (aCons (aC (.int 2)) (aCons (aVar 0) aNil))) (gNm 1) aYes spE [1] env μ = .ok (.lst ((List.range' 2 (q - 2)).map fun k => D.bl (!decide ((q : Int) % (k : Nat) = 0)))) μ := by
  have lc := sp_list (q := q) (μ := μ) w0 el (q - 2) 2 (by omega)
  have rg := sp_rg (μ := μ) h1 h2 e0
  have ml : (rangeD 2 (q - 2)).length < line := by rw [rangeD_len, q_line]; omega
  unfold aLc
  rw [rg, R.bind_ok, if_pos ml]
  have lc2 : lcA (gNm 1) aYes spE (wipeE env [1]) (rangeD 2 (q - 2)) μ = _ := lc
  rw [lc2, R.bind_ok]
theorem sp_al {q : Nat} {μ : Sto} (hq : q ∈ PsN) : dAllQ (fun bs => bs.all id) (.lst ((List.range' 2 (q - 2)).map fun k => D.bl (!decide ((q : Int) % (k : Nat) = 0)))) μ = .ok (.bl true) μ := by
  rw [q_all]
  have : (List.range' 2 (q - 2)).all (fun k => !decide ((q : Int) % (k : Nat) = 0)) = true := by
    rw [List.all_eq_true]
    intro k hk
    have z := prime_all q hq k hk
    have z2 : ¬ (q : Int) % (k : Nat) = 0 := fun e => z (by exact_mod_cast e)
    simp [z2]
  rw [this]
def spS : ATS := (aSeq (aIf (aOrT (aB (aOp dLt (aVar 0) (aC (.int 2)))) (aB (aOp dGt (aVar 0) (aC (.int 97))))) (aRet (aC (.bl false))) aNext)
  (aRet (aCB (one1 (dAllQ fun bs => bs.all id)) (aCons (aLc (aItR2 (aCons (aC (.int 2)) (aCons (aVar 0) aNil))) (gNm 1) aYes spE [1]) aNil))))
theorem sp_eq : a_is_small_prime = aDef 1 spS := rfl
theorem sp_fin {x : Int} {ds : List D} {μ : Sto} (h1 : ¬ x < 2) (h2 : ¬ 97 < x) (lcv : aLc (aItR2 (aCons (aC (.int 2)) (aCons (aVar 0) aNil))) (gNm 1) aYes spE [1] [some (.int x), none] μ = .ok (.lst ds) μ) (al : dAllQ (fun bs => bs.all id) (.lst ds) μ = .ok (.bl true) μ) : a_is_small_prime [.int x] μ = .ok (.bl true) μ := by
  rw [sp_eq]
  simp [spS, h1, h2, lcv, al]
theorem small_prime {q : Nat} {μ : Sto} (hq : q ∈ PsN) : a_is_small_prime [.int q] μ = .ok (.bl true) μ := by
  have hb := psn_bd q hq
  exact sp_fin (by omega) (by omega) (sp_lc hb.1 hb.2 rfl rfl (by simp [wipeE])) (sp_al hq)
theorem is_ground {p : Int} {μ : Sto} (hp : Gp p) : a_is_ground [.int p] μ = .ok (.bl true) μ := by
  have w : a_is_whole_grounds [.int p] μ = .ok (.bl true) μ := by
    have e1 : dIsi (.int p) (.ty "int") μ = .ok (.bl true) μ := rfl
    have e2 : dIsi (.int p) (.ty "bool") μ = .ok (.bl false) μ := rfl
    simp [a_is_whole_grounds, e1, e2]
  rcases hp with rfl | ⟨q, hq, rfl⟩
  · simp [a_is_ground, w]
  · have sp := small_prime (μ := μ) hq
    by_cases q0 : (q : Int) = 0
    · have := psn_bd q hq; omega
    · have q1 : ¬ q = 0 := by omega
      simp [a_is_ground, w, q0, q1, sp]
theorem make_gr {p : Int} {i : Nat} {env : En} {μ : Sto} (hp : Gp p) (hμ : μ.all M.imm = true) (e : env[i]? = some (some (.int p))) : aMake .ground a_Ground__init [] (aCons (aVar i) aNil) env μ = .ok (gr p) μ := by
  have g := is_ground (μ := μ ++ [.ins .ground []]) hp
  have st : a_Ground__init [.ob μ.length, .int p] (μ ++ [.ins .ground []]) = .ok .non (μ ++ [.ins .ground [.int p]]) := by
    simp [a_Ground__init, g, aSetF]
  unfold aMake
  simp [e, st, makeR, makeOk, Cn.fs, D.imms, D.imm, hμ]
  rfl
theorem prime_ok {n : Nat} {μ : Sto} (hb : Bag n μ) : ∃ p μ', a__law_prime [.ob n] μ = .ok (.int p) μ' ∧ Gp p ∧ Bag n μ' ∧ Fr [n] μ μ' := by
  obtain ⟨r, μ1, e1, h0, h1, b1, f1⟩ := draw hb (many := 6) (by decide) (by decide)
  by_cases hr : r < 5
  · obtain ⟨d, hd, hm⟩ := atD_mem (xs := [.int 0, .int 2, .int 3, .int 5, .int 97]) h0 (by simpa using hr)
    have : ∃ p, d = .int p ∧ Gp p := by
      simp only [List.mem_cons, List.not_mem_nil, or_false] at hm
      rcases hm with rfl | rfl | rfl | rfl | rfl
      · exact ⟨0, rfl, .inl rfl⟩
      · exact ⟨_, rfl, .inr ⟨2, by decide, rfl⟩⟩
      · exact ⟨_, rfl, .inr ⟨3, by decide, rfl⟩⟩
      · exact ⟨_, rfl, .inr ⟨5, by decide, rfl⟩⟩
      · exact ⟨_, rfl, .inr ⟨97, by decide, rfl⟩⟩
    obtain ⟨p, rfl, hp⟩ := this
    exact ⟨p, μ1, by simp [a__law_prime, e1, hr, hd], hp, b1, f1⟩
  · obtain ⟨r2, μ2, e2, h2, h3, b2, f2⟩ := draw b1 (many := 22) (by decide) (by decide)
    obtain ⟨d, hd, hm⟩ := atD_mem (xs := [.int 0, .int 7, .int 11, .int 13, .int 17, .int 19, .int 23, .int 29, .int 31, .int 37, .int 41, .int 43, .int 47, .int 53, .int 59, .int 61, .int 67, .int 71, .int 73, .int 79, .int 83, .int 89]) h2 (by simpa using h3)
    have : ∃ p, d = .int p ∧ Gp p := by
      have key : ∀ q ∈ [7, 11, 13, 17, 19, 23, 29, 31, 37, 41, 43, 47, 53, 59, 61, 67, 71, 73, 79, 83, 89], q ∈ PsN := by decide
      have e : ([.int 0, .int 7, .int 11, .int 13, .int 17, .int 19, .int 23, .int 29, .int 31, .int 37, .int 41, .int 43, .int 47, .int 53, .int 59, .int 61, .int 67, .int 71, .int 73, .int 79, .int 83, .int 89] : List D) = .int 0 :: ([7, 11, 13, 17, 19, 23, 29, 31, 37, 41, 43, 47, 53, 59, 61, 67, 71, 73, 79, 83, 89] : List Nat).map fun (q : Nat) => D.int (q : Int) := rfl
      rw [e] at hm
      rcases List.mem_cons.mp hm with rfl | hm
      · exact ⟨0, rfl, .inl rfl⟩
      · obtain ⟨q, hq, rfl⟩ := List.mem_map.mp hm
        exact ⟨_, rfl, .inr ⟨q, key q hq, rfl⟩⟩
    obtain ⟨p, rfl, hp⟩ := this
    exact ⟨p, μ2, by simp [a__law_prime, e1, e2, hr, hd], hp, b2, hb.fr f1 f2⟩
end HD

set_option linter.all false
set_option maxRecDepth 100000
set_option maxHeartbeats 4000000
namespace HD
open PySem PySem.Spec PyProof.Rows L2 L2H Z
/-! numbers of a ground, with a bound -/
def Num (p B : Int) (d : D) : Prop := (0 < p ∧ ∃ r, d = .int r ∧ 0 ≤ r ∧ r < p) ∨ (p = 0 ∧ ∃ u v : Int, d = .tup [.int u, .int v] ∧ -B ≤ u ∧ u ≤ B ∧ 0 < v ∧ v ≤ B)
theorem Num.mono {p B C : Int} {d : D} (h : Num p B d) (l : B ≤ C) : Num p C d := by
  rcases h with h | ⟨h0, u, v, e, h1, h2, h3, h4⟩
  · exact .inl h
  · exact .inr ⟨h0, u, v, e, by omega, by omega, h3, by omega⟩
theorem ediv_bd {t g B : Int} (hg : 0 < g) (hB : 0 ≤ B) (h1 : -B ≤ t) (h2 : t ≤ B) : -B ≤ t / g ∧ t / g ≤ B := by
  have q : B ≤ B * g := by
    have := Int.mul_le_mul_of_nonneg_left (show (1 : Int) ≤ g by omega) hB
    rw [Int.mul_one] at this
    exact this
  refine ⟨Int.le_ediv_of_mul_le hg ?_, ?_⟩
  · rw [Int.neg_mul]; omega
  · have := Int.ediv_lt_of_lt_mul hg (show t < (B + 1) * g by rw [Int.add_mul]; omega)
    omega
theorem gcd_div_pos {t b : Int} (h : 0 < b) : 0 < b / Int.gcd t b := by
  have g1 := gcd_pos (t := t) h
  have d : (Int.gcd t b : Int) ∣ b := Int.gcd_dvd_right _ _
  exact Int.ediv_pos_of_pos_of_dvd h (by omega) d
theorem low_num {B t b : Int} (h : 0 < b) (hb : b ≤ B) (h1 : -B ≤ t) (h2 : t ≤ B) : Num 0 B (low t b) := by
  have g1 := gcd_pos (t := t) h
  have x := ediv_bd (B := B) g1 (by omega) h1 h2
  have y := ediv_bd (t := b) (B := B) g1 (by omega) (by omega) hb
  exact .inr ⟨rfl, _, _, rfl, x.1, x.2, gcd_div_pos h, y.2⟩
theorem number_ok {n : Nat} {p : Int} {μ : Sto} (hb : Bag n μ) (hp : Gp p) : ∃ d μ', a__law_number [.ob n, .int p] μ = .ok d μ' ∧ Num p 10000 d ∧ Bag n μ' ∧ Fr [n] μ μ' := by
  have gb := gp_bd hp
  by_cases p0 : 0 < p
  · obtain ⟨r, μ1, e1, h0, h1, b1, f1⟩ := draw hb (many := p) p0 (by omega)
    exact ⟨.int r, μ1, by simp [a__law_number, e1, p0], .inl ⟨p0, r, rfl, h0, h1⟩, b1, f1⟩
  · have e : p = 0 := by omega
    subst e
    obtain ⟨k, μ1, e1, h0, h1, b1, f1⟩ := draw hb (many := 8) (by decide) (by decide)
    by_cases hk : k = 0
    · obtain ⟨s, μ2, e2, h2, h3, b2, f2⟩ := draw b1 (many := 20001) (by decide) (by decide)
      obtain ⟨g, μ3, e3, h4, h5, b3, f3⟩ := draw b2 (many := 500) (by decide) (by decide)
      have l := llow1 (t := s - 10000) (b := 1 + g) (μ := μ3) (by omega) (by omega)
      exact ⟨_, μ3, by simp [a__law_number, e1, hk, e2, e3, a__law_lowest, l]; rfl, low_num (by omega) (by omega) (by omega) (by omega), b3, hb.fr f1 (b1.fr f2 f3)⟩
    · by_cases hk4 : k < 4
      · obtain ⟨s, μ2, e2, h2, h3, b2, f2⟩ := draw b1 (many := 13) (by decide) (by decide)
        obtain ⟨g, μ3, e3, h4, h5, b3, f3⟩ := draw b2 (many := 4) (by decide) (by decide)
        have l := llow1 (t := s - 6) (b := 1 + g) (μ := μ3) (by omega) (by omega)
        exact ⟨_, μ3, by simp [a__law_number, e1, hk, hk4, e2, e3, a__law_lowest, l]; rfl, low_num (by omega) (by omega) (by omega) (by omega), b3, hb.fr f1 (b1.fr f2 f3)⟩
      · obtain ⟨d, hd, hm⟩ := atD_mem (xs := [.tup [.int 0, .int 1], .tup [.int 1, .int 1], .tup [.int (-1), .int 1], .tup [.int 2, .int 1]]) (r := k - 4) (by omega) (by simp; omega)
        refine ⟨d, μ1, by simp [a__law_number, e1, hk, hk4, hd], ?_, b1, f1⟩
        simp only [List.mem_cons, List.not_mem_nil, or_false] at hm
        rcases hm with rfl | rfl | rfl | rfl <;> exact .inr ⟨rfl, _, _, rfl, by decide, by decide, by decide, by decide⟩
theorem int_ok {p k : Int} {μ : Sto} (hp : Gp p) (h0 : 0 ≤ k) (h1 : k ≤ 1) : ∃ d, a__law_int [.int p, .int k] μ = .ok d μ ∧ Num p 1 d := by
  have gb := gp_bd hp
  by_cases p0 : 0 < p
  · exact ⟨.int (k % p), by simp [a__law_int, p0], .inl ⟨p0, _, rfl, Int.emod_nonneg _ (by omega), Int.emod_lt_of_pos _ p0⟩⟩
  · exact ⟨.tup [.int k, .int 1], by simp [a__law_int, p0], .inr ⟨by omega, _, _, rfl, by omega, by omega, by omega, by omega⟩⟩
theorem mul_bd {B C u w : Int} (hu : -B ≤ u ∧ u ≤ B) (hw : -C ≤ w ∧ w ≤ C) : -(B * C) ≤ u * w ∧ u * w ≤ B * C := by
  have e : (u * w).natAbs ≤ (B * C).natAbs := by
    rw [Int.natAbs_mul, Int.natAbs_mul]
    exact Nat.mul_le_mul (by omega) (by omega)
  have z : 0 ≤ B * C := Int.mul_nonneg (by omega) (by omega)
  omega
/-- products and sums of numbers -/
def nmul (p : Int) (a b : D) : D := match a, b with
  | .int r, .int s => .int (r * s % p)
  | .tup [.int u, .int v], .tup [.int w, .int x] => low (u * w) (v * x)
  | _, _ => .non
def nadd (p : Int) (a b : D) : D := match a, b with
  | .int r, .int s => .int ((r + s) % p)
  | .tup [.int u, .int v], .tup [.int w, .int x] => low (u * x + w * v) (v * x)
  | _, _ => .non
theorem nmul_num {p A B : Int} {a b : D} (ha : Num p A a) (hb : Num p B b) : Num p (A * B) (nmul p a b) := by
  rcases ha with ⟨p0, r, rfl, r0, r1⟩ | ⟨rfl, u, v, rfl, u0, u1, v0, v1⟩
  · rcases hb with ⟨_, s, rfl, s0, s1⟩ | ⟨e, _⟩
    · exact .inl ⟨p0, _, rfl, Int.emod_nonneg _ (by omega), Int.emod_lt_of_pos _ p0⟩
    · omega
  · rcases hb with ⟨e, _⟩ | ⟨_, w, x, rfl, w0, w1, x0, x1⟩
    · omega
    · have b1 := mul_bd (B := A) (C := B) ⟨u0, u1⟩ ⟨w0, w1⟩
      have b2 := mul_bd (B := A) (C := B) (u := v) (w := x) ⟨by omega, v1⟩ ⟨by omega, x1⟩
      exact low_num (Int.mul_pos v0 x0) b2.2 b1.1 b1.2
theorem nadd_num {p A B : Int} {a b : D} (ha : Num p A a) (hb : Num p B b) : Num p (2 * (A * B)) (nadd p a b) := by
  rcases ha with ⟨p0, r, rfl, r0, r1⟩ | ⟨rfl, u, v, rfl, u0, u1, v0, v1⟩
  · rcases hb with ⟨_, s, rfl, s0, s1⟩ | ⟨e, _⟩
    · exact .inl ⟨p0, _, rfl, Int.emod_nonneg _ (by omega), Int.emod_lt_of_pos _ p0⟩
    · omega
  · rcases hb with ⟨e, _⟩ | ⟨_, w, x, rfl, w0, w1, x0, x1⟩
    · omega
    · have b1 := mul_bd (B := A) (C := B) (u := u) (w := x) ⟨u0, u1⟩ ⟨by omega, x1⟩
      have b4 := mul_bd (B := B) (C := A) (u := w) (w := v) ⟨w0, w1⟩ ⟨by omega, v1⟩
      have b2 := mul_bd (B := A) (C := B) (u := v) (w := x) ⟨by omega, v1⟩ ⟨by omega, x1⟩
      rw [Int.mul_comm B A] at b4
      have b3 : 0 < v * x := Int.mul_pos v0 x0
      exact low_num b3 (by omega) (by omega) (by omega)
theorem nmul_ok {p : Int} {a b : D} {μ : Sto} (hp : Gp p) (ha : Num p (10 ^ 30) a) (hb : Num p (10 ^ 30) b) : a__law_mul [.int p, a, b] μ = .ok (nmul p a b) μ := by
  have gb := gp_bd hp
  rcases ha with ⟨p0, r, rfl, r0, r1⟩ | ⟨rfl, u, v, rfl, u0, u1, v0, v1⟩
  · rcases hb with ⟨_, s, rfl, s0, s1⟩ | ⟨e, _⟩
    · have m1 := fun μ => mulB (x := r) (y := s) (by omega) (by omega) μ
      simp [a__law_mul, p0, m1, nmul]
    · omega
  · rcases hb with ⟨e, _⟩ | ⟨_, w, x, rfl, w0, w1, x0, x1⟩
    · omega
    · have m1 := fun μ => mulB (x := u) (y := w) (by omega) (by omega) μ
      have m2 := fun μ => mulB (x := v) (y := x) (by omega) (by omega) μ
      have b2 := mul_bd (B := 10 ^ 30) (C := 10 ^ 30) (u := v) (w := x) ⟨by omega, v1⟩ ⟨by omega, x1⟩
      have b3 : 0 < v * x := Int.mul_pos v0 x0
      have l := llow1 (t := u * w) (b := v * x) (μ := μ) b3 (by omega)
      simp [a__law_mul, atD_0, atD_1, m1, m2, a__law_lowest, l, nmul]
theorem nadd_ok {p : Int} {a b : D} {μ : Sto} (hp : Gp p) (ha : Num p (10 ^ 30) a) (hb : Num p (10 ^ 30) b) : a__law_add [.int p, a, b] μ = .ok (nadd p a b) μ := by
  have gb := gp_bd hp
  rcases ha with ⟨p0, r, rfl, r0, r1⟩ | ⟨rfl, u, v, rfl, u0, u1, v0, v1⟩
  · rcases hb with ⟨_, s, rfl, s0, s1⟩ | ⟨e, _⟩
    · simp [a__law_add, p0, nadd]
    · omega
  · rcases hb with ⟨e, _⟩ | ⟨_, w, x, rfl, w0, w1, x0, x1⟩
    · omega
    · have m1 := fun μ => mulB (x := u) (y := x) (by omega) (by omega) μ
      have m2 := fun μ => mulB (x := w) (y := v) (by omega) (by omega) μ
      have m3 := fun μ => mulB (x := v) (y := x) (by omega) (by omega) μ
      have b2 := mul_bd (B := 10 ^ 30) (C := 10 ^ 30) (u := v) (w := x) ⟨by omega, v1⟩ ⟨by omega, x1⟩
      have b3 : 0 < v * x := Int.mul_pos v0 x0
      have l := llow1 (t := u * x + w * v) (b := v * x) (μ := μ) b3 (by omega)
      simp [a__law_add, atD_0, atD_1, m1, m2, m3, a__law_lowest, l, nadd]
/-! texts of numbers -/
theorem strB {x : Int} (h : x.natAbs < 10 ^ 70) (μ : Sto) : dStr (.int x) μ = .ok (.str (intS x)) μ := q_str (Nat.lt_trans (lgN (k := 250) (by decide) (Nat.lt_of_lt_of_le h (by decide))) (by decide))
theorem fmtB {x : Int} (h : x.natAbs < 10 ^ 70) (μ : Sto) : dFmt (.int x) μ = .ok (.str (intS x)) μ := if_pos (Nat.lt_trans (lgN (k := 250) (by decide) (Nat.lt_of_lt_of_le h (by decide))) (by decide))
theorem intS_len {x : Int} (h : x.natAbs < 10 ^ 70) : (intS x).length ≤ 71 := by
  have := TL.numL_len (k := 70) (by decide) h
  unfold intS
  split
  · rw [List.length_cons]; omega
  · omega
theorem addB {x y : List Nat} (hx : x.length ≤ 5000000) (hy : y.length ≤ 5000000) (μ : Sto) : dAdd (.str x) (.str y) μ = .ok (.str (x ++ y)) μ := q_addS (by rw [q_line]; omega)
def txt (d : D) : List Nat := match d with
  | .int r => intS r
  | .tup [.int u, .int v] => if v = 1 then intS u else intS u ++ 47 :: intS v
  | _ => []
theorem shown_ok {p : Int} {d : D} {μ : Sto} (hp : Gp p) (h : Num p (10 ^ 30) d) : a__law_shown [.int p, d] μ = .ok (.str (txt d)) μ := by
  have gb := gp_bd hp
  rcases h with ⟨p0, r, rfl, h0, h1⟩ | ⟨rfl, u, v, rfl, hu, hu1, hv, hv1⟩
  · have s := fun μ => strB (x := r) (by omega) μ
    simp [a__law_shown, p0, s, txt]
  · have s1 := fun μ => strB (x := u) (by omega) μ
    have s2 := fun μ => strB (x := v) (by omega) μ
    have l1 := intS_len (x := u) (by omega)
    have l2 := intS_len (x := v) (by omega)
    by_cases v1 : v = 1
    · subst v1
      simp [a__law_shown, s1, txt, atD_0, atD_1]
    · have k1 := fun μ => addB (x := intS u) (y := [47]) (by omega) (by simp) μ
      have k2 := fun μ => addB (x := intS u ++ [47]) (y := intS v) (by rw [List.length_append, List.length_singleton]; omega) (by omega) μ
      simp [a__law_shown, s1, s2, txt, atD_0, atD_1, v1, k1, k2, -List.append_assoc]
      simp
/-- pieces of a written text -/
theorem js_nil {acc : List Nat} {env : En} {μ : Sto} : aJs [] acc env μ = .ok (.str acc) μ := rfl
theorem js_step {A : AE} {As : List AE} {acc s : List Nat} {env : En} {μ : Sto} (h : A env μ = .ok (.str s) μ) (hl : (acc ++ s).length ≤ line) : aJs (A :: As) acc env μ = aJs As (acc ++ s) env μ := by
  show ((A env μ).bind fun d m => match d with
    | .str s => if (acc ++ s).length ≤ line then aJs As (acc ++ s) env m else .fail
    | _ => .fail) = _
  rw [h, R.bind_ok]
  show (if (acc ++ s).length ≤ line then _ else _) = _
  rw [if_pos hl]
theorem js2 {A B : AE} {s t : List Nat} {env : En} {μ : Sto} (h1 : A env μ = .ok (.str s) μ) (h2 : B env μ = .ok (.str t) μ) (l1 : s.length ≤ 1000) (l2 : t.length ≤ 1000) : aJs [A, B] [] env μ = .ok (.str (s ++ t)) μ := by
  rw [js_step h1 (by rw [q_line]; simp; omega), js_step h2 (by rw [q_line]; simp; omega), js_nil, List.nil_append]
theorem js3 {A B C : AE} {s t u : List Nat} {env : En} {μ : Sto} (h1 : A env μ = .ok (.str s) μ) (h2 : B env μ = .ok (.str t) μ) (h3 : C env μ = .ok (.str u) μ) (l1 : s.length ≤ 1000) (l2 : t.length ≤ 1000) (l3 : u.length ≤ 1000) : aJs [A, B, C] [] env μ = .ok (.str (s ++ t ++ u)) μ := by
  rw [js_step h1 (by rw [q_line]; simp; omega), js_step h2 (by rw [q_line]; simp; omega), js_step h3 (by rw [q_line]; simp; omega), js_nil, List.nil_append]
theorem show_ok {p : Int} {d : D} {μ : Sto} (hp : Gp p) (h : Num p (10 ^ 30) d) : a_show_number [gr p, d] μ = .ok (.str (txt d)) μ := by
  have gb := gp_bd hp
  rcases h with ⟨p0, r, rfl, h0, h1⟩ | ⟨rfl, u, v, rfl, hu, hu1, hv, hv1⟩
  · have s := fun μ => strB (x := r) (by omega) μ
    simp [a_show_number, q_prime, p0, s, txt]
  · have s1 := fun μ => strB (x := u) (by omega) μ
    have f1 := fun μ => fmtB (x := u) (by omega) μ
    have f2 := fun μ => fmtB (x := v) (by omega) μ
    have l1 := intS_len (x := u) (by omega)
    have l2 := intS_len (x := v) (by omega)
    by_cases v1 : v = 1
    · subst v1
      simp [a_show_number, q_prime, s1, txt, atD_0, atD_1]
    · have js : ∀ (env : En) (μ : Sto), env[1]? = some (some (.tup [.int u, .int v])) → aJs [(aUn dFmt (aOp dIx (aVar 1) (aC (.int 0)))), (aC (.str [47])), (aUn dFmt (aOp dIx (aVar 1) (aC (.int 1))))] [] env μ = .ok (.str (intS u ++ 47 :: intS v)) μ := fun env μ e => by
        rw [js3 (s := intS u) (t := [47]) (u := intS v) (by simp [e, atD_0, f1]) rfl (by simp [e, atD_1, f2]) (by omega) (by simp) (by omega)]
        simp
      simp [a_show_number, q_prime, txt, atD_0, atD_1, v1, js]
theorem txt_len {p : Int} {d : D} (hp : Gp p) (h : Num p (10 ^ 30) d) : (txt d).length ≤ 200 := by
  have gb := gp_bd hp
  rcases h with ⟨p0, r, rfl, h0, h1⟩ | ⟨rfl, u, v, rfl, hu, hu1, hv, hv1⟩
  · have s := intS_len (x := r) (by omega)
    show (intS r).length ≤ 200
    omega
  · have l1 := intS_len (x := u) (by omega)
    have l2 := intS_len (x := v) (by omega)
    show (if v = 1 then intS u else intS u ++ 47 :: intS v).length ≤ 200
    split
    · omega
    · rw [List.length_append, List.length_cons]; omega
end HD

set_option linter.all false
set_option maxRecDepth 100000
set_option maxHeartbeats 4000000
namespace HD
open PySem PySem.Spec PyProof.Rows L2 L2H Z
/-! rows of numbers drawn -/
theorem num_imm {p B : Int} {d : D} (h : Num p B d) : d.imm = true ∧ d.cool = true := by
  rcases h with ⟨_, r, rfl, _⟩ | ⟨_, u, v, rfl, _⟩ <;> exact ⟨rfl, rfl⟩
theorem imms_of : ∀ {ys : List D}, (∀ d ∈ ys, d.imm = true ∧ d.cool = true) → D.imms ys = true ∧ D.cools ys = true
  | [], _ => ⟨rfl, rfl⟩
  | d :: ys, h => by
    have a := h d (List.mem_cons_self ..)
    have b := imms_of fun x hx => h x (List.mem_cons_of_mem d hx)
    simp only [D.imms, D.cools, a, b]
    exact ⟨rfl, rfl⟩
theorem nums_imm {p B : Int} {ys : List D} (h : ∀ d ∈ ys, Num p B d) : D.imms ys = true ∧ D.cools ys = true := imms_of fun d hd => num_imm (h d hd)
theorem nums_mok {p B : Int} {ys : List D} (h : ∀ d ∈ ys, Num p B d) : Mok (.lst ys) = true := by
  have a := nums_imm h
  simp only [Mok, M.imm, M.cool, a.1, a.2]; rfl
def rwS : ATS := (aSeq (aAsg 9 (aCall a__law_number [] (aCons (aVar 0) (aCons (aVar 1) aNil))))
  (aIf (aB (aOp dLt (aCall a__law_draw [] (aCons (aVar 0) (aCons (aC (.int 4)) aNil))) (aVar 4))) (aDrop (aBM "list" (fun d ds μ => one1 (dAppend d) ds μ) (aVar 7) (aCons (aVar 9) aNil))) (aDrop (aBM "list" (fun d ds μ => one1 (dAppend d) ds μ) (aVar 7) (aCons (aCall a__law_int [] (aCons (aVar 1) (aCons (aC (.int 0)) aNil))) aNil)))))
theorem lp_cons {ga : D → ATS} {S : ATS} {d : D} {ds : List D} {env e1 e2 : En} {μ m1 m2 : Sto} (h1 : ga d env μ = .nx e1 m1) (h2 : S e1 m1 = .nx e2 m2) : loopA ga S (d :: ds) env μ = loopA ga S ds e2 m2 := by
  show (match ga d env μ with
    | .nx e1 m1 => (match S e1 m1 with
      | .nx e2 m2 => loopA ga S ds e2 m2
      | .ct e2 m2 => loopA ga S ds e2 m2
      | .bk e2 m2 => .nx e2 m2
      | z => z)
    | .ex c e m => .ex c e m
    | _ => .fail) = _
  rw [h1]
  show (match S e1 m1 with
      | .nx e2 m2 => loopA ga S ds e2 m2
      | .ct e2 m2 => loopA ga S ds e2 m2
      | .bk e2 m2 => .nx e2 m2
      | z => z) = _
  rw [h2]
theorem rw_step {n k : Nat} {p thin : Int} {e2 e3 e5 e6 o8 o9 : Option D} {xs : List D} {μ : Sto} (hp : Gp p) (hn : n ≠ k) (hb : Bag n μ) (hk : μ[k]? = some (.lst xs)) (hl : xs.length < line) :
    ∃ q9 d μ', rwS [some (.ob n), some (.int p), e2, e3, some (.int thin), e5, e6, some (.ob k), o8, o9] μ = .nx [some (.ob n), some (.int p), e2, e3, some (.int thin), e5, e6, some (.ob k), o8, q9] μ' ∧ Num p 10000 d ∧ μ'[k]? = some (.lst (xs ++ [d])) ∧ Bag n μ' ∧ Fr [n, k] μ μ' := by
  obtain ⟨d, μ1, e1, hd, b1, f1⟩ := number_ok hb hp
  obtain ⟨r, μ2, e2', h0, h1, b2, f2⟩ := draw b1 (many := 4) (by decide) (by decide)
  have ff := hb.fr f1 f2
  have k2 : μ2[k]? = some (.lst xs) := ff.get hk (by simp; exact fun q => hn q.symm)
  have fin : ∀ x, Fr [n, k] μ (μ2.set k x) := fun x => Fr.trans (ff.sub (by simp)) ((Fr.set x).sub (by simp)) fun m hm => by
    simp only [List.mem_cons, List.not_mem_nil, or_false] at hm
    rcases hm with rfl | rfl
    · exact hb.lt
    · exact get_lt hk
  by_cases c : r < thin
  · refine ⟨some d, d, _, ?_, hd, get_set k2 _, b2.set hn, fin _⟩
    have ap := app_ok (i := 7) (k := k) (env := [some (.ob n), some (.int p), e2, e3, some (.int thin), e5, e6, some (.ob k), o8, some d]) (A := aVar 9) rfl k2 rfl k2 hl
    simp [rwS, e1, e2', c, ap, -q_drop]
  · obtain ⟨z, ez, hz⟩ := int_ok (k := 0) (μ := μ2) hp (by decide) (by decide)
    refine ⟨some d, z, _, ?_, hz.mono (by decide), get_set k2 _, b2.set hn, fin _⟩
    have ap := app_ok (i := 7) (k := k) (env := [some (.ob n), some (.int p), e2, e3, some (.int thin), e5, e6, some (.ob k), o8, some d]) (A := aCall a__law_int [] (aCons (aVar 1) (aCons (aC (.int 0)) aNil))) (d := z) rfl k2 (by simp [ez]) k2 hl
    simp [rwS, e1, e2', c, ap, -q_drop]
theorem rw_loop {n k : Nat} {p thin : Int} {e2 e3 e5 e6 : Option D} (hp : Gp p) (hn : n ≠ k) : ∀ (l : List D) (o8 o9 : Option D) (xs : List D) (μ : Sto), Bag n μ → μ[k]? = some (.lst xs) → xs.length + l.length < line →
    ∃ q8 q9 ys μ', loopA (gNm 8) rwS l [some (.ob n), some (.int p), e2, e3, some (.int thin), e5, e6, some (.ob k), o8, o9] μ = .nx [some (.ob n), some (.int p), e2, e3, some (.int thin), e5, e6, some (.ob k), q8, q9] μ' ∧ μ'[k]? = some (.lst (xs ++ ys)) ∧ ys.length = l.length ∧ (∀ d ∈ ys, Num p 10000 d) ∧ Bag n μ' ∧ Fr [n, k] μ μ'
  | [], o8, o9, xs, μ, hb, hk, hl => ⟨o8, o9, [], μ, rfl, by simpa using hk, rfl, by simp, hb, .refl _ _⟩
  | x :: l, o8, o9, xs, μ, hb, hk, hl => by
    have hl2 : xs.length + (l.length + 1) < line := by simpa using hl
    obtain ⟨q9, d, μ1, e1, hd, k1, b1, f1⟩ := rw_step (thin := thin) (e2 := e2) (e3 := e3) (e5 := e5) (e6 := e6) (o8 := some x) (o9 := o9) hp hn hb hk (by omega)
    obtain ⟨q8, q9', ys, μ2, h1, h2, h3, h4, h5, h6⟩ := rw_loop hp hn l (some x) q9 (xs ++ [d]) μ1 b1 k1 (by rw [List.length_append, List.length_singleton]; omega)
    refine ⟨q8, q9', d :: ys, μ2, ?_, by rw [h2, List.append_assoc]; rfl, by simp [h3], ?_, h5, f1.trans h6 fun m hm => ?_⟩
    · rw [← h1]
      exact lp_cons (e1 := [some (.ob n), some (.int p), e2, e3, some (.int thin), e5, e6, some (.ob k), some x, o9]) rfl e1
    · intro y hy
      rcases List.mem_cons.mp hy with rfl | hy
      · exact hd
      · exact h4 y hy
    · simp only [List.mem_cons, List.not_mem_nil, or_false] at hm
      rcases hm with rfl | rfl
      · exact hb.lt
      · exact get_lt hk
theorem sq_nx {S1 S2 : ATS} {env e : En} {μ m : Sto} (h : S1 env μ = .nx e m) : aSeq S1 S2 env μ = S2 e m := by rw [q_seq, h]
theorem for_nx {I : AA} {ga : D → ATS} {S : ATS} {env : En} {μ m : Sto} {ds : List D} {r : Fl} (hi : I env μ = .ok ds m) (h : loopA ga S ds env m = r) : aFor I ga S env μ = r := by
  unfold aFor; rw [hi]; exact h
def rsS : ATS := (aSeq (aAsg 7 (aLstM aNil))
  (aSeq (aFz 7 (aFor (aItR1 (aCons (aVar 3) aNil)) (gNm 8) rwS))
  (aDrop (aBM "list" (fun d ds μ => one1 (dAppend d) ds μ) (aVar 5) (aCons (aVar 7) aNil)))))
/-- a list of rows -/
def Rows (p B : Int) (w : Nat) (rs : List (List D)) : Prop := ∀ r ∈ rs, r.length = w ∧ ∀ d ∈ r, Num p B d
theorem rg1 {i : Nat} {j : Nat} {env : En} {μ : Sto} (h : env[i]? = some (some (.int j))) (hj : j ≤ 1000) : aItR1 (aCons (aVar i) aNil) env μ = .ok (rangeD 0 j) μ := by
  have c := big_ok (i := j) (by omega) (by omega)
  rw [q_R1 (j := j) (m := μ) (by simp [h]) c]
  rfl
theorem rs_step {n R : Nat} {p thin : Int} {w : Nat} {e2 e6 o7 o8 o9 : Option D} {rs : List (List D)} {μ : Sto} (hp : Gp p) (hn : n ≠ R) (hb : Bag n μ) (hR : μ[R]? = some (.lst (rs.map D.lst))) (hl : rs.length < 1000) (hw : w ≤ 1000) :
    ∃ q7 q8 q9 r μ', rsS [some (.ob n), some (.int p), e2, some (.int w), some (.int thin), some (.ob R), e6, o7, o8, o9] μ = .nx [some (.ob n), some (.int p), e2, some (.int w), some (.int thin), some (.ob R), e6, q7, q8, q9] μ' ∧ r.length = w ∧ (∀ d ∈ r, Num p 10000 d) ∧ μ'[R]? = some (.lst ((rs ++ [r]).map D.lst)) ∧ Bag n μ' ∧ Fr [n, R] μ μ' := by
  have hRl := get_lt hR
  have hnl := hb.lt
  have hk : (μ ++ [M.lst []])[μ.length]? = some (.lst []) := get_push
  obtain ⟨q8, q9, ys, μ1, h1, h2, h3, h4, h5, h6⟩ := rw_loop (n := n) (k := μ.length) (p := p) (thin := thin) (e2 := e2) (e3 := some (.int w)) (e5 := some (.ob R)) (e6 := e6) hp (by omega) (rangeD 0 w) o8 o9 [] (μ ++ [.lst []]) hb.push hk (by rw [rangeD_len, q_line]; simp; omega)
  rw [rangeD_len] at h3
  have fz := fz_ok (i := 7) (k := μ.length) (S := aFor (aItR1 (aCons (aVar 3) aNil)) (gNm 8) rwS) (env := [some (.ob n), some (.int p), e2, some (.int w), some (.int thin), some (.ob R), e6, some (.ob μ.length), o8, o9]) (μ := μ ++ [.lst []]) (by
    unfold aFor
    rw [rg1 (j := w) rfl hw]
    exact h1) rfl h2
  have f0 : Fr [n, μ.length] μ μ1 := (Fr.push (x := M.lst []) (s := [n, μ.length]) rfl).trans h6 |> fun z => by
    exact {
      len := by have := h6.len; simp at this; omega
      fr := fun m hm hs => (h6.fr m (by simp; omega) hs).trans (List.getElem?_append_left hm)
      ok := fun m x hm e => by
        by_cases q : m = μ.length
        · subst q
          rw [h2] at e; cases e
          rw [List.nil_append]; exact nums_mok h4
        · exact h6.ok m x (by simp; omega) e }
  have kR : μ1[R]? = some (.lst (rs.map D.lst)) := f0.get hR (by simp; exact ⟨fun q => hn q.symm, by omega⟩)
  have kR2 : (μ1.set μ.length .gone)[R]? = some (.lst (rs.map D.lst)) := by rw [List.getElem?_set_ne (by omega)]; exact kR
  have ap := app_ok (i := 5) (k := R) (env := [some (.ob n), some (.int p), e2, some (.int w), some (.int thin), some (.ob R), e6, some (.lst ys), q8, q9]) (μ := μ1.set μ.length .gone) (A := aVar 7) (d := .lst ys) rfl kR2 rfl kR2 (by rw [q_line]; simp; omega)
  refine ⟨some (.lst ys), q8, q9, ys, (μ1.set μ.length .gone).set R (.lst (rs.map D.lst ++ [.lst ys])), ?_, h3, h4, ?_, (h5.set (by omega)).set hn, ?_⟩
  · have s1 : aAsg 7 (aLstM aNil) [some (.ob n), some (.int p), e2, some (.int w), some (.int thin), some (.ob R), e6, o7, o8, o9] μ = .nx [some (.ob n), some (.int p), e2, some (.int w), some (.int thin), some (.ob R), e6, some (.ob μ.length), o8, o9] (μ ++ [.lst []]) := rfl
    unfold rsS
    rw [sq_nx s1, sq_nx fz]
    exact ap
  · rw [get_set kR2]; simp
  · exact {
      len := by have := f0.len; simp; omega
      fr := fun m hm hs => by
        simp only [List.mem_cons, List.not_mem_nil, or_false, not_or] at hs
        rw [List.getElem?_set_ne (fun q => hs.2 q.symm), List.getElem?_set_ne (by omega)]
        exact f0.fr m hm (by simp; exact ⟨hs.1, by omega⟩)
      ok := fun m x hm e => by
        rw [List.getElem?_set_ne (by omega)] at e
        by_cases q : m = μ.length
        · subst q
          have : μ.length < μ1.length := get_lt h2
          rw [List.getElem?_set_self this] at e
          cases e; rfl
        · rw [List.getElem?_set_ne (fun z => q z.symm)] at e
          exact f0.ok m x hm e }
end HD

set_option linter.all false
set_option maxRecDepth 100000
set_option maxHeartbeats 4000000
namespace HD
open PySem PySem.Spec PyProof.Rows L2 L2H Z
theorem rs_loop {n R : Nat} {p thin : Int} {w : Nat} {e2 : Option D} (hp : Gp p) (hn : n ≠ R) (hw : w ≤ 1000) : ∀ (l : List D) (o6 o7 o8 o9 : Option D) (rs : List (List D)) (μ : Sto), Bag n μ → μ[R]? = some (.lst (rs.map D.lst)) → rs.length + l.length < 1000 →
    ∃ q6 q7 q8 q9 ss μ', loopA (gNm 6) rsS l [some (.ob n), some (.int p), e2, some (.int w), some (.int thin), some (.ob R), o6, o7, o8, o9] μ = .nx [some (.ob n), some (.int p), e2, some (.int w), some (.int thin), some (.ob R), q6, q7, q8, q9] μ' ∧ μ'[R]? = some (.lst ((rs ++ ss).map D.lst)) ∧ ss.length = l.length ∧ Rows p 10000 w ss ∧ Bag n μ' ∧ Fr [n, R] μ μ'
  | [], o6, o7, o8, o9, rs, μ, hb, hk, hl => ⟨o6, o7, o8, o9, [], μ, rfl, by simpa using hk, rfl, by intro r hr; simp at hr, hb, .refl _ _⟩
  | x :: l, o6, o7, o8, o9, rs, μ, hb, hk, hl => by
    have hl2 : rs.length + (l.length + 1) < 1000 := by simpa using hl
    obtain ⟨q7, q8, q9, r, μ1, e1, hr, hd, k1, b1, f1⟩ := rs_step (thin := thin) (e2 := e2) (e6 := some x) (o7 := o7) (o8 := o8) (o9 := o9) hp hn hb hk (by omega) hw
    obtain ⟨q6, q7', q8', q9', ss, μ2, h1, h2, h3, h4, h5, h6⟩ := rs_loop (e2 := e2) (thin := thin) hp hn hw l (some x) q7 q8 q9 (rs ++ [r]) μ1 b1 k1 (by rw [List.length_append, List.length_singleton]; omega)
    refine ⟨q6, q7', q8', q9', r :: ss, μ2, ?_, by rw [h2, List.append_assoc]; rfl, by simp [h3], ?_, h5, f1.trans h6 fun m hm => ?_⟩
    · rw [← h1]
      exact lp_cons (e1 := [some (.ob n), some (.int p), e2, some (.int w), some (.int thin), some (.ob R), some x, o7, o8, o9]) rfl e1
    · intro y hy
      rcases List.mem_cons.mp hy with rfl | hy
      · exact ⟨hr, hd⟩
      · exact h4 y hy
    · simp only [List.mem_cons, List.not_mem_nil, or_false] at hm
      rcases hm with rfl | rfl
      · exact hb.lt
      · exact get_lt hk
theorem lrows_eq : a__law_rows = aDef 6 (aSeq (aAsg 4 (aOp dAdd (aC (.int 1)) (aCall a__law_draw [] (aCons (aVar 0) (aCons (aC (.int 3)) aNil)))))
  (aSeq (aAsg 5 (aLstM aNil)) (aSeq (aFor (aItR1 (aCons (aVar 2) aNil)) (gNm 6) rsS) (aRet (aVar 5))))) := rfl
theorem rows_ok {n : Nat} {p : Int} {h w : Nat} {μ : Sto} (hp : Gp p) (hb : Bag n μ) (hh : h < 1000) (hw : w ≤ 1000) :
    ∃ R rs μ', a__law_rows [.ob n, .int p, .int h, .int w] μ = .ok (.ob R) μ' ∧ μ.length ≤ R ∧ μ'[R]? = some (.lst (rs.map D.lst)) ∧ rs.length = h ∧ Rows p 10000 w rs ∧ Bag n μ' ∧ Fr [n, R] μ μ' := by
  obtain ⟨t, μ1, e1, h0, h1, b1, f1⟩ := draw hb (many := 3) (by decide) (by decide)
  have nl := b1.lt
  have hR : (μ1 ++ [M.lst []])[μ1.length]? = some (.lst (([] : List (List D)).map D.lst)) := get_push
  obtain ⟨q6, q7, q8, q9, ss, μ2, g1, g2, g3, g4, g5, g6⟩ := rs_loop (n := n) (R := μ1.length) (p := p) (thin := 1 + t) (w := w) (e2 := some (.int h)) hp (by omega) hw (rangeD 0 h) none none none none [] (μ1 ++ [.lst []]) b1.push hR (by rw [rangeD_len]; simp; omega)
  rw [rangeD_len] at g3
  refine ⟨μ1.length, ss, μ2, ?_, f1.len, g2, g3, g4, g5, ?_⟩
  · have s1 : aAsg 4 (aOp dAdd (aC (.int 1)) (aCall a__law_draw [] (aCons (aVar 0) (aCons (aC (.int 3)) aNil)))) [some (.ob n), some (.int p), some (.int h), some (.int w), none, none, none, none, none, none] μ = .nx [some (.ob n), some (.int p), some (.int h), some (.int w), some (.int (1 + t)), none, none, none, none, none] μ1 := by simp [e1]
    have s2 : aAsg 5 (aLstM aNil) [some (.ob n), some (.int p), some (.int h), some (.int w), some (.int (1 + t)), none, none, none, none, none] μ1 = .nx [some (.ob n), some (.int p), some (.int h), some (.int w), some (.int (1 + t)), some (.ob μ1.length), none, none, none, none] (μ1 ++ [.lst []]) := rfl
    rw [lrows_eq, q_def]
    show (aSeq _ _ [some (.ob n), some (.int p), some (.int h), some (.int w), none, none, none, none, none, none] μ).res = _
    rw [sq_nx s1, sq_nx s2, sq_nx (for_nx (rg1 (j := h) rfl (by omega)) g1)]
    rfl
  · have f2 : Fr [n, μ1.length] μ (μ1 ++ [.lst []]) := by
      refine {
        len := by have := f1.len; simp; omega
        fr := fun m hm hs => ?_
        ok := fun m x hm e => ?_ }
      · rw [List.getElem?_append_left (by have := f1.len; omega)]
        exact f1.fr m hm (by simp at hs; simp; exact hs.1)
      · rcases getElem?_snoc e with ⟨l, e2⟩ | ⟨l, e2⟩
        · exact f1.ok m x hm e2
        · rw [e2]; rfl
    exact {
      len := Nat.le_trans f2.len g6.len
      fr := fun m hm hs => (g6.fr m (by have := f2.len; omega) hs).trans (f2.fr m hm hs)
      ok := fun m x hm e => by
        by_cases q : m = μ1.length
        · subst q
          rw [g2] at e; cases e
          have im := imms_of (ys := ss.map D.lst) fun d hd => by
            obtain ⟨r, hr, rfl⟩ := List.mem_map.mp hd
            have a := nums_imm (g4 r hr).2
            exact ⟨a.1, a.2⟩
          simp only [List.nil_append, Mok, M.imm, M.cool, im.1, im.2]; rfl
        · by_cases q2 : m < (μ1 ++ [M.lst []]).length
          · have ne : m ≠ n := by have := hb.lt; omega
            rw [g6.fr m q2 (by simp; exact ⟨ne, q⟩)] at e
            exact f2.ok m x hm e
          · exact g6.ok m x (by omega) e }
end HD

set_option linter.all false
set_option maxRecDepth 100000
set_option maxHeartbeats 4000000
namespace HD
open PySem PySem.Spec PyProof.Rows L2 L2H Z
theorem ixN_last {n : Nat} (h : 0 < n) : ixN n (-1) = some (n - 1) := by
  unfold ixN
  rw [if_neg (by omega), if_pos (by omega)]
  congr 1; omega
theorem atD_last {xs : List D} {d : D} : atD (xs ++ [d]) (-1) = some d := by
  unfold atD
  rw [ixN_last (by simp)]
  simp
theorem ix_ob {i k : Nat} {z : Int} {env : En} {μ : Sto} {xs : List D} {d : D} {B : AE} (hv : env[i]? = some (some (.ob k))) (hk : μ[k]? = some (.lst xs)) (hB : B env μ = .ok (.int z) μ) (hd : atD xs z = some d) : aOp dIx (aVar i) B env μ = .ok d μ := by
  rw [q_op, q_var, hv]
  simp only [q_bind]
  rw [hB]
  simp only []
  rw [q_ixO, hk]
  simp only [hd]
theorem set_lastG {i k : Nat} {env : En} {μ : Sto} {xs : List D} {d v : D} (hv : env[i]? = some (some (.ob k))) (hk : μ[k]? = some (.lst (xs ++ [d]))) : gIx (aVar i) (aUn dNeg (aC (.int 1))) v env μ = .nx env (μ.set k (.lst (xs ++ [v]))) := by
  have e : ixN (xs.length + 1) (-1) = some xs.length := by rw [ixN_last (by omega)]; congr 1
  have e2 : (xs ++ [d]).set xs.length v = xs ++ [v] := by simp
  rw [q_gix, q_var, hv]
  simp only [q_st, q_un, q_bind, q_c, q_neg]
  show (match μ[k]? with
    | some (.lst xs) => (match ixN xs.length (-1) with
      | some j => Fl.nx env (μ.set k (.lst (xs.set j v)))
      | none => .fail)
    | _ => .fail) = _
  rw [hk]
  simp only [List.length_append, List.length_singleton, e, e2]
theorem asgG_nx {A : AE} {ga : D → ATS} {env : En} {μ m : Sto} {d : D} (h : A env μ = .ok d m) : aAsgG A ga env μ = ga d env m := by rw [q_asgG, h]; rfl
/-- a list written by the last place -/
theorem snoc_of {α : Type} {xs : List α} (h : 0 < xs.length) : ∃ ys y, xs = ys ++ [y] := ⟨xs.dropLast, xs.getLast (List.length_pos_iff.mp h), (List.dropLast_concat_getLast (List.length_pos_iff.mp h)).symm⟩
def tMul : ATS := (aAsgG (aLc (aItA (aOp dIx (aVar 4) (aC (.int 0)))) (gNm 6) aYes (aCall a__law_mul [] (aCons (aVar 1) (aCons (aVar 5) (aCons (aVar 6) aNil)))) [6]) (gIx (aVar 4) (aUn dNeg (aC (.int 1)))))
def tAdd : ATS := (aAsgG (aLc (aItZ (aCons (aOp dIx (aVar 4) (aUn dNeg (aC (.int 1)))) (aCons (aOp dIx (aVar 4) (aC (.int 1))) aNil))) (gTp 2 (gsCons (gNm 7) (gsCons (gNm 8) gsNil))) aYes (aCall a__law_add [] (aCons (aVar 1) (aCons (aVar 7) (aCons (aVar 8) aNil)))) [7, 8]) (gIx (aVar 4) (aUn dNeg (aC (.int 1)))))
def tIf : ATS := (aIf (aAndT (aB (aOp dGt (aVar 2) (aC (.int 1)))) (aB (aOp dEq (aCall a__law_draw [] (aCons (aVar 0) (aCons (aC (.int 3)) aNil))) (aC (.int 0))))) (aSeq (aAsg 5 (aCall a__law_number [] (aCons (aVar 0) (aCons (aVar 1) aNil))))
  (aSeq tMul
  (aIf (aAndT (aB (aOp dGt (aVar 2) (aC (.int 2)))) (aB (aOp dEq (aCall a__law_draw [] (aCons (aVar 0) (aCons (aC (.int 2)) aNil))) (aC (.int 0))))) tAdd aNext))) aNext)
theorem ltab_eq : a__law_table = aCut (aDef 5 (aSeq (aAsg 4 (aCall a__law_rows [] (aCons (aVar 0) (aCons (aVar 1) (aCons (aVar 2) (aCons (aVar 3) aNil))))))
  (aSeq (aFz 4 tIf) (aRet (aTup (aCons (aVar 2) (aCons (aVar 3) (aCons (aVar 4) aNil)))))))) := rfl
theorem tMul_ok {n R : Nat} {p h w : Int} {a : D} {r0 rl : List D} {rs : List (List D)} {q6 q7 q8 : Option D} {μ : Sto} (hp : Gp p) (hR : μ[R]? = some (.lst ((rs ++ [rl]).map D.lst))) (h0 : (rs ++ [rl])[0]? = some r0) (ha : Num p 10000 a) (hr : ∀ d ∈ r0, Num p 10000 d) (hl : r0.length ≤ 1000) :
    tMul [some (.ob n), some (.int p), some (.int h), some (.int w), some (.ob R), some a, q6, q7, q8] μ = .nx [some (.ob n), some (.int p), some (.int h), some (.int w), some (.ob R), some a, q6, q7, q8] (μ.set R (.lst ((rs ++ [r0.map (nmul p a)]).map D.lst))) := by
  have i0 : atD ((rs ++ [rl]).map D.lst) 0 = some (.lst r0) := by
    rw [atD0 (by omega) (by simp)]
    show ((rs ++ [rl]).map D.lst)[0]? = _
    rw [List.getElem?_map, h0]; rfl
  have it : aItA (aOp dIx (aVar 4) (aC (.int 0))) [some (.ob n), some (.int p), some (.int h), some (.int w), some (.ob R), some a, q6, q7, q8] μ = .ok (r0.map id) μ := by
    unfold aItA
    rw [ix_ob (i := 4) (k := R) (z := 0) rfl hR rfl i0, List.map_id]
    rfl
  have lc := lc_mapL (f := id) (g := nmul p a) (l := r0) (I := aItA (aOp dIx (aVar 4) (aC (.int 0)))) (ga := gNm 6) (A := aCall a__law_mul [] (aCons (aVar 1) (aCons (aVar 5) (aCons (aVar 6) aNil)))) (vs := [6]) it (by rw [q_line]; omega) (fun x hx => ⟨_, rfl, by
    simp [wipeE, nmul_ok hp (ha.mono (by decide)) ((hr x hx).mono (by decide))]⟩)
  rw [List.map_append, List.map_cons, List.map_nil] at hR
  unfold tMul
  rw [asgG_nx lc, set_lastG (k := R) rfl hR]
  simp
theorem tAdd_ok {n R : Nat} {p h w : Int} {a : D} {r1 rl : List D} {rs : List (List D)} {q6 q7 q8 : Option D} {μ : Sto} (hp : Gp p) (hR : μ[R]? = some (.lst ((rs ++ [rl]).map D.lst))) (h0 : (rs ++ [rl])[1]? = some r1) (hr1 : ∀ d ∈ r1, Num p (10 ^ 30) d) (hrl : ∀ d ∈ rl, Num p (10 ^ 30) d) (hl : r1.length ≤ 1000) :
    tAdd [some (.ob n), some (.int p), some (.int h), some (.int w), some (.ob R), some a, q6, q7, q8] μ = .nx [some (.ob n), some (.int p), some (.int h), some (.int w), some (.ob R), some a, q6, q7, q8] (μ.set R (.lst ((rs ++ [(rl.zip r1).map fun x => nadd p x.1 x.2]).map D.lst))) := by
  have h1 : 1 < (rs ++ [rl]).length := (List.getElem?_eq_some_iff.mp h0).1
  have i1 : atD ((rs ++ [rl]).map D.lst) 1 = some (.lst r1) := by
    rw [atD0 (by omega) (by rw [List.length_map]; omega)]
    show ((rs ++ [rl]).map D.lst)[1]? = _
    rw [List.getElem?_map, h0]; rfl
  have il : atD ((rs ++ [rl]).map D.lst) (-1) = some (.lst rl) := by
    rw [List.map_append, List.map_cons, List.map_nil, atD_last]
  have it : aItZ (aCons (aOp dIx (aVar 4) (aUn dNeg (aC (.int 1)))) (aCons (aOp dIx (aVar 4) (aC (.int 1))) aNil)) [some (.ob n), some (.int p), some (.int h), some (.int w), some (.ob R), some a, q6, q7, q8] μ = .ok ((rl.zip r1).map fun x => D.tup [x.1, x.2]) μ := by
    unfold aItZ
    rw [q_cons, ix_ob (i := 4) (k := R) (z := -1) rfl hR rfl il]
    simp only [q_bind]
    rw [q_cons, ix_ob (i := 4) (k := R) (z := 1) rfl hR rfl i1]
    simp only [q_bind, q_nil, two_, D.seqI, zipD]
    rw [List.map_zip_eq_zipWith]
    rfl
  have lc := lc_mapL (f := fun x : D × D => D.tup [x.1, x.2]) (g := fun x => nadd p x.1 x.2) (l := rl.zip r1) (I := aItZ (aCons (aOp dIx (aVar 4) (aUn dNeg (aC (.int 1)))) (aCons (aOp dIx (aVar 4) (aC (.int 1))) aNil))) (ga := gTp 2 (gsCons (gNm 7) (gsCons (gNm 8) gsNil))) (A := aCall a__law_add [] (aCons (aVar 1) (aCons (aVar 7) (aCons (aVar 8) aNil)))) (vs := [7, 8]) it (by rw [q_line, List.length_zip]; omega) (fun x hx => ⟨[some (.ob n), some (.int p), some (.int h), some (.int w), some (.ob R), some a, q6, some x.1, some x.2], rfl, by
    have m1 := List.of_mem_zip hx
    simp [nadd_ok hp (hrl _ m1.1) (hr1 _ m1.2)]⟩)
  rw [List.map_append, List.map_cons, List.map_nil] at hR
  unfold tAdd
  rw [asgG_nx lc, set_lastG (k := R) rfl hR]
  simp
end HD

set_option linter.all false
set_option maxRecDepth 100000
set_option maxHeartbeats 4000000
namespace HD
open PySem PySem.Spec PyProof.Rows L2 L2H Z
theorem Rows.mono {p B C : Int} {w : Nat} {rs : List (List D)} (h : Rows p B w rs) (l : B ≤ C) : Rows p C w rs := fun r hr => ⟨(h r hr).1, fun d hd => ((h r hr).2 d hd).mono l⟩
theorem if_t {P : AT} {S1 S2 : ATS} {env : En} {μ m : Sto} (h : P env μ = .ok true m) : aIf P S1 S2 env μ = S1 env m := by rw [q_if, h]; rfl
theorem if_f {P : AT} {S1 S2 : ATS} {env : En} {μ m : Sto} (h : P env μ = .ok false m) : aIf P S1 S2 env μ = S2 env m := by rw [q_if, h]; rfl
theorem Rows.app {p B : Int} {w : Nat} {rs : List (List D)} {r : List D} : Rows p B w (rs ++ [r]) ↔ Rows p B w rs ∧ r.length = w ∧ ∀ d ∈ r, Num p B d := by
  constructor
  · intro h
    exact ⟨fun x hx => h x (List.mem_append_left _ hx), h r (by simp)⟩
  · rintro ⟨h1, h2⟩ x hx
    rcases List.mem_append.mp hx with q | q
    · exact h1 x q
    · rw [List.mem_singleton.mp q]; exact h2
theorem fr2 {n R : Nat} {a b c : Sto} (hn : n < a.length) (hR : R < a.length) (x : Fr [n, R] a b) (y : Fr [n, R] b c) : Fr [n, R] a c := x.trans y fun m hm => by
  simp only [List.mem_cons, List.not_mem_nil, or_false] at hm
  rcases hm with rfl | rfl
  · exact hn
  · exact hR
theorem frN {n R : Nat} {a b : Sto} (x : Fr [n] a b) : Fr [n, R] a b := x.sub (by simp)
theorem frR {n R : Nat} {a : Sto} {x : M} : Fr [n, R] a (a.set R x) := (Fr.set x).sub (by simp)
theorem tIf_ok {n R : Nat} {p : Int} {h w : Nat} {rs : List (List D)} {μ : Sto} (hp : Gp p) (hn : n ≠ R) (hb : Bag n μ) (hR : μ[R]? = some (.lst (rs.map D.lst))) (hl : rs.length = h) (hrs : Rows p 10000 w rs) (hw : w ≤ 1000) :
    ∃ q5 q6 q7 q8 rs' μ', tIf [some (.ob n), some (.int p), some (.int h), some (.int w), some (.ob R), none, none, none, none] μ = .nx [some (.ob n), some (.int p), some (.int h), some (.int w), some (.ob R), q5, q6, q7, q8] μ' ∧ μ'[R]? = some (.lst (rs'.map D.lst)) ∧ rs'.length = h ∧ Rows p (10 ^ 20) w rs' ∧ Bag n μ' ∧ Fr [n, R] μ μ' := by
  have nl := hb.lt
  have Rl := get_lt hR
  by_cases h1 : (1 : Int) < h
  · obtain ⟨k, μ1, e1, k0, k1, b1, f1⟩ := draw hb (many := 3) (by decide) (by decide)
    have R1 := f1.get hR (by simp; exact fun q => hn q.symm)
    by_cases hk : k = 0
    · have c1 : aAndT (aB (aOp dGt (aVar 2) (aC (.int 1)))) (aB (aOp dEq (aCall a__law_draw [] (aCons (aVar 0) (aCons (aC (.int 3)) aNil))) (aC (.int 0)))) [some (.ob n), some (.int p), some (.int h), some (.int w), some (.ob R), none, none, none, none] μ = .ok true μ1 := by simp [h1, e1, hk]
      obtain ⟨a, μ2, e2, ha, b2, f2⟩ := number_ok b1 hp
      have R2 := f2.get R1 (by simp; exact fun q => hn q.symm)
      obtain ⟨rs1, rl, rfl⟩ := snoc_of (xs := rs) (by omega)
      have hrs' := Rows.app.mp hrs
      obtain ⟨r0, hr0⟩ : ∃ r0, (rs1 ++ [rl])[0]? = some r0 := ⟨_, List.getElem?_eq_getElem (by rw [hl]; omega)⟩
      have r0m := hrs r0 (List.mem_of_getElem? hr0)
      have tm := tMul_ok (n := n) (h := h) (w := w) (q6 := none) (q7 := none) (q8 := none) hp R2 hr0 ha r0m.2 (by omega)
      have ha2 : aAsg 5 (aCall a__law_number [] (aCons (aVar 0) (aCons (aVar 1) aNil))) [some (.ob n), some (.int p), some (.int h), some (.int w), some (.ob R), none, none, none, none] μ1 = .nx [some (.ob n), some (.int p), some (.int h), some (.int w), some (.ob R), some a, none, none, none] μ2 := by simp [e2]
      generalize hμ3 : μ2.set R (.lst ((rs1 ++ [r0.map (nmul p a)]).map D.lst)) = μ3 at tm
      have R3 : μ3[R]? = some (.lst ((rs1 ++ [r0.map (nmul p a)]).map D.lst)) := by rw [← hμ3]; exact get_set R2 _
      have b3 : Bag n μ3 := by rw [← hμ3]; exact b2.set hn
      have f3 : Fr [n, R] μ μ3 := by
        rw [← hμ3]
        exact fr2 nl Rl (frN (hb.fr f1 f2)) frR
      have nr : (r0.map (nmul p a)).length = w ∧ ∀ d ∈ r0.map (nmul p a), Num p 100000000 d := ⟨by rw [List.length_map]; exact r0m.1, fun d hd => by
        obtain ⟨x, hx, rfl⟩ := List.mem_map.mp hd
        exact (nmul_num ha (r0m.2 x hx)).mono (by decide)⟩
      have pre : ∀ (S : ATS), (aIf (aAndT (aB (aOp dGt (aVar 2) (aC (.int 1)))) (aB (aOp dEq (aCall a__law_draw [] (aCons (aVar 0) (aCons (aC (.int 3)) aNil))) (aC (.int 0))))) (aSeq (aAsg 5 (aCall a__law_number [] (aCons (aVar 0) (aCons (aVar 1) aNil)))) (aSeq tMul S)) aNext) [some (.ob n), some (.int p), some (.int h), some (.int w), some (.ob R), none, none, none, none] μ = S [some (.ob n), some (.int p), some (.int h), some (.int w), some (.ob R), some a, none, none, none] μ3 := fun S => by
        rw [if_t c1, sq_nx ha2, sq_nx tm]
      unfold tIf
      rw [pre]
      by_cases h2 : (2 : Int) < h
      · obtain ⟨k', μ4, e4, k0', k1', b4, f4⟩ := draw b3 (many := 2) (by decide) (by decide)
        have R4 := f4.get R3 (by simp; exact fun q => hn q.symm)
        have f34 := fr2 nl Rl f3 (frN f4)
        by_cases hk' : k' = 0
        · have c2 : aAndT (aB (aOp dGt (aVar 2) (aC (.int 2)))) (aB (aOp dEq (aCall a__law_draw [] (aCons (aVar 0) (aCons (aC (.int 2)) aNil))) (aC (.int 0)))) [some (.ob n), some (.int p), some (.int h), some (.int w), some (.ob R), some a, none, none, none] μ3 = .ok true μ4 := by simp [h2, e4, hk']
          have hl' : (rs1 ++ [r0.map (nmul p a)]).length = h := by simpa using hl
          obtain ⟨r1, hr1⟩ : ∃ r1, (rs1 ++ [r0.map (nmul p a)])[1]? = some r1 := ⟨_, List.getElem?_eq_getElem (by rw [hl']; omega)⟩
          have all : Rows p 100000000 w (rs1 ++ [r0.map (nmul p a)]) := Rows.app.mpr ⟨hrs'.1.mono (by decide), nr⟩
          have r1m := all r1 (List.mem_of_getElem? hr1)
          have ta := tAdd_ok (n := n) (h := h) (w := w) (a := a) (q6 := none) (q7 := none) (q8 := none) hp R4 hr1 (fun d hd => (r1m.2 d hd).mono (by decide)) (fun d hd => (nr.2 d hd).mono (by decide)) (by omega)
          rw [if_t c2, ta]
          refine ⟨_, _, _, _, _, _, rfl, get_set R4 _, by simpa using hl, Rows.app.mpr ⟨hrs'.1.mono (by decide), by rw [List.length_map, List.length_zip, nr.1, r1m.1]; omega, fun d hd => ?_⟩, b4.set hn, fr2 nl Rl f34 frR⟩
          obtain ⟨x, hx, rfl⟩ := List.mem_map.mp hd
          have m1 := List.of_mem_zip hx
          exact (nadd_num (nr.2 _ m1.1) (r1m.2 _ m1.2)).mono (by decide)
        · have c2 : aAndT (aB (aOp dGt (aVar 2) (aC (.int 2)))) (aB (aOp dEq (aCall a__law_draw [] (aCons (aVar 0) (aCons (aC (.int 2)) aNil))) (aC (.int 0)))) [some (.ob n), some (.int p), some (.int h), some (.int w), some (.ob R), some a, none, none, none] μ3 = .ok false μ4 := by simp [h2, e4, hk']
          rw [if_f c2]
          exact ⟨_, _, _, _, _, _, rfl, R4, by simpa using hl, Rows.app.mpr ⟨hrs'.1.mono (by decide), nr.1, fun d hd => (nr.2 d hd).mono (by decide)⟩, b4, f34⟩
      · have c2 : aAndT (aB (aOp dGt (aVar 2) (aC (.int 2)))) (aB (aOp dEq (aCall a__law_draw [] (aCons (aVar 0) (aCons (aC (.int 2)) aNil))) (aC (.int 0)))) [some (.ob n), some (.int p), some (.int h), some (.int w), some (.ob R), some a, none, none, none] μ3 = .ok false μ3 := by simp [h2]
        rw [if_f c2]
        exact ⟨_, _, _, _, _, _, rfl, R3, by simpa using hl, Rows.app.mpr ⟨hrs'.1.mono (by decide), nr.1, fun d hd => (nr.2 d hd).mono (by decide)⟩, b3, f3⟩
    · have c1 : aAndT (aB (aOp dGt (aVar 2) (aC (.int 1)))) (aB (aOp dEq (aCall a__law_draw [] (aCons (aVar 0) (aCons (aC (.int 3)) aNil))) (aC (.int 0)))) [some (.ob n), some (.int p), some (.int h), some (.int w), some (.ob R), none, none, none, none] μ = .ok false μ1 := by simp [h1, e1, hk]
      unfold tIf
      rw [if_f c1]
      exact ⟨_, _, _, _, _, _, rfl, R1, hl, hrs.mono (by decide), b1, frN f1⟩
  · have c1 : aAndT (aB (aOp dGt (aVar 2) (aC (.int 1)))) (aB (aOp dEq (aCall a__law_draw [] (aCons (aVar 0) (aCons (aC (.int 3)) aNil))) (aC (.int 0)))) [some (.ob n), some (.int p), some (.int h), some (.int w), some (.ob R), none, none, none, none] μ = .ok false μ := by simp [h1]
    unfold tIf
    rw [if_f c1]
    exact ⟨_, _, _, _, _, _, rfl, hR, hl, hrs.mono (by decide), hb, .refl _ _⟩
def tabD (h w : Nat) (rs : List (List D)) : D := .tup [.int h, .int w, .lst (rs.map D.lst)]
theorem rows_imm {p B : Int} {w : Nat} {rs : List (List D)} (h : Rows p B w rs) : D.imms (rs.map D.lst) = true ∧ D.cools (rs.map D.lst) = true := imms_of fun d hd => by
  obtain ⟨r, hr, rfl⟩ := List.mem_map.mp hd
  have a := nums_imm (h r hr).2
  exact ⟨a.1, a.2⟩
theorem tab_imm {p B : Int} {h w : Nat} {rs : List (List D)} (hr : Rows p B w rs) : (tabD h w rs).imm = true ∧ (tabD h w rs).cool = true := by
  have a := rows_imm hr
  simp only [tabD, D.imm, D.imms, D.cool, D.cools, a.1, a.2]
  exact ⟨rfl, rfl⟩
theorem table_ok {n : Nat} {p : Int} {h w : Nat} {μ : Sto} (hp : Gp p) (hb : Bag n μ) (hμ : μ.all Mok = true) (hh : h < 1000) (hw : w ≤ 1000) :
    ∃ rs μ', a__law_table [.ob n, .int p, .int h, .int w] μ = .ok (tabD h w rs) μ' ∧ rs.length = h ∧ Rows p (10 ^ 20) w rs ∧ Bag n μ' ∧ Fr [n] μ μ' := by
  obtain ⟨R, rs, μ1, e1, hR, k1, l1, r1, b1, f1⟩ := rows_ok hp hb hh hw
  have nl := hb.lt
  obtain ⟨q5, q6, q7, q8, rs', μ2, e2, k2, l2, r2, b2, f2⟩ := tIf_ok (R := R) hp (by omega) b1 k1 l1 r1 hw
  have fz := fz_ok (i := 4) (k := R) e2 rfl k2
  have fin : Fr [n] μ (μ2.set R .gone) := by
    have hRl := get_lt k1
    exact {
      len := by rw [List.length_set]; exact Nat.le_trans f1.len f2.len
      fr := fun m hm hs => by
        have hs : m ≠ n := by simpa using hs
        rw [List.getElem?_set_ne (by omega), f2.fr m (by have := f1.len; omega) (by simp; exact ⟨hs, by omega⟩)]
        exact f1.fr m hm (by simp; exact ⟨hs, by omega⟩)
      ok := fun m x hm e => by
        by_cases q : m = R
        · subst q
          rw [get_set k2] at e; cases e; rfl
        · rw [List.getElem?_set_ne (fun z => q z.symm)] at e
          by_cases z : m < μ1.length
          · rw [f2.fr m z (by simp; exact ⟨by omega, q⟩)] at e
            exact f1.ok m x hm e
          · exact f2.ok m x (by omega) e }
  have b3 : Bag n (μ2.set R .gone) := b2.set (by omega)
  have cutb : Bag n ((μ2.set R .gone).take μ.length) := by
    obtain ⟨a, b, e, h0, h1⟩ := b3
    exact ⟨a, b, by rw [take_get nl]; exact e, h0, h1⟩
  have cf := take_fr fin
  have im := tab_imm (h := h) r2
  refine ⟨rs', (μ2.set R .gone).take μ.length, ?_, l2, r2, cutb, cf⟩
  have s1 : aAsg 4 (aCall a__law_rows [] (aCons (aVar 0) (aCons (aVar 1) (aCons (aVar 2) (aCons (aVar 3) aNil))))) [some (.ob n), some (.int p), some (.int h), some (.int w), none, none, none, none, none] μ = .nx [some (.ob n), some (.int p), some (.int h), some (.int w), some (.ob R), none, none, none, none] μ1 := by simp [e1]
  have all : (((μ2.set R .gone).take μ.length).all M.imm) = true := mok_imm (cutb.all hμ cf)
  rw [ltab_eq, q_cut, q_def]
  show (Fl.res (aSeq _ _ [some (.ob n), some (.int p), some (.int h), some (.int w), none, none, none, none, none] μ)).cut μ.length = _
  rw [sq_nx s1, sq_nx fz]
  show (Z.R.ok (tabD h w rs') (μ2.set R .gone)).cut μ.length = _
  unfold Z.R.cut
  simp only [im.1, all]
  rfl
end HD

set_option linter.all false
set_option maxRecDepth 100000
set_option maxHeartbeats 4000000
namespace HD
open PySem PySem.Spec PyProof.Rows L2 L2H Z
/-! joined texts -/
theorem strsD_map : ∀ ls : List (List Nat), strsD (ls.map D.str) = some ls
  | [] => rfl
  | l :: ls => by
    show (strsD (ls.map D.str)).map (fun x => l :: x) = _
    rw [strsD_map ls]; rfl
theorem join_ok {sep : List Nat} {A : AE} {env : En} {μ : Sto} {ls : List (List Nat)} (h : A env μ = .ok (.lst (ls.map D.str)) μ) (hl : (ls.map (·.length)).sum + ls.length * sep.length ≤ line) :
    aBM "str" (fun d ds μ => one1 (dJoin d) ds μ) (aC (.str sep)) (aCons A aNil) env μ = .ok (.str (TL.joinL sep ls)) μ := by
  have t : D.isT μ "str" (.str sep) = true := rfl
  unfold aBM
  rw [q_c]
  simp only [q_bind, t, if_pos]
  rw [q_cons, h]
  simp only [q_bind, q_nil, q_one]
  unfold dJoin
  have e : D.sqL μ (.lst (ls.map D.str)) = some (ls.map D.str) := rfl
  simp only [e, strsD_map]
  rw [if_pos hl]
theorem sum_le {ls : List (List Nat)} {B : Nat} (h : ∀ l ∈ ls, l.length ≤ B) : (ls.map (·.length)).sum ≤ ls.length * B := by
  induction ls with
  | nil => simp
  | cons l ls ih =>
    have a := h l (List.mem_cons_self ..)
    have b := ih fun x hx => h x (List.mem_cons_of_mem _ hx)
    rw [List.map_cons, List.sum_cons, List.length_cons, Nat.succ_mul]
    omega
theorem joinL_len {sep : List Nat} : ∀ ls : List (List Nat), (TL.joinL sep ls).length ≤ (ls.map (·.length)).sum + ls.length * sep.length
  | [] => by simp [TL.joinL]
  | [p] => by simp [TL.joinL]
  | p :: q :: r => by
    have ih := joinL_len (sep := sep) (q :: r)
    show (p ++ (sep ++ TL.joinL sep (q :: r))).length ≤ _
    rw [List.length_append, List.length_append, List.map_cons, List.sum_cons, List.length_cons, Nat.succ_mul]
    omega
theorem joinL_cons {x : List Nat} {sep : List Nat} : ∀ xs : List (List Nat), TL.joinL sep (x :: xs) = x ++ (xs.map fun y => sep ++ y).flatten
  | [] => by simp [TL.joinL]
  | y :: ys => by
    show x ++ (sep ++ TL.joinL sep (y :: ys)) = _
    rw [joinL_cons ys]; simp
/-! tables -/
def rowT (r : List D) : List Nat := TL.joinL [32] (r.map txt)
def tabT (h w : Nat) (rs : List (List D)) : List Nat := if h = 0 ∨ w = 0 then [45] else TL.joinL [32, 47, 32] (rs.map rowT)
theorem rowT_len {p : Int} {r : List D} (hp : Gp p) (h : ∀ d ∈ r, Num p (10 ^ 30) d) : (rowT r).length ≤ r.length * 201 := by
  have a := joinL_len (sep := [32]) (r.map txt)
  have b := sum_le (ls := r.map txt) (B := 200) fun l hl => by
    obtain ⟨d, hd, rfl⟩ := List.mem_map.mp hl
    exact txt_len hp (h d hd)
  unfold rowT
  rw [List.length_map] at a b
  simp only [List.length_singleton] at a
  omega
theorem q_itA1 {A : AE} {env : En} {μ m : Sto} {xs : List D} (h : A env μ = .ok (.lst xs) m) : aItA A env μ = .ok xs m := by
  unfold aItA; rw [h]; rfl
theorem q_itA2 {A : AE} {env : En} {μ m : Sto} {xs : List D} (h : A env μ = .ok (.tup xs) m) : aItA A env μ = .ok xs m := by
  unfold aItA; rw [h]; rfl
theorem tabT_len {p : Int} {h w : Nat} {rs : List (List D)} (hp : Gp p) (hrs : Rows p (10 ^ 30) w rs) (hh : rs.length = h) (h1 : h ≤ 40) (h2 : w ≤ 40) : (tabT h w rs).length ≤ 400000 := by
  unfold tabT
  split
  · simp
  · have a := joinL_len (sep := [32, 47, 32]) (rs.map rowT)
    have b := sum_le (ls := rs.map rowT) (B := 8040) fun l hl => by
      obtain ⟨r, hr, rfl⟩ := List.mem_map.mp hl
      have c := rowT_len hp (hrs r hr).2
      have := (hrs r hr).1
      omega
    rw [List.length_map, hh] at a b
    simp only [List.length_cons, List.length_nil] at a
    omega
theorem row_join {p : Int} {sf : AE} {r : List D} {I : AA} {i : Nat} {vs : List Nat} {env : En} {μ : Sto} (hp : Gp p) (hi : I env μ = .ok r μ) (hr : ∀ d ∈ r, Num p (10 ^ 30) d) (hl : r.length ≤ 40) (hs : ∀ d ∈ r, sf ((wipeE env vs).set i (some d)) μ = .ok (.str (txt d)) μ) :
    aBM "str" (fun d ds μ => one1 (dJoin d) ds μ) (aC (.str [32])) (aCons (aLc I (gNm i) aYes sf vs) aNil) env μ = .ok (.str (rowT r)) μ := by
  have lc := lc_mapL (f := id) (g := fun d => D.str (txt d)) (l := r) (I := I) (ga := gNm i) (A := sf) (vs := vs) (by rw [hi, List.map_id]) (by rw [q_line]; omega) (fun x hx => ⟨_, rfl, hs x hx⟩)
  refine join_ok (ls := r.map txt) (by rw [lc, List.map_map]; rfl) ?_
  have b := sum_le (ls := r.map txt) (B := 200) fun l hl => by
    obtain ⟨d, hd, rfl⟩ := List.mem_map.mp hl
    exact txt_len hp (hr d hd)
  rw [List.length_map] at b ⊢
  rw [q_line]
  simp only [List.length_singleton]
  omega
theorem tab_join {p : Int} {h w : Nat} {rs : List (List D)} {I : AA} {A : AE} {i : Nat} {vs : List Nat} {env : En} {μ : Sto} (hp : Gp p) (hi : I env μ = .ok (rs.map D.lst) μ) (hrs : Rows p (10 ^ 30) w rs) (hh : rs.length = h) (h1 : h ≤ 40) (h2 : w ≤ 40) (n0 : h ≠ 0) (n1 : w ≠ 0) (hs : ∀ r ∈ rs, A ((wipeE env vs).set i (some (.lst r))) μ = .ok (.str (rowT r)) μ) :
    aBM "str" (fun d ds μ => one1 (dJoin d) ds μ) (aC (.str [32, 47, 32])) (aCons (aLc I (gNm i) aYes A vs) aNil) env μ = .ok (.str (tabT h w rs)) μ := by
  have lc := lc_mapL (f := D.lst) (g := fun r => D.str (rowT r)) (l := rs) (I := I) (ga := gNm i) (A := A) (vs := vs) hi (by rw [q_line]; omega) (fun x hx => ⟨_, rfl, hs x hx⟩)
  have e : tabT h w rs = TL.joinL [32, 47, 32] (rs.map rowT) := by
    unfold tabT; rw [if_neg (by omega)]
  rw [e]
  refine join_ok (ls := rs.map rowT) (by rw [lc, List.map_map]; rfl) ?_
  have b := sum_le (ls := rs.map rowT) (B := 8040) fun l hl => by
    obtain ⟨r, hr, rfl⟩ := List.mem_map.mp hl
    have c := rowT_len hp (hrs r hr).2
    have := (hrs r hr).1
    omega
  rw [List.length_map, hh] at b ⊢
  rw [q_line]
  simp only [List.length_cons, List.length_nil]
  omega
theorem show_tab {p : Int} {h w : Nat} {rs : List (List D)} {μ : Sto} (hp : Gp p) (hrs : Rows p (10 ^ 30) w rs) (hh : rs.length = h) (h1 : h ≤ 40) (h2 : w ≤ 40) : a_show_table [gr p, tabD h w rs] μ = .ok (.str (tabT h w rs)) μ := by
  by_cases z : h = 0 ∨ w = 0
  · have e : tabT h w rs = [45] := by unfold tabT; rw [if_pos z]
    rw [e]
    rcases z with z | z
    · simp [a_show_table, tabD, atD_0, z]
    · by_cases z2 : h = 0
      · simp [a_show_table, tabD, atD_0, z2]
      · simp [a_show_table, tabD, atD_0, atD_1, z, z2]
  · have z0 : h ≠ 0 := fun q => z (.inl q)
    have z1 : w ≠ 0 := fun q => z (.inr q)
    have tj := tab_join (i := 2) (vs := [2]) (I := aItA (aOp dIx (aVar 1) (aC (.int 2)))) (A := (aBM "str" (fun d ds μ => one1 (dJoin d) ds μ) (aC (.str [32])) (aCons (aLc (aItA (aVar 2)) (gNm 3) aYes (aCall a_show_number [] (aCons (aVar 0) (aCons (aVar 3) aNil))) [3]) aNil))) (env := [some (gr p), some (tabD h w rs), none, none]) (μ := μ) hp (q_itA1 (by simp [tabD, atD_2])) hrs hh h1 h2 z0 z1 (fun r hr =>
      row_join (i := 3) (vs := [3]) hp (q_itA1 (by simp [wipeE])) (hrs r hr).2 (by have := (hrs r hr).1; omega) fun d hd => by simp [wipeE, show_ok hp ((hrs r hr).2 d hd)])
    simp only [a_show_table]
    simp [-q_cb, tabD, atD_0, atD_1, z0, z1]
    simp [tabD] at tj
    simp [tj]
theorem shown_tab {p : Int} {h w : Nat} {rs : List (List D)} {μ : Sto} (hp : Gp p) (hrs : Rows p (10 ^ 30) w rs) (hh : rs.length = h) (h1 : h ≤ 40) (h2 : w ≤ 40) : a__law_table_shown [.int p, tabD h w rs] μ = .ok (.str (tabT h w rs)) μ := by
  by_cases z : h = 0 ∨ w = 0
  · have e : tabT h w rs = [45] := by unfold tabT; rw [if_pos z]
    rw [e]
    rcases z with z | z
    · simp [a__law_table_shown, tabD, atD_0, z]
    · by_cases z2 : h = 0
      · simp [a__law_table_shown, tabD, atD_0, z2]
      · simp [a__law_table_shown, tabD, atD_0, atD_1, z, z2]
  · have z0 : h ≠ 0 := fun q => z (.inl q)
    have z1 : w ≠ 0 := fun q => z (.inr q)
    have tj := tab_join (i := 2) (vs := [2]) (I := aItA (aOp dIx (aVar 1) (aC (.int 2)))) (A := (aBM "str" (fun d ds μ => one1 (dJoin d) ds μ) (aC (.str [32])) (aCons (aLc (aItA (aVar 2)) (gNm 3) aYes (aCall a__law_shown [] (aCons (aVar 0) (aCons (aVar 3) aNil))) [3]) aNil))) (env := [some (.int p), some (tabD h w rs), none, none]) (μ := μ) hp (q_itA1 (by simp [tabD, atD_2])) hrs hh h1 h2 z0 z1 (fun r hr =>
      row_join (i := 3) (vs := [3]) hp (q_itA1 (by simp [wipeE])) (hrs r hr).2 (by have := (hrs r hr).1; omega) fun d hd => by simp [wipeE, shown_ok hp ((hrs r hr).2 d hd)])
    simp only [a__law_table_shown]
    simp [-q_cb, tabD, atD_0, atD_1, z0, z1]
    simp [tabD] at tj
    simp [tj]
end HD

set_option linter.all false
set_option maxRecDepth 100000
set_option maxHeartbeats 4000000
namespace HD
open PySem PySem.Spec PyProof.Rows L2 L2H Z
/-! drawings -/
def arD (a : Int × Int) : D := .tup [.int a.1, .int a.2]
def dr (many : Int) (as : List (Int × Int)) : D := .ins .drawing [.int many, .lst (as.map arD)]
theorem q_many {many : Int} {as : List (Int × Int)} {μ : Sto} : dFld .drawing 0 (dr many as) μ = .ok (.int many) μ := rfl
theorem q_arrows {many : Int} {as : List (Int × Int)} {μ : Sto} : dFld .drawing 1 (dr many as) μ = .ok (.lst (as.map arD)) μ := rfl
def arOk (many : Int) (a : Int × Int) : Bool := (decide (0 ≤ a.1) && decide (a.1 < many)) && (decide (0 ≤ a.2) && decide (a.2 < many))
def drOk (many : Int) (as : List (Int × Int)) : Bool := (decide (1 ≤ many) && decide (many ≤ 8)) && (decide (as.length ≤ 9) && as.all (arOk many))
theorem whole_dr {x : Int} {μ : Sto} : a_is_whole_drawings [.int x] μ = .ok (.bl true) μ := by
  have e1 : dIsi (.int x) (.ty "int") μ = .ok (.bl true) μ := rfl
  have e2 : dIsi (.int x) (.ty "bool") μ = .ok (.bl false) μ := rfl
  simp [a_is_whole_drawings, e1, e2]
theorem is_arrow {many : Int} {a : Int × Int} {μ : Sto} : a_is_arrow [arD a, .int many] μ = .ok (.bl (arOk many a)) μ := by
  have e1 : ∀ μ, dIsi (arD a) (.ty "tuple") μ = .ok (.bl true) μ := fun _ => rfl
  have e2 : ∀ μ, dLen (arD a) μ = .ok (.int 2) μ := fun _ => rfl
  have it : aItA (aVar 0) [some (arD a), some (.int many), none] μ = .ok ([a.1, a.2].map D.int) μ := q_itA2 rfl
  have lc := lc_mapL (f := D.int) (g := fun x => D.bl (decide (0 ≤ x) && decide (x < many))) (l := [a.1, a.2]) (I := aItA (aVar 0)) (ga := gNm 2) (vs := [2]) (A := (aAndV (aCall a_is_whole_drawings [] (aCons (aVar 2) aNil)) (aChain dLe dLt (aC (.int 0)) (aVar 2) (aVar 1)))) it (by rw [q_line]; simp) (fun x hx => ⟨_, rfl, by
    by_cases h : 0 ≤ x
    · simp [wipeE, whole_dr, h]
    · simp [wipeE, whole_dr, h]⟩)
  have al := q_all (f := fun x => decide (0 ≤ x) && decide (x < many)) (l := [a.1, a.2]) (μ := μ)
  generalize List.map (fun x => D.bl (decide (0 ≤ x) && decide (x < many))) [a.1, a.2] = L at lc al
  simp [a_is_arrow, e1, e2, lc, al, arOk]
theorem must_be {many : Int} {as : List (Int × Int)} {μ : Sto} (hl : as.length < 1000000) : a_must_be_drawing [.int many, .lst (as.map arD)] μ = if drOk many as = true then .ok .non μ else .ex .drawing μ := by
  have e1 : ∀ μ, dIsi (.lst (as.map arD)) (.ty "list") μ = .ok (.bl true) μ := fun _ => rfl
  have e2 : ∀ μ, dLen (.lst (as.map arD)) μ = .ok (.int as.length) μ := fun μ => by rw [q_lenL, List.length_map]
  have it : aItA (aVar 1) [some (.int many), some (.lst (as.map arD)), none] μ = .ok (as.map arD) μ := q_itA1 rfl
  have lc := lc_mapL (f := arD) (g := fun a => D.bl (arOk many a)) (l := as) (I := aItA (aVar 1)) (ga := gNm 2) (vs := [2]) (A := (aCall a_is_arrow [] (aCons (aVar 2) (aCons (aVar 0) aNil)))) it (by rw [q_line]; omega) (fun x hx => ⟨_, rfl, by simp [wipeE, is_arrow]⟩)
  have al := q_all (f := arOk many) (l := as) (μ := μ)
  by_cases h1 : 1 ≤ many
  · by_cases h2 : many ≤ 8
    · by_cases h3 : as.length ≤ 9
      · have h3' : ¬ (9 < (as.length : Int)) := by omega
        have d : drOk many as = as.all (arOk many) := by simp [drOk, h1, h2, h3]
        rw [d]
        generalize List.map (fun a => D.bl (arOk many a)) as = L at lc al
        cases h : as.all (arOk many) with
        | true => rw [h] at al; simp [a_must_be_drawing, whole_dr, h1, h2, e1, e2, h3', lc, al, -q_lenL]
        | false => rw [h] at al; simp [a_must_be_drawing, whole_dr, h1, h2, e1, e2, h3', lc, al, -q_lenL]
      · have h3' : (9 < (as.length : Int)) := by omega
        have d : drOk many as = false := by simp [drOk, h3]
        rw [d]
        simp [a_must_be_drawing, whole_dr, h1, h2, e1, e2, h3', -q_lenL]
    · have d : drOk many as = false := by simp [drOk, h2]
      rw [d]
      simp [a_must_be_drawing, whole_dr, h1, h2]
  · have d : drOk many as = false := by simp [drOk, h1]
    rw [d]
    simp [a_must_be_drawing, whole_dr, h1]
end HD

set_option linter.all false
set_option maxRecDepth 100000
set_option maxHeartbeats 4000000
namespace HD
open PySem PySem.Spec PyProof.Rows L2 L2H Z
theorem imm_ar {as : List (Int × Int)} : D.imms (as.map arD) = true ∧ D.cools (as.map arD) = true := imms_of fun d hd => by
  obtain ⟨a, _, rfl⟩ := List.mem_map.mp hd
  exact ⟨rfl, rfl⟩
theorem dr_imm {many : Int} {as : List (Int × Int)} : (dr many as).imm = true ∧ (dr many as).cool = true := by
  have a := imm_ar (as := as)
  simp only [dr, D.imm, D.imms, D.cool, D.cools, a.1, a.2]
  exact ⟨rfl, rfl⟩
theorem init_dr {many : Int} {as : List (Int × Int)} {μ : Sto} (hl : as.length < 1000000) : a_Drawing__init [.ob μ.length, .int many, .lst (as.map arD)] (μ ++ [.ins .drawing []]) = if drOk many as = true then .ok .non (μ ++ [.ins .drawing [.int many, .lst (as.map arD)]]) else .ex .drawing (μ ++ [.ins .drawing []]) := by
  have m := must_be (many := many) (as := as) (μ := μ ++ [.ins .drawing []]) hl
  have l : ∀ μ, dLs (.lst (as.map arD)) μ = .ok (.lst (as.map arD)) μ := fun _ => rfl
  cases h : drOk many as with
  | true => rw [h] at m; simp [a_Drawing__init, m, aSetF, l]
  | false => rw [h] at m; simp [a_Drawing__init, m]
theorem make_dr {many : Int} {as : List (Int × Int)} {As : AA} {env : En} {μ : Sto} (hl : as.length < 1000000) (hμ : μ.all M.imm = true) (e : As env μ = .ok [.int many, .lst (as.map arD)] μ) : aMake .drawing a_Drawing__init [] As env μ = if drOk many as = true then .ok (dr many as) μ else .ex .drawing μ := by
  have i := init_dr (many := many) (as := as) (μ := μ) hl
  have im := imm_ar (as := as)
  have tk : ∀ m : M, (μ ++ [m]).take μ.length = μ := fun m => by simp
  unfold aMake
  rw [e]
  simp only [q_bind, List.append_nil]
  cases h : drOk many as with
  | true =>
    rw [h, if_pos rfl] at i
    rw [i, if_pos rfl]
    show makeOk .drawing μ.length _ = _
    unfold makeOk
    simp [Cn.fs, D.imms, D.imm, im.1, hμ, tk]
    rfl
  | false =>
    rw [h, if_neg Bool.false_ne_true] at i
    rw [i, if_neg Bool.false_ne_true]
    show (if ((μ ++ [M.ins .drawing []]).take μ.length).all M.imm = true then (Z.R.ex .drawing ((μ ++ [M.ins .drawing []]).take μ.length) : Z.R D) else .fail) = _
    rw [tk, if_pos hμ]
/-! their texts -/
def arT (a : Int × Int) : List Nat := intS a.1 ++ [62] ++ intS a.2
def drT (many : Int) (as : List (Int × Int)) : List Nat := TL.joinL [32] ((intS many ++ [58]) :: as.map arT)
def Sm (B : Int) (as : List (Int × Int)) : Prop := ∀ a ∈ as, (-B ≤ a.1 ∧ a.1 ≤ B) ∧ -B ≤ a.2 ∧ a.2 ≤ B
theorem arT_len {a : Int × Int} (h1 : -(10 ^ 60) ≤ a.1 ∧ a.1 ≤ 10 ^ 60) (h2 : -(10 ^ 60) ≤ a.2 ∧ a.2 ≤ 10 ^ 60) : (arT a).length ≤ 150 := by
  have l1 := intS_len (x := a.1) (by omega)
  have l2 := intS_len (x := a.2) (by omega)
  unfold arT
  rw [List.length_append, List.length_append, List.length_singleton]
  omega
theorem drT_eq {many : Int} {as : List (Int × Int)} : drT many as = (intS many ++ [58]) ++ (as.map fun a => 32 :: arT a).flatten := by
  unfold drT
  rw [joinL_cons, List.map_map]
  rfl
theorem drT_len {many : Int} {as : List (Int × Int)} (hm : -(10 ^ 60) ≤ many ∧ many ≤ 10 ^ 60) (ha : Sm (10 ^ 60) as) (hl : as.length ≤ 1000) : (drT many as).length ≤ 152000 := by
  have a := joinL_len (sep := [32]) ((intS many ++ [58]) :: as.map arT)
  have b := sum_le (ls := (intS many ++ [58]) :: as.map arT) (B := 150) fun l hl => by
    rcases List.mem_cons.mp hl with rfl | hl
    · have l1 := intS_len (x := many) (by omega)
      rw [List.length_append, List.length_singleton]; omega
    · obtain ⟨x, hx, rfl⟩ := List.mem_map.mp hl
      exact arT_len (ha x hx).1 (ha x hx).2
  unfold drT
  rw [List.length_cons, List.length_map] at a b
  simp only [List.length_singleton] at a
  omega
theorem show_dr {many : Int} {as : List (Int × Int)} {μ : Sto} (hm : -(10 ^ 60) ≤ many ∧ many ≤ 10 ^ 60) (ha : Sm (10 ^ 60) as) (hl : as.length ≤ 1000) : a_show_drawing [dr many as] μ = .ok (.str (drT many as)) μ := by
  have f1 := fun μ => fmtB (x := many) (by omega) μ
  have l1 := intS_len (x := many) (by omega)
  have j1 : aJs [(aUn dFmt (aUn (dFld .drawing 0) (aVar 0))), (aC (.str [58]))] [] [some (dr many as), none, none, none] μ = .ok (.str (intS many ++ [58])) μ := js2 (by simp [q_many, f1]) rfl (by omega) (by simp)
  have lc := lc_mapL (f := arD) (g := fun a => D.str (arT a)) (l := as) (I := aItA (aUn (dFld .drawing 1) (aVar 0))) (ga := gTp 2 (gsCons (gNm 2) (gsCons (gNm 3) gsNil))) (vs := [2, 3]) (A := (aJs [(aUn dFmt (aVar 2)), (aC (.str [62])), (aUn dFmt (aVar 3))] [])) (env := [some (dr many as), none, none, none]) (μ := μ) (q_itA1 (by simp [q_arrows])) (by rw [q_line]; omega) (fun x hx => ⟨[some (dr many as), none, some (.int x.1), some (.int x.2)], rfl, by
    have b := ha x hx
    have g1 := fun μ => fmtB (x := x.1) (by omega) μ
    have g2 := fun μ => fmtB (x := x.2) (by omega) μ
    have k1 := intS_len (x := x.1) (by omega)
    have k2 := intS_len (x := x.2) (by omega)
    exact js3 (by simp [g1]) rfl (by simp [g2]) (by omega) (by simp) (by omega)⟩)
  have e : aOp dAdd (aLst (aCons (aJs [(aUn dFmt (aUn (dFld .drawing 0) (aVar 0))), (aC (.str [58]))] []) aNil)) (aLc (aItA (aUn (dFld .drawing 1) (aVar 0))) (gTp 2 (gsCons (gNm 2) (gsCons (gNm 3) gsNil))) aYes (aJs [(aUn dFmt (aVar 2)), (aC (.str [62])), (aUn dFmt (aVar 3))] []) [2, 3]) [some (dr many as), none, none, none] μ = .ok (.lst (((intS many ++ [58]) :: as.map arT).map D.str)) μ := by
    have ad : dAdd (.lst [.str (intS many ++ [58])]) (.lst (as.map fun a => D.str (arT a))) μ = .ok (.lst ([.str (intS many ++ [58])] ++ as.map fun a => D.str (arT a))) μ := q_addL (by rw [q_line, List.length_map]; simp; omega)
    rw [q_op, q_lst, q_cons, j1]
    simp only [q_bind, q_nil]
    rw [if_pos (by rw [q_line]; simp)]
    simp only [lc, ad]
    rw [List.map_cons, List.map_map]
    rfl
  have jn := join_ok (sep := [32]) (A := aVar 1) (env := [some (dr many as), some (.lst (((intS many ++ [58]) :: as.map arT).map D.str)), none, none]) (μ := μ) (ls := (intS many ++ [58]) :: as.map arT) rfl (by
    have b := sum_le (ls := (intS many ++ [58]) :: as.map arT) (B := 150) fun l hl => by
      rcases List.mem_cons.mp hl with rfl | hl
      · rw [List.length_append, List.length_singleton]; omega
      · obtain ⟨x, hx, rfl⟩ := List.mem_map.mp hl
        exact arT_len (ha x hx).1 (ha x hx).2
    rw [List.length_cons, List.length_map] at b ⊢
    rw [q_line]
    simp only [List.length_singleton]
    omega)
  show (aSeq (aAsg 1 _) _ [some (dr many as), none, none, none] μ).res = _
  rw [q_seq, q_asg, e]
  show (aRet _ [some (dr many as), some (.lst (((intS many ++ [58]) :: as.map arT).map D.str)), none, none] μ).res = _
  rw [q_ret, jn]
  rfl
def dsS : ATS := (aAsg 2 (aOp dAdd (aOp dAdd (aOp dAdd (aOp dAdd (aVar 2) (aC (.str [32]))) (aCB (one1 dStr) (aCons (aVar 3) aNil))) (aC (.str [62]))) (aCB (one1 dStr) (aCons (aVar 4) aNil))))
theorem ds_loop {e0 e1 : Option D} {μ : Sto} : ∀ (as : List (Int × Int)) (t : List Nat) (o3 o4 : Option D), Sm (10 ^ 60) as → t.length + as.length * 200 ≤ 2000000 →
    ∃ q3 q4, loopA (gTp 2 (gsCons (gNm 3) (gsCons (gNm 4) gsNil))) dsS (as.map arD) [e0, e1, some (.str t), o3, o4] μ = .nx [e0, e1, some (.str (t ++ (as.map fun a => 32 :: arT a).flatten)), q3, q4] μ
  | [], t, o3, o4, ha, hl => ⟨o3, o4, by simp [loopA]⟩
  | a :: as, t, o3, o4, ha, hl => by
    have b := ha a (List.mem_cons_self ..)
    have g1 := fun μ => strB (x := a.1) (by omega) μ
    have g2 := fun μ => strB (x := a.2) (by omega) μ
    have k1 := intS_len (x := a.1) (by omega)
    have k2 := intS_len (x := a.2) (by omega)
    rw [List.length_cons, Nat.succ_mul] at hl
    obtain ⟨q3, q4, ih⟩ := ds_loop (e0 := e0) (e1 := e1) (μ := μ) as (t ++ 32 :: arT a) (some (.int a.1)) (some (.int a.2)) (fun x hx => ha x (List.mem_cons_of_mem _ hx)) (by
      unfold arT
      simp only [List.length_append, List.length_cons, List.length_nil]
      omega)
    refine ⟨q3, q4, ?_⟩
    have a1 := fun μ => addB (x := t) (y := [32]) (by omega) (by simp) μ
    have a2 := fun μ => addB (x := t ++ [32]) (y := intS a.1) (by simp; omega) (by omega) μ
    have a3 := fun μ => addB (x := t ++ [32] ++ intS a.1) (y := [62]) (by simp only [List.length_append, List.length_cons, List.length_nil]; omega) (by simp) μ
    have a4 := fun μ => addB (x := t ++ [32] ++ intS a.1 ++ [62]) (y := intS a.2) (by simp only [List.length_append, List.length_cons, List.length_nil]; omega) (by omega) μ
    have st : dsS [e0, e1, some (.str t), some (.int a.1), some (.int a.2)] μ = .nx [e0, e1, some (.str (t ++ 32 :: arT a)), some (.int a.1), some (.int a.2)] μ := by
      have e : t ++ 32 :: arT a = t ++ [32] ++ intS a.1 ++ [62] ++ intS a.2 := by unfold arT; simp
      rw [e]
      simp [dsS, g1, g2, a1, a2, a3, a4, -List.append_assoc]
    rw [List.map_cons, lp_cons (e1 := [e0, e1, some (.str t), some (.int a.1), some (.int a.2)]) rfl st, ih]
    simp
theorem shown_dr {many : Int} {as : List (Int × Int)} {μ : Sto} (hm : -(10 ^ 60) ≤ many ∧ many ≤ 10 ^ 60) (ha : Sm (10 ^ 60) as) (hl : as.length ≤ 1000) : a__law_drawing_shown [.int many, .lst (as.map arD)] μ = .ok (.str (drT many as)) μ := by
  have f1 := fun μ => strB (x := many) (by omega) μ
  have l1 := intS_len (x := many) (by omega)
  have a1 := fun μ => addB (x := intS many) (y := [58]) (by omega) (by simp) μ
  obtain ⟨q3, q4, lp⟩ := ds_loop (e0 := some (.int many)) (e1 := some (.lst (as.map arD))) (μ := μ) as (intS many ++ [58]) none none ha (by simp; omega)
  have s1 : aAsg 2 (aOp dAdd (aCB (one1 dStr) (aCons (aVar 0) aNil)) (aC (.str [58]))) [some (.int many), some (.lst (as.map arD)), none, none, none] μ = .nx [some (.int many), some (.lst (as.map arD)), some (.str (intS many ++ [58])), none, none] μ := by simp [f1, a1]
  show (aSeq _ (aSeq (aFor _ _ dsS) _) [some (.int many), some (.lst (as.map arD)), none, none, none] μ).res = _
  rw [sq_nx s1, sq_nx (for_nx (q_itA1 rfl) lp), drT_eq]
  rfl
end HD

set_option linter.all false
set_option maxRecDepth 100000
set_option maxHeartbeats 4000000
namespace HD
open PySem PySem.Spec PyProof.Rows L2 L2H Z
/-! equality of plain data -/
mutual
def eqD : D → D → Bool
  | .non, .non => true
  | .int i, .int j => decide (i = j)
  | .str a, .str b => decide (a = b)
  | .lst xs, .lst ys => eqDs xs ys
  | .tup xs, .tup ys => eqDs xs ys
  | _, _ => false
def eqDs : List D → List D → Bool
  | [], [] => true
  | x :: xs, y :: ys => eqD x y && eqDs xs ys
  | _, _ => false
end
mutual
def plD : D → Bool
  | .non => true
  | .int _ => true
  | .str s => PyData.strOk (S s)
  | .lst xs => plDs xs
  | .tup xs => plDs xs
  | _ => false
def plDs : List D → Bool
  | [] => true
  | x :: xs => plD x && plDs xs
end
mutual
def depD : D → Nat
  | .lst xs => depDs xs + 1
  | .tup xs => depDs xs + 1
  | _ => 0
def depDs : List D → Nat
  | [] => 0
  | x :: xs => max (depD x) (depDs xs)
end
mutual
theorem eqD_iff : ∀ {d e : D}, plD d = true → (eqD d e = true ↔ d = e)
  | .non, e, _ => by cases e <;> simp [eqD]
  | .int i, e, _ => by cases e <;> simp [eqD]
  | .str i, e, _ => by cases e <;> simp [eqD]
  | .lst xs, e, h => by
    have h : plDs xs = true := by simpa [plD] using h
    cases e <;> simp [eqD]
    exact eqDs_iff h
  | .tup xs, e, h => by
    have h : plDs xs = true := by simpa [plD] using h
    cases e <;> simp [eqD]
    exact eqDs_iff h
  | .bl _, _, h => by simp [plD] at h
  | .ty _, _, h => by simp [plD] at h
  | .ecl _, _, h => by simp [plD] at h
  | .ccl _, _, h => by simp [plD] at h
  | .ins _ _, _, h => by simp [plD] at h
  | .ob _, _, h => by simp [plD] at h
  | .exc _, _, h => by simp [plD] at h
  | .scr _, _, h => by simp [plD] at h
theorem eqDs_iff : ∀ {xs ys : List D}, plDs xs = true → (eqDs xs ys = true ↔ xs = ys)
  | [], ys, _ => by cases ys <;> simp [eqDs]
  | x :: xs, [], _ => by simp [eqDs]
  | x :: xs, y :: ys, h => by
    have h : plD x = true ∧ plDs xs = true := by simpa [plDs] using h
    simp only [eqDs, Bool.and_eq_true, List.cons.injEq]
    rw [eqD_iff h.1, eqDs_iff h.2]
end
mutual
theorem py_of : ∀ {d : D}, plD d = true → ∃ p, d.py = some p ∧ p.canLay0 = true ∧ p.depth = depD d
  | .non, _ => ⟨.none, rfl, rfl, rfl⟩
  | .int i, _ => ⟨.int i, rfl, rfl, rfl⟩
  | .str s, h => ⟨.str (S s), rfl, by simpa [plD, PyData.canLay0] using h, rfl⟩
  | .lst xs, h => by
    obtain ⟨ps, h1, h2, h3⟩ := pys_of (xs := xs) (by simpa [plD] using h)
    exact ⟨.list ps, by simp [D.py, h1], by simpa [PyData.canLay0] using h2, by simp [PyData.depth, depD, h3]⟩
  | .tup xs, h => by
    obtain ⟨ps, h1, h2, h3⟩ := pys_of (xs := xs) (by simpa [plD] using h)
    exact ⟨.tuple ps, by simp [D.py, h1], by simpa [PyData.canLay0] using h2, by simp [PyData.depth, depD, h3]⟩
  | .bl _, h => by simp [plD] at h
  | .ty _, h => by simp [plD] at h
  | .ecl _, h => by simp [plD] at h
  | .ccl _, h => by simp [plD] at h
  | .ins _ _, h => by simp [plD] at h
  | .ob _, h => by simp [plD] at h
  | .exc _, h => by simp [plD] at h
  | .scr _, h => by simp [plD] at h
theorem pys_of : ∀ {xs : List D}, plDs xs = true → ∃ ps, D.pys xs = some ps ∧ PyData.canLayAll0 ps = true ∧ PyData.depthAll ps = depDs xs
  | [], _ => ⟨[], rfl, rfl, rfl⟩
  | x :: xs, h => by
    have h : plD x = true ∧ plDs xs = true := by simpa [plDs] using h
    obtain ⟨p, h1, h2, h3⟩ := py_of h.1
    obtain ⟨ps, h4, h5, h6⟩ := pys_of h.2
    exact ⟨p :: ps, by simp [D.pys, h1, h4], by simp [PyData.canLayAll0, h2, h5], by simp [PyData.depthAll, depDs, h3, h6]⟩
end
theorem S_eq {a b : List Nat} : (S a == S b) = decide (a = b) := by
  by_cases h : a = b
  · subst h; simp
  · rw [decide_eq_false h]
    rw [beq_eq_false_iff_ne]
    intro q
    have q : a.toArray = b.toArray := congrArg Str.cps q
    exact h (by simpa using q)
mutual
theorem eqv_of : ∀ {d e : D} {p q : PyData}, plD d = true → plD e = true → d.py = some p → e.py = some q → PyData.eqv p q = eqD d e
  | .non, e, p, q, _, h2, h3, h4 => by
    cases h3
    cases e with
    | non => cases h4; rfl
    | int j => cases h4; rfl
    | str j => cases h4; rfl
    | lst ys => obtain ⟨qs, a, b⟩ := Option.map_eq_some_iff.mp (show (D.pys ys).map PyData.list = some q from h4); subst b; rfl
    | tup ys => obtain ⟨qs, a, b⟩ := Option.map_eq_some_iff.mp (show (D.pys ys).map PyData.tuple = some q from h4); subst b; rfl
    | _ => simp [plD] at h2
  | .int i, e, p, q, _, h2, h3, h4 => by
    cases h3
    cases e with
    | non => cases h4; rfl
    | int j => cases h4; simp only [PyData.eqv, eqD]; exact beqI i j
    | str j => cases h4; rfl
    | lst ys => obtain ⟨qs, a, b⟩ := Option.map_eq_some_iff.mp (show (D.pys ys).map PyData.list = some q from h4); subst b; rfl
    | tup ys => obtain ⟨qs, a, b⟩ := Option.map_eq_some_iff.mp (show (D.pys ys).map PyData.tuple = some q from h4); subst b; rfl
    | _ => simp [plD] at h2
  | .str i, e, p, q, _, h2, h3, h4 => by
    cases h3
    cases e with
    | non => cases h4; rfl
    | int j => cases h4; rfl
    | str j => cases h4; simp only [PyData.eqv, eqD]; exact S_eq
    | lst ys => obtain ⟨qs, a, b⟩ := Option.map_eq_some_iff.mp (show (D.pys ys).map PyData.list = some q from h4); subst b; rfl
    | tup ys => obtain ⟨qs, a, b⟩ := Option.map_eq_some_iff.mp (show (D.pys ys).map PyData.tuple = some q from h4); subst b; rfl
    | _ => simp [plD] at h2
  | .lst xs, e, p, q, h1, h2, h3, h4 => by
    obtain ⟨ps, a, b⟩ := Option.map_eq_some_iff.mp (show (D.pys xs).map PyData.list = some p from h3)
    subst b
    cases e with
    | non => cases h4; rfl
    | int j => cases h4; rfl
    | str j => cases h4; rfl
    | lst ys =>
      obtain ⟨qs, c, d⟩ := Option.map_eq_some_iff.mp (show (D.pys ys).map PyData.list = some q from h4)
      subst d
      simp only [PyData.eqv, eqD]
      exact eqvs_of (by simpa [plD] using h1) (by simpa [plD] using h2) a c
    | tup ys => obtain ⟨qs, c, d⟩ := Option.map_eq_some_iff.mp (show (D.pys ys).map PyData.tuple = some q from h4); subst d; rfl
    | _ => simp [plD] at h2
  | .tup xs, e, p, q, h1, h2, h3, h4 => by
    obtain ⟨ps, a, b⟩ := Option.map_eq_some_iff.mp (show (D.pys xs).map PyData.tuple = some p from h3)
    subst b
    cases e with
    | non => cases h4; rfl
    | int j => cases h4; rfl
    | str j => cases h4; rfl
    | tup ys =>
      obtain ⟨qs, c, d⟩ := Option.map_eq_some_iff.mp (show (D.pys ys).map PyData.tuple = some q from h4)
      subst d
      simp only [PyData.eqv, eqD]
      exact eqvs_of (by simpa [plD] using h1) (by simpa [plD] using h2) a c
    | lst ys => obtain ⟨qs, c, d⟩ := Option.map_eq_some_iff.mp (show (D.pys ys).map PyData.list = some q from h4); subst d; rfl
    | _ => simp [plD] at h2
  | .bl _, _, _, _, h, _, _, _ => by simp [plD] at h
  | .ty _, _, _, _, h, _, _, _ => by simp [plD] at h
  | .ecl _, _, _, _, h, _, _, _ => by simp [plD] at h
  | .ccl _, _, _, _, h, _, _, _ => by simp [plD] at h
  | .ins _ _, _, _, _, h, _, _, _ => by simp [plD] at h
  | .ob _, _, _, _, h, _, _, _ => by simp [plD] at h
  | .exc _, _, _, _, h, _, _, _ => by simp [plD] at h
  | .scr _, _, _, _, h, _, _, _ => by simp [plD] at h
theorem eqvs_of : ∀ {xs ys : List D} {ps qs : List PyData}, plDs xs = true → plDs ys = true → D.pys xs = some ps → D.pys ys = some qs → PyData.eqvAll ps qs = eqDs xs ys
  | [], [], ps, qs, _, _, h3, h4 => by cases h3; cases h4; rfl
  | [], y :: ys, ps, qs, _, h2, h3, h4 => by
    cases h3
    obtain ⟨q, a, b⟩ := Option.bind_eq_some_iff.mp (show (D.py y).bind (fun p => (D.pys ys).map fun ps => p :: ps) = some qs from h4)
    obtain ⟨qs', c, d⟩ := Option.map_eq_some_iff.mp b
    subst d; rfl
  | x :: xs, [], ps, qs, _, _, h3, h4 => by
    cases h4
    obtain ⟨q, a, b⟩ := Option.bind_eq_some_iff.mp (show (D.py x).bind (fun p => (D.pys xs).map fun ps => p :: ps) = some ps from h3)
    obtain ⟨qs', c, d⟩ := Option.map_eq_some_iff.mp b
    subst d; rfl
  | x :: xs, y :: ys, ps, qs, h1, h2, h3, h4 => by
    have h1 : plD x = true ∧ plDs xs = true := by simpa [plDs] using h1
    have h2 : plD y = true ∧ plDs ys = true := by simpa [plDs] using h2
    obtain ⟨p, a, b⟩ := Option.bind_eq_some_iff.mp (show (D.py x).bind (fun p => (D.pys xs).map fun ps => p :: ps) = some ps from h3)
    obtain ⟨ps', c, d⟩ := Option.map_eq_some_iff.mp b
    obtain ⟨q, a2, b2⟩ := Option.bind_eq_some_iff.mp (show (D.py y).bind (fun p => (D.pys ys).map fun ps => p :: ps) = some qs from h4)
    obtain ⟨qs', c2, d2⟩ := Option.map_eq_some_iff.mp b2
    subst d d2
    simp only [PyData.eqvAll, eqDs]
    rw [eqv_of h1.1 h2.1 a a2, eqvs_of h1.2 h2.2 c c2]
end
theorem shaped_of {d : D} {p : PyData} (h : p.canLay0 = true) (h2 : p.depth = depD d) (hd : depD d ≤ 60) : SeqAt.shaped p = true := by
  show (p.canLay0 && decide (p.depth ≤ 64)) = true
  rw [h, decide_eq_true (by omega)]; rfl
theorem now_pl {d : D} {μ : Sto} (h : plD d = true) : d.now μ = d := by
  cases d with
  | ob n => simp [plD] at h
  | _ => rfl
theorem eqDD {f : Bool → Bool} {d e : D} {μ : Sto} (h1 : plD d = true) (h2 : plD e = true) (d1 : depD d ≤ 60) (d2 : depD e ≤ 60) : dEqD f d e μ = .ok (.bl (f (eqD d e))) μ := by
  obtain ⟨p, a1, a2, a3⟩ := py_of h1
  obtain ⟨q, b1, b2, b3⟩ := py_of h2
  unfold dEqD
  rw [now_pl h1, now_pl h2, a1, b1]
  simp only []
  rw [if_pos (by rw [shaped_of a2 a3 d1, shaped_of b2 b3 d2]; rfl), eqv_of h1 h2 a1 b1]
theorem q_EQ {d e : D} {μ : Sto} (h1 : plD d = true) (h2 : plD e = true) (d1 : depD d ≤ 60) (d2 : depD e ≤ 60) : dEq d e μ = .ok (.bl (eqD d e)) μ := by
  have k := eqDD (f := id) (μ := μ) h1 h2 d1 d2
  unfold dEq
  cases d with
  | str a =>
    cases e with
    | str b => rfl
    | _ => exact k
  | _ => exact k
theorem q_NE {d e : D} {μ : Sto} (h1 : plD d = true) (h2 : plD e = true) (d1 : depD d ≤ 60) (d2 : depD e ≤ 60) : dNe d e μ = .ok (.bl (!eqD d e)) μ := by
  have k := eqDD (f := not) (μ := μ) h1 h2 d1 d2
  unfold dNe
  cases d with
  | str a =>
    cases e with
    | str b => rfl
    | _ => exact k
  | _ => exact k
/-- membership in a list of plain data -/
theorem pys_any {d : D} {p : PyData} (h1 : plD d = true) (hp : d.py = some p) : ∀ {xs : List D} {qs : List PyData}, plDs xs = true → D.pys xs = some qs → qs.any (fun z => PyData.eqv z p) = xs.any fun x => eqD x d
  | [], qs, _, h => by cases h; rfl
  | x :: xs, qs, h2, h => by
    have h2 : plD x = true ∧ plDs xs = true := by simpa [plDs] using h2
    obtain ⟨q, a2, b2⟩ := Option.bind_eq_some_iff.mp (show (D.py x).bind (fun p => (D.pys xs).map fun ps => p :: ps) = some qs from h)
    obtain ⟨qs', c2, d2⟩ := Option.map_eq_some_iff.mp b2
    subst d2
    rw [List.any_cons, List.any_cons, eqv_of h2.1 h1 a2 hp, pys_any h1 hp h2.2 c2]
theorem inDD {f : Bool → Bool} {d : D} {xs : List D} {μ : Sto} (h1 : plD d = true) (h2 : plDs xs = true) (d1 : depD d ≤ 60) (d2 : depDs xs ≤ 59) : dInD f d (.lst xs) μ = .ok (.bl (f (xs.any fun x => eqD x d))) μ := by
  have h3 : plD (.lst xs) = true := by simpa [plD] using h2
  obtain ⟨p, a1, a2, a3⟩ := py_of h1
  obtain ⟨q, b1, b2, b3⟩ := py_of h3
  obtain ⟨qs, c1, c2⟩ := Option.map_eq_some_iff.mp (show (D.pys xs).map PyData.list = some q from b1)
  subst c2
  unfold dInD
  rw [now_pl h1, now_pl h3, a1, b1]
  simp only []
  rw [if_pos (by rw [shaped_of a2 a3 d1, shaped_of b2 b3 (by simp [depD]; omega)]; rfl), pys_any h1 a1 h2 c1]
theorem q_IN {d : D} {xs : List D} {μ : Sto} (h1 : plD d = true) (h2 : plDs xs = true) (d1 : depD d ≤ 60) (d2 : depDs xs ≤ 59) : dIn d (.lst xs) μ = .ok (.bl (xs.any fun x => eqD x d)) μ := by
  have k := inDD (f := id) (μ := μ) h1 h2 d1 d2
  unfold dIn
  cases d with
  | str a => 
    cases a with
    | nil => exact k
    | cons c a => cases a <;> exact k
  | _ => exact k
theorem plDs_all {xs : List D} : plDs xs = xs.all plD := by
  induction xs with
  | nil => rfl
  | cons x xs ih => simp [plDs, ih]
theorem depDs_le {xs : List D} {n : Nat} (h : ∀ x ∈ xs, depD x ≤ n) : depDs xs ≤ n := by
  induction xs with
  | nil => simp [depDs]
  | cons x xs ih =>
    have a := h x (List.mem_cons_self ..)
    have b := ih fun y hy => h y (List.mem_cons_of_mem _ hy)
    simp only [depDs]
    omega
end HD

set_option linter.all false
set_option maxRecDepth 100000
set_option maxHeartbeats 4000000
namespace HD
open PySem PySem.Spec PyProof.Rows L2 L2H Z
/-! texts that are read -/
theorem rw_none {c : Nat} {t : List Nat} (h : c ∈ t) (hc : dg c = false) : rw_ t = none := by
  have : t.all dg = false := by
    rw [List.all_eq_false]
    exact ⟨c, h, by rw [hc]; decide⟩
  unfold rw_ rwOk
  rw [this]
  simp
theorem rw_mem {c : Nat} {t : List Nat} {v : Int} (h : rw_ t = some v) (hc : dg c = false) : c ∉ t := fun q => by rw [rw_none q hc] at h; cases h
def oAll {α β : Type} (g : α → Option β) : List α → Option (List β)
  | [] => some []
  | x :: l => (g x).bind fun y => (oAll g l).map fun ys => y :: ys
theorem oAll_len {α β : Type} {g : α → Option β} : ∀ {l : List α} {ys : List β}, oAll g l = some ys → ys.length = l.length
  | [], ys, h => by cases h; rfl
  | x :: l, ys, h => by
    obtain ⟨y, h1, h2⟩ := Option.bind_eq_some_iff.mp (show (g x).bind (fun y => (oAll g l).map fun ys => y :: ys) = some ys from h)
    obtain ⟨zs, h3, h4⟩ := Option.map_eq_some_iff.mp h2
    subst h4
    simp [oAll_len h3]
theorem oAll_mem {α β : Type} {g : α → Option β} : ∀ {l : List α} {ys : List β}, oAll g l = some ys → ∀ y ∈ ys, ∃ x ∈ l, g x = some y
  | [], ys, h, y, hy => by cases h; cases hy
  | x :: l, ys, h, y, hy => by
    obtain ⟨z, h1, h2⟩ := Option.bind_eq_some_iff.mp (show (g x).bind (fun y => (oAll g l).map fun ys => y :: ys) = some ys from h)
    obtain ⟨zs, h3, h4⟩ := Option.map_eq_some_iff.mp h2
    subst h4
    rcases List.mem_cons.mp hy with rfl | hy
    · exact ⟨x, List.mem_cons_self .., h1⟩
    · obtain ⟨w, a, b⟩ := oAll_mem h3 y hy
      exact ⟨w, List.mem_cons_of_mem _ a, b⟩
/-- a comprehension whose items may be refused -/
theorem lcX_map {α β : Type} {ga : D → ATS} {A : AE} {env : En} {μ : Sto} {c : Ec} (f : α → D) (g : α → Option β) (k : β → D) : ∀ (l : List α), (∀ x ∈ l, ∃ e1, ga (f x) env μ = .nx e1 μ ∧ A e1 μ = match g x with | some y => .ok (k y) μ | none => .ex c μ) → lcAX ga aYes A env (l.map f) μ = match oAll g l with | some ys => .ok (ys.map k) μ | none => .ex c μ
  | [], _ => rfl
  | x :: l, h => by
    obtain ⟨e1, h1, h2⟩ := h x (List.mem_cons_self ..)
    have ih := lcX_map f g k l fun y hy => h y (List.mem_cons_of_mem _ hy)
    rw [List.map_cons]
    show (match ga (f x) env μ with
      | .nx e1 m1 => (aYes e1 m1).noex.bind fun b m2 => if b = true then (A e1 m2).bind fun y m3 => (lcAX ga aYes A env (l.map f) m3).bind fun ys m4 => .ok (y :: ys) m4 else lcAX ga aYes A env (l.map f) m2
      | _ => .fail) = _
    rw [h1]
    show ((A e1 μ).bind fun y m3 => (lcAX ga aYes A env (l.map f) m3).bind fun ys m4 => .ok (y :: ys) m4) = _
    rw [h2]
    cases hg : g x with
    | none => simp [oAll, hg]
    | some y =>
      simp only [R.bind_ok]
      rw [ih]
      cases ho : oAll g l with
      | none => simp [oAll, hg, ho]
      | some ys => simp [oAll, hg, ho]
theorem lcX_mapL {α β : Type} {I : AA} {ga : D → ATS} {A : AE} {vs : List Nat} {env : En} {μ : Sto} {c : Ec} {f : α → D} {g : α → Option β} {k : β → D} {l : List α} (hi : I env μ = .ok (l.map f) μ) (hl : l.length < line) (h : ∀ x ∈ l, ∃ e1, ga (f x) (wipeE env vs) μ = .nx e1 μ ∧ A e1 μ = match g x with | some y => .ok (k y) μ | none => .ex c μ) :
    aLcX I ga aYes A vs env μ = match oAll g l with | some ys => .ok (.lst (ys.map k)) μ | none => .ex c μ := by
  unfold aLcX
  rw [hi, R.bind_ok, if_pos (by rw [List.length_map]; exact hl), lcX_map f g k l h]
  cases oAll g l <;> rfl
/-! methods of texts -/
theorem q_part {i s : Nat} {t : List Nat} {μ : Sto} {env : En} (hl : t.length ≤ 14000000) (e : env[i]? = some (some (.str t))) : aBM "str" (mSS cPar parD) (aVar i) (aCons (aC (.str [s])) aNil) env μ = .ok (parD t [s]) μ := by
  have tt : D.isT μ "str" (.str t) = true := rfl
  have c : cPar t [s] = true := by
    show decide (t.length ≤ line) = true
    exact decide_eq_true (by rw [q_line]; omega)
  unfold aBM
  simp [e, tt, mSS, c]
theorem q_spl {A : AE} {sep t : List Nat} {μ : Sto} {env : En} (hl : t.length ≤ 14000000) (hs : sep ≠ []) (hs2 : sep.all (· < 256) = true) (e : A env μ = .ok (.str t) μ) : aBM "str" (mSS cSpl splD) A (aCons (aC (.str sep)) aNil) env μ = .ok (.lst ((TL.spl sep 0 [] t).map D.str)) μ := by
  have tt : D.isT μ "str" (.str t) = true := rfl
  have c : cSpl t sep = true := by
    show (!sep.isEmpty && (decide (t.length + 2 ≤ line) && sep.all (· < 256))) = true
    rw [decide_eq_true (by rw [q_line]; omega), hs2]
    cases sep with
    | nil => exact absurd rfl hs
    | cons _ _ => rfl
  unfold aBM
  rw [e]
  simp only [q_bind, tt, if_pos]
  rw [q_cons, q_c]
  simp only [q_bind, q_nil]
  unfold mSS
  simp only [q_one]
  rw [if_pos c]
  rfl
theorem q_starts {A : AE} {c : Nat} {t : List Nat} {μ : Sto} {env : En} (e : A env μ = .ok (.str t) μ) : aBM "str" (mSS cNe fun a b => .bl (TL.pre b a)) A (aCons (aC (.str [c])) aNil) env μ = .ok (.bl (decide (t.head? = some c))) μ := by
  have tt : D.isT μ "str" (.str t) = true := rfl
  have cc : cNe t [c] = true := rfl
  have p : TL.pre [c] t = decide (t.head? = some c) := by
    cases t with
    | nil => rfl
    | cons x r => rw [pre1]; simp
  unfold aBM
  simp [e, tt, mSS, cc, p]
theorem parD_no {s : Nat} {t : List Nat} (h : s ∉ t) : parD t [s] = .tup [.str t, .str [], .str []] := by unfold parD; rw [par1 t [] h]
theorem parD_at {s : Nat} {a b : List Nat} (h : s ∉ a) : parD (a ++ s :: b) [s] = .tup [.str a, .str [s], .str b] := by unfold parD; rw [par2 a [] h]; rfl
/-! arrows -/
def ar_ (w : List Nat) : Option (Int × Int) := match TL.par [62] [] w with
  | some (a, b) => (rw_ a).bind fun x => (rw_ b).map fun y => (x, y)
  | none => none
theorem ar_no {w : List Nat} (h : 62 ∉ w) : ar_ w = none := by unfold ar_; rw [par1 w [] h]
theorem ar_at {a b : List Nat} (h : 62 ∉ a) : ar_ (a ++ 62 :: b) = (rw_ a).bind fun x => (rw_ b).map fun y => (x, y) := by unfold ar_; rw [par2 a [] h]; rfl
theorem rd_arrow {w : List Nat} {μ : Sto} (hl : w.length ≤ 1000000) : a_read_arrow [.str w] μ = match ar_ w with | some a => .ok (arD a) μ | none => .ex .text μ := by
  have e1 := q_part (i := 0) (s := 62) (t := w) (μ := μ) (env := [some (.str w), none, none, none]) (by omega) rfl
  rcases cut1 62 w with h | ⟨a, b, rfl, h⟩
  · rw [parD_no h] at e1
    rw [ar_no h]
    simp [a_read_arrow, e1, gsCons, gsNil]
  · rw [parD_at h] at e1
    rw [ar_at h]
    have hl' : a.length + (b.length + 1) ≤ 1000000 := by simpa using hl
    have r1 := rd_whole (t := a) (μ := μ) (by omega)
    have r2 := rd_whole (t := b) (μ := μ) (by omega)
    cases z1 : rw_ a with
    | none => rw [z1] at r1; simp [a_read_arrow, e1, gsCons, gsNil, r1]
    | some x =>
      rw [z1] at r1
      cases z2 : rw_ b with
      | none => rw [z2] at r2; simp [a_read_arrow, e1, gsCons, gsNil, r1, r2]
      | some y => rw [z2] at r2; simp [a_read_arrow, e1, gsCons, gsNil, r1, r2, arD]
def optA : Option (Int × Int) → D
  | some a => arD a
  | none => .non
theorem spl_one {s : Nat} {b : List Nat} (h : s ∉ b) : TL.spl [s] 0 [] b = [b] := by rw [spl1 b [] h]; rfl
theorem spl_two {s : Nat} {a b : List Nat} (h : s ∉ a) : TL.spl [s] 0 [] (a ++ s :: b) = a :: TL.spl [s] 0 [] b := by rw [spl2 a [] h]; rfl
theorem lr_arrow {w : List Nat} {μ : Sto} (hl : w.length ≤ 1000000) : a__law_arrow_read [.str w] μ = .ok (optA (ar_ w)) μ := by
  have e1 := q_spl (A := aVar 0) (sep := [62]) (t := w) (μ := μ) (env := [some (.str w), none]) (by omega) (by simp) (by decide) rfl
  rcases cut1 62 w with h | ⟨a, b, rfl, h⟩
  · rw [spl_one h] at e1
    rw [ar_no h]
    simp [a__law_arrow_read, e1, optA]
  · rw [spl_two h] at e1
    rw [ar_at h]
    have hl' : a.length + (b.length + 1) ≤ 1000000 := by simpa using hl
    have r1 := fun μ => lr_whole (t := a) (μ := μ) (by omega)
    rcases cut1 62 b with hb | ⟨b1, b2, rfl, hb⟩
    · rw [spl_one hb] at e1
      have r2 := fun μ => lr_whole (t := b) (μ := μ) (by omega)
      cases z1 : rw_ a with
      | none => rw [z1] at r1; simp [a__law_arrow_read, e1, r1, optA, optD, atD_0, atD_1]
      | some x =>
        rw [z1] at r1
        cases z2 : rw_ b with
        | none => rw [z2] at r2; simp [a__law_arrow_read, e1, r1, r2, optA, optD, atD_0, atD_1]
        | some y => rw [z2] at r2; simp [a__law_arrow_read, e1, r1, r2, optA, optD, atD_0, atD_1, arD]
    · rw [spl_two hb] at e1
      have n : rw_ (b1 ++ 62 :: b2) = none := rw_none (c := 62) (by simp) rfl
      rw [n]
      obtain ⟨x, y, exy⟩ := spl_ne 62 b2 []
      rw [exy] at e1
      have ne : ¬ ((y.length : Int) + 1 + 1 + 1 = 2) := by omega
      cases z1 : rw_ a with
      | none => simp [a__law_arrow_read, e1, optA, ne]
      | some x => simp [a__law_arrow_read, e1, optA, ne]
end HD

set_option linter.all false
set_option maxRecDepth 100000
set_option maxHeartbeats 4000000
namespace HD
open PySem PySem.Spec PyProof.Rows L2 L2H Z
/-! drawings that are read -/
def rdD (t : List Nat) : Option (Int × List (Int × Int)) := match TL.par [58] [] t with
  | some (m, r) => (rw_ m).bind fun n => match r with
    | [] => some (n, [])
    | c :: r' => if c = 32 then (oAll ar_ (TL.spl [32] 0 [] r')).map fun as => (n, as) else none
  | none => none
theorem spl_len (s : Nat) : ∀ (k : Nat) (t : List Nat), t.length ≤ k → (TL.spl [s] 0 [] t).length ≤ k + 1
  | k, t, h => by
    rcases cut1 s t with z | ⟨a, b, rfl, z⟩
    · rw [spl_one z]; simp
    · rw [spl_two z, List.length_cons]
      have hb : b.length + 1 ≤ k := by simp at h; omega
      have := spl_len s (k - 1) b (by omega)
      omega
termination_by k => k
decreasing_by
  have : b.length + 1 ≤ k := by simp at h; omega
  omega
theorem spl_mem (s : Nat) : ∀ (k : Nat) (t : List Nat), t.length ≤ k → ∀ w ∈ TL.spl [s] 0 [] t, w.length ≤ k
  | k, t, h, w, hw => by
    rcases cut1 s t with z | ⟨a, b, rfl, z⟩
    · rw [spl_one z] at hw
      rw [List.mem_singleton.mp hw]; exact h
    · rw [spl_two z] at hw
      have hb : a.length + (b.length + 1) ≤ k := by simpa using h
      rcases List.mem_cons.mp hw with rfl | hw
      · omega
      · have := spl_mem s (k - 1) b (by omega) w hw
        omega
termination_by k => k
decreasing_by
  have : a.length + (b.length + 1) ≤ k := by simpa using h
  omega
def resD (o : Option (Int × List (Int × Int))) (μ : Sto) : Z.R D := match o with
  | none => .ex .text μ
  | some (n, as) => if drOk n as = true then .ok (dr n as) μ else .ex .drawing μ
theorem rd_drawing {t : List Nat} {μ : Sto} (hl : t.length ≤ 400000) (hμ : μ.all M.imm = true) : a_read_drawing [.str t] μ = resD (rdD t) μ := by
  have e1 := q_part (i := 0) (s := 58) (t := t) (μ := μ) (env := [some (.str t), none, none, none, none, none]) (by omega) rfl
  rcases cut1 58 t with h | ⟨m, r, rfl, h⟩
  · have e : rdD t = none := by unfold rdD; rw [par1 t [] h]
    rw [parD_no h] at e1
    rw [e]
    simp [a_read_drawing, e1, gsCons, gsNil, resD]
  · rw [parD_at h] at e1
    have e : rdD (m ++ 58 :: r) = (rw_ m).bind fun n => match r with
      | [] => some (n, [])
      | c :: r' => if c = 32 then (oAll ar_ (TL.spl [32] 0 [] r')).map fun as => (n, as) else none := by unfold rdD; rw [par2 m [] h]; rfl
    rw [e]
    have hl' : m.length + (r.length + 1) ≤ 400000 := by simpa using hl
    have r1 := rd_whole (t := m) (μ := μ) (by omega)
    cases z1 : rw_ m with
    | none => rw [z1] at r1; simp [a_read_drawing, e1, gsCons, gsNil, resD, r1]
    | some n =>
      rw [z1] at r1
      cases r with
      | nil =>
        have mk := make_dr (many := n) (as := []) (As := (aCons (aVar 4) (aCons (aLst aNil) aNil))) (env := [some (.str (m ++ [58])), some (.str m), some (.str [58]), some (.str []), some (.int n), none]) (μ := μ) (by simp) hμ (by simp)
        simp [a_read_drawing, e1, gsCons, gsNil, r1, mk]
        cases hd : drOk n [] <;> simp [resD, hd]
      | cons c r' =>
        have hr' : r'.length + 1 ≤ 400000 := by simp at hl'; omega
        have st := q_starts (A := aVar 3) (c := 32) (t := c :: r') (μ := μ) (env := [some (.str (m ++ 58 :: c :: r')), some (.str m), some (.str [58]), some (.str (c :: r')), some (.int n), none]) rfl
        by_cases hc : c = 32
        · subst hc
          have sl : aSl (aVar 3) (aPart (aC (.int 1))) aNoPart [some (.str (m ++ 58 :: 32 :: r')), some (.str m), some (.str [58]), some (.str (32 :: r')), some (.int n), none] μ = .ok (.str r') μ := by
            have cd : cutL (32 :: r') (some 1) none = r' := cut_drop (t := 32 :: r') 1
            have hln : (32 :: r').length ≤ line := by rw [q_line, List.length_cons]; omega
            simp only [aSl, aPart, aNoPart, q_var, q_c, R.bind_ok]
            show dSl (.str (32 :: r')) (some 1) none μ = _
            unfold dSl
            simp only [cd]
            rw [if_pos hln]
          have sp := q_spl (A := (aSl (aVar 3) (aPart (aC (.int 1))) aNoPart)) (sep := [32]) (t := r') (by omega) (by simp) (by decide) sl
          have lc := lcX_mapL (f := D.str) (g := ar_) (k := arD) (c := .text) (l := TL.spl [32] 0 [] r') (ga := gNm 5) (A := aCall a_read_arrow [] (aCons (aVar 5) aNil)) (vs := [5]) (q_itA1 sp) (by have := spl_len 32 400000 r' (by omega); rw [q_line]; omega) (fun x hx => ⟨_, rfl, by
            have hx2 := spl_mem 32 400000 r' (by omega) x hx
            simp [wipeE, rd_arrow (w := x) (μ := μ) (by omega)]
            cases ar_ x <;> rfl⟩)
          cases ho : oAll ar_ (TL.spl [32] 0 [] r') with
          | none =>
            rw [ho] at lc
            have mk : aMake .drawing a_Drawing__init [] (aCons (aVar 4) (aCons (aLcX (aItA (aBM "str" (mSS cSpl splD) (aSl (aVar 3) (aPart (aC (.int 1))) aNoPart) (aCons (aC (.str [32])) aNil))) (gNm 5) aYes (aCall a_read_arrow [] (aCons (aVar 5) aNil)) [5]) aNil)) [some (.str (m ++ 58 :: 32 :: r')), some (.str m), some (.str [58]), some (.str (32 :: r')), some (.int n), none] μ = .ex .text μ := by
              unfold aMake
              simp [lc]
            simp [a_read_drawing, e1, gsCons, gsNil, r1, st, mk, resD, ho]
          | some as =>
            rw [ho] at lc
            have la := oAll_len ho
            have lb := spl_len 32 400000 r' (by omega)
            have mk := make_dr (many := n) (as := as) (As := (aCons (aVar 4) (aCons (aLcX (aItA (aBM "str" (mSS cSpl splD) (aSl (aVar 3) (aPart (aC (.int 1))) aNoPart) (aCons (aC (.str [32])) aNil))) (gNm 5) aYes (aCall a_read_arrow [] (aCons (aVar 5) aNil)) [5]) aNil))) (env := [some (.str (m ++ 58 :: 32 :: r')), some (.str m), some (.str [58]), some (.str (32 :: r')), some (.int n), none]) (μ := μ) (by omega) hμ (by simp [lc])
            simp [a_read_drawing, e1, gsCons, gsNil, r1, st, mk]
            cases hd : drOk n as <;> simp [resD, hd, ho]
        · simp [a_read_drawing, e1, gsCons, gsNil, r1, st, hc, resD]
end HD

set_option linter.all false
set_option maxRecDepth 100000
set_option maxHeartbeats 4000000
namespace HD
open PySem PySem.Spec PyProof.Rows L2 L2H Z
/-! the law's own reader -/
theorem sIx_m1 {n d : Nat} : HT.sIx n d (some (-1)) = n - 1 := by
  show (if (-1 : Int) < 0 then ((-1 : Int) + (n : Int)).toNat else min (-1 : Int).toNat n) = _
  rw [if_pos (by decide)]
  omega
theorem cut_m1 {α : Type} {t : List α} : cutL t none (some (-1)) = t.take (t.length - 1) := by
  unfold cutL
  rw [HT.sIx_none, List.drop_zero, Nat.sub_zero, sIx_m1]
theorem cut_l1 {α : Type} {t : List α} : cutL t (some (-1)) none = t.drop (t.length - 1) := by
  unfold cutL
  rw [HT.sIx_none, sIx_m1]
  exact List.take_of_length_le (by rw [List.length_drop]; exact Nat.le_refl _)
def lawD (t : List Nat) : Option (Int × List (Int × Int)) := match TL.spl [32] 0 [] t with
  | w0 :: ws => if w0.drop (w0.length - 1) = [58] then (rw_ (w0.take (w0.length - 1))).bind fun n => (oAll ar_ ws).map fun as => (n, as) else none
  | [] => none
theorem snoc58 {w : List Nat} (h : w.drop (w.length - 1) = [58]) : ∃ x, w = x ++ [58] ∧ w.take (w.length - 1) = x := ⟨w.take (w.length - 1), by rw [← h, List.take_append_drop], rfl⟩
theorem last_snoc {x : List Nat} {c : Nat} : (x ++ [c]).drop ((x ++ [c]).length - 1) = [c] ∧ (x ++ [c]).take ((x ++ [c]).length - 1) = x := by simp
theorem dg58 : dg 58 = false := rfl
theorem dg32 : dg 32 = false := rfl
/-- one first place -/
theorem first_eq {s : Nat} : ∀ {a b a' b' : List Nat}, a ++ s :: b = a' ++ s :: b' → s ∉ a → s ∉ a' → a = a' ∧ b = b'
  | [], b, [], b', h, _, _ => by simpa using h
  | [], b, x :: a', b', h, _, h2 => by
    simp at h
    exact absurd (by rw [h.1]; exact List.mem_cons_self ..) h2
  | x :: a, b, [], b', h, h1, _ => by
    simp at h
    exact absurd (by rw [h.1]; exact List.mem_cons_self ..) h1
  | x :: a, b, y :: a', b', h, h1, h2 => by
    simp only [List.cons_append, List.cons.injEq] at h
    have ih := first_eq h.2 (fun z => h1 (List.mem_cons_of_mem _ z)) (fun z => h2 (List.mem_cons_of_mem _ z))
    exact ⟨by rw [h.1, ih.1], ih.2⟩
theorem law_rd (t : List Nat) : lawD t = rdD t := by
  rcases cut1 58 t with h | ⟨m, r, rfl, h⟩
  · have e : rdD t = none := by unfold rdD; rw [par1 t [] h]
    rw [e]
    unfold lawD
    rcases cut1 32 t with z | ⟨a, b, rfl, z⟩
    · rw [spl_one z]
      have n : ¬ t.drop (t.length - 1) = [58] := fun q => by
        obtain ⟨x, e1, _⟩ := snoc58 q
        exact h (by rw [e1]; simp)
      show (if t.drop (t.length - 1) = [58] then _ else _) = _
      rw [if_neg n]
    · rw [spl_two z]
      have n : ¬ a.drop (a.length - 1) = [58] := fun q => by
        obtain ⟨x, e1, _⟩ := snoc58 q
        exact h (by rw [e1]; simp)
      show (if a.drop (a.length - 1) = [58] then _ else _) = _
      rw [if_neg n]
  · have e : rdD (m ++ 58 :: r) = (rw_ m).bind fun n => match r with
      | [] => some (n, [])
      | c :: r' => if c = 32 then (oAll ar_ (TL.spl [32] 0 [] r')).map fun as => (n, as) else none := by unfold rdD; rw [par2 m [] h]; rfl
    rw [e]
    cases z1 : rw_ m with
    | none =>
      show lawD _ = none
      unfold lawD
      have key : ∀ w0 rest, m ++ 58 :: r = w0 ++ rest → w0.drop (w0.length - 1) = [58] → rw_ (w0.take (w0.length - 1)) = none := fun w0 rest ew q => by
        obtain ⟨x, e1, e2⟩ := snoc58 q
        rw [e2]
        cases hx : rw_ x with
        | none => rfl
        | some v =>
          have hm := rw_mem hx dg58
          rw [e1, List.append_assoc] at ew
          have f := first_eq (s := 58) (b := r) (b' := rest) (by simpa using ew) h hm
          rw [← f.1, z1] at hx
          cases hx
      rcases cut1 32 (m ++ 58 :: r) with z | ⟨a, b, ea, z⟩
      · rw [spl_one z]
        show (if (m ++ 58 :: r).drop ((m ++ 58 :: r).length - 1) = [58] then _ else _) = _
        by_cases q : (m ++ 58 :: r).drop ((m ++ 58 :: r).length - 1) = [58]
        · rw [if_pos q, key _ [] (by simp) q]; rfl
        · rw [if_neg q]
      · rw [ea, spl_two z]
        show (if a.drop (a.length - 1) = [58] then _ else _) = _
        by_cases q : a.drop (a.length - 1) = [58]
        · rw [if_pos q, key a (32 :: b) (by rw [ea]) q]; rfl
        · rw [if_neg q]
    | some n =>
      have m32 := rw_mem z1 dg32
      cases r with
      | nil =>
        unfold lawD
        have ls := last_snoc (x := m) (c := 58)
        rw [spl_one (by simp; exact m32)]
        show (if (m ++ [58]).drop ((m ++ [58]).length - 1) = [58] then _ else _) = _
        rw [if_pos ls.1, ls.2, z1]
        rfl
      | cons c r' =>
        by_cases hc : c = 32
        · subst hc
          have ls := last_snoc (x := m) (c := 58)
          have e2 : m ++ 58 :: 32 :: r' = (m ++ [58]) ++ 32 :: r' := by simp
          unfold lawD
          rw [e2, spl_two (by simp; exact m32)]
          show (if (m ++ [58]).drop ((m ++ [58]).length - 1) = [58] then _ else _) = _
          rw [if_pos ls.1, ls.2, z1]
          rfl
        · show lawD _ = if c = 32 then _ else none
          rw [if_neg hc]
          unfold lawD
          have key : ∀ w0 rest, m ++ 58 :: c :: r' = w0 ++ rest → m.length + 1 < w0.length → w0.drop (w0.length - 1) = [58] → rw_ (w0.take (w0.length - 1)) = none := fun w0 rest ew hl q => by
            obtain ⟨x, e1, e2⟩ := snoc58 q
            rw [e2]
            cases hx : rw_ x with
            | none => rfl
            | some v =>
              have hm := rw_mem hx dg58
              have lx : w0.length = x.length + 1 := by rw [e1]; simp
              rw [e1, List.append_assoc] at ew
              have f := first_eq (s := 58) (b := c :: r') (b' := rest) (by simpa using ew) h hm
              rw [f.1] at hl
              omega
          rcases cut1 32 (m ++ 58 :: c :: r') with z | ⟨a, b, ea, z⟩
          · rw [spl_one z]
            show (if (m ++ 58 :: c :: r').drop ((m ++ 58 :: c :: r').length - 1) = [58] then _ else _) = _
            by_cases q : (m ++ 58 :: c :: r').drop ((m ++ 58 :: c :: r').length - 1) = [58]
            · rw [if_pos q, key _ [] (by simp) (by simp) q]; rfl
            · rw [if_neg q]
          · rw [ea, spl_two z]
            show (if a.drop (a.length - 1) = [58] then _ else _) = _
            by_cases q : a.drop (a.length - 1) = [58]
            · have la : m.length + 1 < a.length := by
                have p1 : ∀ i, i < m.length → (m ++ 58 :: c :: r')[i]? ≠ some 32 := fun i hi q => by
                  rw [List.getElem?_append_left hi] at q
                  exact m32 (List.mem_of_getElem? q)
                have p2 : (m ++ 58 :: c :: r')[m.length]? ≠ some 32 := by simp
                have p3 : (m ++ 58 :: c :: r')[m.length + 1]? ≠ some 32 := by
                  rw [List.getElem?_append_right (by omega)]
                  simpa using hc
                have p4 : (m ++ 58 :: c :: r')[a.length]? = some 32 := by rw [ea]; simp
                by_cases q1 : a.length < m.length
                · exact absurd p4 (p1 _ q1)
                · by_cases q2 : a.length = m.length
                  · rw [q2] at p4; exact absurd p4 p2
                  · by_cases q3 : a.length = m.length + 1
                    · rw [q3] at p4; exact absurd p4 p3
                    · omega
              rw [if_pos q, key a (32 :: b) (by rw [ea]) la q]; rfl
            · rw [if_neg q]
end HD

set_option linter.all false
set_option maxRecDepth 100000
set_option maxHeartbeats 4000000
namespace HD
open PySem PySem.Spec PyProof.Rows L2 L2H Z
theorem asg_nx {A : AE} {i : Nat} {env : En} {μ m : Sto} {d : D} (h : A env μ = .ok d m) : aAsg i A env μ = .nx (env.set i (some d)) m := by rw [q_asg, h]; rfl
theorem sq_nx' {S1 S2 : ATS} {env : En} {μ m : Sto} {d : D} (h : S1 env μ = .rt d m) : aSeq S1 S2 env μ = .rt d m := by rw [q_seq, h]
theorem optA_pl {o : Option (Int × Int)} : plD (optA o) = true ∧ depD (optA o) ≤ 1 := by
  cases o with
  | none => exact ⟨rfl, by decide⟩
  | some a => exact ⟨rfl, Nat.le_refl 1⟩
theorem oAll_none {l : List (List Nat)} : (l.map fun w => optA (ar_ w)).any (fun x => eqD x .non) = (oAll ar_ l).isNone := by
  induction l with
  | nil => rfl
  | cons w l ih =>
    rw [List.map_cons, List.any_cons, ih]
    cases h : ar_ w with
    | none => simp [oAll, h, optA, eqD]
    | some a =>
      have e : eqD (arD a) .non = false := rfl
      simp [oAll, h, optA, e]
theorem oAll_some {l : List (List Nat)} {as : List (Int × Int)} (h : oAll ar_ l = some as) : (l.map fun w => optA (ar_ w)) = as.map arD := by
  induction l generalizing as with
  | nil => cases h; rfl
  | cons w l ih =>
    obtain ⟨y, h1, h2⟩ := Option.bind_eq_some_iff.mp (show (ar_ w).bind (fun y => (oAll ar_ l).map fun ys => y :: ys) = some as from h)
    obtain ⟨zs, h3, h4⟩ := Option.map_eq_some_iff.mp h2
    subst h4
    rw [List.map_cons, ih h3, h1]
    rfl
def resL (o : Option (Int × List (Int × Int))) : D := match o with
  | none => .str [116, 101, 120, 116]
  | some (n, as) => if drOk n as = true then .tup [.int n, .lst (as.map arD)] else .str [100, 114, 97, 119, 105, 110, 103]
def gdS : ATS := (aAsg 4 (aAndV (aVar 4) (aAndV (aOp dLt (aOp dIx (aVar 5) (aC (.int 0))) (aVar 2)) (aOp dLt (aOp dIx (aVar 5) (aC (.int 1))) (aVar 2)))))
def ltOk (n : Int) (a : Int × Int) : Bool := decide (a.1 < n) && decide (a.2 < n)
theorem gd_loop {e0 e1 e3 e6 : Option D} {n : Int} {μ : Sto} : ∀ (as : List (Int × Int)) (b : Bool) (o5 : Option D), ∃ q5, loopA (gNm 5) gdS (as.map arD) [e0, e1, some (.int n), e3, some (.bl b), o5, e6] μ = .nx [e0, e1, some (.int n), e3, some (.bl (b && as.all (ltOk n))), q5, e6] μ
  | [], b, o5 => ⟨o5, by simp [loopA]⟩
  | a :: as, b, o5 => by
    obtain ⟨q5, ih⟩ := gd_loop (e0 := e0) (e1 := e1) (e3 := e3) (e6 := e6) (n := n) (μ := μ) as (b && ltOk n a) (some (arD a))
    refine ⟨q5, ?_⟩
    have st : gdS [e0, e1, some (.int n), e3, some (.bl b), some (arD a), e6] μ = .nx [e0, e1, some (.int n), e3, some (.bl (b && ltOk n a)), some (arD a), e6] μ := by
      cases b with
      | false => simp [gdS]
      | true =>
        by_cases h : a.1 < n
        · simp [gdS, arD, atD_0, atD_1, ltOk, h]
        · simp [gdS, arD, atD_0, atD_1, ltOk, h]
    rw [List.map_cons, lp_cons (e1 := [e0, e1, some (.int n), e3, some (.bl b), some (arD a), e6]) rfl st, ih, List.all_cons, Bool.and_assoc]
theorem lread_eq : a__law_read = aDef 6 (aSeq (aAsg 1 (aBM "str" (mSS cSpl splD) (aVar 0) (aCons (aC (.str [32])) aNil)))
  (aSeq (aAsg 2 (aCall a__law_read_whole [] (aCons (aSl (aOp dIx (aVar 1) (aC (.int 0))) aNoPart (aPart (aUn dNeg (aC (.int 1))))) aNil)))
  (aSeq (aAsg 3 (aLc (aItA (aSl (aVar 1) (aPart (aC (.int 1))) aNoPart)) (gNm 6) aYes (aCall a__law_arrow_read [] (aCons (aVar 6) aNil)) [6]))
  (aSeq (aIf (aOrT (aB (aOp dNe (aSl (aOp dIx (aVar 1) (aC (.int 0))) (aPart (aUn dNeg (aC (.int 1)))) aNoPart) (aC (.str [58])))) (aOrT (aB (aOp dIsN (aVar 2) (aC .non))) (aB (aOp dIn (aC .non) (aVar 3))))) (aRet (aC (.str [116, 101, 120, 116]))) aNext)
  (aSeq (aAsg 4 (aAndV (aChain dLe dLe (aC (.int 1)) (aVar 2) (aC (.int 8))) (aOp dLt (aCB (one1 dLen) (aCons (aVar 3) aNil)) (aC (.int 10)))))
  (aSeq (aFor (aItA (aVar 3)) (gNm 5) gdS)
  (aRet (aOp dIx (aLst (aCons (aC (.str [100, 114, 97, 119, 105, 110, 103])) (aCons (aTup (aCons (aVar 2) (aCons (aVar 3) aNil))) aNil))) (aCB (one1 dInt) (aCons (aVar 4) aNil))))))))))  := rfl
theorem spl_ne' (t : List Nat) : ∃ w0 ws, TL.spl [32] 0 [] t = w0 :: ws := by
  obtain ⟨x, y, e⟩ := spl_ne 32 t []
  exact ⟨x, y, e⟩
theorem ltOk_ok {n : Int} {as : List (Int × Int)} (h : ∀ a ∈ as, 0 ≤ a.1 ∧ 0 ≤ a.2) : as.all (ltOk n) = as.all (arOk n) := by
  induction as with
  | nil => rfl
  | cons a as ih =>
    have z := h a (List.mem_cons_self ..)
    rw [List.all_cons, List.all_cons, ih fun x hx => h x (List.mem_cons_of_mem _ hx)]
    congr 1
    unfold ltOk arOk
    rw [decide_eq_true z.1, decide_eq_true z.2, Bool.true_and, Bool.true_and]
theorem ar_pos {w : List Nat} {a : Int × Int} (h : ar_ w = some a) : (0 ≤ a.1 ∧ a.1 < 10 ^ 30) ∧ 0 ≤ a.2 ∧ a.2 < 10 ^ 30 := by
  unfold ar_ at h
  cases z : TL.par [62] [] w with
  | none => rw [z] at h; cases h
  | some p =>
    obtain ⟨x, y⟩ := p
    rw [z] at h
    obtain ⟨u, h1, h2⟩ := Option.bind_eq_some_iff.mp h
    obtain ⟨v, h3, h4⟩ := Option.map_eq_some_iff.mp h2
    subst h4
    exact ⟨rw_bd h1, rw_bd h3⟩
theorem oAll_pos {l : List (List Nat)} {as : List (Int × Int)} (h : oAll ar_ l = some as) : ∀ a ∈ as, 0 ≤ a.1 ∧ 0 ≤ a.2 := fun a ha => by
  obtain ⟨x, _, e⟩ := oAll_mem h a ha
  have := ar_pos e
  exact ⟨this.1.1, this.2.1⟩
theorem lr_drawing {t : List Nat} {μ : Sto} (hl : t.length ≤ 400000) : a__law_read [.str t] μ = .ok (resL (rdD t)) μ := by
  obtain ⟨w0, ws, ew⟩ := spl_ne' t
  have lw := spl_len 32 400000 t hl
  have mw := spl_mem 32 400000 t hl
  rw [ew] at lw mw
  have lw : ws.length ≤ 400000 := by simpa using lw
  have l0 : w0.length ≤ 400000 := mw w0 (List.mem_cons_self ..)
  rw [← law_rd]
  have e1 := q_spl (A := aVar 0) (sep := [32]) (t := t) (μ := μ) (env := [some (.str t), none, none, none, none, none, none]) (by omega) (by simp) (by decide) rfl
  rw [ew] at e1
  have r0 := fun μ => lr_whole (t := w0.take (w0.length - 1)) (μ := μ) (by rw [List.length_take]; omega)
  have k0 : ∀ μ, dSl (.str w0) none (some (-1)) μ = .ok (.str (w0.take (w0.length - 1))) μ := fun μ => by
    unfold dSl
    simp only [cut_m1]
    rw [if_pos (by rw [q_line]; omega)]
  have k1 : ∀ μ, dSl (.str w0) (some (-1)) none μ = .ok (.str (w0.drop (w0.length - 1))) μ := fun μ => by
    unfold dSl
    simp only [cut_l1]
    rw [if_pos (by rw [q_line]; omega)]
  have a0 : atD (D.str w0 :: ws.map D.str) 0 = some (.str w0) := atD_0
  have s1 : aAsg 1 (aBM "str" (mSS cSpl splD) (aVar 0) (aCons (aC (.str [32])) aNil)) [some (.str t), none, none, none, none, none, none] μ = .nx [some (.str t), some (.lst (D.str w0 :: ws.map D.str)), none, none, none, none, none] μ := by rw [q_asg, e1]; rfl
  have s2 : aAsg 2 (aCall a__law_read_whole [] (aCons (aSl (aOp dIx (aVar 1) (aC (.int 0))) aNoPart (aPart (aUn dNeg (aC (.int 1))))) aNil)) [some (.str t), some (.lst (D.str w0 :: ws.map D.str)), none, none, none, none, none] μ = .nx [some (.str t), some (.lst (D.str w0 :: ws.map D.str)), some (optD (rw_ (w0.take (w0.length - 1)))), none, none, none, none] μ := by
    simp [a0, aSl, aNoPart, aPart, k0, r0]
  have it : aItA (aSl (aVar 1) (aPart (aC (.int 1))) aNoPart) [some (.str t), some (.lst (D.str w0 :: ws.map D.str)), some (optD (rw_ (w0.take (w0.length - 1)))), none, none, none, none] μ = .ok (ws.map D.str) μ := by
    refine q_itA1 ?_
    have cd : cutL (D.str w0 :: ws.map D.str) (some 1) none = ws.map D.str := by
      unfold cutL
      have h1 : HT.sIx (D.str w0 :: ws.map D.str).length 0 (some 1) = 1 := by
        have := HT.sIx_nat (D.str w0 :: ws.map D.str).length 0 1
        rw [show (1 : Int) = ((1 : Nat) : Int) from rfl, this, List.length_cons]; omega
      rw [h1, HT.sIx_none]
      exact List.take_of_length_le (by rw [List.length_drop]; exact Nat.le_refl _)
    simp only [aSl, aPart, aNoPart, q_c, R.bind_ok]
    show dSl (.lst (D.str w0 :: ws.map D.str)) (some 1) none μ = _
    show (Z.R.ok (D.lst (cutL (D.str w0 :: ws.map D.str) (some 1) none)) μ : Z.R D) = _
    rw [cd]
  have lc := lc_mapL (f := D.str) (g := fun w => optA (ar_ w)) (l := ws) (ga := gNm 6) (A := aCall a__law_arrow_read [] (aCons (aVar 6) aNil)) (vs := [6]) it (by rw [q_line]; omega) (fun x hx => ⟨_, rfl, by
    have hx2 := mw x (List.mem_cons_of_mem _ hx)
    simp [wipeE, lr_arrow (w := x) (μ := μ) (by omega)]⟩)
  have inn := fun μ => q_IN (d := .non) (xs := ws.map fun w => optA (ar_ w)) (μ := μ) rfl (by
    rw [plDs_all, List.all_map, List.all_eq_true]
    intro w _
    exact optA_pl.1) (by decide) (Nat.le_trans (depDs_le (n := 1) fun x hx => by
    obtain ⟨w, _, rfl⟩ := List.mem_map.mp hx
    exact optA_pl.2) (by decide))
  rw [oAll_none] at inn
  rw [lread_eq, q_def]
  show Fl.res (aSeq _ _ [some (.str t), none, none, none, none, none, none] μ) = _
  rw [sq_nx s1, sq_nx s2, sq_nx (asg_nx lc)]
  show Fl.res (aSeq _ _ [some (.str t), some (.lst (D.str w0 :: ws.map D.str)), some (optD (rw_ (w0.take (w0.length - 1)))), some (.lst (ws.map fun w => optA (ar_ w))), none, none, none] μ) = _
  have el : lawD t = if w0.drop (w0.length - 1) = [58] then (rw_ (w0.take (w0.length - 1))).bind fun n => (oAll ar_ ws).map fun as => (n, as) else none := by unfold lawD; rw [ew]
  rw [el]
  by_cases q : w0.drop (w0.length - 1) = [58]
  · rw [if_pos q]
    cases hm : rw_ (w0.take (w0.length - 1)) with
    | none =>
      rw [sq_nx' (d := .str [116, 101, 120, 116]) (μ := μ)]
      · rfl
      · simp [a0, aSl, aNoPart, aPart, k1, q, optD]
    | some n =>
      cases ho : oAll ar_ ws with
      | none =>
        rw [ho] at inn
        rw [sq_nx' (d := .str [116, 101, 120, 116]) (μ := μ)]
        · rfl
        · simp [a0, aSl, aNoPart, aPart, k1, q, optD, inn]
      | some as =>
        rw [ho] at inn
        rw [oAll_some ho] at inn ⊢
        have s4 : aIf (aOrT (aB (aOp dNe (aSl (aOp dIx (aVar 1) (aC (.int 0))) (aPart (aUn dNeg (aC (.int 1)))) aNoPart) (aC (.str [58])))) (aOrT (aB (aOp dIsN (aVar 2) (aC .non))) (aB (aOp dIn (aC .non) (aVar 3))))) (aRet (aC (.str [116, 101, 120, 116]))) aNext [some (.str t), some (.lst (D.str w0 :: ws.map D.str)), some (.int n), some (.lst (as.map arD)), none, none, none] μ = .nx [some (.str t), some (.lst (D.str w0 :: ws.map D.str)), some (.int n), some (.lst (as.map arD)), none, none, none] μ := by
          simp [a0, aSl, aNoPart, aPart, k1, q, inn]
        have s5 : aAsg 4 (aAndV (aChain dLe dLe (aC (.int 1)) (aVar 2) (aC (.int 8))) (aOp dLt (aCB (one1 dLen) (aCons (aVar 3) aNil)) (aC (.int 10)))) [some (.str t), some (.lst (D.str w0 :: ws.map D.str)), some (.int n), some (.lst (as.map arD)), none, none, none] μ = .nx [some (.str t), some (.lst (D.str w0 :: ws.map D.str)), some (.int n), some (.lst (as.map arD)), some (.bl ((decide (1 ≤ n) && decide (n ≤ 8)) && decide ((as.length : Int) < 10))), none, none] μ := by
          by_cases h1 : 1 ≤ n
          · by_cases h2 : n ≤ 8
            · simp [h1, h2]
            · simp [h1, h2]
          · simp [h1]
        obtain ⟨q5, lp⟩ := gd_loop (e0 := some (.str t)) (e1 := some (.lst (D.str w0 :: ws.map D.str))) (e3 := some (.lst (as.map arD))) (e6 := none) (n := n) (μ := μ) as ((decide (1 ≤ n) && decide (n ≤ 8)) && decide ((as.length : Int) < 10)) none
        have s4' := sq_nx (S2 := (aSeq (aAsg 4 (aAndV (aChain dLe dLe (aC (.int 1)) (aVar 2) (aC (.int 8))) (aOp dLt (aCB (one1 dLen) (aCons (aVar 3) aNil)) (aC (.int 10))))) (aSeq (aFor (aItA (aVar 3)) (gNm 5) gdS) (aRet (aOp dIx (aLst (aCons (aC (.str [100, 114, 97, 119, 105, 110, 103])) (aCons (aTup (aCons (aVar 2) (aCons (aVar 3) aNil))) aNil))) (aCB (one1 dInt) (aCons (aVar 4) aNil))))))) s4
        show Fl.res (aSeq _ _ [some (.str t), some (.lst (D.str w0 :: ws.map D.str)), some (.int n), some (.lst (as.map arD)), none, none, none] μ) = _
        rw [s4', sq_nx s5, sq_nx (for_nx (q_itA1 rfl) lp)]
        have eb : (((decide (1 ≤ n) && decide (n ≤ 8)) && decide ((as.length : Int) < 10)) && as.all (ltOk n)) = drOk n as := by
          rw [ltOk_ok (oAll_pos ho)]
          unfold drOk
          rw [Bool.and_assoc]
          congr 2
          by_cases h : as.length ≤ 9
          · rw [decide_eq_true h, decide_eq_true (by omega)]
          · rw [decide_eq_false h, decide_eq_false (by omega)]
        rw [eb]
        have x0 : ∀ x y : D, atD [x, y] 0 = some x := fun _ _ => atD_0
        have x1 : ∀ x y : D, atD [x, y] 1 = some y := fun _ _ => atD_1
        cases hd : drOk n as with
        | true => simp [resL, hd, x1]
        | false => simp [resL, hd, x0]
  · rw [if_neg q]
    rw [sq_nx' (d := .str [116, 101, 120, 116]) (μ := μ)]
    · rfl
    · simp [a0, aSl, aNoPart, aPart, k1, q]
end HD

set_option linter.all false
set_option maxRecDepth 100000
set_option maxHeartbeats 4000000
namespace HD
open PySem PySem.Spec PyProof.Rows L2 L2H Z
/-! which refusal it was -/
def hits (e : Ec) : List D := [.bl (e.under .text), .bl (e.under .drawing), .bl (e.under .number), .bl (e.under .table)]
theorem isE_ok {e : Ec} {c : Ec} {μ : Sto} (h : e ∈ esk) (h2 : c ∈ csk) : dIsE esk csk (.exc e) (.ecl c) μ = .ok (.bl (e.under c)) μ := by
  unfold dIsE
  simp only []
  rw [if_pos h]
  show (if c ∈ csk then (Z.R.ok (.bl (e.under c)) μ : Z.R D) else .fail) = _
  rw [if_pos h2]
theorem isV_ok {e : Ec} {μ : Sto} (h : e ∈ esk) : dIsE esk csk (.exc e) (.ty "ValueError") μ = .ok (.bl true) μ := by
  unfold dIsE
  simp only []
  rw [if_pos h]
  rfl
def aloneB (e : Ec) (k : Int) : Bool := decide (e = .text ∧ k = 0 ∨ e = .drawing ∧ k = 1)
theorem set_new {μ : Sto} {x y : M} : (μ ++ [x]).set μ.length y = μ ++ [y] := by simp
theorem alone {e : Ec} {k : Int} {μ : Sto} (he : e = .text ∨ e = .drawing) (hk : k = 0 ∨ k = 1) (hμ : μ.all M.imm = true) : aq__law_alone [.exc e, .int k] μ = .ok (.bl (aloneB e k)) μ := by
  have hm : e ∈ esk := by rcases he with rfl | rfl <;> decide
  have i := fun (c : Ec) (h2 : c ∈ csk) (μ : Sto) => isE_ok (μ := μ) hm h2
  have i1 := i .text (by decide)
  have i2 := i .drawing (by decide)
  have i3 := i .number (by decide)
  have i4 := i .table (by decide)
  have i5 := i .standing (by decide)
  have iv := fun μ => isV_ok (μ := μ) hm
  have it : ∀ μ', isET1 esk csk (.exc e) [.ecl .change, .ecl .ground, .ecl .kind, .ecl .mirror, .ecl .name, .ecl .root, .ecl .row] μ' = .ok (.bl false) μ' := fun μ' => by rcases he with rfl | rfl <;> rfl
  have s1 : ∀ A5 : ATS, (aAsg 2 (aLstM (aCons (aCB (two2 (dIsE esk csk)) (aCons (aVar 0) (aCons (aC (.ecl .text)) aNil))) (aCons (aCB (two2 (dIsE esk csk)) (aCons (aVar 0) (aCons (aC (.ecl .drawing)) aNil))) (aCons (aCB (two2 (dIsE esk csk)) (aCons (aVar 0) (aCons (aC (.ecl .number)) aNil))) (aCons (aCB (two2 (dIsE esk csk)) (aCons (aVar 0) (aCons (aC (.ecl .table)) aNil))) aNil)))))) [some (.exc e), some (.int k), none, none] μ = .nx [some (.exc e), some (.int k), some (.ob μ.length), none] (μ ++ [.lst (hits e)]) := fun _ => by
    simp [i1, i2, i3, i4, hits]
  have ap := app_ok (i := 2) (k := μ.length) (env := [some (.exc e), some (.int k), some (.ob μ.length), none]) (μ := μ ++ [.lst (hits e)]) (A := (aCB (two2 (dIsE esk csk)) (aCons (aVar 0) (aCons (aC (.ecl .standing)) aNil)))) (d := .bl (e.under .standing)) (xs := hits e) (ys := hits e) (μ' := μ ++ [.lst (hits e)]) rfl get_push (by simp [i5]) get_push (by rw [q_line]; show 4 < 16000000; omega)
  rw [set_new] at ap
  have fz := fz_ok (i := 2) (k := μ.length) ap rfl get_push
  rw [set_new] at fz
  have s4 : aAsg 3 (aIsT esk csk (aVar 0) (aCons (aC (.ecl .change)) (aCons (aC (.ecl .ground)) (aCons (aC (.ecl .kind)) (aCons (aC (.ecl .mirror)) (aCons (aC (.ecl .name)) (aCons (aC (.ecl .root)) (aCons (aC (.ecl .row)) aNil)))))))) [some (.exc e), some (.int k), some (.lst (hits e ++ [.bl (e.under .standing)])), none] (μ ++ [.gone]) = .nx [some (.exc e), some (.int k), some (.lst (hits e ++ [.bl (e.under .standing)])), some (.bl false)] (μ ++ [.gone]) := by
    simp [aIsT, it]
  have fin : ∀ μ, (aRet (aAndV (aOp dEq (aBM "list" (fun d ds μ => one1 (dCountB d) ds μ) (aVar 2) (aCons (aC (.bl true)) aNil)) (aC (.int 1))) (aAndV (aOp dIx (aVar 2) (aVar 1)) (aAndV (aCB (two2 (dIsE esk csk)) (aCons (aVar 0) (aCons (aC (.ty "ValueError")) aNil))) (aNotV (aVar 3)))))) [some (.exc e), some (.int k), some (.lst (hits e ++ [.bl (e.under .standing)])), some (.bl false)] μ = .rt (.bl (aloneB e k)) μ := fun μ => by
    have t1 : ∀ xs, D.isT μ "list" (.lst xs) = true := fun xs => by simp [D.isT, D.sqL, D.rdL]
    have c1 : dCountB (.lst (hits e ++ [.bl (e.under .standing)])) (.bl true) μ = .ok (.int 1) μ := by rcases he with rfl | rfl <;> rfl
    have x1 : dIx (.lst (hits e ++ [.bl (e.under .standing)])) (.int k) μ = .ok (.bl (aloneB e k)) μ := by
      rw [q_ixL]
      rcases he with rfl | rfl <;> rcases hk with rfl | rfl <;> rfl
    simp [aBM, t1, c1, x1, iv, -q_ixL]
    cases aloneB e k <;> rfl
  have body : ∃ S, aq__law_alone = aCut (aDefQ 2 S) ∧ aDefQ 2 S [.exc e, .int k] μ = .ok (.bl (aloneB e k)) (μ ++ [.gone]) := by
    refine ⟨_, rfl, ?_⟩
    rw [q_defQ]
    show (Fl.res (aSeq _ _ [some (.exc e), some (.int k), none, none] μ)).noex = _
    rw [sq_nx (s1 aNext), sq_nx fz]
    show (Fl.res (aSeq _ _ [some (.exc e), some (.int k), some (.lst (hits e ++ [.bl (e.under .standing)])), none] (μ ++ [.gone]))).noex = _
    rw [sq_nx s4, fin]
    rfl
  obtain ⟨S, e1, e2⟩ := body
  rw [e1, q_cut, e2]
  simp [Z.R.cut, D.imm, hμ]
theorem whole_ok {x : Int} {μ : Sto} : a__law_whole [.int x] μ = .ok (.bl true) μ := by
  have e1 : dIsi (.int x) (.ty "int") μ = .ok (.bl true) μ := rfl
  have e2 : dIsi (.int x) (.ty "bool") μ = .ok (.bl false) μ := rfl
  simp [a__law_whole, e1, e2]
def ckS : ATS := (aIf (aOrT (aNotT (aB (aCB (two2 dIsi) (aCons (aVar 3) (aCons (aC (.ty "tuple")) aNil))))) (aNotT (aB (aCB (one1 (dAllQ fun bs => bs.all id)) (aCons (aLc (aItA (aVar 3)) (gNm 4) aYes (aCall a__law_whole [] (aCons (aVar 4) aNil)) [4]) aNil))))) (aRet (aC (.str [111, 116, 104, 101, 114]))) aNext)
theorem ck_step {e0 e1 e2 o4 : Option D} {a : Int × Int} {μ : Sto} : ckS [e0, e1, e2, some (arD a), o4] μ = .nx [e0, e1, e2, some (arD a), o4] μ := by
  have is1 : ∀ μ, dIsi (arD a) (.ty "tuple") μ = .ok (.bl true) μ := fun _ => rfl
  have lc := lc_mapL (f := D.int) (g := fun x => D.bl ((fun _ => true) x)) (l := [a.1, a.2]) (I := aItA (aVar 3)) (ga := gNm 4) (vs := [4]) (A := (aCall a__law_whole [] (aCons (aVar 4) aNil))) (env := [e0, e1, e2, some (arD a), o4]) (μ := μ) (q_itA2 rfl) (by rw [q_line]; simp) (fun x hx => ⟨_, rfl, by simp [wipeE, whole_ok]⟩)
  have al := q_all (f := fun _ => true) (l := [a.1, a.2]) (μ := μ)
  generalize List.map (fun x : Int => D.bl ((fun _ => true) x)) [a.1, a.2] = L at lc al
  simp [ckS, is1, lc, al]
theorem ck_loop {e0 e1 e2 : Option D} {μ : Sto} : ∀ (as : List (Int × Int)) (o3 o4 : Option D), ∃ q3, loopA (gNm 3) ckS (as.map arD) [e0, e1, e2, o3, o4] μ = .nx [e0, e1, e2, q3, o4] μ
  | [], o3, o4 => ⟨o3, rfl⟩
  | a :: as, o3, o4 => by
    obtain ⟨q3, ih⟩ := ck_loop (e0 := e0) (e1 := e1) (e2 := e2) (μ := μ) as (some (arD a)) o4
    exact ⟨q3, by rw [List.map_cons, lp_cons (e1 := [e0, e1, e2, some (arD a), o4]) rfl ck_step, ih]⟩
theorem asked {t : List Nat} {μ : Sto} (hl : t.length ≤ 400000) (hμ : μ.all Mok = true) : a__law_asked [.str t] μ = .ok (resL (rdD t)) μ := by
  have r := rd_drawing (t := t) (μ := μ) hl (mok_imm hμ)
  have co : μ.all M.cool = true := mok_cool hμ
  have exc : ∀ (e : Ec), (e = .text ∨ e = .drawing) → a_read_drawing [.str t] μ = .ex e μ → a__law_asked [.str t] μ = .ok (if e = .text then .str [116, 101, 120, 116] else .str [100, 114, 97, 119, 105, 110, 103]) μ := fun e he h => by
    have hm : e ∈ esk := by rcases he with rfl | rfl <;> decide
    have a0 := alone (μ := μ) he (k := 0) (.inl rfl) (mok_imm hμ)
    have a1 := alone (μ := μ) he (k := 1) (.inr rfl) (mok_imm hμ)
    have u1 : e.under .limb = true := by rcases he with rfl | rfl <;> rfl
    have me : e ∈ [Ec.drawing, Ec.text] := by rcases he with rfl | rfl <;> decide
    have id1 := fun μ => isE_ok (μ := μ) (c := .drawing) hm (by decide)
    have x0 : ∀ x y : D, atD [x, y] 0 = some x := fun _ _ => atD_0
    have x1 : ∀ x y : D, atD [x, y] 1 = some y := fun _ _ => atD_1
    have su : (aRet (aOp dIx (aLst (aCons (aC (.str [111, 116, 104, 101, 114])) (aCons (aOp dIx (aLst (aCons (aC (.str [116, 101, 120, 116])) (aCons (aC (.str [100, 114, 97, 119, 105, 110, 103])) aNil))) (aCB (one1 dInt) (aCons (aCB (two2 (dIsE esk csk)) (aCons (aVar 2) (aCons (aC (.ecl .drawing)) aNil))) aNil))) aNil))) (aCB (one1 dInt) (aCons (aOrV (aCall aq__law_alone [] (aCons (aVar 2) (aCons (aC (.int 0)) aNil))) (aCall aq__law_alone [] (aCons (aVar 2) (aCons (aC (.int 1)) aNil)))) aNil)))) [some (.str t), none, some (.exc e), none, none] μ = .rt (if e = .text then .str [116, 101, 120, 116] else .str [100, 114, 97, 119, 105, 110, 103]) μ := by
      rcases he with rfl | rfl
      · have b0 : aloneB .text 0 = true := rfl
        have ud : Ec.text.under .drawing = false := rfl
        simp [id1, ud, a0, b0, x0, x1]
      · have b0 : aloneB .drawing 0 = false := rfl
        have b1 : aloneB .drawing 1 = true := rfl
        have ud : Ec.drawing.under .drawing = true := rfl
        simp [id1, ud, a0, a1, b0, b1, x0, x1]
    have tr : ∀ S : ATS, aTryA [.drawing, .text] .limb 2 (aAsg 1 (aCall a_read_drawing [] (aCons (aVar 0) aNil))) S [some (.str t), none, none, none, none] μ = (S [some (.str t), none, some (.exc e), none, none] μ).cool := fun S => by
      have s0 : aAsg 1 (aCall a_read_drawing [] (aCons (aVar 0) aNil)) [some (.str t), none, none, none, none] μ = .ex e [some (.str t), none, none, none, none] μ := by simp [h]
      unfold aTryA
      rw [s0]
      simp only []
      rw [if_pos me, if_pos u1]
      rfl
    show (Fl.res (aSeq _ _ [some (.str t), none, none, none, none] μ)) = _
    rw [sq_nx' (d := (if e = .text then .str [116, 101, 120, 116] else .str [100, 114, 97, 119, 105, 110, 103])) (m := μ)]
    · rfl
    · rw [tr, su]
      have dc : D.cool (if e = .text then .str [116, 101, 120, 116] else .str [100, 114, 97, 119, 105, 110, 103]) = true := by split <;> rfl
      show (if (_ && _) = true then _ else _) = _
      rw [dc, co]
      rfl
  cases ho : rdD t with
  | none =>
    rw [ho] at r
    exact exc .text (.inl rfl) r
  | some p =>
    obtain ⟨n, as⟩ := p
    rw [ho] at r
    cases hd : drOk n as with
    | false =>
      have r : a_read_drawing [.str t] μ = .ex .drawing μ := by rw [r]; simp [resD, hd]
      have := exc .drawing (.inr rfl) r
      rw [this]
      simp [resL, hd]
    | true =>
      have r : a_read_drawing [.str t] μ = .ok (dr n as) μ := by rw [r]; simp [resD, hd]
      have tr : ∀ S : ATS, aTryA [.drawing, .text] .limb 2 (aAsg 1 (aCall a_read_drawing [] (aCons (aVar 0) aNil))) S [some (.str t), none, none, none, none] μ = .nx [some (.str t), some (dr n as), none, none, none] μ := fun S => by
        have s0 : aAsg 1 (aCall a_read_drawing [] (aCons (aVar 0) aNil)) [some (.str t), none, none, none, none] μ = .nx [some (.str t), some (dr n as), none, none, none] μ := by simp [r]
        unfold aTryA
        rw [s0]
      have s2 : (aIf (aOrT (aNotT (aB (aCall a__law_whole [] (aCons (aUn (dFld .drawing 0) (aVar 1)) aNil)))) (aNotT (aB (aCB (two2 dIsi) (aCons (aUn (dFld .drawing 1) (aVar 1)) (aCons (aC (.ty "list")) aNil)))))) (aRet (aC (.str [111, 116, 104, 101, 114]))) aNext) [some (.str t), some (dr n as), none, none, none] μ = .nx [some (.str t), some (dr n as), none, none, none] μ := by
        have is1 : ∀ μ, dIsi (.lst (as.map arD)) (.ty "list") μ = .ok (.bl true) μ := fun _ => rfl
        simp [q_many, q_arrows, whole_ok, is1]
      obtain ⟨q3, lp⟩ := ck_loop (e0 := some (.str t)) (e1 := some (dr n as)) (e2 := none) (μ := μ) as none none
      show (Fl.res (aSeq _ (aSeq _ (aSeq (aFor _ _ ckS) _)) [some (.str t), none, none, none, none] μ)) = _
      rw [sq_nx (tr _), sq_nx s2, sq_nx (for_nx (q_itA1 (by simp [q_arrows])) lp)]
      simp [q_many, q_arrows, resL, hd]
end HD

set_option linter.all false
set_option maxRecDepth 100000
set_option maxHeartbeats 4000000
namespace HD
open PySem PySem.Spec PyProof.Rows L2 L2H Z
/-! spoilt texts -/
abbrev sgL : List Nat := [32, 48, 49, 50, 51, 52, 53, 54, 55, 56, 57, 45, 47, 43, 46, 59, 58, 44, 62, 60, 97, 98, 95, 40, 41, 126]
theorem cut_len {s : List Nat} {a b : Option Int} : (cutL s a b).length ≤ s.length := by
  unfold cutL
  rw [List.length_take, List.length_drop]
  omega
theorem sign_ok {n : Nat} {s : List Nat} {μ : Sto} (hb : Bag n μ) (hs : s.length ≤ 1000000) : ∃ t μ', a__law_sign_spoilt [.str s, .ob n] μ = .ok (.str t) μ' ∧ t.length ≤ 2 * s.length + 1 ∧ Bag n μ' ∧ Fr [n] μ μ' := by
  obtain ⟨i, μ1, e1, h0, h1, b1, f1⟩ := draw hb (many := (s.length : Int) + 1) (by omega) (by omega)
  obtain ⟨w, μ2, e2, h2, h3, b2, f2⟩ := draw b1 (many := 4) (by decide) (by decide)
  obtain ⟨g, μ3, e3, h4, h5, b3, f3⟩ := draw b2 (many := 26) (by decide) (by decide)
  have ff := hb.fr f1 (b1.fr f2 f3)
  obtain ⟨c, hc⟩ : ∃ c, atI sgL g = some c := by
    unfold atI
    rw [ixN0 h4 (by simpa using h5)]
    have : g.toNat < sgL.length := by simp; omega
    exact ⟨sgL[g.toNat], by simp [this]⟩
  have ix : ∀ μ, dIx (.str sgL) (.int g) μ = .ok (.str [c]) μ := fun μ => by
    unfold dIx
    simp only [hc]
    rw [if_pos (by rw [q_line]; decide)]
  have ln : ∀ μ, dLen (.str s) μ = .ok (.int s.length) μ := fun μ => q_lenS (by rw [q_line]; omega)
  have sl : ∀ lo hi μ, dSl (.str s) lo hi μ = .ok (.str (cutL s lo hi)) μ := fun lo hi μ => by
    unfold dSl
    exact if_pos (by rw [q_line]; omega)
  have i0 : ∃ j : Nat, i = j ∧ j ≤ s.length := ⟨i.toNat, by omega, by omega⟩
  obtain ⟨j, rfl, hj⟩ := i0
  have c1 : cutL s none (some (j : Int)) = s.take j := cut_take j
  have c2 : cutL s (some (j : Int)) none = s.drop j := cut_drop j
  have c3 : cutL s (some ((j : Int) + 1)) none = s.drop (j + 1) := cut_drop (j + 1)
  have L4 := cut_len (s := s) (a := some (j : Int)) (b := some ((j : Int) + 1))
  have k1 := fun μ => addB (x := s.take j) (y := [c]) (by rw [List.length_take]; omega) (by simp) μ
  have k2 := fun μ => addB (x := s.take j ++ [c]) (y := s.drop j) (by simp; omega) (by simp; omega) μ
  have k3 := fun μ => addB (x := s.take j) (y := s.drop (j + 1)) (by simp; omega) (by simp; omega) μ
  have k4 := fun μ => addB (x := s.take j ++ [c]) (y := s.drop (j + 1)) (by simp; omega) (by simp; omega) μ
  have k5 := fun μ => addB (x := s.take j) (y := cutL s (some (j : Int)) (some ((j : Int) + 1))) (by simp; omega) (by omega) μ
  have k6 := fun μ => addB (x := s.take j ++ cutL s (some (j : Int)) (some ((j : Int) + 1))) (y := s.drop j) (by simp; omega) (by simp; omega) μ
  by_cases w0 : w = 0
  · exact ⟨(s.take j ++ [c]) ++ s.drop j, μ3, by simp [a__law_sign_spoilt, ln, e1, e2, e3, ix, w0, aSl, aPart, aNoPart, sl, c1, c2, k1, k2, -List.append_assoc], by simp; omega, b3, ff⟩
  · by_cases w1 : w = 1
    · exact ⟨s.take j ++ s.drop (j + 1), μ3, by simp [a__law_sign_spoilt, ln, e1, e2, e3, ix, w1, aSl, aPart, aNoPart, sl, c1, c3, k3, -List.append_assoc], by simp; omega, b3, ff⟩
    · by_cases w2 : w = 2
      · exact ⟨(s.take j ++ [c]) ++ s.drop (j + 1), μ3, by simp [a__law_sign_spoilt, ln, e1, e2, e3, ix, w2, aSl, aPart, aNoPart, sl, c1, c3, k1, k4, -List.append_assoc], by simp; omega, b3, ff⟩
      · exact ⟨(s.take j ++ cutL s (some (j : Int)) (some ((j : Int) + 1))) ++ s.drop j, μ3, by simp [a__law_sign_spoilt, ln, e1, e2, e3, ix, w0, w1, w2, aSl, aPart, aNoPart, sl, c1, c2, k5, k6, -List.append_assoc], by simp; omega, b3, ff⟩
def shortS (k : Nat) : D → Bool
  | .str s => decide (s.length ≤ k)
  | _ => false
theorem short_of {k : Nat} {d : D} (h : shortS k d = true) : ∃ s, d = .str s ∧ s.length ≤ k := by
  cases d with
  | str s => exact ⟨s, rfl, of_decide_eq_true h⟩
  | _ => cases h
abbrev odd1 : List D := [.str [], .str [58], .str [49], .str [49, 58], .str [49, 58, 32], .str [32, 49, 58], .str [49, 32, 58], .str [48, 58], .str [56, 58], .str [57, 58], .str [48, 49, 58], .str [50, 58, 48, 62, 49], .str [50, 58, 32, 48, 62, 49, 32], .str [50, 58, 32, 32, 48, 62, 49], .str [50, 58, 32, 48, 62, 50]]
abbrev odd2 : List D := [.str [50, 58, 32, 48, 60, 49], .str [50, 58, 32, 48, 49], .str [50, 58, 32, 48, 62], .str [50, 58, 32, 62, 49], .str [50, 58, 32, 48, 62, 49, 62, 48], .str [50, 58, 32, 48, 62, 32, 49], .str [50, 58, 32, 48, 62, 49, 44, 49, 62, 48], .str [50, 58, 32, 45, 49, 62, 48], .str [45, 50, 58, 32, 48, 62, 49], .str [97, 58]]
abbrev odd3 : List D := [.str [50, 58, 32, 48, 48, 62, 49], .str [50, 58, 58, 32, 48, 62, 49], .str [49, 58, 32, 48, 62, 48], .str [51, 58, 32, 48, 62, 49, 32, 50, 62, 49], .str ([49, 58] ++ (List.replicate 10 [32, 48, 62, 48]).flatten)]
theorem odd_ok {n : Nat} {μ : Sto} (hb : Bag n μ) : ∃ s μ', a__law_odd [.ob n] μ = .ok (.str s) μ' ∧ s.length ≤ 100 ∧ Bag n μ' ∧ Fr [n] μ μ' := by
  obtain ⟨r, μ1, e1, h0, h1, b1, f1⟩ := draw hb (many := 30) (by decide) (by decide)
  obtain ⟨d, hd, hm⟩ := atD_mem (xs := odd1 ++ odd2 ++ odd3) h0 (by simpa using h1)
  have sh : shortS 100 d = true := List.all_eq_true.mp (show (odd1 ++ odd2 ++ odd3).all (shortS 100) = true by decide +kernel) d hm
  obtain ⟨s, rfl, hs⟩ := short_of sh
  refine ⟨s, μ1, ?_, hs, b1, f1⟩
  have rp : ∀ μ, dMul (.str [32, 48, 62, 48]) (.int 10) μ = .ok (.str (List.replicate 10 [32, 48, 62, 48]).flatten) μ := fun _ => rfl
  have a1 := fun μ => addB (x := [49, 58]) (y := (List.replicate 10 [32, 48, 62, 48]).flatten) (by decide) (by decide) μ
  have j1 : ∀ μ, dAdd (.lst odd1) (.lst odd2) μ = .ok (.lst (odd1 ++ odd2)) μ := fun μ => q_addL (by rw [q_line]; decide)
  have j2 : ∀ μ, dAdd (.lst (odd1 ++ odd2)) (.lst odd3) μ = .ok (.lst (odd1 ++ odd2 ++ odd3)) μ := fun μ => q_addL (by rw [q_line]; decide)
  have s1 : ∀ {A : AE}, A [some (.ob n), none] μ = .ok (.lst odd1) μ → aAsg 1 A [some (.ob n), none] μ = .nx [some (.ob n), some (.lst odd1)] μ := fun h => by rw [asg_nx h]; rfl
  have s3 : (aLst (aCons (aC (.str [50, 58, 32, 48, 48, 62, 49])) (aCons (aC (.str [50, 58, 58, 32, 48, 62, 49])) (aCons (aC (.str [49, 58, 32, 48, 62, 48])) (aCons (aC (.str [51, 58, 32, 48, 62, 49, 32, 50, 62, 49])) (aCons (aOp dAdd (aC (.str [49, 58])) (aOp dMul (aC (.str [32, 48, 62, 48])) (aC (.int 10)))) aNil)))))) [some (.ob n), some (.lst (odd1 ++ odd2))] μ = .ok (.lst odd3) μ := by
    simp only [q_lst, q_cons, q_c, q_op, q_nil, q_bind, rp, a1]
    rw [if_pos (by rw [q_line]; decide)]
  show (Fl.res (aSeq _ _ [some (.ob n), none] μ)) = _
  rw [sq_nx (s1 rfl)]
  have s2' : ∀ {B : AE}, B [some (.ob n), some (.lst odd1)] μ = .ok (.lst odd2) μ → aAsg 1 (aOp dAdd (aVar 1) B) [some (.ob n), some (.lst odd1)] μ = .nx [some (.ob n), some (.lst (odd1 ++ odd2))] μ := fun {B} h => by
    rw [asg_nx (d := .lst (odd1 ++ odd2)) (m := μ)]
    · rfl
    · rw [q_op, q_var]
      show ((B [some (.ob n), some (.lst odd1)] μ).bind fun e m2 => dAdd (.lst odd1) e m2) = _
      rw [h]; exact j1 μ
  have s3' : ∀ {B : AE}, B [some (.ob n), some (.lst (odd1 ++ odd2))] μ = .ok (.lst odd3) μ → aAsg 1 (aOp dAdd (aVar 1) B) [some (.ob n), some (.lst (odd1 ++ odd2))] μ = .nx [some (.ob n), some (.lst (odd1 ++ odd2 ++ odd3))] μ := fun {B} h => by
    rw [asg_nx (d := .lst (odd1 ++ odd2 ++ odd3)) (m := μ)]
    · rfl
    · rw [q_op, q_var]
      show ((B [some (.ob n), some (.lst (odd1 ++ odd2))] μ).bind fun e m2 => dAdd (.lst (odd1 ++ odd2)) e m2) = _
      rw [h]; exact j2 μ
  rw [sq_nx (s2' rfl), sq_nx (s3' s3)]
  generalize odd1 ++ odd2 ++ odd3 = L at hd
  simp [e1, hd]
theorem spoilt_ok {n : Nat} {many : Int} {as : List (Int × Int)} {μ : Sto} (hb : Bag n μ) (hm : 1 ≤ many ∧ many ≤ 8) (ha : Sm 10 as) (hl : as.length ≤ 10) : ∃ s μ', a__law_spoilt [.ob n, .int many, .lst (as.map arD)] μ = .ok (.str s) μ' ∧ s.length ≤ 400000 ∧ Bag n μ' ∧ Fr [n] μ μ' := by
  obtain ⟨w, μ1, e1, h0, h1, b1, f1⟩ := draw hb (many := 5) (by decide) (by decide)
  have sm : Sm (10 ^ 60) as := fun a h => by have := ha a h; omega
  by_cases w0 : w = 0
  · obtain ⟨s, μ2, e2, hs, b2, f2⟩ := odd_ok b1
    exact ⟨s, μ2, by simp [a__law_spoilt, e1, w0, e2], by omega, b2, hb.fr f1 f2⟩
  · by_cases w1 : w = 1
    · obtain ⟨r, μ2, e2, r0, r1, b2, f2⟩ := draw b1 (many := 10) (by decide) (by decide)
      have sh := shown_dr (many := r) (as := as) (μ := μ2) (by omega) sm (by omega)
      have ln := drT_len (many := r) (as := as) (by omega) sm (by omega)
      exact ⟨drT r as, μ2, by simp [a__law_spoilt, e1, w1, e2, sh], by omega, b2, hb.fr f1 f2⟩
    · by_cases w2 : w = 2
      · obtain ⟨r, μ2, e2, r0, r1, b2, f2⟩ := draw b1 (many := 10) (by decide) (by decide)
        obtain ⟨q, μ3, e3, q0, q1, b3, f3⟩ := draw b2 (many := 10) (by decide) (by decide)
        have sm2 : Sm (10 ^ 60) (as ++ [(r, q), (0, 0)]) := fun a h => by
          rcases List.mem_append.mp h with h | h
          · exact sm a h
          · simp only [List.mem_cons, List.not_mem_nil, or_false] at h
            rcases h with rfl | rfl
            · exact ⟨by simp; omega, by simp; omega⟩
            · exact ⟨by decide, by decide⟩
        have sh := shown_dr (many := many) (as := as ++ [(r, q), (0, 0)]) (μ := μ3) (by omega) sm2 (by simp; omega)
        have ln := drT_len (many := many) (as := as ++ [(r, q), (0, 0)]) (by omega) sm2 (by simp; omega)
        have ad : ∀ μ, dAdd (.lst (as.map arD)) (.lst [.tup [.int r, .int q], .tup [.int 0, .int 0]]) μ = .ok (.lst ((as ++ [(r, q), (0, 0)]).map arD)) μ := fun μ => by
          rw [q_addL (by rw [q_line, List.length_map]; simp; omega), List.map_append]; rfl
        exact ⟨drT many (as ++ [(r, q), (0, 0)]), μ3, by simp [a__law_spoilt, e1, w2, e2, e3, ad, sh, -List.map_append], by omega, b3, hb.fr f1 (b1.fr f2 f3)⟩
      · have sh := shown_dr (many := many) (as := as) (μ := μ1) (by omega) sm (by omega)
        have ln := drT_len (many := many) (as := as) (by omega) sm (by omega)
        obtain ⟨t, μ2, e2, ht, b2, f2⟩ := sign_ok (s := drT many as) b1 (by omega)
        exact ⟨t, μ2, by simp [a__law_spoilt, e1, w0, w1, w2, sh, e2], by omega, b2, hb.fr f1 f2⟩
/-! a drawing's text is read back -/
theorem small_txt : ∀ r ∈ List.range 10, rw_ (TL.numL r) = some (r : Int) ∧ 62 ∉ TL.numL r ∧ 32 ∉ TL.numL r ∧ 58 ∉ TL.numL r := by decide +kernel
theorem small_int {x : Int} (h0 : 0 ≤ x) (h1 : x < 10) : rw_ (intS x) = some x ∧ 62 ∉ intS x ∧ 32 ∉ intS x ∧ 58 ∉ intS x := by
  obtain ⟨r, rfl⟩ : ∃ r : Nat, x = r := ⟨x.toNat, by omega⟩
  have e : intS (r : Int) = TL.numL r := by
    unfold intS
    rw [if_neg (by omega)]
    rfl
  rw [e]
  exact small_txt r (List.mem_range.mpr (by omega))
theorem read_dr {many : Int} {as : List (Int × Int)} (hm : 0 ≤ many ∧ many ≤ 8) (ha : ∀ a ∈ as, (0 ≤ a.1 ∧ a.1 < 10) ∧ 0 ≤ a.2 ∧ a.2 < 10) : rdD (drT many as) = some (many, as) := by
  have m := small_int (x := many) (by omega) (by omega)
  have ao : oAll ar_ (as.map arT) = some as := by
    induction as with
    | nil => rfl
    | cons a as ih =>
      have z := ha a (List.mem_cons_self ..)
      have h1 := small_int z.1.1 z.1.2
      have h2 := small_int z.2.1 z.2.2
      have e : ar_ (arT a) = some a := by
        have : arT a = intS a.1 ++ 62 :: intS a.2 := by unfold arT; simp
        rw [this, ar_at h1.2.1, h1.1, h2.1]; rfl
      show (ar_ (arT a)).bind (fun y => (oAll ar_ (as.map arT)).map fun ys => y :: ys) = _
      rw [e, ih fun x hx => ha x (List.mem_cons_of_mem _ hx)]
      rfl
  have n32 : ∀ p ∈ as.map arT, 32 ∉ p := fun p hp => by
    obtain ⟨a, h, rfl⟩ := List.mem_map.mp hp
    have z := ha a h
    have h1 := small_int z.1.1 z.1.2
    have h2 := small_int z.2.1 z.2.2
    unfold arT
    simp
    exact ⟨h1.2.2.1, h2.2.2.1⟩
  cases as with
  | nil =>
    have e : drT many [] = intS many ++ 58 :: [] := by simp [drT, TL.joinL]
    unfold rdD
    rw [e, par2 _ [] m.2.2.2]
    simp [m.1]
  | cons a as =>
    have e : drT many (a :: as) = intS many ++ 58 :: 32 :: TL.joinL [32] ((a :: as).map arT) := by
      show (intS many ++ [58]) ++ ([32] ++ TL.joinL [32] ((a :: as).map arT)) = _
      simp
    unfold rdD
    rw [e, par2 _ [] m.2.2.2]
    have sp := TL.spl_join (s := 32) (S := []) (parts := (a :: as).map arT) (by simp) n32
    simp only [List.nil_append, m.1, Option.bind_some, if_pos]
    rw [sp, ao]
    rfl
end HD

set_option linter.all false
set_option maxRecDepth 100000
set_option maxHeartbeats 4000000
namespace HD
open PySem PySem.Spec PyProof.Rows L2 L2H Z
theorem cut_lenA {α : Type} {s : List α} {a b : Option Int} : (cutL s a b).length ≤ s.length := by
  unfold cutL
  rw [List.length_take, List.length_drop]
  omega
def arS : ATS := (aSeq (aAsg 10 (aCall a__law_draw [] (aCons (aVar 2) (aCons (aVar 7) aNil))))
  (aDrop (aBM "list" (fun d ds μ => one1 (dAppend d) ds μ) (aVar 8) (aCons (aTup (aCons (aVar 10) (aCons (aCall a__law_draw [] (aCons (aVar 2) (aCons (aVar 7) aNil))) aNil))) aNil))))
def tuS : ATS := (aSeq (aAsg 13 (aCall a__law_spoilt [] (aCons (aVar 2) (aCons (aVar 7) (aCons (aVar 8) aNil)))))
  (aIf (aB (aOp dNe (aCall a__law_asked [] (aCons (aVar 13) aNil)) (aCall a__law_read [] (aCons (aVar 13) aNil)))) (aRet (aC (.bl false))) aNext))
def bodyS : ATS := (aSeq (aAsg 2 (aCall a__law_bag [] (aCons (aVar 1) aNil)))
  (aSeq (aAsg 3 (aCall a__law_prime [] (aCons (aVar 2) aNil)))
  (aSeq (aAsg 4 (aOp dIx (aLst (aCons (aC (.int 4)) (aCons (aC (.int 6)) aNil))) (aCB (one1 dInt) (aCons (aOp dGt (aVar 3) (aC (.int 0))) aNil))))
  (aSeq (aAsg 5 (aCall a__law_draw [] (aCons (aVar 2) (aCons (aOp dAdd (aVar 4) (aC (.int 1))) aNil))))
  (aSeq (aAsg 6 (aCall a__law_table [] (aCons (aVar 2) (aCons (aVar 3) (aCons (aVar 5) (aCons (aCall a__law_draw [] (aCons (aVar 2) (aCons (aOp dAdd (aVar 4) (aC (.int 1))) aNil))) aNil))))))
  (aSeq (aIf (aB (aOp dNe (aCall a_show_table [] (aCons (aMake .ground a_Ground__init [] (aCons (aVar 3) aNil)) (aCons (aVar 6) aNil))) (aCall a__law_table_shown [] (aCons (aVar 3) (aCons (aVar 6) aNil))))) (aRet (aC (.bl false))) aNext)
  (aSeq (aAsg 7 (aOp dAdd (aC (.int 1)) (aCall a__law_draw [] (aCons (aVar 2) (aCons (aC (.int 8)) aNil)))))
  (aSeq (aAsg 8 (aLstM aNil))
  (aSeq (aFz 8 (aFor (aItR1 (aCons (aCall a__law_draw [] (aCons (aVar 2) (aCons (aC (.int 10)) aNil))) aNil)) (gNm 9) arS))
  (aSeq (aAsg 11 (aCall a__law_drawing_shown [] (aCons (aVar 7) (aCons (aVar 8) aNil))))
  (aSeq (aIf (aOrT (aB (aOp dNe (aCall a_show_drawing [] (aCons (aMake .drawing a_Drawing__init [] (aCons (aVar 7) (aCons (aCB (one1 dLs) (aCons (aVar 8) aNil)) aNil))) aNil)) (aVar 11))) (aB (aOp dNe (aCall a__law_asked [] (aCons (aVar 11) aNil)) (aTup (aCons (aVar 7) (aCons (aVar 8) aNil)))))) (aRet (aC (.bl false))) aNext)
  (aFor (aItR1 (aCons (aC (.int 4)) aNil)) (gNm 12) tuS))))))))))))
theorem law_eq : a_law = aDef 13 (aSeq (aFor (aItA (aOp dAdd (aLst (aCons (aCall a__law_cell [] (aCons (aVar 0) (aCons (aC (.int 0)) aNil))) (aCons (aC (.int 3)) aNil))) (aSl (aVar 0) (aPart (aC (.int 1))) (aPart (aC (.int 10)))))) (gNm 1) bodyS) (aRet (aC (.bl true)))) := rfl
def ArIn (many : Int) (as : List (Int × Int)) : Prop := ∀ a ∈ as, (0 ≤ a.1 ∧ a.1 < many) ∧ 0 ≤ a.2 ∧ a.2 < many
theorem ar_loop {n k : Nat} {many : Int} {e0 e1 e3 e4 e5 e6 e11 e12 e13 : Option D} (hm : 1 ≤ many ∧ many ≤ 8) (hn : n ≠ k) : ∀ (l : List D) (o9 o10 : Option D) (as : List (Int × Int)) (μ : Sto), Bag n μ → μ[k]? = some (.lst (as.map arD)) → ArIn many as → as.length + l.length < 1000 →
    ∃ q9 q10 as' μ', loopA (gNm 9) arS l [e0, e1, some (.ob n), e3, e4, e5, e6, some (.int many), some (.ob k), o9, o10, e11, e12, e13] μ = .nx [e0, e1, some (.ob n), e3, e4, e5, e6, some (.int many), some (.ob k), q9, q10, e11, e12, e13] μ' ∧ μ'[k]? = some (.lst (as'.map arD)) ∧ ArIn many as' ∧ as'.length = as.length + l.length ∧ Bag n μ' ∧ Fr [n, k] μ μ'
  | [], o9, o10, as, μ, hb, hk, ha, hl => ⟨o9, o10, as, μ, rfl, hk, ha, rfl, hb, .refl _ _⟩
  | x :: l, o9, o10, as, μ, hb, hk, ha, hl => by
    have hl2 : as.length + (l.length + 1) < 1000 := by simpa using hl
    obtain ⟨r, μ1, e1', r0, r1, b1, f1⟩ := draw hb (many := many) (by omega) (by omega)
    obtain ⟨q, μ2, e2', q0, q1, b2, f2⟩ := draw b1 (many := many) (by omega) (by omega)
    have k1 := f1.get hk (by simp; exact fun q => hn q.symm)
    have k2 := f2.get k1 (by simp; exact fun q => hn q.symm)
    have s1 : aAsg 10 (aCall a__law_draw [] (aCons (aVar 2) (aCons (aVar 7) aNil))) [e0, e1, some (.ob n), e3, e4, e5, e6, some (.int many), some (.ob k), some x, o10, e11, e12, e13] μ = .nx [e0, e1, some (.ob n), e3, e4, e5, e6, some (.int many), some (.ob k), some x, some (.int r), e11, e12, e13] μ1 := by simp [e1']
    have ap := app_ok (i := 8) (k := k) (env := [e0, e1, some (.ob n), e3, e4, e5, e6, some (.int many), some (.ob k), some x, some (.int r), e11, e12, e13]) (μ := μ1) (A := (aTup (aCons (aVar 10) (aCons (aCall a__law_draw [] (aCons (aVar 2) (aCons (aVar 7) aNil))) aNil)))) (d := arD (r, q)) rfl k1 (by simp [e2', arD]) k2 (by rw [q_line, List.length_map]; omega)
    have st : arS [e0, e1, some (.ob n), e3, e4, e5, e6, some (.int many), some (.ob k), some x, o10, e11, e12, e13] μ = .nx [e0, e1, some (.ob n), e3, e4, e5, e6, some (.int many), some (.ob k), some x, some (.int r), e11, e12, e13] (μ2.set k (.lst (as.map arD ++ [arD (r, q)]))) := by
      unfold arS
      rw [sq_nx s1, ap]
    have k3 : (μ2.set k (.lst (as.map arD ++ [arD (r, q)])))[k]? = some (.lst ((as ++ [(r, q)]).map arD)) := by rw [get_set k2]; simp
    have f3 : Fr [n, k] μ (μ2.set k (.lst (as.map arD ++ [arD (r, q)]))) := fr2 hb.lt (get_lt hk) (frN (hb.fr f1 f2)) frR
    obtain ⟨q9, q10, as', μ3, h1, h2, h3, h4, h5, h6⟩ := ar_loop (e0 := e0) (e1 := e1) (e3 := e3) (e4 := e4) (e5 := e5) (e6 := e6) (e11 := e11) (e12 := e12) (e13 := e13) hm hn l (some x) (some (.int r)) (as ++ [(r, q)]) _ (b2.set hn) k3 (fun a h => by
      rcases List.mem_append.mp h with h | h
      · exact ha a h
      · rw [List.mem_singleton.mp h]; exact ⟨⟨r0, r1⟩, q0, q1⟩) (by rw [List.length_append, List.length_singleton]; omega)
    refine ⟨q9, q10, as', μ3, ?_, h2, h3, by rw [h4]; simp; omega, h5, fr2 hb.lt (get_lt hk) f3 h6⟩
    rw [← h1]
    exact lp_cons (e1 := [e0, e1, some (.ob n), e3, e4, e5, e6, some (.int many), some (.ob k), some x, o10, e11, e12, e13]) rfl st
theorem resL_pl {o : Option (Int × List (Int × Int))} : plD (resL o) = true ∧ depD (resL o) ≤ 3 := by
  cases o with
  | none => exact ⟨by decide +kernel, by decide⟩
  | some p =>
    obtain ⟨n, as⟩ := p
    unfold resL
    simp only []
    by_cases h : drOk n as = true
    · rw [if_pos h]
      have a : plDs (as.map arD) = true := by
        rw [plDs_all, List.all_map, List.all_eq_true]
        intro x _; rfl
      have b : depDs (as.map arD) ≤ 1 := depDs_le fun x hx => by
        obtain ⟨y, _, rfl⟩ := List.mem_map.mp hx
        exact Nat.le_refl 1
      refine ⟨by simp [plD, plDs, a], ?_⟩
      simp only [depD, depDs]
      omega
    · rw [if_neg h]
      exact ⟨by decide +kernel, by decide⟩
theorem eqD_refl {d : D} (h : plD d = true) : eqD d d = true := (eqD_iff h).mpr rfl
theorem tu_loop {n : Nat} {many : Int} {as : List (Int × Int)} {e0 e1 e3 e4 e5 e6 e9 e10 e11 : Option D} (hm : 1 ≤ many ∧ many ≤ 8) (ha : ArIn many as) (hl : as.length ≤ 10) : ∀ (l : List D) (o12 o13 : Option D) (μ : Sto), Bag n μ → μ.all Mok = true →
    ∃ q12 q13 μ', loopA (gNm 12) tuS l [e0, e1, some (.ob n), e3, e4, e5, e6, some (.int many), some (.lst (as.map arD)), e9, e10, e11, o12, o13] μ = .nx [e0, e1, some (.ob n), e3, e4, e5, e6, some (.int many), some (.lst (as.map arD)), e9, e10, e11, q12, q13] μ' ∧ μ'.all Mok = true
  | [], o12, o13, μ, hb, hμ => ⟨o12, o13, μ, rfl, hμ⟩
  | x :: l, o12, o13, μ, hb, hμ => by
    obtain ⟨s, μ1, e1', hs, b1, f1⟩ := spoilt_ok (many := many) (as := as) hb hm (fun a h => by have := ha a h; omega) hl
    have hμ1 := b1.all hμ f1
    have ak := asked (t := s) (μ := μ1) hs hμ1
    have lr := lr_drawing (t := s) (μ := μ1) hs
    have pl := resL_pl (o := rdD s)
    have ne := q_NE (μ := μ1) pl.1 pl.1 (Nat.le_trans pl.2 (by decide)) (Nat.le_trans pl.2 (by decide))
    rw [eqD_refl pl.1] at ne
    obtain ⟨q12, q13, μ2, h1, h2⟩ := tu_loop (e0 := e0) (e1 := e1) (e3 := e3) (e4 := e4) (e5 := e5) (e6 := e6) (e9 := e9) (e10 := e10) (e11 := e11) hm ha hl l (some x) (some (.str s)) μ1 b1 hμ1
    refine ⟨q12, q13, μ2, ?_, h2⟩
    rw [← h1]
    refine lp_cons (e1 := [e0, e1, some (.ob n), e3, e4, e5, e6, some (.int many), some (.lst (as.map arD)), e9, e10, e11, some x, o13]) rfl ?_
    simp [tuS, e1', ak, lr, ne]
theorem body_ok {c : Int} {o0 o2 o3 o4 o5 o6 o7 o8 o9 o10 o11 o12 o13 : Option D} {μ : Sto} (hμ : μ.all Mok = true) :
    ∃ q2 q3 q4 q5 q6 q7 q8 q9 q10 q11 q12 q13 μ', bodyS [o0, some (.int c), o2, o3, o4, o5, o6, o7, o8, o9, o10, o11, o12, o13] μ = .nx [o0, some (.int c), q2, q3, q4, q5, q6, q7, q8, q9, q10, q11, q12, q13] μ' ∧ μ'.all Mok = true := by
  obtain ⟨m, e1, b1, mk⟩ := bag_ok (c := c) (μ := μ)
  have a1 : (μ ++ [m]).all Mok = true := by rw [List.all_append, hμ]; simp [mk]
  obtain ⟨p, μ2, e2, hp, b2, f2⟩ := prime_ok b1
  have a2 := b2.all a1 f2
  have gb := gp_bd hp
  obtain ⟨mo, hmo, emo⟩ : ∃ mo : Int, (mo = 4 ∨ mo = 6) ∧ atD [D.int 4, D.int 6] (if 0 < p then 1 else 0) = some (.int mo) := by
    by_cases h : 0 < p
    · exact ⟨6, .inr rfl, by rw [if_pos h]; rfl⟩
    · exact ⟨4, .inl rfl, by rw [if_neg h]; rfl⟩
  obtain ⟨hi, μ3, e3, h0, h1, b3, f3⟩ := draw b2 (many := mo + 1) (by omega) (by omega)
  have a3 := b3.all a2 f3
  obtain ⟨wi, μ4, e4, w0, w1, b4, f4⟩ := draw b3 (many := mo + 1) (by omega) (by omega)
  have a4 := b4.all a3 f4
  obtain ⟨h, rfl⟩ : ∃ h : Nat, hi = h := ⟨hi.toNat, by omega⟩
  obtain ⟨w, rfl⟩ : ∃ w : Nat, wi = w := ⟨wi.toNat, by omega⟩
  obtain ⟨rs, μ5, e5, l5, r5, b5, f5⟩ := table_ok (h := h) (w := w) hp b4 a4 (by omega) (by omega)
  have a5 := b5.all a4 f5
  have sh := fun μ => show_tab (μ := μ) hp (r5.mono (by decide)) l5 (by omega) (by omega)
  have sd := fun μ => shown_tab (μ := μ) hp (r5.mono (by decide)) l5 (by omega) (by omega)
  have mg := make_gr (p := p) (i := 3) (env := [o0, some (.int c), some (.ob μ.length), some (.int p), some (.int mo), some (.int h), some (tabD h w rs), o7, o8, o9, o10, o11, o12, o13]) (μ := μ5) hp (mok_imm a5) rfl
  obtain ⟨r6, μ6, e6, k0, k1, b6, f6⟩ := draw b5 (many := 8) (by decide) (by decide)
  have a6 := b6.all a5 f6
  obtain ⟨r7, μ7, e7, j0, j1, b7, f7⟩ := draw (b6.push (x := M.lst [])) (many := 10) (by decide) (by decide)
  have nl : μ.length < μ6.length := b6.lt
  have kL : (μ6 ++ [M.lst []])[μ6.length]? = some (.lst (([] : List (Int × Int)).map arD)) := get_push
  have kL7 := f7.get kL (by simp; omega)
  obtain ⟨q9, q10, as, μ8, lp8, kL8, in8, len8, b8, f8⟩ := ar_loop (n := μ.length) (k := μ6.length) (many := 1 + r6) (e0 := o0) (e1 := some (.int c)) (e3 := some (.int p)) (e4 := some (.int mo)) (e5 := some (.int h)) (e6 := some (tabD h w rs)) (e11 := o11) (e12 := o12) (e13 := o13) (by omega) (by omega) (rangeD 0 r7.toNat) o9 o10 [] μ7 b7 kL7 (by intro a h; cases h) (by rw [rangeD_len]; simp; omega)
  rw [rangeD_len] at len8
  have len8' : as.length ≤ 9 := by simp at len8; omega
  have rg : aItR1 (aCons (aCall a__law_draw [] (aCons (aVar 2) (aCons (aC (.int 10)) aNil))) aNil) [o0, some (.int c), some (.ob μ.length), some (.int p), some (.int mo), some (.int h), some (tabD h w rs), some (.int (1 + r6)), some (.ob μ6.length), o9, o10, o11, o12, o13] (μ6 ++ [.lst []]) = .ok (rangeD 0 r7.toNat) μ7 := q_R1 (j := r7) (m := μ7) (by simp [e7]) (big_ok (by omega) (by omega))
  have fz := fz_ok (i := 8) (k := μ6.length) (for_nx rg lp8) rfl kL8
  have b9 : Bag μ.length (μ8.set μ6.length .gone) := b8.set (by omega)
  have a9 : (μ8.set μ6.length .gone).all Mok = true := by
    have aP : (μ6 ++ [M.lst []]).all Mok = true := by rw [List.all_append, a6]; rfl
    have a7 : μ7.all Mok = true := b7.all aP f7
    have a8 : μ8.all Mok = true := all_of a7 f8 fun m hm x e => by
      simp only [List.mem_cons, List.not_mem_nil, or_false] at hm
      rcases hm with rfl | rfl
      · exact b8.mok x e
      · rw [kL8] at e; cases e
        have im := imm_ar (as := as)
        simp only [Mok, M.imm, M.cool, im.1, im.2]; rfl
    rw [List.all_eq_true] at a8 ⊢
    intro x hx
    rcases List.mem_or_eq_of_mem_set hx with q | q
    · exact a8 x q
    · rw [q]; rfl
  generalize hμ9 : μ8.set μ6.length .gone = μ9 at fz b9 a9
  have sm : Sm (10 ^ 60) as := fun a h => by have := in8 a h; omega
  have dshown := shown_dr (many := 1 + r6) (as := as) (μ := μ9) (by omega) sm (by omega)
  have dshow := fun μ => show_dr (many := 1 + r6) (as := as) (μ := μ) (by omega) sm (by omega)
  have dlen := drT_len (many := 1 + r6) (as := as) (by omega) sm (by omega)
  have drok : drOk (1 + r6) as = true := by
    have : as.all (arOk (1 + r6)) = true := by
      rw [List.all_eq_true]
      intro a ha
      have z := in8 a ha
      unfold arOk
      simp [z.1.1, z.1.2, z.2.1, z.2.2]
    unfold drOk
    rw [this]
    simp; omega
  have md := make_dr (many := 1 + r6) (as := as) (As := (aCons (aVar 7) (aCons (aCB (one1 dLs) (aCons (aVar 8) aNil)) aNil))) (env := [o0, some (.int c), some (.ob μ.length), some (.int p), some (.int mo), some (.int h), some (tabD h w rs), some (.int (1 + r6)), some (.lst (as.map arD)), q9, q10, some (.str (drT (1 + r6) as)), o12, o13]) (μ := μ9) (by omega) (mok_imm a9) (by simp; rfl)
  rw [if_pos drok] at md
  have ak := asked (t := drT (1 + r6) as) (μ := μ9) (by omega) a9
  have rdr := read_dr (many := 1 + r6) (as := as) (by omega) (fun a ha => by have := in8 a ha; omega)
  have rl : resL (rdD (drT (1 + r6) as)) = .tup [.int (1 + r6), .lst (as.map arD)] := by rw [rdr]; simp [resL, drok]
  have pl := resL_pl (o := rdD (drT (1 + r6) as))
  rw [rl] at ak pl
  have ne := q_NE (μ := μ9) pl.1 pl.1 (Nat.le_trans pl.2 (by decide)) (Nat.le_trans pl.2 (by decide))
  rw [eqD_refl pl.1] at ne
  obtain ⟨q12, q13, μ10, lp10, a10⟩ := tu_loop (n := μ.length) (many := 1 + r6) (as := as) (e0 := o0) (e1 := some (.int c)) (e3 := some (.int p)) (e4 := some (.int mo)) (e5 := some (.int h)) (e6 := some (tabD h w rs)) (e9 := q9) (e10 := q10) (e11 := some (.str (drT (1 + r6) as))) (by omega) in8 (by omega) (rangeD 0 4) o12 o13 μ9 b9 a9
  refine ⟨some (.ob μ.length), some (.int p), some (.int mo), some (.int h), some (tabD h w rs), some (.int (1 + r6)), some (.lst (as.map arD)), q9, q10, some (.str (drT (1 + r6) as)), q12, q13, μ10, ?_, a10⟩
  have t1 : aAsg 2 (aCall a__law_bag [] (aCons (aVar 1) aNil)) [o0, some (.int c), o2, o3, o4, o5, o6, o7, o8, o9, o10, o11, o12, o13] μ = .nx [o0, some (.int c), some (.ob μ.length), o3, o4, o5, o6, o7, o8, o9, o10, o11, o12, o13] (μ ++ [m]) := by simp [e1]
  have t2 : aAsg 3 (aCall a__law_prime [] (aCons (aVar 2) aNil)) [o0, some (.int c), some (.ob μ.length), o3, o4, o5, o6, o7, o8, o9, o10, o11, o12, o13] (μ ++ [m]) = .nx [o0, some (.int c), some (.ob μ.length), some (.int p), o4, o5, o6, o7, o8, o9, o10, o11, o12, o13] μ2 := by simp [e2]
  have t3 : aAsg 4 (aOp dIx (aLst (aCons (aC (.int 4)) (aCons (aC (.int 6)) aNil))) (aCB (one1 dInt) (aCons (aOp dGt (aVar 3) (aC (.int 0))) aNil))) [o0, some (.int c), some (.ob μ.length), some (.int p), o4, o5, o6, o7, o8, o9, o10, o11, o12, o13] μ2 = .nx [o0, some (.int c), some (.ob μ.length), some (.int p), some (.int mo), o5, o6, o7, o8, o9, o10, o11, o12, o13] μ2 := by simp [emo]
  have t4 : aAsg 5 (aCall a__law_draw [] (aCons (aVar 2) (aCons (aOp dAdd (aVar 4) (aC (.int 1))) aNil))) [o0, some (.int c), some (.ob μ.length), some (.int p), some (.int mo), o5, o6, o7, o8, o9, o10, o11, o12, o13] μ2 = .nx [o0, some (.int c), some (.ob μ.length), some (.int p), some (.int mo), some (.int h), o6, o7, o8, o9, o10, o11, o12, o13] μ3 := by simp [e3]
  have t5 : aAsg 6 (aCall a__law_table [] (aCons (aVar 2) (aCons (aVar 3) (aCons (aVar 5) (aCons (aCall a__law_draw [] (aCons (aVar 2) (aCons (aOp dAdd (aVar 4) (aC (.int 1))) aNil))) aNil))))) [o0, some (.int c), some (.ob μ.length), some (.int p), some (.int mo), some (.int h), o6, o7, o8, o9, o10, o11, o12, o13] μ3 = .nx [o0, some (.int c), some (.ob μ.length), some (.int p), some (.int mo), some (.int h), some (tabD h w rs), o7, o8, o9, o10, o11, o12, o13] μ5 := by simp [e4, e5]
  have t6 : (aIf (aB (aOp dNe (aCall a_show_table [] (aCons (aMake .ground a_Ground__init [] (aCons (aVar 3) aNil)) (aCons (aVar 6) aNil))) (aCall a__law_table_shown [] (aCons (aVar 3) (aCons (aVar 6) aNil))))) (aRet (aC (.bl false))) aNext) [o0, some (.int c), some (.ob μ.length), some (.int p), some (.int mo), some (.int h), some (tabD h w rs), o7, o8, o9, o10, o11, o12, o13] μ5 = .nx [o0, some (.int c), some (.ob μ.length), some (.int p), some (.int mo), some (.int h), some (tabD h w rs), o7, o8, o9, o10, o11, o12, o13] μ5 := by simp [mg, sh, sd]
  have t7 : aAsg 7 (aOp dAdd (aC (.int 1)) (aCall a__law_draw [] (aCons (aVar 2) (aCons (aC (.int 8)) aNil)))) [o0, some (.int c), some (.ob μ.length), some (.int p), some (.int mo), some (.int h), some (tabD h w rs), o7, o8, o9, o10, o11, o12, o13] μ5 = .nx [o0, some (.int c), some (.ob μ.length), some (.int p), some (.int mo), some (.int h), some (tabD h w rs), some (.int (1 + r6)), o8, o9, o10, o11, o12, o13] μ6 := by simp [e6]
  have t8 : aAsg 8 (aLstM aNil) [o0, some (.int c), some (.ob μ.length), some (.int p), some (.int mo), some (.int h), some (tabD h w rs), some (.int (1 + r6)), o8, o9, o10, o11, o12, o13] μ6 = .nx [o0, some (.int c), some (.ob μ.length), some (.int p), some (.int mo), some (.int h), some (tabD h w rs), some (.int (1 + r6)), some (.ob μ6.length), o9, o10, o11, o12, o13] (μ6 ++ [.lst []]) := rfl
  have t10 : aAsg 11 (aCall a__law_drawing_shown [] (aCons (aVar 7) (aCons (aVar 8) aNil))) [o0, some (.int c), some (.ob μ.length), some (.int p), some (.int mo), some (.int h), some (tabD h w rs), some (.int (1 + r6)), some (.lst (as.map arD)), q9, q10, o11, o12, o13] μ9 = .nx [o0, some (.int c), some (.ob μ.length), some (.int p), some (.int mo), some (.int h), some (tabD h w rs), some (.int (1 + r6)), some (.lst (as.map arD)), q9, q10, some (.str (drT (1 + r6) as)), o12, o13] μ9 := by simp [dshown]
  have t11 : (aIf (aOrT (aB (aOp dNe (aCall a_show_drawing [] (aCons (aMake .drawing a_Drawing__init [] (aCons (aVar 7) (aCons (aCB (one1 dLs) (aCons (aVar 8) aNil)) aNil))) aNil)) (aVar 11))) (aB (aOp dNe (aCall a__law_asked [] (aCons (aVar 11) aNil)) (aTup (aCons (aVar 7) (aCons (aVar 8) aNil)))))) (aRet (aC (.bl false))) aNext) [o0, some (.int c), some (.ob μ.length), some (.int p), some (.int mo), some (.int h), some (tabD h w rs), some (.int (1 + r6)), some (.lst (as.map arD)), q9, q10, some (.str (drT (1 + r6) as)), o12, o13] μ9 = .nx [o0, some (.int c), some (.ob μ.length), some (.int p), some (.int mo), some (.int h), some (tabD h w rs), some (.int (1 + r6)), some (.lst (as.map arD)), q9, q10, some (.str (drT (1 + r6) as)), o12, o13] μ9 := by simp [md, dshow, ak, ne]
  unfold bodyS
  rw [sq_nx t1, sq_nx t2, sq_nx t3, sq_nx t4, sq_nx t5, sq_nx t6, sq_nx t7, sq_nx t8, sq_nx fz]
  show aSeq _ (aSeq _ _) [o0, some (.int c), some (.ob μ.length), some (.int p), some (.int mo), some (.int h), some (tabD h w rs), some (.int (1 + r6)), some (.lst (as.map arD)), q9, q10, o11, o12, o13] μ9 = _
  rw [sq_nx t10, sq_nx t11, ← lp10]
  exact for_nx (q_R1 (j := 4) (m := μ9) (by simp) (big_ok (by decide) (by decide))) rfl
theorem body_loop {o0 : Option D} : ∀ (cs : List Int) (o1 o2 o3 o4 o5 o6 o7 o8 o9 o10 o11 o12 o13 : Option D) (μ : Sto), μ.all Mok = true →
    ∃ e μ', loopA (gNm 1) bodyS (cs.map D.int) [o0, o1, o2, o3, o4, o5, o6, o7, o8, o9, o10, o11, o12, o13] μ = .nx e μ'
  | [], o1, o2, o3, o4, o5, o6, o7, o8, o9, o10, o11, o12, o13, μ, _ => ⟨_, _, rfl⟩
  | c :: cs, o1, o2, o3, o4, o5, o6, o7, o8, o9, o10, o11, o12, o13, μ, h => by
    obtain ⟨q2, q3, q4, q5, q6, q7, q8, q9, q10, q11, q12, q13, μ', e, h'⟩ := body_ok (c := c) (o0 := o0) (o2 := o2) (o3 := o3) (o4 := o4) (o5 := o5) (o6 := o6) (o7 := o7) (o8 := o8) (o9 := o9) (o10 := o10) (o11 := o11) (o12 := o12) (o13 := o13) h
    obtain ⟨e2, μ2, ih⟩ := body_loop cs (some (.int c)) q2 q3 q4 q5 q6 q7 q8 q9 q10 q11 q12 q13 μ' h'
    refine ⟨e2, μ2, ?_⟩
    rw [← ih, List.map_cons]
    exact lp_cons (e1 := [o0, some (.int c), o2, o3, o4, o5, o6, o7, o8, o9, o10, o11, o12, o13]) rfl e
theorem plain (ns : List Int) (hn : ns.length ≤ 63) : ∃ μ, a_law [.scr (ns.map D.int)] [] = .ok (.bl true) μ := by
  obtain ⟨c, ec⟩ := cell_ok (xs := ns) (μ := [])
  have sl : ∀ μ, dSl (.scr (ns.map D.int)) (some 1) (some 10) μ = .ok (.lst ((cutL ns (some 1) (some 10)).map D.int)) μ := fun μ => by
    show (Z.R.ok (D.lst (cutL (ns.map D.int) (some 1) (some 10))) μ : Z.R D) = _
    unfold cutL
    rw [List.length_map, ← List.map_drop, ← List.map_take]
  have cl : (cutL ns (some 1) (some 10)).length ≤ 63 := Nat.le_trans cut_lenA hn
  have ad : ∀ μ, dAdd (.lst [.int c, .int 3]) (.lst ((cutL ns (some 1) (some 10)).map D.int)) μ = .ok (.lst ((c :: 3 :: cutL ns (some 1) (some 10)).map D.int)) μ := fun μ => by
    rw [q_addL (by rw [q_line, List.length_map]; simp; omega)]; rfl
  obtain ⟨e, μ', lp⟩ := body_loop (o0 := some (.scr (ns.map D.int))) (c :: 3 :: cutL ns (some 1) (some 10)) none none none none none none none none none none none none none [] rfl
  refine ⟨μ', ?_⟩
  have it : (aOp dAdd (aLst (aCons (aCall a__law_cell [] (aCons (aVar 0) (aCons (aC (.int 0)) aNil))) (aCons (aC (.int 3)) aNil))) (aSl (aVar 0) (aPart (aC (.int 1))) (aPart (aC (.int 10))))) [some (.scr (ns.map D.int)), none, none, none, none, none, none, none, none, none, none, none, none, none] [] = .ok (.lst ((c :: 3 :: cutL ns (some 1) (some 10)).map D.int)) [] := by
    simp [ec, aSl, aPart, sl, ad, -List.map_cons]
  rw [law_eq]
  show (aSeq _ _ [some (.scr (ns.map D.int)), none, none, none, none, none, none, none, none, none, none, none, none, none] []).res = _
  rw [sq_nx (for_nx (q_itA1 it) lp)]
  rfl
end HD

set_option Elab.async false
set_option linter.all false
set_option maxRecDepth 100000
set_option maxHeartbeats 0
namespace HD
open PySem PySem.Spec PyProof.Rows L2 L2H Z
def CXw (P : Program) : CXT := fun outer H s E u s' => ∃ w, L2.CX P w outer H s E u s'
theorem anyw {P : Program} {w : World} {K : PySem.W.Frag} {mg : Str → Option Value} {base : Heap} {j : Nat} {f : Addr} {fd : FuncData} {ps : List Str} {sp : Sp} (F : FnOk P w K mg base (L2.CX P w) j f fd ps sp) : FnOk P w K mg base (CXw P) j f fd ps sp :=
  ⟨F.len, fun A outer s H args us vs Q E hr e0 hb r h => codeAny_mono (F.run A outer s H args us vs Q E hr e0 hb r h) fun r s' hq => by
    cases r with
    | error e => exact ⟨w, hq⟩
    | ok fl => cases fl <;> exact hq⟩
theorem facts {P : Program} {w : World} {K : PySem.W.Frag} {h : Heap} {mg : Str → Option Value} {f : Addr} (X : K.In h) (G : h.Ns mainGlobals mg) (hfa : mg ("law" : Str) = some (.ref f)) (c : SaysX fa fn xf K) :
    ∃ fd : FuncData, (∀ (s : Shared) (v : Value), BindsTo s fd ⟨[v], []⟩ [("_law_script", v)]) ∧ ∀ base : Heap, FnOk P w K mg base (CXw P) 8 f fd ["_law_script"] (spA K 1 a_law) := by
  have F : FX K mg := ⟨c, ⟨h, X, G⟩⟩
  obtain ⟨fd, FD⟩ := F.def_ 39 (d := d_law)
  have e := hfa.symm.trans (F.glo 48)
  cases e
  have b := FunD.bindsA (ps := ["_law_script"]) FD fun _ _ _ _ _ _ us hl => match us, hl with | [_], _ => rfl
  exact ⟨fd, fun s v => b s [v] rfl, fun base => anyw (ok_law F FD)⟩
end HD
open PySem PySem.W PySem.Calls PyProof.Rows
theorem PySem.Challenge.cw_limbtables_k71_tables_and_drawings_writt_holds : PySem.Challenge.rw_limbtables_k71_tables_and_drawings_writt.Holds := by
  w_on; o_law
  refine HandSHeadRun.head_any (r := OpenLaw.row PySem.Challenge.rw_limbtables_k71_tables_and_drawings_writt) (q := view (OpenLaw.row PySem.Challenge.rw_limbtables_k71_tables_and_drawings_writt).prog [69]) (H := HD.hk) (ob := HD.ob) (M := 10000) (loose := HD.loose) (d := HandSHeadRun.topDef (OpenLaw.row PySem.Challenge.rw_limbtables_k71_tables_and_drawings_writt).prog 69) (kwd := []) HD.ob_eq
    (by kernel_rfl) (fun s => by kernel_rfl) HD.run (by kernel_rfl) (by kernel_rfl) (by kernel_rfl) (by rfl) (by first | assumption | decide +kernel) (by decide +kernel) ⟨rfl, rfl, rfl, rfl, rfl, by decide +kernel⟩ ?hw ?hc
  case hw => w_witness2
  case hc =>
    refine L2.walk_ofE (l := PySem.Challenge.rw_limbtables_k71_tables_and_drawings_writt) (n := 63) (k := 8) (x := "_law_script") (CX := HD.CXw (PySem.Challenge.rw_limbtables_k71_tables_and_drawings_writt).prog) rfl (by decide) (by kernel_rfl) ⟨rfl, by decide, by decide⟩ ?F (fun _ _ _ _ ⟨_, _, _, _, _, _, _, _, _, _, _, _, _, z⟩ => z)
    intro w mg fa h Y G hmg0
    obtain ⟨K, KX, c⟩ := Y
    have hmg : mg ("law" : PySem.Str) = some (.ref fa) := by
      have e : (HandSHeadRun.topDef (OpenLaw.row PySem.Challenge.rw_limbtables_k71_tables_and_drawings_writt).prog 69).name = ("law" : PySem.Str) := by kernel_rfl
      rw [← e]
      exact hmg0
    obtain ⟨fd, hb, hF⟩ := HD.facts (P := (PySem.Challenge.rw_limbtables_k71_tables_and_drawings_writt).prog) (w := w) KX G hmg c
    exact ⟨K, fd, Z.spA K 1 HD.a_law, KX, hb, fun H a ns hl hO hS => Z.law_sp (HD.plain ns hl) hO hS, fun base _ _ => hF base⟩
